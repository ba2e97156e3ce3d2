import PyProof.Rows.All
import Wide.All
import OpenK.AllK
import Wide.FinOn
import HandS.ForMost
import HandS.Codes
import HandS.ReplaceList
import HandS.Defaults
import HandS.IsInst
import HandS.StrMore
import HandS.Style
import HandS.Conv
import HandS.Wide
import HandS.WideMore
import HandS.HeadHook2
import HandS.Walk
import PySem.Challenge.RW_tagless_k87_documents_as_texts
import HandS.Small
import HandS.More
import PyProof.ToksMono
import KE.KStateDown
import HandS.Ends
import HandS.Head0
import HandS.Head1
import HandS.Head2
import OpenK.XOpen
import OpenK.ZHead
set_option Elab.async false
set_option linter.all false
set_option maxRecDepth 100000
set_option maxHeartbeats 0
namespace K87
open PySem L2 TL SX PySem.Spec PyProof.Rows
/-! ## 1. Documents -/
inductive Doc where
  | non | bl (b : Bool) | int (i : Int) | str (s : Str) | list (ds : List Doc) | dict (fs : List (Str × Doc))
/-! ### the order of names -/
abbrev ltC (a b : List Nat) : Bool := ltCps a b
theorem ltC_nil (b : List Nat) : ltC b [] = false := by cases b <;> rfl
theorem ltC_cons (x y : Nat) (a b : List Nat) : ltC (x :: a) (y :: b) = (decide (x < y) || (x == y && ltC a b)) := rfl
theorem ltC_irr : ∀ a : List Nat, ltC a a = false
  | [] => rfl
  | x :: r => by
    rw [ltC_cons, ltC_irr r]
    simp
theorem ltC_tr : ∀ {a b c : List Nat}, ltC a b = true → ltC b c = true → ltC a c = true
  | a, [], c, h, _ => by
    rw [ltC_nil] at h
    cases h
  | a, b :: bs, [], _, h => by
    rw [ltC_nil] at h
    cases h
  | [], _ :: _, _ :: _, _, _ => rfl
  | x :: a, y :: b, z :: c, h1, h2 => by
    rw [ltC_cons] at *
    have ih := @ltC_tr a b c
    simp only [Bool.or_eq_true, decide_eq_true_eq, Bool.and_eq_true, beq_iff_eq] at *
    rcases h1 with h1 | ⟨h1, k1⟩ <;> rcases h2 with h2 | ⟨h2, k2⟩
    · exact .inl (by omega)
    · exact .inl (by omega)
    · exact .inl (by omega)
    · exact .inr ⟨by omega, ih k1 k2⟩
theorem ltC_tot : ∀ {a b : List Nat}, ltC a b = false → ltC b a = false → a = b
  | [], [], _, _ => rfl
  | [], _ :: _, h, _ => by cases h
  | _ :: _, [], _, h => by cases h
  | x :: a, y :: b, h1, h2 => by
    rw [ltC_cons] at *
    have ih := @ltC_tot a b
    simp only [Bool.or_eq_false_iff, decide_eq_false_iff_not, Bool.and_eq_false_iff, beq_eq_false_iff_ne] at *
    obtain ⟨p1, q1⟩ := h1
    obtain ⟨p2, q2⟩ := h2
    have e : x = y := by omega
    subst e
    rw [ih (q1.resolve_left (fun n => n rfl)) (q2.resolve_left (fun n => n rfl))]
/-! ### fields put into sequence -/
section
variable {α β : Type}
def insF (x : Str × α) : List (Str × α) → List (Str × α)
  | [] => [x]
  | y :: r => if ltC (tl y.1) (tl x.1) = true then y :: insF x r else x :: y :: r
def sortF : List (Str × α) → List (Str × α)
  | [] => []
  | x :: r => insF x (sortF r)
theorem insF_perm (x : Str × α) : ∀ l, (insF x l).Perm (x :: l)
  | [] => .refl _
  | y :: r => by
    unfold insF
    split
    · exact ((insF_perm x r).cons y).trans (.swap x y r)
    · exact .refl _
theorem sortF_perm : ∀ l : List (Str × α), (sortF l).Perm l
  | [] => .refl _
  | x :: r => (insF_perm x _).trans ((sortF_perm r).cons x)
/-- strictly ascending by name -/
def Asc (l : List (Str × α)) : Prop := l.Pairwise fun a b => ltC (tl a.1) (tl b.1) = true
theorem insF_asc {x : Str × α} : ∀ {l : List (Str × α)}, Asc l → x.1 ∉ l.map (·.1) → Asc (insF x l)
  | [], _, _ => List.pairwise_singleton _ _
  | y :: r, h, hn => by
    have hy : ¬ x.1 = y.1 := fun e => hn (by simp [e])
    have hr : x.1 ∉ r.map (·.1) := fun e => hn (by simp only [List.map_cons, List.mem_cons]; exact .inr e)
    obtain ⟨h1, h2⟩ := List.pairwise_cons.mp h
    unfold insF
    split
    · rename_i c
      refine List.pairwise_cons.mpr ⟨fun z hz => ?_, insF_asc h2 hr⟩
      rcases List.mem_cons.mp ((insF_perm x r).mem_iff.mp hz) with e | e
      · subst e; exact c
      · exact h1 z e
    · rename_i c
      have c' : ltC (tl x.1) (tl y.1) = true := by
        cases q : ltC (tl x.1) (tl y.1) with
        | true => rfl
        | false => exact absurd (ext_tl (ltC_tot q (by simpa using c))) hy
      refine List.pairwise_cons.mpr ⟨fun z hz => ?_, h⟩
      rcases List.mem_cons.mp hz with e | e
      · subst e; exact c'
      · exact ltC_tr c' (h1 z e)
theorem sortF_asc : ∀ {l : List (Str × α)}, (l.map (·.1)).Nodup → Asc (sortF l)
  | [], _ => List.Pairwise.nil
  | x :: r, h => by
    have h' : (x.1 :: r.map (·.1)).Nodup := h
    obtain ⟨h1, h2⟩ := List.nodup_cons.mp h'
    exact insF_asc (sortF_asc h2) fun e => h1 (((sortF_perm r).map (·.1)).mem_iff.mp e)
theorem asc_uniq : ∀ {l m : List (Str × α)}, Asc l → Asc m → l.Perm m → l = m
  | [], m, _, _, p => (List.nil_perm.mp p).symm
  | x :: l, [], _, _, p => by have := p.length_eq; simp at this
  | x :: l, y :: m, h1, h2, p => by
    obtain ⟨a1, a2⟩ := List.pairwise_cons.mp h1
    obtain ⟨b1, b2⟩ := List.pairwise_cons.mp h2
    have e : x = y := by
      rcases List.mem_cons.mp (p.mem_iff.mp List.mem_cons_self) with e | e
      · exact e
      · rcases List.mem_cons.mp (p.mem_iff.mpr List.mem_cons_self) with f | f
        · exact f.symm
        · have z := ltC_tr (a1 y f) (b1 x e)
          rw [ltC_irr] at z
          cases z
    subst e
    rw [asc_uniq a2 b2 ((List.perm_cons x).mp p)]
theorem sortF_of {l m : List (Str × α)} (h : (l.map (·.1)).Nodup) (ha : Asc m) (p : m.Perm l) : m = sortF l := asc_uniq ha (sortF_asc h) (p.trans (sortF_perm l).symm)
theorem sortF_reverse {l : List (Str × α)} (h : (l.map (·.1)).Nodup) : sortF l.reverse = sortF l :=
  sortF_of h (sortF_asc (by rw [List.map_reverse]; exact (List.reverse_perm _).nodup_iff.mpr h)) ((sortF_perm _).trans (List.reverse_perm l))
theorem sortF_idem {l : List (Str × α)} (h : (l.map (·.1)).Nodup) : sortF (sortF l) = sortF l :=
  (sortF_of (l := sortF l) (((sortF_perm l).map (·.1)).nodup_iff.mpr h) (sortF_asc h) (.refl _)).symm
theorem insF_map (g : α → β) (x : Str × α) : ∀ l, insF (x.1, g x.2) (l.map fun p => (p.1, g p.2)) = (insF x l).map fun p => (p.1, g p.2)
  | [] => rfl
  | y :: r => by
    simp only [List.map_cons, insF]
    split
    · rw [insF_map g x r]; rfl
    · rfl
theorem sortF_map (g : α → β) : ∀ l : List (Str × α), sortF (l.map fun p => (p.1, g p.2)) = (sortF l).map fun p => (p.1, g p.2)
  | [] => rfl
  | x :: r => by
    simp only [List.map_cons, sortF]
    rw [sortF_map g r]
    exact insF_map g x _
theorem sortF_keys {l : List (Str × α)} {ys : List Str} (h : (l.map (·.1)).Nodup) (p : ys.Perm (l.map (·.1))) (s : sortedS ys = true) : ys = (sortF l).map (·.1) := by
  have hs : ∀ (x : Str) (r : List Str), risingS x r = true → (x :: r).Pairwise fun a b => ltC (tl b) (tl a) = false := by
    intro x r
    induction r generalizing x with
    | nil => intro _; exact List.pairwise_singleton _ _
    | cons y r ih =>
      intro q
      have q' : (!ltC (tl y) (tl x) && risingS y r) = true := q
      simp only [Bool.and_eq_true, Bool.not_eq_true'] at q'
      obtain ⟨q1, q2⟩ := q'
      have z := ih y q2
      refine List.pairwise_cons.mpr ⟨fun w hw => ?_, z⟩
      rcases List.mem_cons.mp hw with e | e
      · subst e; exact q1
      · have z2 := (List.pairwise_cons.mp z).1 w e
        cases c : ltC (tl w) (tl x) with
        | false => rfl
        | true =>
          cases d : ltC (tl x) (tl y) with
          | true => rw [ltC_tr c d] at z2; cases z2
          | false =>
            have e2 := ltC_tot d q1
            rw [e2] at c
            rw [c] at z2; cases z2
  have hy : ys.Pairwise fun a b => ltC (tl b) (tl a) = false := by
    cases ys with
    | nil => exact List.Pairwise.nil
    | cons y r => exact hs y r s
  have hn : ys.Nodup := p.nodup_iff.mpr h
  have hA : Asc (ys.map fun y => (y, ())) := by
    unfold Asc
    rw [List.pairwise_map]
    refine (hy.and hn).imp fun {a b} ⟨u, v⟩ => ?_
    cases c : ltC (tl a) (tl b) with
    | true => rfl
    | false => exact absurd (ext_tl (ltC_tot c u)) v
  have hB : Asc ((sortF l).map fun p => (p.1, ())) := by
    unfold Asc
    rw [List.pairwise_map]
    exact sortF_asc h
  have hP : (ys.map fun y => (y, ())).Perm ((sortF l).map fun p => (p.1, ())) := by
    have e : ((sortF l).map fun p => (p.1, ())) = ((sortF l).map (·.1)).map fun y => (y, ()) := by rw [List.map_map]; rfl
    rw [e]
    exact (p.trans ((sortF_perm l).map (·.1)).symm).map _
  have e := congrArg (List.map Prod.fst) (asc_uniq hA hB hP)
  simpa [List.map_map, Function.comp_def] using e
end
/-! ### looking a field up -/
def look {α : Type} : List (Str × α) → Str → Option α
  | [], _ => none
  | x :: r, f => if x.1 = f then some x.2 else look r f
theorem look_mem {α : Type} {f : Str} {d : α} : ∀ {l : List (Str × α)}, (l.map (·.1)).Nodup → (f, d) ∈ l → look l f = some d
  | x :: r, h, m => by
    have h' : (x.1 :: r.map (·.1)).Nodup := h
    obtain ⟨h1, h2⟩ := List.nodup_cons.mp h'
    unfold look
    rcases List.mem_cons.mp m with e | e
    · subst e
      rw [if_pos rfl]
    · rw [if_neg fun q => h1 (by rw [q]; exact List.mem_map_of_mem e)]
      exact look_mem h2 e
theorem look_of {α : Type} {f : Str} {d : α} : ∀ {l : List (Str × α)}, look l f = some d → (f, d) ∈ l
  | x :: r, h => by
    unfold look at h
    split at h
    · rename_i e
      cases h
      rw [← e]
      exact List.mem_cons_self
    · exact List.mem_cons_of_mem _ (look_of h)
theorem look_perm {α : Type} {l m : List (Str × α)} (h : (l.map (·.1)).Nodup) (p : l.Perm m) (f : Str) : look l f = look m f := by
  have h' : (m.map (·.1)).Nodup := (p.map (·.1)).nodup_iff.mp h
  cases e : look l f with
  | some d => exact (look_mem h' (p.mem_iff.mp (look_of e))).symm
  | none =>
    cases e2 : look m f with
    | none => rfl
    | some d => rw [look_mem h (p.mem_iff.mpr (look_of e2))] at e; cases e
end K87
namespace K87
open PySem L2 TL SX PySem.Spec PyProof.Rows
/-! ## 2. What is written -/
def numT (i : Int) : List Nat := if i < 0 then 45 :: numL i.natAbs else numL i.natAbs
def escC (c : Nat) : List Nat := if c = 34 ∨ c = 92 then [92, c] else [c]
def escL (s : List Nat) : List Nat := s.flatMap escC
def rowT (p : Str × List Nat) : List Nat := tl p.1 ++ [58, 32] ++ p.2
def rowsT (l : List (Str × List Nat)) : List Nat := joinL [44, 32] (l.map rowT)
mutual
def wr : Doc → List Nat
  | .non => [45]
  | .bl true => [121, 101, 115]
  | .bl false => [110, 111]
  | .int i => numT i
  | .str s => 34 :: (escL (tl s) ++ [34])
  | .list ds => 91 :: (joinL [44, 32] (wrs ds) ++ [93])
  | .dict fs => 123 :: (rowsT (sortF (wrf fs)) ++ [125])
def wrs : List Doc → List (List Nat)
  | [] => []
  | d :: r => wr d :: wrs r
def wrf : List (Str × Doc) → List (Str × List Nat)
  | [] => []
  | (f, d) :: r => (f, wr d) :: wrf r
end
theorem wrs_map : ∀ ds, wrs ds = ds.map wr
  | [] => rfl
  | d :: r => by rw [wrs, wrs_map r]; rfl
theorem wrf_map : ∀ fs, wrf fs = fs.map fun p => (p.1, wr p.2)
  | [] => rfl
  | (f, d) :: r => by rw [wrf, wrf_map r]; rfl
/-! fields ascending, all through -/
mutual
def srt : Doc → Doc
  | .list ds => .list (srts ds)
  | .dict fs => .dict (sortF (srtf fs))
  | .non => .non
  | .bl b => .bl b
  | .int i => .int i
  | .str s => .str s
def srts : List Doc → List Doc
  | [] => []
  | d :: r => srt d :: srts r
def srtf : List (Str × Doc) → List (Str × Doc)
  | [] => []
  | (f, d) :: r => (f, srt d) :: srtf r
end
/-! fields the other way about -/
mutual
def trn : Doc → Doc
  | .list ds => .list (trns ds)
  | .dict fs => .dict (trnf fs).reverse
  | .non => .non
  | .bl b => .bl b
  | .int i => .int i
  | .str s => .str s
def trns : List Doc → List Doc
  | [] => []
  | d :: r => trn d :: trns r
def trnf : List (Str × Doc) → List (Str × Doc)
  | [] => []
  | (f, d) :: r => (f, trn d) :: trnf r
end
theorem srts_map : ∀ ds, srts ds = ds.map srt
  | [] => rfl
  | d :: r => by rw [srts, srts_map r]; rfl
theorem srtf_map : ∀ fs, srtf fs = fs.map fun p => (p.1, srt p.2)
  | [] => rfl
  | (f, d) :: r => by rw [srtf, srtf_map r]; rfl
theorem trns_map : ∀ ds, trns ds = ds.map trn
  | [] => rfl
  | d :: r => by rw [trns, trns_map r]; rfl
theorem trnf_map : ∀ fs, trnf fs = fs.map fun p => (p.1, trn p.2)
  | [] => rfl
  | (f, d) :: r => by rw [trnf, trnf_map r]; rfl
def NameOk (f : Str) : Prop := (1 ≤ f.length ∧ f.length ≤ 8) ∧ ∀ c ∈ tl f, 97 ≤ c ∧ c ≤ 122
/-! what the law draws: at most n deep -/
mutual
def Wf : Nat → Doc → Prop
  | _, .non => True
  | _, .bl _ => True
  | _, .int i => i.natAbs < 10 ^ 18
  | _, .str s => s.length ≤ 18 ∧ ∀ c ∈ tl s, 32 ≤ c ∧ c < 127
  | n, .list ds => 1 ≤ n ∧ ds.length ≤ 4 ∧ Wfs (n - 1) ds
  | n, .dict fs => 1 ≤ n ∧ fs.length ≤ 4 ∧ (fs.map (·.1)).Nodup ∧ Wff (n - 1) fs
def Wfs : Nat → List Doc → Prop
  | _, [] => True
  | n, d :: r => Wf n d ∧ Wfs n r
def Wff : Nat → List (Str × Doc) → Prop
  | _, [] => True
  | n, (f, d) :: r => NameOk f ∧ Wf n d ∧ Wff n r
end
theorem wfs_iff {n : Nat} : ∀ {ds : List Doc}, Wfs n ds ↔ ∀ d ∈ ds, Wf n d
  | [] => by simp [Wfs]
  | d :: r => by simp [Wfs, @wfs_iff n r]
theorem wff_iff {n : Nat} : ∀ {fs : List (Str × Doc)}, Wff n fs ↔ ∀ p ∈ fs, NameOk p.1 ∧ Wf n p.2
  | [] => by simp [Wff]
  | (f, d) :: r => by simp [Wff, @wff_iff n r, and_assoc]
theorem map_fst {α β : Type} (g : α → β) (l : List (Str × α)) : (l.map fun p => (p.1, g p.2)).map (·.1) = l.map (·.1) := by rw [List.map_map]; rfl
theorem map_eq_of {α β γ : Type} {g h : α → β} (l : List (γ × α)) (e : ∀ p ∈ l, g p.2 = h p.2) : (l.map fun p => (p.1, g p.2)) = l.map fun p => (p.1, h p.2) :=
  List.map_congr_left fun p hp => by rw [e p hp]
/-- a depth at which induction goes -/
theorem doc_ind {M : Nat → Doc → Prop} (h0 : ∀ n, M n .non) (h1 : ∀ n b, M n (.bl b)) (h2 : ∀ n i, i.natAbs < 10 ^ 18 → M n (.int i)) (h3 : ∀ n s, s.length ≤ 18 → (∀ c ∈ tl s, 32 ≤ c ∧ c < 127) → M n (.str s))
    (h4 : ∀ n ds, ds.length ≤ 4 → (∀ d ∈ ds, Wf n d ∧ M n d) → M (n + 1) (.list ds))
    (h5 : ∀ n fs, fs.length ≤ 4 → (fs.map (·.1)).Nodup → (∀ p ∈ fs, NameOk p.1 ∧ Wf n p.2 ∧ M n p.2) → M (n + 1) (.dict fs)) : ∀ n d, Wf n d → M n d
  | n, .non, _ => h0 n
  | n, .bl b, _ => h1 n b
  | n, .int i, h => h2 n i h
  | n, .str s, h => h3 n s h.1 h.2
  | 0, .list ds, h => absurd h.1 (by omega)
  | 0, .dict fs, h => absurd h.1 (by omega)
  | n + 1, .list ds, h => h4 n ds h.2.1 fun d hd => ⟨wfs_iff.mp h.2.2 d hd, doc_ind h0 h1 h2 h3 h4 h5 n d (wfs_iff.mp h.2.2 d hd)⟩
  | n + 1, .dict fs, h => h5 n fs h.2.1 h.2.2.1 fun p hp => ⟨(wff_iff.mp h.2.2.2 p hp).1, (wff_iff.mp h.2.2.2 p hp).2, doc_ind h0 h1 h2 h3 h4 h5 n p.2 (wff_iff.mp h.2.2.2 p hp).2⟩
theorem wr_srt : ∀ n d, Wf n d → wr (srt d) = wr d := by
  refine doc_ind (fun _ => rfl) (fun _ _ => rfl) (fun _ _ _ => rfl) (fun _ _ _ _ => rfl) (fun n ds _ h => ?_) (fun n fs _ hn h => ?_)
  · rw [srt, wr, wr, wrs_map, wrs_map, srts_map, List.map_map]
    congr 3
    exact List.map_congr_left fun d hd => (h d hd).2
  · have e : ((fs.map fun p => (p.1, srt p.2)).map fun p => (p.1, wr p.2)) = fs.map fun p => (p.1, wr p.2) := by
      rw [List.map_map]
      exact List.map_congr_left fun p hp => by show (p.1, wr (srt p.2)) = _; rw [(h p hp).2.2]
    rw [srt, wr, wr, wrf_map, wrf_map, srtf_map, ← sortF_map, e, sortF_idem (by rw [map_fst]; exact hn)]
theorem wr_trn : ∀ n d, Wf n d → wr (trn d) = wr d := by
  refine doc_ind (fun _ => rfl) (fun _ _ => rfl) (fun _ _ _ => rfl) (fun _ _ _ _ => rfl) (fun n ds _ h => ?_) (fun n fs _ hn h => ?_)
  · rw [trn, wr, wr, wrs_map, wrs_map, trns_map, List.map_map]
    congr 3
    exact List.map_congr_left fun d hd => (h d hd).2
  · have e : ((fs.map fun p => (p.1, trn p.2)).map fun p => (p.1, wr p.2)) = fs.map fun p => (p.1, wr p.2) := by
      rw [List.map_map]
      exact List.map_congr_left fun p hp => by show (p.1, wr (trn p.2)) = _; rw [(h p hp).2.2]
    rw [trn, wr, wr, wrf_map, wrf_map, trnf_map, List.map_reverse, e, sortF_reverse (by rw [map_fst]; exact hn)]
theorem wf_trn : ∀ n d, Wf n d → Wf n (trn d) := by
  refine doc_ind (fun _ => trivial) (fun _ _ => trivial) (fun _ _ h => h) (fun _ _ h k => ⟨h, k⟩) (fun n ds hl h => ?_) (fun n fs hl hn h => ?_)
  · rw [trn, Wf, trns_map]
    refine ⟨by omega, by rw [List.length_map]; exact hl, wfs_iff.mpr fun d hd => ?_⟩
    obtain ⟨x, hx, rfl⟩ := List.mem_map.mp hd
    exact (h x hx).2
  · rw [trn, Wf, trnf_map]
    refine ⟨by omega, by rw [List.length_reverse, List.length_map]; exact hl, ?_, wff_iff.mpr fun p hp => ?_⟩
    · rw [List.map_reverse, map_fst]
      exact (List.reverse_perm _).nodup_iff.mpr hn
    · obtain ⟨x, hx, rfl⟩ := List.mem_map.mp (List.mem_reverse.mp hp)
      exact ⟨(h x hx).1, (h x hx).2.2⟩
theorem wf_srt : ∀ n d, Wf n d → Wf n (srt d) := by
  refine doc_ind (fun _ => trivial) (fun _ _ => trivial) (fun _ _ h => h) (fun _ _ h k => ⟨h, k⟩) (fun n ds hl h => ?_) (fun n fs hl hn h => ?_)
  · rw [srt, Wf, srts_map]
    refine ⟨by omega, by rw [List.length_map]; exact hl, wfs_iff.mpr fun d hd => ?_⟩
    obtain ⟨x, hx, rfl⟩ := List.mem_map.mp hd
    exact (h x hx).2
  · have P := sortF_perm (fs.map fun p => (p.1, srt p.2))
    rw [srt, Wf, srtf_map]
    refine ⟨by omega, by rw [P.length_eq, List.length_map]; exact hl, ?_, wff_iff.mpr fun p hp => ?_⟩
    · rw [(P.map (·.1)).nodup_iff, map_fst]
      exact hn
    · obtain ⟨x, hx, rfl⟩ := List.mem_map.mp (P.mem_iff.mp hp)
      exact ⟨(h x hx).1, (h x hx).2.2⟩
/-! ### sizes -/
theorem escL_len (s : List Nat) : (escL s).length ≤ 2 * s.length := by
  unfold escL
  induction s with
  | nil => simp
  | cons c r ih =>
    rw [List.flatMap_cons, List.length_append, List.length_cons]
    have : (escC c).length ≤ 2 := by unfold escC; split <;> simp
    omega
theorem numT_len {i : Int} (h : i.natAbs < 10 ^ 18) : (numT i).length ≤ 19 := by
  have := numL_len (n := i.natAbs) (k := 18) (by omega) h
  unfold numT
  split
  · rw [List.length_cons]; omega
  · omega
theorem joinL_len (B : Nat) : ∀ l : List (List Nat), (∀ x ∈ l, x.length ≤ B) → (joinL [44, 32] l).length ≤ l.length * (B + 2)
  | [], _ => by simp [joinL]
  | [x], h => by
    have := h x (by simp)
    simp only [joinL, List.length_cons, List.length_nil]
    omega
  | x :: y :: r, h => by
    have a := h x (by simp)
    have b := joinL_len B (y :: r) fun z hz => h z (List.mem_cons_of_mem _ hz)
    have e : joinL [44, 32] (x :: y :: r) = x ++ ([44, 32] ++ joinL [44, 32] (y :: r)) := rfl
    rw [e, List.length_append, List.length_append, List.length_cons (a := x), Nat.add_mul]
    simp only [List.length_cons, List.length_nil] at *
    omega
def bnd : Nat → Nat
  | 0 => 40
  | n + 1 => 4 * (bnd n + 12) + 2
theorem bnd_mono (n : Nat) : 40 ≤ bnd n := by
  induction n with
  | zero => exact Nat.le_refl _
  | succ n ih => unfold bnd; omega
theorem wr_len : ∀ n d, Wf n d → (wr d).length ≤ bnd n := by
  refine doc_ind (fun n => ?_) (fun n b => ?_) (fun n i h => ?_) (fun n s h _ => ?_) (fun n ds hl h => ?_) (fun n fs hl hn h => ?_)
  · have := bnd_mono n; simp [wr]; omega
  · have := bnd_mono n; cases b <;> simp [wr] <;> omega
  · have := bnd_mono n; have := numT_len h; simp [wr]; omega
  · have := bnd_mono n; have := escL_len (tl s); have := len_tl s; simp only [wr, List.length_cons, List.length_append, List.length_nil]; omega
  · have e := joinL_len (bnd n) (wrs ds) fun x hx => by
      rw [wrs_map] at hx
      obtain ⟨d, hd, rfl⟩ := List.mem_map.mp hx
      exact (h d hd).2
    have l : (wrs ds).length = ds.length := by rw [wrs_map, List.length_map]
    rw [l] at e
    have : ds.length * (bnd n + 2) ≤ 4 * (bnd n + 2) := Nat.mul_le_mul_right _ hl
    simp only [wr, List.length_cons, List.length_append, List.length_nil, bnd]; omega
  · have P := sortF_perm (wrf fs)
    have e := joinL_len (bnd n + 10) ((sortF (wrf fs)).map rowT) fun x hx => by
      obtain ⟨q, hq, rfl⟩ := List.mem_map.mp hx
      rw [wrf_map] at hq
      obtain ⟨p, hp, rfl⟩ := List.mem_map.mp ((sortF_perm _).mem_iff.mp hq)
      have a := (h p hp).1.1.2
      have b := (h p hp).2.2
      rw [len_tl] at a
      simp only [rowT, List.length_append, List.length_cons, List.length_nil]
      omega
    have l : ((sortF (wrf fs)).map rowT).length = fs.length := by rw [List.length_map, P.length_eq, wrf_map, List.length_map]
    rw [l] at e
    have : fs.length * (bnd n + 10 + 2) ≤ 4 * (bnd n + 12) := Nat.mul_le_mul_right _ hl
    simp only [wr, rowsT, List.length_cons, List.length_append, List.length_nil, bnd]; omega
end K87
namespace K87
open PySem L2 TL SX PySem.Spec PyProof.Rows
/-! ## 3. A document in the heap: its objects are among ok, none within itself -/
mutual
def DocAt (H : Hp) : (Addr → Prop) → V → Doc → Prop
  | _, v, .non => v = .non
  | _, v, .bl b => v = .bl b
  | _, v, .int i => v = .int i
  | _, v, .str s => v = .str s
  | ok, v, .list ds => ∃ a vs, v = .ref a ∧ ok a ∧ H a = some (.lst vs) ∧ DocsAt H (fun b => ok b ∧ b ≠ a) vs ds
  | ok, v, .dict fs => ∃ a rs, v = .ref a ∧ ok a ∧ H a = some (.dK rs) ∧ FldsAt H (fun b => ok b ∧ b ≠ a) rs fs
def DocsAt (H : Hp) : (Addr → Prop) → List V → List Doc → Prop
  | _, vs, [] => vs = []
  | ok, vs, d :: ds => ∃ v r, vs = v :: r ∧ DocAt H ok v d ∧ DocsAt H ok r ds
def FldsAt (H : Hp) : (Addr → Prop) → List (Key × V) → List (Str × Doc) → Prop
  | _, rs, [] => rs = []
  | ok, rs, (f, d) :: fs => ∃ v r, rs = (.inr f, v) :: r ∧ DocAt H ok v d ∧ FldsAt H ok r fs
end
mutual
theorem doc_frame {H H' : Hp} : ∀ (d : Doc) {ok ok' : Addr → Prop} {v : V}, (∀ a o, ok a → H a = some o → H' a = some o) → (∀ a, ok a → ok' a) → DocAt H ok v d → DocAt H' ok' v d
  | .non, _, _, _, _, _, h => h
  | .bl _, _, _, _, _, _, h => h
  | .int _, _, _, _, _, _, h => h
  | .str _, _, _, _, _, _, h => h
  | .list ds, _, _, _, k, m, ⟨a, vs, e, o, s, h⟩ => ⟨a, vs, e, m a o, k a _ o s, docs_frame ds (fun b u p => k b u p.1) (fun b p => ⟨m b p.1, p.2⟩) h⟩
  | .dict fs, _, _, _, k, m, ⟨a, rs, e, o, s, h⟩ => ⟨a, rs, e, m a o, k a _ o s, flds_frame fs (fun b u p => k b u p.1) (fun b p => ⟨m b p.1, p.2⟩) h⟩
theorem docs_frame {H H' : Hp} : ∀ (ds : List Doc) {ok ok' : Addr → Prop} {vs : List V}, (∀ a o, ok a → H a = some o → H' a = some o) → (∀ a, ok a → ok' a) → DocsAt H ok vs ds → DocsAt H' ok' vs ds
  | [], _, _, _, _, _, h => h
  | d :: ds, _, _, _, k, m, ⟨v, r, e, h1, h2⟩ => ⟨v, r, e, doc_frame d k m h1, docs_frame ds k m h2⟩
theorem flds_frame {H H' : Hp} : ∀ (fs : List (Str × Doc)) {ok ok' : Addr → Prop} {rs : List (Key × V)}, (∀ a o, ok a → H a = some o → H' a = some o) → (∀ a, ok a → ok' a) → FldsAt H ok rs fs → FldsAt H' ok' rs fs
  | [], _, _, _, _, _, h => h
  | (f, d) :: fs, _, _, _, k, m, ⟨v, r, e, h1, h2⟩ => ⟨v, r, e, doc_frame d k m h1, flds_frame fs k m h2⟩
end
theorem docs_len {H : Hp} {ok : Addr → Prop} : ∀ {ds : List Doc} {vs : List V}, DocsAt H ok vs ds → vs.length = ds.length
  | [], _, h => by rw [show _ = [] from h]; rfl
  | d :: ds, _, ⟨v, r, e, _, h⟩ => by rw [e, List.length_cons, List.length_cons, docs_len h]
theorem docs_at {H : Hp} {ok : Addr → Prop} : ∀ {ds : List Doc} {vs : List V} {i : Nat} {v : V}, DocsAt H ok vs ds → vs[i]? = some v → ∃ d, ds[i]? = some d ∧ DocAt H ok v d
  | [], _, _, _, h, e => by rw [show _ = [] from h] at e; simp at e
  | d :: ds, _, 0, _, ⟨v, r, q, h1, _⟩, e => by
    subst q
    have e' : some v = some _ := e
    cases e'
    exact ⟨d, rfl, h1⟩
  | d :: ds, _, i + 1, _, ⟨v, r, q, _, h2⟩, e => by
    subst q
    exact docs_at (i := i) h2 e
theorem docs_snoc {H : Hp} {ok : Addr → Prop} {v : V} {d : Doc} (hd : DocAt H ok v d) : ∀ {ds : List Doc} {vs : List V}, DocsAt H ok vs ds → DocsAt H ok (vs ++ [v]) (ds ++ [d])
  | [], _, h => by rw [show _ = [] from h]; exact ⟨v, [], rfl, hd, rfl⟩
  | _ :: _, _, ⟨w, r, e, h1, h2⟩ => by rw [e]; exact ⟨w, r ++ [v], rfl, h1, docs_snoc hd h2⟩
theorem flds_keys {H : Hp} {ok : Addr → Prop} : ∀ {fs : List (Str × Doc)} {rs : List (Key × V)}, FldsAt H ok rs fs → rs.map (·.1) = (fs.map (·.1)).map Sum.inr
  | [], _, h => by rw [show _ = [] from h]; rfl
  | (f, d) :: fs, _, ⟨v, r, e, _, h⟩ => by rw [e, List.map_cons, flds_keys h]; rfl
theorem flds_len {H : Hp} {ok : Addr → Prop} {fs : List (Str × Doc)} {rs : List (Key × V)} (h : FldsAt H ok rs fs) : rs.length = fs.length := by
  have := congrArg List.length (flds_keys h)
  simpa using this
theorem flds_at {H : Hp} {ok : Addr → Prop} : ∀ {fs : List (Str × Doc)} {rs : List (Key × V)} {i : Nat} {k : Key} {v : V}, FldsAt H ok rs fs → rs[i]? = some (k, v) → ∃ f d, k = .inr f ∧ fs[i]? = some (f, d) ∧ DocAt H ok v d
  | [], _, _, _, _, h, e => by rw [show _ = [] from h] at e; simp at e
  | (f, d) :: fs, _, 0, _, _, ⟨v, r, q, h1, _⟩, e => by
    subst q
    have e' : some (Sum.inr f, v) = some _ := e
    cases e'
    exact ⟨f, d, rfl, rfl, h1⟩
  | (f, d) :: fs, _, i + 1, _, _, ⟨v, r, q, _, h2⟩, e => by
    subst q
    exact flds_at (i := i) h2 e
theorem flds_snoc {H : Hp} {ok : Addr → Prop} {v : V} {f : Str} {d : Doc} (hd : DocAt H ok v d) : ∀ {fs : List (Str × Doc)} {rs : List (Key × V)}, FldsAt H ok rs fs → FldsAt H ok (rs ++ [(.inr f, v)]) (fs ++ [(f, d)])
  | [], _, h => by rw [show _ = [] from h]; exact ⟨v, [], rfl, hd, rfl⟩
  | (_, _) :: _, _, ⟨w, r, e, h1, h2⟩ => by rw [e]; exact ⟨w, r ++ [(.inr f, v)], rfl, h1, flds_snoc hd h2⟩
theorem flds_look {H : Hp} {ok : Addr → Prop} : ∀ {fs : List (Str × Doc)} {rs : List (Key × V)} {f : Str} {d : Doc}, FldsAt H ok rs fs → look fs f = some d → ∃ v, valV rs (.inr f) = some v ∧ DocAt H ok v d
  | (g, e) :: fs, _, f, d, ⟨v, r, q, h1, h2⟩, l => by
    subst q
    unfold look at l
    by_cases c : g = f
    · rw [if_pos c] at l
      cases l
      exact ⟨v, valV_pos (p := ((Sum.inr g : Key), v)) (by rw [c]), h1⟩
    · rw [if_neg c] at l
      obtain ⟨w, e1, e2⟩ := flds_look h2 l
      exact ⟨w, (valV_neg (p := ((Sum.inr g : Key), v)) (fun z => c (Sum.inr.inj z))).trans e1, e2⟩
theorem flds_no {H : Hp} {ok : Addr → Prop} : ∀ {fs : List (Str × Doc)} {rs : List (Key × V)} {f : Str}, FldsAt H ok rs fs → f ∉ fs.map (·.1) → valV rs (.inr f) = none
  | [], _, f, h, _ => by rw [show _ = [] from h]; exact valV_nil
  | (g, e) :: fs, _, f, ⟨v, r, q, _, h2⟩, n => by
    subst q
    have n' : f ∉ g :: fs.map (·.1) := n
    rw [List.mem_cons, not_or] at n'
    exact (valV_neg (p := ((Sum.inr g : Key), v)) (fun z => n'.1 (Sum.inr.inj z).symm)).trans (flds_no h2 n'.2)
/-- what a heap that has grown keeps -/
theorem doc_same {H H' : Hp} {ok : Addr → Prop} {v : V} {d : Doc} (s : Same H H') (h : DocAt H ok v d) : DocAt H' ok v d := doc_frame d (fun a o _ e => s a o e) (fun _ p => p) h
theorem same_new {H : Hp} {p : Addr} (h : H p = none) (o : HO) : Same H (upd H p o) := fun b u q => by rw [upd_ne (ne_of_none q h)]; exact q
theorem same_mut {H H' : Hp} {p : Addr} (s : Same H H') (h : H p = none) (o : HO) : Same H (upd H' p o) := fun b u q => by rw [upd_ne (ne_of_none q h)]; exact s b u q
end K87
namespace K87
open PySem L2 TL SX PySem.Spec PyProof.Rows
/-! ## 4. Rules -/
section
variable {X : Cx}
theorem pe_gI {x : Str} {i : Int} {pos : Pos} (h : ∃ t, X.mg x = some (.int i t)) (hg : Gl X x := by rfl) (hd : (x == ("__debug__" : Str)) = false := by decide) : PE X (.Name x pos) (tC (.int i)) :=
  pe_glob hg h.choose_spec ⟨_, rfl⟩ hd
theorem pe_gS {x z : Str} {pos : Pos} (h : ∃ t, X.mg x = some (.str z t)) (hg : Gl X x := by rfl) (hd : (x == ("__debug__" : Str)) = false := by decide) : PE X (.Name x pos) (tC (.str z)) :=
  pe_glob hg h.choose_spec ⟨_, rfl⟩ hd
/-- a def of the top keeps a promise -/
structure Ok (P : Program) (w : World) (K : PySem.W.Frag) (mg : Str → Option Value) (base : Heap) (k : Nat) (x : Str) (ps : List Str) (sp : Sp) : Prop where
  ex : ∃ fd, FnOk P w K mg base CX0 k (He.ga K x) fd ps sp ∧ Binds K fd ps []
  kp : PySem.W.keepIn K (.ref (He.ga K x)) = true
  m : mg x = some (.ref (He.ga K x))
abbrev E0 : XK := fun _ _ _ => False
theorem pe_callO {x : Str} {ps : List Str} {sp : Sp} {k : Nat} {e : Expr} {es : List Expr} {t : TA} {p pos : Pos} (O : Ok X.prog X.w X.K X.mg X.base k x ps sp) (hr : Room k X.A) (ha : PA X (e :: es) t) (hg : Gl X x := by rfl)
    (hdb : (x == ("__debug__" : Str)) = false := by decide) (he : starEach (e :: es) X.env = (false, eval e X.env) :: starEach es X.env := by rfl) (hpl : (backTo pos (starEach es X.env)).any (·.1) = false := by rfl) :
    PE X (.Call (.Name x p) (e :: es) [] pos) (tCall sp [] E0 t) := by
  obtain ⟨fd, F, b⟩ := O.ex
  exact pe_call F hr hg O.m O.kp b .nil pass0 ha hdb he hpl
/-- where a def of the top stands -/
structure Df (K : PySem.W.Frag) (mg : Str → Option Value) (x : Str) (st : Stmt) : Prop where
  ex : ∃ fd, FunD K x x (defArgs st) (defBody st) (defScope st) [] [] (He.ga K x) fd
  m : mg x = some (.ref (He.ga K x))
theorem Df.ok {P : Program} {w : World} {K : PySem.W.Frag} {mg : Str → Option Value} {base : Heap} {x : Str} {st : Stmt} {N ps : List Str} {k : Nat} {sp : Sp} (D : Df K mg x st) (S : FnScope N ps (defScope st)) (len : ∀ vs H Q E, sp vs H Q E → vs.length = ps.length)
    (hb : ∀ (kV doc pm : Value) (an : Option Addr) (cdv ct : Value) (us : List Value), us.length = ps.length → bindArgs (PySem.W.fnOf x x (defArgs st) (defBody st) (defScope st) .none kV doc pm an cdv ct) ⟨us, []⟩ = pure (ps.zip us))
    (hbody : ∀ (f : Addr) (cdv : Value) (A : Around) (outer : List Env) (s : Shared) (H : Hp) (vs : List V) (Q : VK) (E : XK), Room k (A.deeper (envOfC x (defScope st) s.heap.objs.size f cdv)) → sp vs H Q E →
      ∃ t, PSs (cxOf CX0 P w K mg base N x (defScope st) f cdv A outer s H E).nox (defBody st) t ∧ t { nx := fun _ H' => Q .non H', rt := Q } (start N vs) H) : Ok P w K mg base (k + 1) x ps sp := by
  obtain ⟨fd, F⟩ := D.ex
  exact ⟨⟨fd, F.ok S len fun cdv A outer s H vs Q E hr h => let ⟨t, h1, h2⟩ := hbody _ cdv A outer s H vs Q E hr h; ⟨t, PSs.nox h1, h2⟩, F.bindsN hb⟩, F.kp, D.m⟩
theorem Ok.mono {P : Program} {w : World} {K : PySem.W.Frag} {mg : Str → Option Value} {base : Heap} {j k : Nat} {x : Str} {ps : List Str} {sp : Sp} (O : Ok P w K mg base j x ps sp) (h : j ≤ k) : Ok P w K mg base k x ps sp := by
  obtain ⟨fd, F, b⟩ := O.ex
  exact ⟨⟨fd, F.mono h, b⟩, O.kp, O.m⟩
/-- a text taken 0 or 1 times -/
theorem op_mul_si : OpR X (binaryOp .Mult) (fun x y H Q => ∃ (a : Str) (k : Int), x = .str a ∧ y = .int k ∧ (k = 0 ∨ k = 1) ∧ Q (.str (if k = 0 then Str.empty else a)) H) := by
  intro pins s σ H x y v u Q I rx ry h
  obtain ⟨a, k, rfl, rfl, hk, q⟩ := h
  obtain ⟨t, rfl⟩ := rx
  obtain ⟨u, rfl⟩ := ry
  rcases hk with rfl | rfl
  · exact PySem.P.mul_str_none (by decide) (by decide) ⟨.str Str.empty, H, I.tok _, ⟨_, rfl⟩, q⟩
  · refine PySem.P.mul_str (by decide) (fun _ h => ?_) (fun _ h => ?_) ⟨.str a, H, I, ⟨_, rfl⟩, q⟩
    · simp at h
    · simp at h
/-- a power of written numbers -/
def CPowN (i j : Int) : Prop := j ≥ 0 ∧ ¬(j == 0) = true ∧ ¬(i == 0 || i == 1) = true ∧ ¬(i == -1) = true ∧ ¬Builtin.Int.intTooBig (((Builtin.Int.intBits i : Nat) : Int) * j) = true
theorem op_powN : OpR X (binaryOp .Pow) (rI CPowN fun i j => .int (i ^ j.toNat)) := opI fun _ _ _ _ _ _ _ hc q => PySem.AutoIntOps.pow_4 hc.1 hc.2.1 hc.2.2.1 hc.2.2.2.1 hc.2.2.2.2 q
theorem vals_of : ∀ {xs : List V} {us : List Value}, xs.length = us.length → (∀ (j : Nat) (x : V) (u : Value), xs[j]? = some x → us[j]? = some u → RelV x u) → Vals xs us
  | [], [], _, _ => .nil
  | [], _ :: _, e, _ => by simp at e
  | _ :: _, [], e, _ => by simp at e
  | x :: xs, u :: us, e, h => .cons (h 0 x u rfl rfl) (vals_of (by simpa using e) fun j y v hy hv => h (j + 1) y v hy hv)
/-- list(text): its signs -/
theorem call_list_str (hc : X.calm = true) : CallR X (.type "list") (fun xs H Q => ∃ a : Str, xs = [.str a] ∧ a.length ≤ sizeLine ∧ ∀ p, H p = none → Q (.ref p) (upd H p (.lst ((tl a).map fun c => V.str ⟨#[c]⟩)))) := by
  intro pins s σ H xs us Q I r q
  obtain ⟨a, rfl, hz, q⟩ := q
  obtain ⟨u, rfl, t, rfl⟩ := vals1 r
  refine PySem.call_list_str (I.ok.hd hc) a t (hn := hz) fun h' tk acc' c' hk hS' hacc => ?_
  refine ⟨.ref s.heap.objs.size, _, I.laid (t' := tk) hk (Nat.le_refl _) (show ObjOk X.prog X.w _ _ _ (.lst ((tl a).map fun c => V.str ⟨#[c]⟩)) from ⟨?_, acc'.toList, c', ?_, by rw [Array.toArray_toList]; exact hS'⟩), rfl, q _ (I.hok.fresh (Nat.le_refl _))⟩
  · rw [List.length_map, ← len_tl]; exact hz
  · refine vals_of (by rw [List.length_map, Array.length_toList, Array.length_toList]; exact hacc.1.symm) fun j x v hx hv => ?_
    obtain ⟨c, u, hc, rfl⟩ := hacc.2 j v (by rw [← Array.getElem?_toList]; exact hv)
    rw [List.getElem?_map, show (tl a)[j]? = some c by rw [← hc, ← Array.getElem?_toList]] at hx
    cases hx
    exact ⟨u, rfl⟩
end
theorem tl_int (i : Int) : tl (Str.ofString (toString i)) = numT i := by
  cases i with
  | ofNat n =>
    show _ = (if (Int.ofNat n) < 0 then _ else _)
    rw [if_neg (show ¬ Int.ofNat n < 0 from Int.not_lt.mpr (Int.natCast_nonneg n))]
    exact tl_num n
  | negSucc n =>
    show _ = (if (Int.negSucc n) < 0 then _ else _)
    rw [if_pos (Int.negSucc_lt_zero n)]
    have e : toString (Int.negSucc n) = "-" ++ toString ((n + 1 : Nat) : Int) := rfl
    rw [e, tl_ofString, String.toList_append, List.map_append, ← tl_ofString (toString ((n + 1 : Nat) : Int)), tl_num]
    rfl
/-! ### repr -/
mutual
def toPy : Doc → PyData
  | .non => .none
  | .bl b => .bool b
  | .int i => .int i
  | .str s => .str s
  | .list ds => .list (toPys ds)
  | .dict fs => .dict (toPyf fs)
def toPys : List Doc → List PyData
  | [] => []
  | d :: r => toPy d :: toPys r
def toPyf : List (Str × Doc) → List (PyData × PyData)
  | [] => []
  | (f, d) :: r => (.str f, toPy d) :: toPyf r
end
def bndR : Nat → Nat
  | 0 => 800
  | n + 1 => 4 * (bndR n + 810) + 20
theorem bndR_ge (n : Nat) : 800 ≤ bndR n := by
  induction n with
  | zero => exact Nat.le_refl _
  | succ n ih => unfold bndR; omega
theorem str_shown {s : Str} {m : Nat} (h : s.length ≤ 18) (ha : ∀ c ∈ tl s, c < 127) : (PyData.shown (.str s)).length ≤ 800 := by
  have q := PyData.shown_le 40 (by omega) (.str s) (by
    show (s.cps.toList.all fun c => decide (c < 16 ^ 8)) = true
    rw [List.all_eq_true]
    intro c hc
    have := ha c hc
    exact decide_eq_true (by omega))
  have w : PyData.weight (.str s) = s.length := rfl
  rw [w] at q
  have : (40 + 2) * s.length ≤ 42 * 18 := Nat.mul_le_mul_left _ h
  omega
theorem int_shown {i : Int} (h : i.natAbs < 10 ^ 18) : (PyData.shown (.int i)).length ≤ 19 := by
  show (Str.ofString (toString i)).length ≤ 19
  rw [len_tl, tl_int]
  exact numT_len h
theorem int_log {i : Int} (h : i.natAbs < 10 ^ 18) : i.natAbs.log2 < 1920 := by
  by_cases e : i.natAbs = 0
  · rw [e]; decide
  · have : i.natAbs.log2 < 60 := (Nat.log2_lt e).mpr (by omega)
    omega
theorem name_shown {f : Str} (h : NameOk f) : (PyData.shown (.str f)).length ≤ 800 := str_shown (m := 0) (by have := h.1.2; omega) fun c hc => by have := h.2 c hc; omega
section
variable {P : Program} {w : World} {H : Hp} {h : Heap}
def RepD (P : Program) (w : World) (H : Hp) (h : Heap) (n : Nat) (d : Doc) : Prop :=
  (PyData.shown (toPy d)).length ≤ bndR n ∧ ∀ (ok : Addr → Prop) (v : V) (u : Value), DocAt H ok v d → RelV v u → ∃ bs : List Addr, (∀ b ∈ bs, ok b) ∧ ReprK P w bs h n u (PyData.shown (toPy d))
theorem shownAll_map : ∀ ds : List Doc, PyData.shownAll (toPys ds) = ds.map fun d => PyData.shown (toPy d)
  | [] => rfl
  | d :: r => by rw [toPys, PyData.shownAll, shownAll_map r]; rfl
theorem shownKv_map : ∀ fs : List (Str × Doc), PyData.shownKv (toPyf fs) = fs.map fun p => PyData.shown (.str p.1) ++ ": " ++ PyData.shown (toPy p.2)
  | [] => rfl
  | (f, d) :: r => by rw [toPyf, PyData.shownKv, shownKv_map r]; rfl
theorem sum_le {α : Type} (g : α → Nat) (B : Nat) : ∀ l : List α, (∀ x ∈ l, g x ≤ B) → (l.map g).sum ≤ l.length * B
  | [], _ => by simp
  | x :: r, h => by
    have a := h x (by simp)
    have b := sum_le g B r fun y hy => h y (List.mem_cons_of_mem _ hy)
    rw [List.map_cons, List.sum_cons, List.length_cons, Nat.add_mul]
    omega
theorem reps {n : Nat} : ∀ {ds : List Doc}, (∀ d ∈ ds, RepD P w H h n d) → ∀ {ok : Addr → Prop} {vs : List V} {us : List Value}, DocsAt H ok vs ds → Vals vs us →
    ∃ bs : List Addr, (∀ b ∈ bs, ok b) ∧ ∀ (i : Nat) (y : Value), us[i]? = some y → ∃ t, (ds.map fun d => PyData.shown (toPy d))[i]? = some t ∧ ReprK P w bs h n y t
  | [], _, _, _, us, hd, r => by
    rw [show _ = [] from hd] at r
    cases r
    exact ⟨[], by simp, fun i y e => by simp at e⟩
  | d :: ds, hr, _, _, us, hd, r => by
    obtain ⟨v, rs, rfl, h1, h2⟩ := hd
    cases r with
    | cons r1 r2 =>
      obtain ⟨b1, k1, q1⟩ := (hr d (by simp)).2 _ v _ h1 r1
      obtain ⟨b2, k2, q2⟩ := reps (fun e he => hr e (List.mem_cons_of_mem _ he)) h2 r2
      refine ⟨b1 ++ b2, fun b hb => (List.mem_append.mp hb).elim (k1 b) (k2 b), fun i y e => ?_⟩
      cases i with
      | zero =>
        cases e
        exact ⟨_, rfl, q1.more fun b hb => List.mem_append_left _ hb⟩
      | succ i =>
        obtain ⟨t, e1, e2⟩ := q2 i y e
        exact ⟨t, e1, e2.more fun b hb => List.mem_append_right _ hb⟩
theorem repf {n : Nat} : ∀ {fs : List (Str × Doc)}, (∀ p ∈ fs, NameOk p.1 ∧ RepD P w H h n p.2) → ∀ {ok : Addr → Prop} {rs : List (Key × V)} {vs : List (Key × Value)} {es : List DictEntry}, FldsAt H ok rs fs → KV rs vs → Pairs (mixKind P w) es vs →
    ∃ bs : List Addr, (∀ b ∈ bs, ok b) ∧ ReprEntriesK P w bs h n es (fs.map fun p => PyData.shown (.str p.1) ++ ": " ++ PyData.shown (toPy p.2))
  | [], _, _, _, _, _, hd, r, p => by
    rw [show _ = [] from hd] at r
    cases r
    cases p
    exact ⟨[], by simp, .nil⟩
  | (f, d) :: fs, hr, _, _, _, _, hd, r, p => by
    obtain ⟨v, rs, rfl, h1, h2⟩ := hd
    cases r with
    | cons r1 r2 =>
      rename_i q _
      cases p with
      | cons p1 p2 p3 =>
        rename_i e _
        obtain ⟨b1, k1, q1⟩ := (hr (f, d) (by simp)).2.2 _ v _ h1 r1.2
        obtain ⟨b2, k2, q2⟩ := repf (fun e he => hr e (List.mem_cons_of_mem _ he)) h2 r2 p3
        have hk : keyIs (.inr f) e.key = true := by
          have z : (mixKind P w).is q.1 e.key = true := p1
          rw [← r1.1] at z
          exact z
        obtain ⟨t, hk⟩ := Value.isStrOf_shape (x := f) (v := e.key) hk
        refine ⟨b1 ++ b2, fun b hb => (List.mem_append.mp hb).elim (k1 b) (k2 b), .cons ?_ ?_ (rek q2 fun b hb => List.mem_append_right _ hb)⟩
        · rw [hk]
          refine (ReprK.of_is (.str f t ?_) _ _ _)
          have := name_shown (hr (f, d) (by simp)).1
          exact Nat.le_trans this (by decide)
        · rw [p2]
          exact q1.more fun b hb => List.mem_append_left _ hb
where
  rek {bs cs : List Addr} {n : Nat} : ∀ {es : List DictEntry} {ps : List Str}, ReprEntriesK P w bs h n es ps → (∀ b ∈ bs, b ∈ cs) → ReprEntriesK P w cs h n es ps
    | _, _, .nil, _ => .nil
    | _, _, .cons a b c, k => .cons (a.more k) (b.more k) (rek c k)
theorem doc_repr (ok : HOk P w H h) : ∀ n d, Wf n d → RepD P w H h n d := by
  refine doc_ind (fun n => ?_) (fun n b => ?_) (fun n i hi => ?_) (fun n s hs hc => ?_) (fun n ds hl hd => ?_) (fun n fs hl hn hd => ?_)
  · have := bndR_ge n
    refine ⟨Nat.le_trans (by decide : (PyData.shown (toPy .non)).length ≤ 800) this, fun _ v u e r => ⟨[], by simp, ?_⟩⟩
    rw [show v = .non from e] at r
    rw [show u = .none from r]
    exact ReprK.of_is .none _ _ _
  · have := bndR_ge n
    refine ⟨Nat.le_trans (by cases b <;> decide : (PyData.shown (toPy (.bl b))).length ≤ 800) this, fun _ v u e r => ⟨[], by simp, ?_⟩⟩
    rw [show v = .bl b from e] at r
    rw [show u = .bool b from r]
    exact ReprK.of_is (.bool b) _ _ _
  · have := bndR_ge n
    refine ⟨by have := int_shown hi; show (PyData.shown (.int i)).length ≤ _; omega, fun _ v u e r => ⟨[], by simp, ?_⟩⟩
    rw [show v = .int i from e] at r
    obtain ⟨t, rfl⟩ := r
    exact ReprK.of_is (.int t (int_log hi)) _ _ _
  · have := bndR_ge n
    have k := str_shown (m := 0) hs fun c h => (hc c h).2
    refine ⟨Nat.le_trans k this, fun _ v u e r => ⟨[], by simp, ?_⟩⟩
    rw [show v = .str s from e] at r
    obtain ⟨t, rfl⟩ := r
    exact ReprK.of_is (.str s t (Nat.le_trans k (by decide))) _ _ _
  · refine ⟨?_, fun o v u e r => ?_⟩
    · show (listText (PyData.shownAll (toPys ds))).length ≤ _
      have a := listText_len_le (PyData.shownAll (toPys ds))
      rw [shownAll_map, List.length_map, List.map_map] at a
      have b := sum_le (fun d => (PyData.shown (toPy d)).length) (bndR n) ds fun d hx => (hd d hx).2.1
      have c : ds.length * bndR n ≤ 4 * bndR n := Nat.mul_le_mul_right _ hl
      have d : (ds.map (List.length ∘ fun d => [d])).sum = (ds.map fun _ => 1).sum := rfl
      rw [shownAll_map]
      unfold bndR
      simp only [Function.comp_def] at a
      omega
    · obtain ⟨a, vs, rfl, oa, ha, hs⟩ := e
      obtain rfl : u = .ref a := r
      obtain ⟨_, its, nn, rv, hg⟩ := ok a _ ha
      obtain ⟨bs, kb, q⟩ := reps (fun d hx => (hd d hx).2) hs rv
      have ll := docs_len hs
      have l2 := rv.length
      show ∃ bs, _ ∧ ReprK P w bs h (n + 1) (.ref a) (listText (PyData.shownAll (toPys ds)))
      rw [shownAll_map]
      cases its with
      | nil =>
        have : ds = [] := List.eq_nil_of_length_eq_zero (by rw [← ll, l2]; rfl)
        subst this
        refine ⟨[], by simp, ?_⟩
        rw [List.map_nil, listText_nil]
        exact ReprK.listEmpty hg rfl rfl
      | cons x l =>
        refine ⟨a :: bs, fun b hb => ?_, ReprK.list hg rfl rfl (fun hm => (kb a hm).2 rfl) (by rw [List.length_map, ← ll, l2]; simp) fun i y e => q i y (by simpa using e)⟩
        rcases List.mem_cons.mp hb with rfl | hb
        · exact oa
        · exact (kb b hb).1
  · refine ⟨?_, fun o v u e r => ?_⟩
    · show (dictText (PyData.shownKv (toPyf fs))).length ≤ _
      have a := dictText_len_le (PyData.shownKv (toPyf fs))
      rw [shownKv_map, List.length_map, List.map_map] at a
      have b := sum_le (fun p : Str × Doc => (PyData.shown (.str p.1) ++ ": " ++ PyData.shown (toPy p.2)).length) (bndR n + 802) fs fun p hx => by
        have k1 := name_shown (hd p hx).1
        have k2 := (hd p hx).2.2.1
        have e : ((PyData.shown (.str p.1) ++ ": ").append (PyData.shown (toPy p.2))).length = (PyData.shown (.str p.1)).length + 2 + (PyData.shown (toPy p.2)).length := by
          show (PyData.shown (.str p.1) ++ ": " ++ PyData.shown (toPy p.2)).length = _
          rw [strLen_append, strLen_append]; rfl
        show ((PyData.shown (.str p.1) ++ ": ").append (PyData.shown (toPy p.2))).length ≤ _
        omega
      have c : fs.length * (bndR n + 802) ≤ 4 * (bndR n + 802) := Nat.mul_le_mul_right _ hl
      rw [shownKv_map]
      unfold bndR
      simp only [Function.comp_def] at a
      omega
    · obtain ⟨a, rs, rfl, oa, ha, hs⟩ := e
      obtain rfl : u = .ref a := r
      obtain ⟨_, hsys, vs, kv, oo, es, ep, hg, hx, hdt, _, hp, _⟩ := ok a _ ha
      obtain ⟨bs, kb, q⟩ := repf (fun p hx => ⟨(hd p hx).1, (hd p hx).2.2⟩) hs kv hp
      refine ⟨a :: bs, fun b hb => ?_, ?_⟩
      · rcases List.mem_cons.mp hb with rfl | hb
        · exact oa
        · exact (kb b hb).1
      · show ReprK P w (a :: bs) h (n + 1) (.ref a) (dictText (PyData.shownKv (toPyf fs)))
        rw [shownKv_map]
        exact ReprK.dict hg hx.1 hdt hsys (fun hm => (kb a hm).2 rfl) q
end
section
variable {X : Cx}
/-- repr of a document -/
def rRepD : List V → Hp → VK → Prop := fun xs H Q => ∃ (v : V) (n : Nat) (d : Doc) (ok : Addr → Prop), xs = [v] ∧ DocAt H ok v d ∧ Wf n d ∧ n ≤ 4 ∧ Q (.str (PyData.shown (toPy d))) H
theorem bndR_mono {n m : Nat} (h : n ≤ m) : bndR n ≤ bndR m := by
  induction h with
  | refl => exact Nat.le_refl _
  | step _ ih => exact Nat.le_trans ih (by show _ ≤ 4 * (bndR _ + 810) + 20; omega)
theorem cr_reprDoc (hg : X.A.guards = some []) (hu : X.A.units + 20 < cLine) : CallR X (.builtin "repr") rRepD := by
  intro pins s σ H xs us Q I r q
  obtain ⟨v, n, d, ok, rfl, hd, hw, hn, q⟩ := q
  obtain ⟨u, rfl, r1⟩ := vals1 r
  obtain ⟨hb, hk⟩ := doc_repr I.hok n d hw
  have hz : (PyData.shown (toPy d)).length ≤ sizeLine := Nat.le_trans hb (Nat.le_trans (bndR_mono hn) (by decide))
  cases d with
  | non =>
    rw [show v = .non from hd] at r1
    rw [show u = .none from r1]
    exact PySem.P.repr_of_none ⟨.str "None", H, I.tok _, ⟨_, rfl⟩, q⟩
  | bl b =>
    rw [show v = .bl b from hd] at r1
    rw [show u = .bool b from r1]
    exact PySem.P.repr_of_bool ⟨.str _, H, I.tok _, ⟨_, rfl⟩, q⟩
  | int i =>
    rw [show v = .int i from hd] at r1
    obtain ⟨t, rfl⟩ := r1
    exact PySem.P.repr_of_int (int_log hw) ⟨.str _, H, I.tok _, ⟨_, rfl⟩, q⟩
  | str z =>
    rw [show v = .str z from hd] at r1
    obtain ⟨t, rfl⟩ := r1
    exact PySem.P.repr_of_str ⟨.str _, H, I.tok _, ⟨_, rfl⟩, q⟩ hz
  | list ds =>
    obtain ⟨a, vs, rfl, oa, ha, hs⟩ := hd
    obtain rfl : u = .ref a := r1
    obtain ⟨_, its, nn, rv, hg2⟩ := I.hok a _ ha
    have hT : s.TypeIs (.ref a) "list" := ⟨_, hg2, rfl⟩
    cases n with
    | zero => exact absurd hw.1 (by omega)
    | succ n =>
      obtain ⟨bs, kb, qb⟩ := reps (fun e he => doc_repr I.hok n e (wfs_iff.mp hw.2.2 e he)) hs rv
      have ll := docs_len hs
      have l2 := rv.length
      have q' : Q (.str (listText (PyData.shownAll (toPys ds)))) H := q
      have hz' : (listText (PyData.shownAll (toPys ds))).length ≤ sizeLine := hz
      rw [shownAll_map] at q' hz'
      refine call_repr_slot (by omega) hT F.slot_list_repr.toG ?_
      cases its with
      | nil =>
        have : ds = [] := List.eq_nil_of_length_eq_zero (by rw [← ll, l2]; rfl)
        subst this
        rw [List.map_nil, listText_nil] at q'
        exact call_list_repr_empty hT hg2 rfl ⟨_, _, rfl, .str "[]", H, I.tok _, ⟨_, rfl⟩, q'⟩
      | cons x l =>
        refine call_list_reprK (as := bs) (h₀ := s.heap) (d := n) hg2 rfl rfl (fun hm => (kb a hm).2 rfl) (by rw [List.length_map, ← ll, l2]; simp) (fun i y e => qb i y (by simpa using e)) (g := []) hg (fun b _ => Clear.nil b) (by show X.A.units + 1 + (n + 1) < cLine; omega) (fun _ _ e => e) (fun h' u tk hk => ?_) hz'
        exact ⟨_, _, rfl, .str _, H, I.kept hk, ⟨_, rfl⟩, q'⟩
  | dict fs =>
    obtain ⟨a, rs, rfl, oa, ha, hs⟩ := hd
    obtain rfl : u = .ref a := r1
    obtain ⟨_, hsys, vs, kv, oo, es, ep, hg2, hx, hdt, _, hp, _⟩ := I.hok a _ ha
    have hT : s.TypeIs (.ref a) "dict" := ⟨_, hg2, hx.1⟩
    cases n with
    | zero => exact absurd hw.1 (by omega)
    | succ n =>
      obtain ⟨bs, kb, qb⟩ := repf (fun p hp => ⟨(wff_iff.mp hw.2.2.2 p hp).1, doc_repr I.hok n p.2 (wff_iff.mp hw.2.2.2 p hp).2⟩) hs kv hp
      have q' : Q (.str (dictText (PyData.shownKv (toPyf fs)))) H := q
      have hz' : (dictText (PyData.shownKv (toPyf fs))).length ≤ sizeLine := hz
      rw [shownKv_map] at q' hz'
      refine call_repr_slot (by omega) hT F.slot_dict_repr ?_
      refine call_dict_reprK (as := bs) (h₀ := s.heap) (d := n) hg2 hx.1 hdt hsys (fun hm => (kb a hm).2 rfl) qb (g := []) hg (fun b _ => Clear.nil b) (by show X.A.units + 1 + (n + 1) < cLine; omega) (fun _ _ e => e) (fun h' u tk hk => ?_) hz'
      exact ⟨_, _, rfl, .str _, H, I.kept hk, ⟨_, rfl⟩, q'⟩
end
end K87
namespace K87
open PySem L2 TL SX PySem.Spec PyProof.Rows PySem.Builtin.Str PySem.StrLaws
/-! ## Places in a text -/
theorem fromIndex_nat {n p : Nat} : fromIndex n (p : Int) = p := by
  unfold fromIndex
  rw [if_neg (by omega)]
  omega
theorem len_S (l : List Nat) : (S l).length = l.length := S_len l
theorem tl_S (l : List Nat) : tl (S l) = l := rfl
theorem S_tl (t : Str) : S (tl t) = t := mk_tl t
theorem cut_at {t : Str} {p : Nat} {L : List Nat} (h : (tl t).drop p = L) (hp : p ≤ t.length) (k : Nat) : cutS t (some (p : Int)) (some ((p : Int) + (k : Int))) = S (L.take k) := by
  have e : ((p : Int) + (k : Int)) = ((p + k : Nat) : Int) := rfl
  rw [e]
  unfold cutS
  rw [HT.sIx_nat, HT.sIx_nat, Nat.min_eq_left hp]
  show S (((tl t).drop p).take (min (p + k) t.length - p)) = _
  rw [h]
  have hl : L.length = t.length - p := by rw [← h, List.length_drop, ← len_tl]
  rcases Nat.le_total (p + k) t.length with c | c
  · rw [Nat.min_eq_left c, show p + k - p = k by omega]
  · rw [Nat.min_eq_right c, List.take_of_length_le (by omega), List.take_of_length_le (by omega)]
theorem item_at {t : Str} {p : Nat} {c : Nat} {L : List Nat} (h : (tl t).drop p = c :: L) : t.cps[p]? = some c ∧ p < t.length := by
  have e : (tl t)[p]? = some c := by
    have := congrArg (fun l : List Nat => l[0]?) h
    simpa [List.getElem?_drop] using this
  refine ⟨by rw [← e, ← Array.getElem?_toList], ?_⟩
  have := (List.getElem?_eq_some_iff.mp e).1
  rw [len_tl]
  exact this
theorem drop_more {t : Str} {p : Nat} {A B : List Nat} (h : (tl t).drop p = A ++ B) : (tl t).drop (p + A.length) = B := by
  rw [← List.drop_drop, h, List.drop_left]
theorem le_of_drop {t : Str} {p : Nat} {L : List Nat} (h : (tl t).drop p = L) (hn : L ≠ []) : p + L.length = t.length := by
  have e : L.length = t.length - p := by rw [← h, List.length_drop, ← len_tl]
  have : 0 < L.length := List.length_pos_iff.mpr hn
  omega
theorem sw3 {t y : Str} {p : Nat} {L : List Nat} (h : (tl t).drop p = L) (hp : p ≤ t.length) : Txt.startswith3 t y (p : Int) = decide (L.take (tl y).length = tl y) := by
  unfold Txt.startswith3
  rw [fromIndex_nat]
  have hl : L.length = t.length - p := by rw [← h, List.length_drop, ← len_tl]
  have e : subAt t y p = decide (L.take (tl y).length = tl y) := by
    unfold subAt
    have e1 : (t.cps.extract p (p + y.length)).toList = L.take (tl y).length := by
      rw [Array.toList_extract, List.extract_eq_drop_take]
      show ((tl t).drop p).take (p + y.length - p) = _
      rw [h, show p + y.length - p = y.length by omega, len_tl]
    by_cases c : L.take (tl y).length = tl y
    · rw [decide_eq_true c, beq_iff_eq]
      exact Array.toList_inj.mp (e1.trans c)
    · rw [decide_eq_false c, beq_eq_false_iff_ne]
      intro z
      exact c (e1.symm.trans (congrArg Array.toList z))
  rw [e]
  by_cases c : L.take (tl y).length = tl y
  · rw [decide_eq_true c]
    have := congrArg List.length c
    rw [List.length_take, ← len_tl] at this
    have : p + y.length ≤ t.length := by omega
    simp [this]
  · rw [decide_eq_false c]
    simp
theorem find_at {t : Str} {p : Nat} {f rest : List Nat} (h : (tl t).drop p = f ++ [58, 32] ++ rest) (hf : 58 ∉ f) : Txt.find3 t (": " : Str) (p : Int) = ((p + f.length : Nat) : Int) := by
  have hy : tl (": " : Str) = [58, 32] := by decide +kernel
  have hyn : tl (": " : Str) ≠ [] := by rw [hy]; simp
  unfold Txt.find3
  rw [fromIndex_nat]
  have hat : At t (": " : Str) t.length (p + f.length) := by
    refine (at_iff hyn _).mpr ?_
    rw [drop_more (A := f) (B := [58, 32] ++ rest) (by rw [h, List.append_assoc]), hy]
    exact pre_self _ _
  have hno : ∀ k, p ≤ k → k < p + f.length → ¬ At t (": " : Str) t.length k := fun k h1 h2 ha => by
    have z := (at_iff hyn k).mp ha
    have e : (tl t).drop k = f.drop (k - p) ++ ([58, 32] ++ rest) := by
      have : k = p + (k - p) := by omega
      rw [this, ← List.drop_drop, h, List.append_assoc, List.drop_append_of_le_length (by omega)]
      congr 2
      omega
    have hc : k - p < f.length := by omega
    rw [e, List.drop_eq_getElem_cons hc, List.cons_append, hy, pre_of_head] at z
    · cases z
    · intro q
      exact hf (q ▸ List.getElem_mem hc)
  rcases StrLaws.occ_head_from t (": " : Str) p 1 (Nat.le_refl 1) with ⟨h0, hn⟩ | ⟨k, r, h0, hlo, hk, hn⟩
  · exact absurd hat (hn _ (by omega))
  · rw [h0]
    have : k = p + f.length := by
      rcases Nat.lt_trichotomy k (p + f.length) with c | c | c
      · exact absurd hk (hno k hlo c)
      · exact c
      · exact absurd hat (hn _ (by omega) c)
    rw [this]
/-! ### digits -/
def isDig (c : Nat) : Prop := 48 ≤ c ∧ c ≤ 57
theorem mem_digits (c : Nat) : decide (c ∈ tl ("0123456789" : Str)) = decide (48 ≤ c ∧ c ≤ 57) := by
  have e : tl ("0123456789" : Str) = [48, 49, 50, 51, 52, 53, 54, 55, 56, 57] := by decide +kernel
  rw [e]
  refine decide_eq_decide.mpr ?_
  simp only [List.mem_cons, List.not_mem_nil, or_false]
  omega
/-- no digit comes next -/
def NoDig (l : List Nat) : Prop := ∀ c r, l = c :: r → ¬ isDig c
theorem numL_all (n : Nat) : ∀ c ∈ numL n, isDig c := fun c hc => numL_digits n c hc
theorem numL_head {n : Nat} (h : 1 ≤ n) : ∃ c r, numL n = c :: r ∧ c ≠ 48 := by
  induction n using Nat.strongRecOn with
  | ind n ih =>
    by_cases c : n < 10
    · exact ⟨48 + n, [], numL_lt c, by omega⟩
    · obtain ⟨d, r, e, k⟩ := ih (n / 10) (by omega) (by omega)
      exact ⟨d, r ++ [48 + n % 10], by rw [numL_step (by omega), e]; rfl, k⟩
theorem numT_back {i : Int} (h : i.natAbs < 10 ^ 18) : intText? (S (numT i)) = some i := by
  have hl := numT_len h
  unfold numT at hl ⊢
  split
  · rename_i c
    rw [if_pos c] at hl
    rw [intText_neg (x := S (45 :: numL i.natAbs)) rfl (numL_digits _) (numL_ne _) (by rw [len_S]; omega), numL_val]
    congr 1
    omega
  · rename_i c
    rw [if_neg c] at hl
    rw [intText_digits (x := S (numL i.natAbs)) (numL_digits _) (numL_ne _) (by rw [len_S]; omega)]
    show some (((NumText.digitsVal (numL i.natAbs) : Nat) : Int)) = some i
    rw [numL_val]
    congr 1
    omega
end K87
namespace K87
open PySem L2 TL SX PySem.Spec PyProof.Rows
/-! ## 5. The program's text -/
def top (i : Nat) : Stmt := PySem.Challenge.pw_tagless_k87_documents_as_texts.main.body.getD i (.Pass ⟨0, 0, 0, 0⟩)
abbrev s_is_name : Stmt := top 6
abbrev N_is_name : List Str := ["value", "letter"]
abbrev p_is_name : List Str := ["value"]
theorem sc_is_name : FnScope N_is_name p_is_name (defScope s_is_name) := ⟨rfl, rfl, rfl, by decide +kernel, rfl, by decide +kernel, by decide +kernel⟩
abbrev s_is_document : Stmt := top 7
abbrev N_is_document : List Str := ["value", "part", "field"]
abbrev p_is_document : List Str := ["value"]
theorem sc_is_document : FnScope N_is_document p_is_document (defScope s_is_document) := ⟨rfl, rfl, rfl, by decide +kernel, rfl, by decide +kernel, by decide +kernel⟩
abbrev s_check_document : Stmt := top 8
abbrev N_check_document : List Str := ["value"]
abbrev p_check_document : List Str := ["value"]
theorem sc_check_document : FnScope N_check_document p_check_document (defScope s_check_document) := ⟨rfl, rfl, rfl, by decide +kernel, rfl, by decide +kernel, by decide +kernel⟩
abbrev s_are_same : Stmt := top 9
abbrev N_are_same : List Str := ["one", "other", "part", "twin", "field"]
abbrev p_are_same : List Str := ["one", "other"]
theorem sc_are_same : FnScope N_are_same p_are_same (defScope s_are_same) := ⟨rfl, rfl, rfl, by decide +kernel, rfl, by decide +kernel, by decide +kernel⟩
abbrev s_same : Stmt := top 10
abbrev N_same : List Str := ["one", "other"]
abbrev p_same : List Str := ["one", "other"]
theorem sc_same : FnScope N_same p_same (defScope s_same) := ⟨rfl, rfl, rfl, by decide +kernel, rfl, by decide +kernel, by decide +kernel⟩
abbrev s_string_text : Stmt := top 22
abbrev N_string_text : List Str := ["value"]
abbrev p_string_text : List Str := ["value"]
theorem sc_string_text : FnScope N_string_text p_string_text (defScope s_string_text) := ⟨rfl, rfl, rfl, by decide +kernel, rfl, by decide +kernel, by decide +kernel⟩
abbrev s_document_text : Stmt := top 23
abbrev N_document_text : List Str := ["document", "rows", "field", "part"]
abbrev p_document_text : List Str := ["document"]
theorem sc_document_text : FnScope N_document_text p_document_text (defScope s_document_text) := ⟨rfl, rfl, rfl, by decide +kernel, rfl, by decide +kernel, by decide +kernel⟩
abbrev s_show_document : Stmt := top 24
abbrev N_show_document : List Str := ["document"]
abbrev p_show_document : List Str := ["document"]
theorem sc_show_document : FnScope N_show_document p_show_document (defScope s_show_document) := ⟨rfl, rfl, rfl, by decide +kernel, rfl, by decide +kernel, by decide +kernel⟩
abbrev s_digits_behind : Stmt := top 25
abbrev N_digits_behind : List Str := ["text", "at"]
abbrev p_digits_behind : List Str := ["text", "at"]
theorem sc_digits_behind : FnScope N_digits_behind p_digits_behind (defScope s_digits_behind) := ⟨rfl, rfl, rfl, by decide +kernel, rfl, by decide +kernel, by decide +kernel⟩
abbrev s_number_at : Stmt := top 26
abbrev N_number_at : List Str := ["text", "at", "first", "end"]
abbrev p_number_at : List Str := ["text", "at"]
theorem sc_number_at : FnScope N_number_at p_number_at (defScope s_number_at) := ⟨rfl, rfl, rfl, by decide +kernel, rfl, by decide +kernel, by decide +kernel⟩
abbrev s_string_at : Stmt := top 27
abbrev N_string_at : List Str := ["text", "at", "found"]
abbrev p_string_at : List Str := ["text", "at"]
theorem sc_string_at : FnScope N_string_at p_string_at (defScope s_string_at) := ⟨rfl, rfl, rfl, by decide +kernel, rfl, by decide +kernel, by decide +kernel⟩
abbrev s_list_at : Stmt := top 28
abbrev N_list_at : List Str := ["text", "at", "found", "sign", "part"]
abbrev p_list_at : List Str := ["text", "at"]
theorem sc_list_at : FnScope N_list_at p_list_at (defScope s_list_at) := ⟨rfl, rfl, rfl, by decide +kernel, rfl, by decide +kernel, by decide +kernel⟩
abbrev s_field_at : Stmt := top 29
abbrev N_field_at : List Str := ["text", "at", "end"]
abbrev p_field_at : List Str := ["text", "at"]
theorem sc_field_at : FnScope N_field_at p_field_at (defScope s_field_at) := ⟨rfl, rfl, rfl, by decide +kernel, rfl, by decide +kernel, by decide +kernel⟩
abbrev s_record_at : Stmt := top 30
abbrev N_record_at : List Str := ["text", "at", "found", "last", "sign", "field", "part"]
abbrev p_record_at : List Str := ["text", "at"]
theorem sc_record_at : FnScope N_record_at p_record_at (defScope s_record_at) := ⟨rfl, rfl, rfl, by decide +kernel, rfl, by decide +kernel, by decide +kernel⟩
abbrev s_part_at : Stmt := top 31
abbrev N_part_at : List Str := ["text", "at", "sign"]
abbrev p_part_at : List Str := ["text", "at"]
theorem sc_part_at : FnScope N_part_at p_part_at (defScope s_part_at) := ⟨rfl, rfl, rfl, by decide +kernel, rfl, by decide +kernel, by decide +kernel⟩
abbrev s_document_in : Stmt := top 32
abbrev N_document_in : List Str := ["text", "found"]
abbrev p_document_in : List Str := ["text"]
theorem sc_document_in : FnScope N_document_in p_document_in (defScope s_document_in) := ⟨rfl, rfl, rfl, by decide +kernel, rfl, by decide +kernel, by decide +kernel⟩
abbrev s_read_document : Stmt := top 33
abbrev N_read_document : List Str := ["text", "found"]
abbrev p_read_document : List Str := ["text"]
theorem sc_read_document : FnScope N_read_document p_read_document (defScope s_read_document) := ⟨rfl, rfl, rfl, by decide +kernel, rfl, by decide +kernel, by decide +kernel⟩
abbrev s__law_pot : Stmt := top 35
abbrev N__law_pot : List Str := ["_law_script", "_law_k", "_law_cell", "_law_own"]
abbrev p__law_pot : List Str := ["_law_script", "_law_k"]
theorem sc__law_pot : FnScope N__law_pot p__law_pot (defScope s__law_pot) := ⟨rfl, rfl, rfl, by decide +kernel, rfl, by decide +kernel, by decide +kernel⟩
abbrev s__law_take : Stmt := top 36
abbrev N__law_take : List Str := ["_law_pot_here", "_law_upto", "_law_digit", "_law_prime", "_law_stirred"]
abbrev p__law_take : List Str := ["_law_pot_here", "_law_upto"]
theorem sc__law_take : FnScope N__law_take p__law_take (defScope s__law_take) := ⟨rfl, rfl, rfl, by decide +kernel, rfl, by decide +kernel, by decide +kernel⟩
abbrev s__law_of : Stmt := top 37
abbrev N__law_of : List Str := ["_law_pot_here", "_law_some"]
abbrev p__law_of : List Str := ["_law_pot_here", "_law_some"]
theorem sc__law_of : FnScope N__law_of p__law_of (defScope s__law_of) := ⟨rfl, rfl, rfl, by decide +kernel, rfl, by decide +kernel, by decide +kernel⟩
abbrev s__law_unlike : Stmt := top 38
abbrev N__law_unlike : List Str := ["_law_pot_here", "_law_some", "_law_many", "_law_left", "_law_found", "_law_turn"]
abbrev p__law_unlike : List Str := ["_law_pot_here", "_law_some", "_law_many"]
theorem sc__law_unlike : FnScope N__law_unlike p__law_unlike (defScope s__law_unlike) := ⟨rfl, rfl, rfl, by decide +kernel, rfl, by decide +kernel, by decide +kernel⟩
abbrev s__law_flat : Stmt := top 39
abbrev N__law_flat : List Str := ["_law_pot_here"]
abbrev p__law_flat : List Str := ["_law_pot_here"]
theorem sc__law_flat : FnScope N__law_flat p__law_flat (defScope s__law_flat) := ⟨rfl, rfl, rfl, by decide +kernel, rfl, by decide +kernel, by decide +kernel⟩
abbrev s__law_writ : Stmt := top 40
abbrev N__law_writ : List Str := ["_law_document", "_law_field", "_law_sign", "_law_part"]
abbrev p__law_writ : List Str := ["_law_document"]
theorem sc__law_writ : FnScope N__law_writ p__law_writ (defScope s__law_writ) := ⟨rfl, rfl, rfl, by decide +kernel, rfl, by decide +kernel, by decide +kernel⟩
abbrev s__law_strange : Stmt := top 41
abbrev N__law_strange : List Str := ["_law_pot_here", "_law_signs", "_law_turn"]
abbrev p__law_strange : List Str := ["_law_pot_here"]
theorem sc__law_strange : FnScope N__law_strange p__law_strange (defScope s__law_strange) := ⟨rfl, rfl, rfl, by decide +kernel, rfl, by decide +kernel, by decide +kernel⟩
abbrev s__law_thing : Stmt := top 42
abbrev N__law_thing : List Str := ["_law_pot_here", "_law_deep", "_law_pick", "_law_fields", "_law_turn", "_law_field"]
abbrev p__law_thing : List Str := ["_law_pot_here", "_law_deep"]
theorem sc__law_thing : FnScope N__law_thing p__law_thing (defScope s__law_thing) := ⟨rfl, rfl, rfl, by decide +kernel, rfl, by decide +kernel, by decide +kernel⟩
abbrev s__law_turned : Stmt := top 43
abbrev N__law_turned : List Str := ["_law_document", "_law_part", "_law_field"]
abbrev p__law_turned : List Str := ["_law_document"]
theorem sc__law_turned : FnScope N__law_turned p__law_turned (defScope s__law_turned) := ⟨rfl, rfl, rfl, by decide +kernel, rfl, by decide +kernel, by decide +kernel⟩
abbrev s__law_right : Stmt := top 44
abbrev N__law_right : List Str := ["_law_pot_here", "_law_document", "_law_text", "_law_kept", "_law_found"]
abbrev p__law_right : List Str := ["_law_pot_here"]
theorem sc__law_right : FnScope N__law_right p__law_right (defScope s__law_right) := ⟨rfl, rfl, rfl, by decide +kernel, rfl, by decide +kernel, by decide +kernel⟩
abbrev s_law : Stmt := top 45
abbrev N_law : List Str := ["_law_script", "_law_k", "_law_pot_here", "_law_turn"]
abbrev p_law : List Str := ["_law_script"]
theorem sc_law : FnScope N_law p_law (defScope s_law) := ⟨rfl, rfl, rfl, by decide +kernel, rfl, by decide +kernel, by decide +kernel⟩
structure Txt (K : PySem.W.Frag) (mg : Str → Option Value) : Prop where
  b_abs : mg "abs" = none
  b_all : mg "all" = none
  b_bool : mg "bool" = none
  b_dict : mg "dict" = none
  b_int : mg "int" = none
  b_isinstance : mg "isinstance" = none
  b_len : mg "len" = none
  b_list : mg "list" = none
  b_max : mg "max" = none
  b_min : mg "min" = none
  b_range : mg "range" = none
  b_repr : mg "repr" = none
  b_sorted : mg "sorted" = none
  b_str : mg "str" = none
  b_zip : mg "zip" = none
  c_MOST_LETTERS : ∃ t, mg "MOST_LETTERS" = some (.int 8 t)
  c_QUOTE : ∃ t, mg "QUOTE" = some (.str "\"" t)
  c_STROKE : ∃ t, mg "STROKE" = some (.str "\\" t)
  c_PARTED : ∃ t, mg "PARTED" = some (.str ", " t)
  c_NAMED : ∃ t, mg "NAMED" = some (.str ": " t)
  c_YES : ∃ t, mg "YES" = some (.str "yes" t)
  c_NO : ∃ t, mg "NO" = some (.str "no" t)
  c_MINUS : ∃ t, mg "MINUS" = some (.str "-" t)
  c_DIGITS : ∃ t, mg "DIGITS" = some (.str "0123456789" t)
  c_MOST_DIGITS : ∃ t, mg "MOST_DIGITS" = some (.int 4000 t)
  c_PAIR : ∃ t, mg "PAIR" = some (.int 2 t)
  D_is_name : Df K mg "is_name" s_is_name
  D_is_document : Df K mg "is_document" s_is_document
  D_check_document : Df K mg "check_document" s_check_document
  D_are_same : Df K mg "are_same" s_are_same
  D_same : Df K mg "same" s_same
  D_string_text : Df K mg "string_text" s_string_text
  D_document_text : Df K mg "document_text" s_document_text
  D_show_document : Df K mg "show_document" s_show_document
  D_digits_behind : Df K mg "digits_behind" s_digits_behind
  D_number_at : Df K mg "number_at" s_number_at
  D_string_at : Df K mg "string_at" s_string_at
  D_list_at : Df K mg "list_at" s_list_at
  D_field_at : Df K mg "field_at" s_field_at
  D_record_at : Df K mg "record_at" s_record_at
  D_part_at : Df K mg "part_at" s_part_at
  D_document_in : Df K mg "document_in" s_document_in
  D_read_document : Df K mg "read_document" s_read_document
  D__law_pot : Df K mg "_law_pot" s__law_pot
  D__law_take : Df K mg "_law_take" s__law_take
  D__law_of : Df K mg "_law_of" s__law_of
  D__law_unlike : Df K mg "_law_unlike" s__law_unlike
  D__law_flat : Df K mg "_law_flat" s__law_flat
  D__law_writ : Df K mg "_law_writ" s__law_writ
  D__law_strange : Df K mg "_law_strange" s__law_strange
  D__law_thing : Df K mg "_law_thing" s__law_thing
  D__law_turned : Df K mg "_law_turned" s__law_turned
  D__law_right : Df K mg "_law_right" s__law_right
  D_law : Df K mg "law" s_law
end K87
namespace K87
open PySem L2 TL SX PySem.Spec PyProof.Rows
/-! ## 6. Helpers of readings -/
theorem ifT {c : Bool} {A B : Prop} (h : c = true) (a : A) : if c = true then A else B := by rw [if_pos h]; exact a
theorem ifF {c : Bool} {A B : Prop} (h : c = false) (b : B) : if c = true then A else B := by rw [if_neg (by rw [h]; exact Bool.false_ne_true)]; exact b
theorem ifN {c : Bool} {A B : Prop} (h : c = true) (b : B) : if (!c) = true then A else B := by rw [if_neg (by rw [h]; exact Bool.false_ne_true)]; exact b
theorem all_yes : ∀ {ys : List V}, (∀ (i : Nat) (y : V), ys[i]? = some y → y = .bl true) → ys = (List.replicate ys.length true).map V.bl
  | [], _ => rfl
  | y :: r, h => by
    have e := h 0 y rfl
    have ih := all_yes (ys := r) fun i z q => h (i + 1) z q
    rw [List.length_cons, List.replicate_succ, List.map_cons, ← ih, e]
theorem rep_all (n : Nat) : (List.replicate n true).all id = true := by simp
/-- a comprehension that makes one item a turn -/
theorem lc_grow {J : It} {n : Nat} {G : Hp → Prop} {Y : Nat → Hp → V → Hp → Prop} (w : Walk J n G Y) {g : TG} {tt : TT} {te : TE} {vs : List Nat} {σ : L2.St} {H1 : Hp} {D : Addr} {Qd : Hp → Prop} (Iv : Nat → Hp → Prop) (R : Nat → V → Hp → Prop)
    (hn : n ≤ 1000) (iD : ∀ i H ys, Iv i H → Iv i (upd H D (.lst ys))) (rD : ∀ i y H ys, R i y H → R i y (upd H D (.lst ys))) (h0 : Iv 0 H1) (hG : ∀ i H, i ≤ n → Iv i H → G H)
    (hs : ∀ i x H H', i < n → Iv i H → (∃ ys, H D = some (.lst ys)) → Y i H x H' → ∀ (K : V → Hp → Prop) (Z : Hp → Prop), (∀ y H4, H4 D = H D → Iv (i + 1) H4 → R i y H4 → (∀ j z, R j z H → R j z H4) → K y H4) →
      g x (wipe σ vs) H' fun σ2 H2 => wipe σ2 vs = wipe σ vs ∧ tt σ2 H2 fun b H3 => if b = true then te σ2 H3 K else Z H3)
    (hd : ∀ H ys, Iv n H → H D = some (.lst ys) → ys.length = n → (∀ i y, ys[i]? = some y → R i y H) → Qd H) :
    ∃ W : Nat → Nat → Hp → Prop, (∃ m, W 0 m (upd H1 D (.lst []))) ∧ ∀ i m H, W i m H →
      (J.stop i H ∧ Qd H) ∨ (J.go i H ∧ ∃ Nx : Hp → Prop, (∀ H', Nx H' → ∃ m', m' < m ∧ W (i + 1) m' H') ∧ ∀ x H', J.yld i H x H' → g x (wipe σ vs) H' fun σ2 H2 => wipe σ2 vs = wipe σ vs ∧ tt σ2 H2 fun b H3 =>
        if b = true then te σ2 H3 fun y H4 => ∃ acc, H4 D = some (.lst acc) ∧ acc.length < sizeLine ∧ Nx (upd H4 D (.lst (acc ++ [y]))) else Nx H3) := by
  refine lc_it w (fun i H => Iv i H ∧ ∃ ys, H D = some (.lst ys) ∧ ys.length = i ∧ ∀ j y, ys[j]? = some y → R j y H)
    ⟨iD _ _ _ h0, [], upd_same, rfl, fun j y e => by simp at e⟩ (fun i H hi p => hG i H hi p.1) (fun i x H H' hi p y => ?_) (fun H p => ?_)
  · obtain ⟨iv, ys, hD, hl, hr⟩ := p
    refine hs i x H H' hi iv ⟨ys, hD⟩ y _ _ fun z H4 e iv4 r4 k4 => ?_
    refine ⟨ys, e.trans hD, Nat.lt_of_le_of_lt (by omega : ys.length ≤ 1000) (by decide), iD _ _ _ iv4, ys ++ [z], upd_same, by rw [List.length_append, hl]; rfl, fun j u q => ?_⟩
    refine rD _ _ _ _ ?_
    by_cases c : j < ys.length
    · rw [List.getElem?_append_left c] at q
      exact k4 j u (hr j u q)
    · rw [List.getElem?_append_right (by omega)] at q
      have : j = ys.length := by
        have := (List.getElem?_eq_some_iff.mp q).1
        simp at this
        omega
      subst this
      simp at q
      subst q
      rw [hl]
      exact r4
  · obtain ⟨iv, ys, hD, hl, hr⟩ := p
    exact hd H ys iv hD hl hr
theorem lt1 (a b : Nat) : decide (([a] : List Nat) < [b]) = decide (a < b) := by
  rw [← ltCps_eq]
  show (decide (a < b) || (a == b && false)) = _
  simp
theorem le1 {a b : Nat} (h : a ≤ b) : (!decide (([b] : List Nat) < [a])) = true := by
  rw [lt1, decide_eq_false (by omega)]; rfl
/-- the sort of a document -/
def tyName : Doc → String
  | .non => "NoneType" | .bl _ => "bool" | .int _ => "int" | .str _ => "str" | .list _ => "list" | .dict _ => "dict"
theorem docTy {K : PySem.W.Frag} {H : Hp} {ok : Addr → Prop} {v : V} {d : Doc} (h : DocAt H ok v d) : TyX K H v (.type (tyName d)) := by
  cases d with
  | non => rw [show v = .non from h]; exact .base .non
  | bl b => rw [show v = .bl b from h]; exact .base (.bl b)
  | int i => rw [show v = .int i from h]; exact .base (.int i)
  | str s => rw [show v = .str s from h]; exact .base (.str s)
  | list ds =>
    obtain ⟨a, vs, rfl, _, e, _⟩ := h
    exact .base (.lst e)
  | dict fs =>
    obtain ⟨a, vs, rfl, _, e, _⟩ := h
    exact .base (.dK e)
theorem isi_doc {K : PySem.W.Frag} {H : Hp} {ok : Addr → Prop} {v : V} {d : Doc} {Q : VK} (T : String) (b : Bool) (h : DocAt H ok v d) (k : kitB (tyName d) T = some b) (q : Q (.bl b) H) : rIsi K [v, .ty T] H Q :=
  ⟨_, _, _, _, b, rfl, .ty _, docTy h, kit_ty k, q⟩
theorem isi_str {K : PySem.W.Frag} {H : Hp} {s : Str} {Q : VK} (q : Q (.bl true) H) : rIsi K [.str s, .ty "str"] H Q :=
  isi_doc (d := .str s) (ok := fun _ => True) "str" true rfl (by simp only [tyName]; decide +kernel) q
section
variable {P : Program} {w : World} {K : PySem.W.Frag} {mg : Str → Option Value} {base : Heap}
/-! ## 7. The program, def by def -/
def spName : Sp := fun vs H Q _ => ∃ f : Str, vs = [.str f] ∧ NameOk f ∧ ∀ H', Same H H' → Q (.bl true) H'
theorem ok_is_name (T : Txt K mg) : Ok P w K mg base 1 "is_name" p_is_name spName := by
  refine T.D_is_name.ok sc_is_name (fun vs H Q E h => ?_) (fun _ _ _ _ _ _ us hl => match us, hl with | [_], _ => rfl) (fun f cdv A outer s H vs Q E hr h => ?_)
  · obtain ⟨f, rfl, _⟩ := h
    rfl
  obtain ⟨z, rfl, hz, q⟩ := h
  refine ⟨_, (pss_cons (ps_if (PW.pt (pw_or (pt_not (pt_val (pe_callB call_isi (by rfl) T.b_isinstance (by decide +kernel) (pa_cons (pv 0) (pa_cons (pe_bltn (v := .ty "str") (u := .type "str") (by rfl) T.b_str (by decide +kernel) rfl) pa_nil))))) (pw_or1 (pt_not (pt_chain op_le op_le pe_int (pe_callB call_len_str (by rfl) T.b_len (by decide +kernel) (pa_cons (pv 0) pa_nil)) (pe_gI T.c_MOST_LETTERS))))))
  (pss_one (ps_ret pe_bl))
  pss_nil)
  (pss_one (ps_ret (pe_callB (cr_all rfl) (by rfl) T.b_all (by decide +kernel) (pa_cons (pe_lc (own := [("letter", 1)]) (g := (gName 1)) (tt := tYes) rfl sc_is_name.nd (pi_str (pv 0)) (blkOk_by (N := N_is_name) (sc := defScope s_is_name) (by decide +kernel)) (fun _ _ _ _ _ => (pg_name (i := 1) sc_is_name.nd rfl (Or.inl rfl))) (fun _ _ _ _ _ => pts_nil) (fun _ _ _ _ _ => (pe_chain op_le_str op_le_str pe_str (pv 1) pe_str))) pa_nil))))), ?_⟩
  refine ⟨_, rfl, _, _, _, _, true, rfl, .ty _, .base (.str z), kit_ty (by decide +kernel), true, rfl, iteF ?_⟩
  have h1 := hz.1.1
  have h2 := hz.1.2
  refine ⟨_, rfl, z, rfl, Nat.le_trans h2 (by decide), _, _, rfl, rfl, _, rfl, ifT (decide_eq_true (by omega)) ?_⟩
  refine ⟨_, _, rfl, rfl, _, rfl, iteNS (by omega) ?_⟩
  refine ⟨_, rfl, z, rfl, fun D hD => ?_⟩
  refine lc_grow walk_str (fun _ H' => Same H H') (fun _ y _ => y = .bl true) (by have := hz.1.2; show z.length ≤ 1000; omega) (fun i H' ys k => same_mut k hD _) (fun _ _ _ _ h => h) (.refl H) (fun _ _ _ _ => trivial) ?_ ?_
  · rintro i x H1 H2 hi s1 hD1 ⟨rfl, c, hc, rfl⟩ K Z k
    have hc' := hz.2 c (List.mem_of_getElem? (by rw [← hc, ← Array.getElem?_toList]))
    refine ⟨rfl, ?_⟩
    dsimp only [tYes]
    try rw [if_pos rfl]
    refine ⟨_, rfl, _, _, rfl, rfl, _, rfl, ifT (le1 (a := 97) (b := c) hc'.1) ?_⟩
    refine ⟨_, _, rfl, rfl, k _ _ rfl s1 ?_ (fun _ _ h => h)⟩
    exact congrArg V.bl (le1 (a := c) (b := 122) hc'.2)
  · intro H1 ys s1 hD1 hl hy
    refine ⟨D, _, rfl, SqL.of (by rw [hD1, ← all_yes hy]), ?_⟩
    rw [rep_all]
    exact q _ s1
end
end K87
namespace K87
open PySem L2 TL SX PySem.Spec PyProof.Rows
section
variable {P : Program} {w : World} {K : PySem.W.Frag} {mg : Str → Option Value} {base : Heap}
/-- a promise that asks what never is -/
theorem Df.no {x : Str} {st : Stmt} {N ps : List Str} {k : Nat} {sp : Sp} (D : Df K mg x st) (h : ∀ vs H Q E, ¬ sp vs H Q E)
    (hb : ∀ (kV doc pm : Value) (an : Option Addr) (cdv ct : Value) (us : List Value), us.length = ps.length → bindArgs (PySem.W.fnOf x x (defArgs st) (defBody st) (defScope st) .none kV doc pm an cdv ct) ⟨us, []⟩ = pure (ps.zip us)) : Ok P w K mg base k x ps sp := by
  obtain ⟨fd, F⟩ := D.ex
  exact ⟨⟨fd, ⟨fun vs H Q E q => absurd q (h vs H Q E), fun A outer s H args us vs Q E _ _ _ _ q => absurd q (h vs H Q E)⟩, F.bindsN hb⟩, F.kp, D.m⟩
theorem same_lock {H H' : Hp} {a : Addr} {o : Obj} {u : HO} (s : Same (upd H a (.frz o u)) H') (h : H a = some u) : Same H (upd H' a u) := fun b v q => by
  by_cases e : b = a
  · subst e
    rw [upd_same, ← h, q]
  · rw [upd_ne e]
    exact s b v (by rw [upd_ne e]; exact q)
theorem same_frz {H H' : Hp} {a : Addr} {o : Obj} {u : HO} (s : Same (upd H a (.frz o u)) H') : ∀ b v, b ≠ a → H b = some v → H' b = some v := fun b v e q => s b v (by rw [upd_ne e]; exact q)
theorem kit3 {a : String} (h : kitB a "bool" = some true ∨ (kitB a "bool" = some false ∧ (kitB a "int" = some true ∨ (kitB a "int" = some false ∧ kitB a "str" = some true)))) : PySem.W.kitAny K (.type a) [.type "bool", .type "int", .type "str"] = some true := by
  rcases h with h | ⟨h, h2 | ⟨h2, h3⟩⟩
  · exact kitAny_cons (kit_ty h) (fun e => by cases e) fun _ => rfl
  · exact kitAny_cons (kit_ty h) (fun _ => kitAny_cons (kit_ty h2) (fun e => by cases e) fun _ => rfl) fun e => by cases e
  · exact kitAny_cons (kit_ty h) (fun _ => kitAny_cons (kit_ty h2) (fun _ => kitAny_cons (kit_ty h3) (fun e => by cases e) fun _ => rfl) fun e => by cases e) fun e => by cases e
theorem kit3_bool : PySem.W.kitAny K (.type "bool") [.type "bool", .type "int", .type "str"] = some true := kit3 (.inl (by decide +kernel))
theorem kit3_int : PySem.W.kitAny K (.type "int") [.type "bool", .type "int", .type "str"] = some true := kit3 (.inr ⟨by decide +kernel, .inl (by decide +kernel)⟩)
theorem kit3_str : PySem.W.kitAny K (.type "str") [.type "bool", .type "int", .type "str"] = some true := kit3 (.inr ⟨by decide +kernel, .inr ⟨by decide +kernel, by decide +kernel⟩⟩)
def spIsDoc (m : Nat) : Sp := fun vs H Q _ => ∃ (v : V) (n : Nat) (d : Doc) (ok : Addr → Prop), vs = [v] ∧ m = n + 1 ∧ DocAt H ok v d ∧ Wf n d ∧ ∀ H', Same H H' → Q (.bl true) H'
theorem ok_is_document (T : Txt K mg) : ∀ m, Ok P w K mg base (m + 1) "is_document" p_is_document (spIsDoc m)
  | 0 => T.D_is_document.no (N := N_is_document) (fun vs H Q E ⟨_, _, _, _, _, e, _⟩ => by omega) (fun _ _ _ _ _ _ us hl => match us, hl with | [_], _ => rfl)
  | m + 1 => by
    have G_is_document := ok_is_document T m
    have G_is_name : Ok P w K mg base (m + 1) "is_name" p_is_name spName := (ok_is_name T).mono (by omega)
    refine T.D_is_document.ok sc_is_document (fun vs H Q E h => ?_) (fun _ _ _ _ _ _ us hl => match us, hl with | [_], _ => rfl) (fun f cdv A outer s H vs Q E hr h => ?_)
    · obtain ⟨v, _, _, _, rfl, _⟩ := h
      rfl
    obtain ⟨v, n, d, ok, rfl, em, hd, hw, q⟩ := h
    obtain rfl : m = n := by omega
    refine ⟨_, (pss_cons (ps_if (pt_val (pe_callB call_isi (by rfl) T.b_isinstance (by decide +kernel) (pa_cons (pv 0) (pa_cons (pe_bltn (v := .ty "list") (u := .type "list") (by rfl) T.b_list (by decide +kernel) rfl) pa_nil))))
  (pss_one (ps_ret (pe_callB (cr_all rfl) (by rfl) T.b_all (by decide +kernel) (pa_cons (pe_lc (own := [("part", 1)]) (g := (gName 1)) (tt := tYes) rfl sc_is_document.nd (pi_list (pv 0)) (blkOk_by (N := N_is_document) (sc := defScope s_is_document) (by decide +kernel)) (fun _ _ _ _ _ => (pg_name (i := 1) sc_is_document.nd rfl (Or.inl rfl))) (fun _ _ _ _ _ => pts_nil) (fun _ _ _ _ _ => (pe_callO G_is_document (hr.mono (by omega)) (pa_cons (pv 1) pa_nil)))) pa_nil))))
  pss_nil)
  (pss_cons (ps_if (pt_val (pe_callB call_isi (by rfl) T.b_isinstance (by decide +kernel) (pa_cons (pv 0) (pa_cons (pe_bltn (v := .ty "dict") (u := .type "dict") (by rfl) T.b_dict (by decide +kernel) rfl) pa_nil))))
  (pss_one (ps_ret (pe_callB (cr_all rfl) (by rfl) T.b_all (by decide +kernel) (pa_cons (pe_lock (pe_lc (own := [("field", 2), ("part", 1)]) (g := (gTup K 2 (gCons (gName 2) (gCons (gName 1) gNil)))) (tt := tYes) rfl sc_is_document.nd (pi_items (pv 0)) (blkOk_by (N := N_is_document) (sc := defScope s_is_document) (by decide +kernel)) (fun _ _ _ _ _ => (pg_tup rfl (pgs_cons (pg_name (i := 2) sc_is_document.nd rfl (Or.inl rfl)) (pgs_cons (pg_name (i := 1) sc_is_document.nd rfl (Or.inl rfl)) pgs_nil)))) (fun _ _ _ _ _ => pts_nil) (fun _ _ _ _ _ => (pe_and (pe_callO G_is_name (hr.mono (by omega)) (pa_cons (pv 2) pa_nil)) (pe_one (pe_callO G_is_document (hr.mono (by omega)) (pa_cons (pv 1) pa_nil))))))) pa_nil))))
  pss_nil)
  (pss_one (ps_ret (pe_or (pe_cmpR op_isN (pv 0) pe_non (nomark _)) (pe_one (pe_callB call_isiT (by rfl) T.b_isinstance (by decide +kernel) (pa_cons (pv 0) (pa_cons (pe_tup (pa_cons (pe_bltn (v := .ty "bool") (u := .type "bool") (by rfl) T.b_bool (by decide +kernel) rfl) (pa_cons (pe_bltn (v := .ty "int") (u := .type "int") (by rfl) T.b_int (by decide +kernel) rfl) (pa_cons (pe_bltn (v := .ty "str") (u := .type "str") (by rfl) T.b_str (by decide +kernel) rfl) pa_nil)))) pa_nil))))))))), ?_⟩
    cases d with
    | list ds =>
      refine ⟨_, rfl, _, _, _, _, true, rfl, .ty _, docTy (d := .list ds) (hd), kit_ty (by simp only [tyName]; decide +kernel), _, rfl, ?_⟩
      refine ifT rfl ?_
      obtain ⟨a, vs, rfl, oa, ha, hs⟩ := hd
      refine ⟨_, rfl, a, rfl, ⟨_, SqL.of ha⟩, fun D hD => ?_⟩
      have hl := docs_len hs
      refine lc_grow walk_list (fun _ H' => Same H H') (fun _ y _ => y = .bl true) (by rw [hl]; exact Nat.le_trans hw.2.1 (by decide)) (fun i H' ys k => same_mut k hD _) (fun _ _ _ _ h => h) (.refl H) (fun _ _ _ k => SqL.of (k _ _ ha)) ?_ ?_
      · rintro i x H1 H2 hi s1 hD1 ⟨rfl, hx⟩ C Z k
        refine ⟨rfl, ?_⟩
        dsimp only [tYes]
        try rw [if_pos rfl]
        obtain ⟨e, he, hda⟩ := docs_at hs hx
        have we := wfs_iff.mp hw.2.2 e (List.mem_of_getElem? he)
        have h1 := hw.1
        refine ⟨_, rfl, x, m - 1, e, _, rfl, by omega, doc_same s1 hda, we, fun H3 s3 => ?_⟩
        obtain ⟨zs, hD1⟩ := hD1
        exact k _ _ (by rw [s3 _ _ hD1, hD1]) (s1.trans s3) rfl (fun _ _ h => h)
      · intro H1 ys s1 hD1 hl2 hy
        refine ⟨D, _, rfl, SqL.of (by rw [hD1, ← all_yes hy]), ?_⟩
        rw [rep_all]
        exact q _ s1
    | dict fs =>
      refine ⟨_, rfl, _, _, _, _, false, rfl, .ty _, docTy (d := .dict fs) (hd), kit_ty (by simp only [tyName]; decide +kernel), _, rfl, ?_⟩
      refine ifF rfl ?_
      refine ⟨_, rfl, _, _, _, _, true, rfl, .ty _, docTy (d := .dict fs) (hd), kit_ty (by simp only [tyName]; decide +kernel), _, rfl, ?_⟩
      refine ifT rfl ?_
      obtain ⟨a, rs, rfl, oa, ha, hs⟩ := hd
      refine ⟨a, _, ha, trivial, fun od => ?_⟩
      refine ⟨_, rfl, a, od, rs, rfl, upd_same, fun D hD => ?_⟩
      have hl := flds_len hs
      have hDa : D ≠ a := fun e => by rw [e, upd_same] at hD; cases hD
      refine lc_grow walk_items (fun _ H' => Same (upd H a (.frz od (.dK rs))) H') (fun _ y _ => y = .bl true) (by rw [hl]; exact Nat.le_trans hw.2.1 (by decide)) (fun i H' ys k => same_mut k hD _) (fun _ _ _ _ h => h) (.refl _) (fun _ _ _ k => k _ _ upd_same) ?_ ?_
      · rintro i x H1 H2 hi s1 ⟨zs, hD1⟩ ⟨U, kx, y, rfl, hU, rfl, hkx, hy⟩ C Z k
        have hi2 : i < rs.length := hi
        have er : rs[i]? = some (rs[i].1, rs[i].2) := by rw [List.getElem?_eq_getElem hi2]
        obtain ⟨f', e, hk, he, hda⟩ := flds_at hs er
        have hkx2 : kx = .str f' := by
          have z : (rs[i]?).map (fun kv => kV kv.1) = some kx := hkx
          rw [er, hk] at z
          exact (Option.some.inj z).symm
        have hy2 : y = rs[i].2 := by
          have z : (rs[i]?).map Prod.snd = some y := hy
          rw [er] at z
          exact (Option.some.inj z).symm
        subst hkx2 hy2
        obtain ⟨w1, w2⟩ := wff_iff.mp hw.2.2.2 (f', e) (List.mem_of_getElem? he)
        have sU : Same H1 (upd H1 U (.tup [.str f', rs[i].2])) := same_new hU _
        refine ⟨U, _, rfl, SqT.of upd_same, rfl, _, _, rfl, _, _, rfl, rfl, rfl, ?_⟩
        dsimp only [tYes]
        try rw [if_pos rfl]
        refine ⟨_, rfl, f', rfl, w1, fun H3 s3 => ⟨true, rfl, ifT rfl ?_⟩⟩
        have h1 := hw.1
        refine ⟨_, rfl, _, m - 1, e, fun b => ok b ∧ b ≠ a, rfl, by omega, ?_, w2, fun H4 s4 => ?_⟩
        · exact doc_frame e (fun b o p z => s3 _ _ (sU _ _ (same_frz s1 b o p.2 z))) (fun _ p => p) hda
        · exact k _ _ (by rw [s4 _ _ (s3 _ _ (sU _ _ hD1)), hD1]) (s1.trans (sU.trans (s3.trans s4))) rfl (fun _ _ h => h)
      · intro H1 ys s1 hD1 hl2 hy
        refine ⟨s1 _ _ upd_same, D, _, rfl, SqL.of (by rw [upd_ne hDa, hD1, ← all_yes hy]), ?_⟩
        rw [rep_all]
        exact q _ (same_lock s1 ha)
    | non =>
      refine ⟨_, rfl, _, _, _, _, false, rfl, .ty _, docTy (d := .non) (hd), kit_ty (by simp only [tyName]; decide +kernel), _, rfl, ?_⟩
      refine ifF rfl ?_
      refine ⟨_, rfl, _, _, _, _, false, rfl, .ty _, docTy (d := .non) (hd), kit_ty (by simp only [tyName]; decide +kernel), _, rfl, ?_⟩
      refine ifF rfl ?_
      obtain rfl : v = .non := hd
      exact ⟨_, rfl, rfl, _, rfl, ifT rfl (q _ (.refl H))⟩
    | bl b =>
      refine ⟨_, rfl, _, _, _, _, false, rfl, .ty _, docTy (d := .bl b) (hd), kit_ty (by simp only [tyName]; decide +kernel), _, rfl, ?_⟩
      refine ifF rfl ?_
      refine ⟨_, rfl, _, _, _, _, false, rfl, .ty _, docTy (d := .bl b) (hd), kit_ty (by simp only [tyName]; decide +kernel), _, rfl, ?_⟩
      refine ifF rfl ?_
      obtain rfl : v = .bl b := hd
      refine ⟨_, rfl, rfl, _, rfl, ifF rfl ⟨_, rfl, by show 3 ≤ sizeLine; decide, fun p hp => ?_⟩⟩
      exact ⟨_, p, _, _, _, true, rfl, upd_same, .cons (.ty _) (.cons (.ty _) (.cons (.ty _) .nil)), .base (.bl b), kit3_bool, q _ (same_new hp _)⟩
    | int i =>
      refine ⟨_, rfl, _, _, _, _, false, rfl, .ty _, docTy (d := .int i) (hd), kit_ty (by simp only [tyName]; decide +kernel), _, rfl, ?_⟩
      refine ifF rfl ?_
      refine ⟨_, rfl, _, _, _, _, false, rfl, .ty _, docTy (d := .int i) (hd), kit_ty (by simp only [tyName]; decide +kernel), _, rfl, ?_⟩
      refine ifF rfl ?_
      obtain rfl : v = .int i := hd
      refine ⟨_, rfl, rfl, _, rfl, ifF rfl ⟨_, rfl, by show 3 ≤ sizeLine; decide, fun p hp => ?_⟩⟩
      exact ⟨_, p, _, _, _, true, rfl, upd_same, .cons (.ty _) (.cons (.ty _) (.cons (.ty _) .nil)), .base (.int i), kit3_int, q _ (same_new hp _)⟩
    | str z =>
      refine ⟨_, rfl, _, _, _, _, false, rfl, .ty _, docTy (d := .str z) (hd), kit_ty (by simp only [tyName]; decide +kernel), _, rfl, ?_⟩
      refine ifF rfl ?_
      refine ⟨_, rfl, _, _, _, _, false, rfl, .ty _, docTy (d := .str z) (hd), kit_ty (by simp only [tyName]; decide +kernel), _, rfl, ?_⟩
      refine ifF rfl ?_
      obtain rfl : v = .str z := hd
      refine ⟨_, rfl, rfl, _, rfl, ifF rfl ⟨_, rfl, by show 3 ≤ sizeLine; decide, fun p hp => ?_⟩⟩
      exact ⟨_, p, _, _, _, true, rfl, upd_same, .cons (.ty _) (.cons (.ty _) (.cons (.ty _) .nil)), .base (.str z), kit3_str, q _ (same_new hp _)⟩
/-- check_document lets it pass -/
def spCheck (m : Nat) : Sp := fun vs H Q _ => ∃ (v : V) (n : Nat) (d : Doc) (ok : Addr → Prop), vs = [v] ∧ m = n + 1 ∧ DocAt H ok v d ∧ Wf n d ∧ ∀ H', Same H H' → Q .non H'
theorem ok_check_document (T : Txt K mg) (m : Nat) : Ok P w K mg base (m + 2) "check_document" p_check_document (spCheck m) := by
  have G_is_document : Ok P w K mg base (m + 1) "is_document" p_is_document (spIsDoc m) := ok_is_document T m
  refine T.D_check_document.ok sc_check_document (fun vs H Q E h => ?_) (fun _ _ _ _ _ _ us hl => match us, hl with | [_], _ => rfl) (fun f cdv A outer s H vs Q E hr h => ?_)
  · obtain ⟨v, _, _, _, rfl, _⟩ := h
    rfl
  obtain ⟨v, n, d, ok, rfl, em, hd, hw, q⟩ := h
  refine ⟨_, (pss_one (ps_if (pt_not (pt_val (pe_callO G_is_document (hr.mono (by omega)) (pa_cons (pv 0) pa_nil))))
  (pss_one ps_never)
  pss_nil)), ?_⟩
  exact ⟨_, rfl, v, n, d, ok, rfl, em, hd, hw, fun H1 s1 => ⟨_, rfl, ifN rfl (q H1 s1)⟩⟩
end
end K87
namespace K87
open PySem L2 TL SX PySem.Spec PyProof.Rows
/-! the same document, its fields in whatever sequence -/
mutual
def Eqv : Doc → Doc → Prop
  | .non, e => e = .non
  | .bl b, e => e = .bl b
  | .int i, e => e = .int i
  | .str s, e => e = .str s
  | .list ds, e => ∃ es, e = .list es ∧ Eqvs ds es
  | .dict fs, e => ∃ gs, e = .dict gs ∧ fs.length = gs.length ∧ Eqvf fs gs
def Eqvs : List Doc → List Doc → Prop
  | [], es => es = []
  | d :: ds, es => ∃ e r, es = e :: r ∧ Eqv d e ∧ Eqvs ds r
def Eqvf : List (Str × Doc) → List (Str × Doc) → Prop
  | [], _ => True
  | (f, d) :: fs, gs => (∃ e, look gs f = some e ∧ Eqv d e) ∧ Eqvf fs gs
end
theorem eqvs_of : ∀ {ds es : List Doc}, ds.length = es.length → (∀ (i : Nat) (d e : Doc), ds[i]? = some d → es[i]? = some e → Eqv d e) → Eqvs ds es
  | [], [], _, _ => rfl
  | [], _ :: _, h, _ => by simp at h
  | _ :: _, [], h, _ => by simp at h
  | d :: ds, e :: es, h, k => ⟨e, es, rfl, k 0 d e rfl rfl, eqvs_of (by simpa using h) fun i x y hx hy => k (i + 1) x y hx hy⟩
theorem eqvs_len : ∀ {ds es : List Doc}, Eqvs ds es → ds.length = es.length
  | [], _, h => by rw [show _ = [] from h]
  | d :: ds, _, ⟨e, r, q, _, h⟩ => by rw [q, List.length_cons, List.length_cons, eqvs_len h]
theorem eqvs_at : ∀ {ds es : List Doc} {i : Nat} {d : Doc}, Eqvs ds es → ds[i]? = some d → ∃ e, es[i]? = some e ∧ Eqv d e
  | d :: ds, _, 0, _, ⟨e, r, q, h, _⟩, k => by cases k; exact ⟨e, by rw [q]; rfl, h⟩
  | d :: ds, _, i + 1, _, ⟨e, r, q, _, h⟩, k => by
    obtain ⟨x, hx, y⟩ := eqvs_at (i := i) h k
    exact ⟨x, by rw [q]; exact hx, y⟩
theorem eqvf_of : ∀ {fs gs : List (Str × Doc)}, (∀ p ∈ fs, ∃ e, look gs p.1 = some e ∧ Eqv p.2 e) → Eqvf fs gs
  | [], _, _ => trivial
  | (f, d) :: fs, gs, h => ⟨h (f, d) (by simp), eqvf_of fun p hp => h p (List.mem_cons_of_mem _ hp)⟩
theorem eqvf_at : ∀ {fs gs : List (Str × Doc)} {f : Str} {d : Doc}, Eqvf fs gs → (f, d) ∈ fs → ∃ e, look gs f = some e ∧ Eqv d e
  | (g, c) :: fs, gs, f, d, ⟨h1, h2⟩, m => by
    rcases List.mem_cons.mp m with e | e
    · cases e
      exact h1
    · exact eqvf_at h2 e
section
variable {P : Program} {w : World} {K : PySem.W.Frag} {mg : Str → Option Value} {base : Heap}
def spSame (m : Nat) : Sp := fun vs H Q _ => ∃ (v u : V) (n : Nat) (d e : Doc) (ok ok2 : Addr → Prop), vs = [v, u] ∧ m = n + 1 ∧ DocAt H ok v d ∧ DocAt H ok2 u e ∧ (∀ b, ok b → ¬ ok2 b) ∧ Wf n d ∧ Wf n e ∧ Eqv d e ∧ ∀ H', Same H H' → Q (.bl true) H'
theorem ok_are_same (T : Txt K mg) : ∀ m, Ok P w K mg base (m + 1) "are_same" p_are_same (spSame m)
  | 0 => T.D_are_same.no (N := N_are_same) (fun vs H Q E ⟨_, _, _, _, _, _, _, _, e, _⟩ => by omega) (fun _ _ _ _ _ _ us hl => match us, hl with | [_, _], _ => rfl)
  | m + 1 => by
    have G_are_same := ok_are_same T m
    refine T.D_are_same.ok sc_are_same (fun vs H Q E h => ?_) (fun _ _ _ _ _ _ us hl => match us, hl with | [_, _], _ => rfl) (fun f cdv A outer s H vs Q E hr h => ?_)
    · obtain ⟨v, u, _, _, _, _, _, rfl, _⟩ := h
      rfl
    obtain ⟨v, u, n, d, e, ok, ok2, rfl, em, hd, he, dis, hw, hv, hq, q⟩ := h
    obtain rfl : m = n := by omega
    have hu := hu_of hr
    refine ⟨_, (pss_cons (ps_if (PW.pt (pw_or (pt_val (pe_callB call_isi (by rfl) T.b_isinstance (by decide +kernel) (pa_cons (pv 0) (pa_cons (pe_bltn (v := .ty "list") (u := .type "list") (by rfl) T.b_list (by decide +kernel) rfl) pa_nil)))) (pw_or1 (pt_val (pe_callB call_isi (by rfl) T.b_isinstance (by decide +kernel) (pa_cons (pv 1) (pa_cons (pe_bltn (v := .ty "list") (u := .type "list") (by rfl) T.b_list (by decide +kernel) rfl) pa_nil)))))))
  (pss_cons (ps_if (PW.pt (pw_or (pt_not (pt_val (pe_callB call_isi (by rfl) T.b_isinstance (by decide +kernel) (pa_cons (pv 0) (pa_cons (pe_bltn (v := .ty "list") (u := .type "list") (by rfl) T.b_list (by decide +kernel) rfl) pa_nil))))) (pw_or (pt_not (pt_val (pe_callB call_isi (by rfl) T.b_isinstance (by decide +kernel) (pa_cons (pv 1) (pa_cons (pe_bltn (v := .ty "list") (u := .type "list") (by rfl) T.b_list (by decide +kernel) rfl) pa_nil))))) (pw_or1 (pt_cmpR op_ne (pe_callB call_len_seq (by rfl) T.b_len (by decide +kernel) (pa_cons (pv 0) pa_nil)) (pe_callB call_len_seq (by rfl) T.b_len (by decide +kernel) (pa_cons (pv 1) pa_nil)) (nomark _))))))
  (pss_one (ps_ret pe_bl))
  pss_nil)
  (pss_one (ps_ret (pe_callB (cr_all rfl) (by rfl) T.b_all (by decide +kernel) (pa_cons (pe_lc (own := [("part", 2), ("twin", 3)]) (g := (gTup K 2 (gCons (gName 2) (gCons (gName 3) gNil)))) (tt := tYes) rfl sc_are_same.nd (pi_zip (by rfl) T.b_zip (pa_cons (pv 0) (pa_cons (pv 1) pa_nil))) (blkOk_by (N := N_are_same) (sc := defScope s_are_same) (by decide +kernel)) (fun _ _ _ _ _ => (pg_tup rfl (pgs_cons (pg_name (i := 2) sc_are_same.nd rfl (Or.inl rfl)) (pgs_cons (pg_name (i := 3) sc_are_same.nd rfl (Or.inl rfl)) pgs_nil)))) (fun _ _ _ _ _ => pts_nil) (fun _ _ _ _ _ => (pe_callO G_are_same (hr.mono (by omega)) (pa_cons (pv 2) (pa_cons (pv 3) pa_nil))))) pa_nil)))))
  pss_nil)
  (pss_cons (ps_if (PW.pt (pw_or (pt_val (pe_callB call_isi (by rfl) T.b_isinstance (by decide +kernel) (pa_cons (pv 0) (pa_cons (pe_bltn (v := .ty "dict") (u := .type "dict") (by rfl) T.b_dict (by decide +kernel) rfl) pa_nil)))) (pw_or1 (pt_val (pe_callB call_isi (by rfl) T.b_isinstance (by decide +kernel) (pa_cons (pv 1) (pa_cons (pe_bltn (v := .ty "dict") (u := .type "dict") (by rfl) T.b_dict (by decide +kernel) rfl) pa_nil)))))))
  (pss_cons (ps_if (PW.pt (pw_or (pt_not (pt_val (pe_callB call_isi (by rfl) T.b_isinstance (by decide +kernel) (pa_cons (pv 0) (pa_cons (pe_bltn (v := .ty "dict") (u := .type "dict") (by rfl) T.b_dict (by decide +kernel) rfl) pa_nil))))) (pw_or (pt_not (pt_val (pe_callB call_isi (by rfl) T.b_isinstance (by decide +kernel) (pa_cons (pv 1) (pa_cons (pe_bltn (v := .ty "dict") (u := .type "dict") (by rfl) T.b_dict (by decide +kernel) rfl) pa_nil))))) (pw_or1 (pt_cmpR op_ne (pe_callB call_lenD (by rfl) T.b_len (by decide +kernel) (pa_cons (pv 0) pa_nil)) (pe_callB call_lenD (by rfl) T.b_len (by decide +kernel) (pa_cons (pv 1) pa_nil)) (nomark _))))))
  (pss_one (ps_ret pe_bl))
  pss_nil)
  (pss_one (ps_ret (pe_callB (cr_all rfl) (by rfl) T.b_all (by decide +kernel) (pa_cons (pe_lock (pe_lc (own := [("field", 4), ("part", 2)]) (g := (gTup K 2 (gCons (gName 4) (gCons (gName 2) gNil)))) (tt := tYes) rfl sc_are_same.nd (pi_items (pv 0)) (blkOk_by (N := N_are_same) (sc := defScope s_are_same) (by decide +kernel)) (fun _ _ _ _ _ => (pg_tup rfl (pgs_cons (pg_name (i := 4) sc_are_same.nd rfl (Or.inl rfl)) (pgs_cons (pg_name (i := 2) sc_are_same.nd rfl (Or.inl rfl)) pgs_nil)))) (fun _ _ _ _ _ => pts_nil) (fun _ _ _ _ _ => (pe_and (pe_cmp (pc_din hu (pv 4) (pv 1)) rfl) (pe_one (pe_callO G_are_same (hr.mono (by omega)) (pa_cons (pv 2) (pa_cons (pe_dget hu (pv 1) (pv 4) (fun _ _ => rfl)) pa_nil)))))))) pa_nil)))))
  pss_nil)
  (pss_one (ps_ret (pe_and (pe_cmpR op_eq (pe_callB call_isi (by rfl) T.b_isinstance (by decide +kernel) (pa_cons (pv 0) (pa_cons (pe_bltn (v := .ty "bool") (u := .type "bool") (by rfl) T.b_bool (by decide +kernel) rfl) pa_nil))) (pe_callB call_isi (by rfl) T.b_isinstance (by decide +kernel) (pa_cons (pv 1) (pa_cons (pe_bltn (v := .ty "bool") (u := .type "bool") (by rfl) T.b_bool (by decide +kernel) rfl) pa_nil))) (nomark _)) (pe_one (pe_cmpR op_eq (pv 0) (pv 1) (nomark _)))))))), ?_⟩
    cases d with
    | list ds =>
      obtain ⟨es, rfl, hq⟩ := hq
      refine ⟨_, rfl, _, _, _, _, true, rfl, .ty _, docTy (d := .list ds) (hd), kit_ty (by simp only [tyName]; decide +kernel), _, rfl, ?_⟩
      refine ifT rfl ?_
      refine ifT rfl ?_
      obtain ⟨a, vs, rfl, oa, ha, hs⟩ := id hd
      obtain ⟨b, ws, rfl, ob, hb, hs2⟩ := id he
      have l1 := docs_len hs
      have l2 := docs_len hs2
      have l3 := eqvs_len hq
      refine ⟨_, rfl, _, _, _, _, true, rfl, .ty _, docTy (d := .list ds) (hd), kit_ty (by simp only [tyName]; decide +kernel), _, rfl, ?_⟩
      refine ifN rfl ?_
      refine ⟨_, rfl, _, _, _, _, true, rfl, .ty _, docTy (d := .list es) (he), kit_ty (by simp only [tyName]; decide +kernel), _, rfl, ?_⟩
      refine ifN rfl ?_
      refine ⟨_, rfl, a, _, rfl, .inl (SqL.of ha), _, rfl, b, _, rfl, .inl (SqL.of hb), rfl, _, rfl, ?_⟩
      refine ifN (decide_eq_true (by rw [l1, l2, l3])) ?_
      refine ⟨_, rfl, _, rfl, a, b, vs, ws, rfl, SqL.of ha, SqL.of hb, fun D hD => ?_⟩
      refine lc_grow (walk_zip (n := ds.length) (by rw [l1, l2, l3, Nat.min_self])) (fun _ H' => Same H H') (fun _ y _ => y = .bl true) (Nat.le_trans hw.2.1 (by decide)) (fun i H' ys k => same_mut k hD _) (fun _ _ _ _ h => h) (.refl H) (fun _ _ _ k => ⟨SqL.of (k _ _ ha), SqL.of (k _ _ hb)⟩) ?_ ?_
      · rintro i x H1 H2 hi s1 ⟨zs, hD1⟩ ⟨U, x1, x2, rfl, hU, rfl, h1, h2⟩ C Z k
        have sU : Same H1 (upd H1 U (.tup [x1, x2])) := same_new hU _
        refine ⟨U, _, rfl, SqT.of upd_same, rfl, _, _, rfl, _, _, rfl, rfl, rfl, ?_⟩
        dsimp only [tYes]
        try rw [if_pos rfl]
        obtain ⟨d1, k1, g1⟩ := docs_at hs h1
        obtain ⟨e1, k2, g2⟩ := docs_at hs2 h2
        obtain ⟨e2, k3, g3⟩ := eqvs_at hq k1
        obtain rfl : e1 = e2 := by rw [k2] at k3; exact Option.some.inj k3
        have w0 := hw.1
        refine ⟨_, rfl, _, rfl, _, _, m - 1, d1, e1, _, _, rfl, by omega, doc_same (s1.trans sU) g1, doc_same (s1.trans sU) g2, fun c p q => dis c p.1 q.1, wfs_iff.mp hw.2.2 _ (List.mem_of_getElem? k1), wfs_iff.mp hv.2.2 _ (List.mem_of_getElem? k2), g3, fun H3 s3 => ?_⟩
        exact k _ _ (by rw [s3 _ _ (sU _ _ hD1), hD1]) (s1.trans (sU.trans s3)) rfl (fun _ _ h => h)
      · intro H1 ys s1 hD1 hl hy
        refine ⟨D, _, rfl, SqL.of (by rw [hD1, ← all_yes hy]), ?_⟩
        rw [rep_all]
        exact q _ s1
    | dict fs =>
      obtain ⟨gs, rfl, hlen, hq⟩ := hq
      refine ⟨_, rfl, _, _, _, _, false, rfl, .ty _, docTy (d := .dict fs) (hd), kit_ty (by simp only [tyName]; decide +kernel), _, rfl, ?_⟩
      refine ifF rfl ?_
      refine ⟨_, rfl, _, _, _, _, false, rfl, .ty _, docTy (d := .dict gs) (he), kit_ty (by simp only [tyName]; decide +kernel), _, rfl, ?_⟩
      refine ifF rfl ?_
      refine ⟨_, rfl, _, _, _, _, true, rfl, .ty _, docTy (d := .dict fs) (hd), kit_ty (by simp only [tyName]; decide +kernel), _, rfl, ?_⟩
      refine ifT rfl ?_
      refine ifT rfl ?_
      obtain ⟨a, rs, rfl, oa, ha, hs⟩ := id hd
      obtain ⟨b, ts, rfl, ob, hb, hs2⟩ := id he
      have l1 := flds_len hs
      have l2 := flds_len hs2
      refine ⟨_, rfl, _, _, _, _, true, rfl, .ty _, docTy (d := .dict fs) (hd), kit_ty (by simp only [tyName]; decide +kernel), _, rfl, ?_⟩
      refine ifN rfl ?_
      refine ⟨_, rfl, _, _, _, _, true, rfl, .ty _, docTy (d := .dict gs) (he), kit_ty (by simp only [tyName]; decide +kernel), _, rfl, ?_⟩
      refine ifN rfl ?_
      refine ⟨_, rfl, a, rs, rfl, ha, _, rfl, b, ts, rfl, hb, rfl, _, rfl, ?_⟩
      refine ifN (decide_eq_true (by rw [l1, l2, hlen])) ?_
      have nab : b ≠ a := fun z => dis a oa (z ▸ ob)
      refine ⟨a, _, ha, trivial, fun od => ?_⟩
      refine ⟨_, rfl, a, od, rs, rfl, upd_same, fun D hD => ?_⟩
      have hDa : D ≠ a := fun e => by rw [e, upd_same] at hD; cases hD
      refine lc_grow walk_items (fun _ H' => Same (upd H a (.frz od (.dK rs))) H') (fun _ y _ => y = .bl true) (by rw [l1]; exact Nat.le_trans hw.2.1 (by decide)) (fun i H' ys k => same_mut k hD _) (fun _ _ _ _ h => h) (.refl _) (fun _ _ _ k => k _ _ upd_same) ?_ ?_
      · rintro i x H1 H2 hi s1 ⟨zs, hD1⟩ ⟨U, kx, y, rfl, hU, rfl, hkx, hy⟩ C Z k
        have hi2 : i < rs.length := hi
        have er : rs[i]? = some (rs[i].1, rs[i].2) := by rw [List.getElem?_eq_getElem hi2]
        obtain ⟨f', d1, hk, k1, g1⟩ := flds_at hs er
        have hkx2 : kx = .str f' := by
          have z : (rs[i]?).map (fun kv => kV kv.1) = some kx := hkx
          rw [er, hk] at z
          exact (Option.some.inj z).symm
        have hy2 : y = rs[i].2 := by
          have z : (rs[i]?).map Prod.snd = some y := hy
          rw [er] at z
          exact (Option.some.inj z).symm
        subst hkx2 hy2
        have sU : Same H1 (upd H1 U (.tup [.str f', rs[i].2])) := same_new hU _
        refine ⟨U, _, rfl, SqT.of upd_same, rfl, _, _, rfl, _, _, rfl, rfl, rfl, ?_⟩
        dsimp only [tYes]
        try rw [if_pos rfl]
        have m1 := List.mem_of_getElem? k1
        obtain ⟨e1, k2, g3⟩ := eqvf_at hq m1
        obtain ⟨u1, k3, g2⟩ := flds_look hs2 k2
        have hb2 : upd H1 U (.tup [.str f', rs[i].2]) b = some (.dK ts) := sU _ _ (same_frz s1 _ _ nab hb)
        have gk : DGet (upd H1 U (.tup [.str f', rs[i].2])) b (.str f') (some u1) := by
          rw [← k3]
          exact DGet.k (k := Sum.inr f') hb2
        have w0 := hw.1
        refine ⟨_, rfl, _, rfl, b, _, rfl, gk, true, rfl, ifT rfl ?_⟩
        refine ⟨_, rfl, _, rfl, _, rfl, b, u1, rfl, gk, _, _, m - 1, d1, e1, fun c => ok c ∧ c ≠ a, fun c => ok2 c ∧ c ≠ b, rfl, by omega, ?_, ?_, fun c p q => dis c p.1 q.1, (wff_iff.mp hw.2.2.2 _ m1).2, (wff_iff.mp hv.2.2.2 _ (look_of k2)).2, g3, fun H4 s4 => ?_⟩
        · exact doc_frame d1 (fun b o p z => sU _ _ (same_frz s1 b o p.2 z)) (fun _ p => p) g1
        · exact doc_frame e1 (fun c o p z => sU _ _ (same_frz s1 c o (fun h => dis a oa (h ▸ p.1)) z)) (fun _ p => p) g2
        · exact k _ _ (by rw [s4 _ _ (sU _ _ hD1), hD1]) (s1.trans (sU.trans s4)) rfl (fun _ _ h => h)
      · intro H1 ys s1 hD1 hl2 hy
        refine ⟨s1 _ _ upd_same, D, _, rfl, SqL.of (by rw [upd_ne hDa, hD1, ← all_yes hy]), ?_⟩
        rw [rep_all]
        exact q _ (same_lock s1 ha)
    | non =>
      obtain rfl : e = .non := hq
      obtain rfl : v = V.non := hd
      obtain rfl : u = V.non := he
      have hd : DocAt H ok (V.non) (.non) := rfl
      refine ⟨_, rfl, _, _, _, _, false, rfl, .ty _, docTy (d := .non) (hd), kit_ty (by simp only [tyName]; decide +kernel), _, rfl, ?_⟩
      refine ifF rfl ?_
      refine ⟨_, rfl, _, _, _, _, false, rfl, .ty _, docTy (d := .non) (hd), kit_ty (by simp only [tyName]; decide +kernel), _, rfl, ?_⟩
      refine ifF rfl ?_
      refine ⟨_, rfl, _, _, _, _, false, rfl, .ty _, docTy (d := .non) (hd), kit_ty (by simp only [tyName]; decide +kernel), _, rfl, ?_⟩
      refine ifF rfl ?_
      refine ⟨_, rfl, _, _, _, _, false, rfl, .ty _, docTy (d := .non) (hd), kit_ty (by simp only [tyName]; decide +kernel), _, rfl, ?_⟩
      refine ifF rfl ?_
      refine ⟨_, rfl, _, _, _, _, false, rfl, .ty _, docTy (d := .non) (hd), kit_ty (by simp only [tyName]; decide +kernel), _, rfl, _, _, _, _, false, rfl, .ty _, docTy (d := .non) (hd), kit_ty (by simp only [tyName]; decide +kernel), rfl, _, rfl, ?_⟩
      refine ifT rfl ⟨_, rfl, _, rfl, rfl, ?_⟩
      rw [decide_eq_true rfl]
      exact q _ (.refl H)
    | bl b =>
      obtain rfl : e = .bl b := hq
      obtain rfl : v = V.bl b := hd
      obtain rfl : u = V.bl b := he
      have hd : DocAt H ok (V.bl b) (.bl b) := rfl
      refine ⟨_, rfl, _, _, _, _, false, rfl, .ty _, docTy (d := .bl b) (hd), kit_ty (by simp only [tyName]; decide +kernel), _, rfl, ?_⟩
      refine ifF rfl ?_
      refine ⟨_, rfl, _, _, _, _, false, rfl, .ty _, docTy (d := .bl b) (hd), kit_ty (by simp only [tyName]; decide +kernel), _, rfl, ?_⟩
      refine ifF rfl ?_
      refine ⟨_, rfl, _, _, _, _, false, rfl, .ty _, docTy (d := .bl b) (hd), kit_ty (by simp only [tyName]; decide +kernel), _, rfl, ?_⟩
      refine ifF rfl ?_
      refine ⟨_, rfl, _, _, _, _, false, rfl, .ty _, docTy (d := .bl b) (hd), kit_ty (by simp only [tyName]; decide +kernel), _, rfl, ?_⟩
      refine ifF rfl ?_
      refine ⟨_, rfl, _, _, _, _, true, rfl, .ty _, docTy (d := .bl b) (hd), kit_ty (by simp only [tyName]; decide +kernel), _, rfl, _, _, _, _, true, rfl, .ty _, docTy (d := .bl b) (hd), kit_ty (by simp only [tyName]; decide +kernel), rfl, _, rfl, ?_⟩
      refine ifT rfl ⟨_, rfl, _, rfl, rfl, ?_⟩
      rw [decide_eq_true rfl]
      exact q _ (.refl H)
    | int i =>
      obtain rfl : e = .int i := hq
      obtain rfl : v = V.int i := hd
      obtain rfl : u = V.int i := he
      have hd : DocAt H ok (V.int i) (.int i) := rfl
      refine ⟨_, rfl, _, _, _, _, false, rfl, .ty _, docTy (d := .int i) (hd), kit_ty (by simp only [tyName]; decide +kernel), _, rfl, ?_⟩
      refine ifF rfl ?_
      refine ⟨_, rfl, _, _, _, _, false, rfl, .ty _, docTy (d := .int i) (hd), kit_ty (by simp only [tyName]; decide +kernel), _, rfl, ?_⟩
      refine ifF rfl ?_
      refine ⟨_, rfl, _, _, _, _, false, rfl, .ty _, docTy (d := .int i) (hd), kit_ty (by simp only [tyName]; decide +kernel), _, rfl, ?_⟩
      refine ifF rfl ?_
      refine ⟨_, rfl, _, _, _, _, false, rfl, .ty _, docTy (d := .int i) (hd), kit_ty (by simp only [tyName]; decide +kernel), _, rfl, ?_⟩
      refine ifF rfl ?_
      refine ⟨_, rfl, _, _, _, _, false, rfl, .ty _, docTy (d := .int i) (hd), kit_ty (by simp only [tyName]; decide +kernel), _, rfl, _, _, _, _, false, rfl, .ty _, docTy (d := .int i) (hd), kit_ty (by simp only [tyName]; decide +kernel), rfl, _, rfl, ?_⟩
      refine ifT rfl ⟨_, rfl, _, rfl, rfl, ?_⟩
      rw [decide_eq_true rfl]
      exact q _ (.refl H)
    | str z =>
      obtain rfl : e = .str z := hq
      obtain rfl : v = V.str z := hd
      obtain rfl : u = V.str z := he
      have hd : DocAt H ok (V.str z) (.str z) := rfl
      refine ⟨_, rfl, _, _, _, _, false, rfl, .ty _, docTy (d := .str z) (hd), kit_ty (by simp only [tyName]; decide +kernel), _, rfl, ?_⟩
      refine ifF rfl ?_
      refine ⟨_, rfl, _, _, _, _, false, rfl, .ty _, docTy (d := .str z) (hd), kit_ty (by simp only [tyName]; decide +kernel), _, rfl, ?_⟩
      refine ifF rfl ?_
      refine ⟨_, rfl, _, _, _, _, false, rfl, .ty _, docTy (d := .str z) (hd), kit_ty (by simp only [tyName]; decide +kernel), _, rfl, ?_⟩
      refine ifF rfl ?_
      refine ⟨_, rfl, _, _, _, _, false, rfl, .ty _, docTy (d := .str z) (hd), kit_ty (by simp only [tyName]; decide +kernel), _, rfl, ?_⟩
      refine ifF rfl ?_
      refine ⟨_, rfl, _, _, _, _, false, rfl, .ty _, docTy (d := .str z) (hd), kit_ty (by simp only [tyName]; decide +kernel), _, rfl, _, _, _, _, false, rfl, .ty _, docTy (d := .str z) (hd), kit_ty (by simp only [tyName]; decide +kernel), rfl, _, rfl, ?_⟩
      refine ifT rfl ⟨_, rfl, _, rfl, rfl, ?_⟩
      rw [decide_eq_true rfl]
      exact q _ (.refl H)
theorem ok_same (T : Txt K mg) (m : Nat) : Ok P w K mg base (m + 3) "same" p_same (spSame m) := by
  have G_are_same : Ok P w K mg base (m + 2) "are_same" p_are_same (spSame m) := (ok_are_same T m).mono (by omega)
  have G_check_document : Ok P w K mg base (m + 2) "check_document" p_check_document (spCheck m) := ok_check_document T m
  refine T.D_same.ok sc_same (fun vs H Q E h => ?_) (fun _ _ _ _ _ _ us hl => match us, hl with | [_, _], _ => rfl) (fun f cdv A outer s H vs Q E hr h => ?_)
  · obtain ⟨v, u, _, _, _, _, _, rfl, _⟩ := h
    rfl
  obtain ⟨v, u, n, d, e, ok, ok2, rfl, em, hd, he, dis, hw, hv, hq, q⟩ := h
  refine ⟨_, (pss_cons (ps_expr (pe_callO G_check_document (hr.mono (by omega)) (pa_cons (pv 0) pa_nil)))
  (pss_cons (ps_expr (pe_callO G_check_document (hr.mono (by omega)) (pa_cons (pv 1) pa_nil)))
  (pss_one (ps_ret (pe_callO G_are_same (hr.mono (by omega)) (pa_cons (pv 0) (pa_cons (pv 1) pa_nil))))))), ?_⟩
  refine ⟨_, rfl, v, n, d, ok, rfl, em, hd, hw, fun H1 s1 => ?_⟩
  refine ⟨_, rfl, u, n, e, ok2, rfl, em, doc_same s1 he, hv, fun H2 s2 => ?_⟩
  exact ⟨_, rfl, _, rfl, v, u, n, d, e, ok, ok2, rfl, em, doc_same (s1.trans s2) hd, doc_same (s1.trans s2) he, dis, hw, hv, hq, fun H3 s3 => q _ ((s1.trans s2).trans s3)⟩
end
end K87
namespace K87
open PySem L2 TL SX PySem.Spec PyProof.Rows
section
variable {P : Program} {w : World} {K : PySem.W.Frag} {mg : Str → Option Value} {base : Heap}
/-- a text that may be read: not too long -/
def Short (t : Str) : Prop := t.length ≤ 5000
theorem Short.le {t : Str} (h : Short t) : t.length ≤ sizeLine := Nat.le_trans h (by decide)
def spDigits : Sp := fun vs H Q _ => ∃ (t : Str) (p : Nat) (ds rest : List Nat), vs = [.str t, .int (p : Int)] ∧ Short t ∧ p ≤ t.length ∧ (tl t).drop p = ds ++ rest ∧ (∀ c ∈ ds, isDig c) ∧ NoDig rest ∧ Q (.int ((p + ds.length : Nat) : Int)) H
theorem ok_digits_behind (T : Txt K mg) : Ok P w K mg base 1 "digits_behind" p_digits_behind spDigits := by
  refine T.D_digits_behind.ok sc_digits_behind (fun vs H Q E h => ?_) (fun _ _ _ _ _ _ us hl => match us, hl with | [_, _], _ => rfl) (fun f cdv A outer s H vs Q E hr h => ?_)
  · obtain ⟨t, p, _, _, rfl, _⟩ := h
    rfl
  obtain ⟨t, p, ds, rest, rfl, hz, hp, hL, hds, hno, q⟩ := h
  refine ⟨_, (pss_cons (ps_while PassesOwn.never (PW.pt (pw_and (pt_cmpR op_lt (pv 1) (pe_callB call_len_str (by rfl) T.b_len (by decide +kernel) (pa_cons (pv 0) pa_nil)) (nomark _)) (pw_and1 (pt_cmpR op_in_sign (pe_item_str (pv 0) (pv 1) (fun _ _ => rfl)) (pe_gS T.c_DIGITS) (by rfl)))))
  (pss_one (ps_aug (i := 1) sc_digits_behind.nd rfl (.inl rfl) pe_int ip_add)))
  (pss_one (ps_ret (pv 1)))), ?_⟩
  refine ⟨fun n σ H' => ∃ k, k + n = ds.length ∧ σ = [some (.str t), some (.int ((p + k : Nat) : Int))] ∧ H' = H, ⟨ds.length, 0, by omega, rfl, rfl⟩, ?_⟩
  rintro n σ H' ⟨k, hk, rfl, rfl⟩
  have hk2 : (tl t).drop (p + k) = ds.drop k ++ rest := by
    rw [← List.drop_drop, hL, List.drop_append_of_le_length (by omega)]
  refine ⟨_, rfl, _, rfl, t, rfl, hz.le, _, _, rfl, rfl, _, rfl, ?_⟩
  have fin : n = 0 → L2.tRet (tVar 1) { nx := fun x H' => Q V.non H', rt := Q } [some (.str t), some (.int ((p + k : Nat) : Int))] H' := fun e => by
    subst e
    obtain rfl : k = ds.length := by omega
    exact ⟨_, rfl, q⟩
  by_cases c : p + k < t.length
  · refine ifT (decide_eq_true (by omega)) ?_
    cases hd : (ds.drop k ++ rest) with
    | nil =>
      rw [hd] at hk2
      have := congrArg List.length hk2
      rw [List.length_drop, ← len_tl] at this
      simp at this
      omega
    | cons c0 r =>
      rw [hd] at hk2
      obtain ⟨hc1, hc2⟩ := item_at hk2
      refine ⟨_, rfl, _, rfl, t, _, c0, rfl, rfl, by omega, by have := hz; unfold Short at this; omega, by omega, by rw [Int.toNat_natCast]; exact hc1, c0, _, rfl, rfl, _, rfl, ?_⟩
      show (if decide (c0 ∈ tl ("0123456789" : Str)) = true then _ else _)
      rw [mem_digits]
      cases n with
      | zero =>
        have e0 : ds.drop k = [] := List.drop_eq_nil_of_le (by omega)
        rw [e0] at hd
        refine ifF (decide_eq_false (hno c0 r hd)) (fin rfl)
      | succ n =>
        have e1 : k < ds.length := by omega
        rw [List.drop_eq_getElem_cons e1, List.cons_append] at hd
        have e2 : ds[k] = c0 := (List.cons.inj hd).1
        refine ifT (decide_eq_true (e2 ▸ hds _ (List.getElem_mem e1))) ?_
        refine ⟨fun σ H1 => ∃ k, k + n = ds.length ∧ σ = [some (.str t), some (.int ((p + k : Nat) : Int))] ∧ H1 = H', fun σ H1 h => ⟨n, by omega, h⟩, ?_⟩
        exact ⟨_, rfl, _, _, rfl, rfl, k + 1, by omega, rfl, rfl⟩
  · refine ifF (decide_eq_false (by omega)) (fin ?_)
    have := congrArg List.length hk2
    rw [List.length_drop, ← len_tl, List.length_append, List.length_drop] at this
    omega
theorem numT_parts (i : Int) (rest : List Nat) : ∃ (g : List Nat) (b : Bool), numT i = g ++ numL i.natAbs ∧ g.length = (if b then 1 else 0) ∧ decide ((numT i ++ rest).take 1 = [45]) = b ∧ (b = true → 1 ≤ i.natAbs) := by
  unfold numT
  by_cases c : i < 0
  · rw [if_pos c]
    exact ⟨[45], true, rfl, rfl, by rw [List.cons_append]; exact decide_eq_true rfl, fun _ => by omega⟩
  · rw [if_neg c]
    refine ⟨[], false, rfl, rfl, decide_eq_false fun e => ?_, fun e => by cases e⟩
    cases hn : numL i.natAbs with
    | nil => exact numL_ne _ hn
    | cons d r =>
      rw [hn] at e
      have e' : [d] = [45] := e
      have := numL_all i.natAbs d (by rw [hn]; simp)
      cases e'
      exact absurd this.1 (by decide)
def spNumber : Sp := fun vs H Q _ => ∃ (t : Str) (p : Nat) (i : Int) (rest : List Nat), vs = [.str t, .int (p : Int)] ∧ Short t ∧ p ≤ t.length ∧ (tl t).drop p = numT i ++ rest ∧ i.natAbs < 10 ^ 18 ∧ NoDig rest ∧
  ∀ r, H r = none → Q (.ref r) (upd H r (.tup [.int i, .int ((p + (numT i).length : Nat) : Int)]))
theorem ok_number_at (T : Txt K mg) : Ok P w K mg base 2 "number_at" p_number_at spNumber := by
  have G_digits_behind : Ok P w K mg base 1 "digits_behind" p_digits_behind spDigits := ok_digits_behind T
  refine T.D_number_at.ok sc_number_at (fun vs H Q E h => ?_) (fun _ _ _ _ _ _ us hl => match us, hl with | [_, _], _ => rfl) (fun f cdv A outer s H vs Q E hr h => ?_)
  · obtain ⟨t, p, _, _, rfl, _⟩ := h
    rfl
  obtain ⟨t, p, i, rest, rfl, hz, hp, hL, hi, hno, q⟩ := h
  refine ⟨_, (pss_cons (ps_set (i := 2) sc_number_at.nd rfl (Or.inl rfl) (pe_op op_add (pv 1) (pe_callTy call_int1 (by rfl) T.b_int (by decide +kernel) (pa_cons (pe_bm PySem.F.plainAttrs_str PySem.F.slot_str_startswith PySem.F.type_str_startswith mt_startswith3 (pv 0) (pa_cons (pe_gS T.c_MINUS) (pa_cons (pv 1) pa_nil))) pa_nil))))
  (pss_cons (ps_set (i := 3) sc_number_at.nd rfl (Or.inl rfl) (pe_callO G_digits_behind (hr.mono (by omega)) (pa_cons (pv 0) (pa_cons (pv 2) pa_nil))))
  (pss_cons (ps_if (PW.pt (pw_or (pt_not (pt_chain op_le op_le pe_int (pe_op op_sub (pv 3) (pv 2)) (pe_gI T.c_MOST_DIGITS))) (pw_or1 (PW.pt (pw_and (pt_cmpR op_eq (pe_item_str (pv 0) (pv 2) (fun _ _ => rfl)) pe_str (nomark _)) (pw_and1 (pt_cmpR op_gt (pe_op op_sub (pv 3) (pv 1)) pe_int (nomark _))))))))
  (pss_one (ps_ret pe_non))
  pss_nil)
  (pss_one (ps_ret (pe_tup (pa_cons (pe_callTy call_int_str (by rfl) T.b_int (by decide +kernel) (pa_cons (pe_slice sl_str (pv 0) (po_some (pv 1)) (po_some (pv 3))) pa_nil)) (pa_cons (pv 3) pa_nil)))))))), ?_⟩
  obtain ⟨g, b, hg, hgl, hb, hb1⟩ := numT_parts i rest
  have hsw := sw3 (y := ("-" : Str)) hL hp
  have hm : tl ("-" : Str) = [45] := by decide +kernel
  rw [hm, show ([45] : List Nat).length = 1 from rfl, hb] at hsw
  have hnz : numT i ++ rest ≠ [] := by
    rw [hg]
    intro e
    exact numL_ne i.natAbs (by simp at e; exact e.2.1)
  have hle := le_of_drop hL hnz
  have hT19 := numT_len hi
  have hgn : (numT i).length = g.length + (numL i.natAbs).length := by rw [hg, List.length_append]
  have hn1 : 1 ≤ (numL i.natAbs).length := List.length_pos_iff.mpr (numL_ne _)
  rw [List.length_append] at hle
  refine ⟨_, rfl, _, rfl, rfl, _, rfl, t, _, _, rfl, rfl, .inr ⟨_, rfl, _, _, rfl, rfl, ?_⟩⟩
  have e1 : ((p : Int) + (if Txt.startswith3 t ("-" : Str) (p : Int) = true then 1 else 0)) = ((p + g.length : Nat) : Int) := by
    rw [hsw, hgl]
    cases b <;> rfl
  dsimp only
  rw [e1]
  have hL2 : (tl t).drop (p + g.length) = numL i.natAbs ++ rest := drop_more (A := g) (by rw [hL, hg, List.append_assoc])
  refine ⟨_, rfl, _, rfl, t, p + g.length, numL i.natAbs, rest, rfl, hz, by omega, hL2, numL_all _, hno, ?_⟩
  refine ⟨_, rfl, _, rfl, _, _, rfl, rfl, _, _, rfl, rfl, _, rfl, ifT (decide_eq_true (by omega)) ?_⟩
  refine ⟨_, _, rfl, rfl, _, rfl, ifN (decide_eq_true (by omega)) ?_⟩
  cases hd : numL i.natAbs with
  | nil => exact absurd hd (numL_ne _)
  | cons d r =>
    rw [hd, List.cons_append] at hL2
    obtain ⟨hc1, hc2⟩ := item_at hL2
    have hzz := hz
    unfold Short at hzz
    rw [← hd]
    refine ⟨_, rfl, _, rfl, t, _, d, rfl, rfl, by omega, by omega, by omega, by rw [Int.toNat_natCast]; exact hc1, rfl, _, rfl, ?_⟩
    have fin : L2.tRet (tTup (tCons (tCB (fun xs H Q => ∃ a n, xs = [V.str a] ∧ PySem.intText? a = some n ∧ a.length ≤ 640 ∧ Q (V.int n) H) (tCons (tSl rSlS (tVar 0) (tPart (tVar 1)) (tPart (tVar 3))) tNil)) (tCons (tVar 3) tNil))) { nx := fun x H' => Q V.non H', rt := Q }
        [some (.str t), some (.int (p : Int)), some (.int ((p + g.length : Nat) : Int)), some (.int ((p + g.length + (numL i.natAbs).length : Nat) : Int))] H := by
      refine ⟨_, rfl, _, rfl, _, rfl, _, rfl, _, rfl, t, rfl, hz.le, ?_⟩
      have ec : cutS t (some (p : Int)) (some ((p + g.length + (numL i.natAbs).length : Nat) : Int)) = S (numT i) := by
        have := cut_at hL hp (numT i).length
        rw [List.take_left] at this
        rw [← this]
        congr 2
        omega
      rw [ec]
      refine ⟨_, i, rfl, numT_back hi, by rw [len_S]; omega, _, rfl, (by show 2 ≤ sizeLine; decide), fun x hx => ?_⟩
      have := q x hx
      rw [hgn, ← Nat.add_assoc] at this
      exact this
    by_cases hz0 : d = 48
    · subst hz0
      refine ifT (by show decide (V.str ⟨#[48]⟩ = V.str ("0" : Str)) = true; decide +kernel) ?_
      have hn0 : i.natAbs = 0 := by
        rcases Nat.eq_zero_or_pos i.natAbs with e | e
        · exact e
        · obtain ⟨c, r', e1, e2⟩ := numL_head e
          rw [hd] at e1
          exact absurd (List.cons.inj e1).1.symm e2
      have hbf : b = false := by
        cases b with
        | false => rfl
        | true => have := hb1 rfl; omega
      have hg0 : g.length = 0 := by rw [hgl, hbf]; rfl
      have hl1 : (numL i.natAbs).length = 1 := by rw [hn0]; rfl
      refine ⟨_, rfl, _, rfl, _, _, rfl, rfl, _, _, rfl, rfl, _, rfl, ifF (decide_eq_false (by omega)) fin⟩
    · refine ifF (decide_eq_false fun e => hz0 ?_) (ifF rfl fin)
      have e2 : tl (⟨#[d]⟩ : Str) = tl ("0" : Str) := congrArg tl (V.str.inj e)
      have e3 : tl ("0" : Str) = [48] := by decide +kernel
      rw [e3] at e2
      exact (List.cons.inj e2).1
end
end K87
namespace K87
open PySem L2 TL SX PySem.Spec PyProof.Rows
section
variable {P : Program} {w : World} {K : PySem.W.Frag} {mg : Str → Option Value} {base : Heap}
abbrev one1 (c : Nat) : V := .str ⟨#[c]⟩
theorem esc_cons (c : Nat) (r : List Nat) : escL (c :: r) = escC c ++ escL r := by unfold escL; rw [List.flatMap_cons]
theorem esc_app (a b : List Nat) : escL (a ++ b) = escL a ++ escL b := by unfold escL; rw [List.flatMap_append]
theorem joinL_nil : ∀ l : List Nat, joinL [] (l.map fun c => [c]) = l
  | [] => rfl
  | [c] => rfl
  | c :: d :: r => by
    show [c] ++ ([] ++ joinL [] ((d :: r).map fun c => [c])) = _
    rw [joinL_nil (d :: r)]
    rfl
theorem join_ones (z : Str) : Txt.join ("" : Str) ((tl z).map fun c => (⟨#[c]⟩ : Str)) = z := by
  refine ext_tl ?_
  rw [join_eq, tl_join, List.map_map]
  have e : tl ("" : Str) = [] := by decide +kernel
  rw [e]
  exact joinL_nil (tl z)
theorem quote_ne (c : Nat) (h : c ≠ 34) : decide (V.str ⟨#[c]⟩ = V.str ("\"" : Str)) = false := decide_eq_false fun e => h (by
  have e2 : tl (⟨#[c]⟩ : Str) = tl ("\"" : Str) := congrArg tl (V.str.inj e)
  have e3 : tl ("\"" : Str) = [34] := by decide +kernel
  rw [e3] at e2
  exact (List.cons.inj e2).1)
theorem stroke_ne (c : Nat) (h : c ≠ 92) : decide (V.str ⟨#[c]⟩ = V.str ("\\" : Str)) = false := decide_eq_false fun e => h (by
  have e2 : tl (⟨#[c]⟩ : Str) = tl ("\\" : Str) := congrArg tl (V.str.inj e)
  have e3 : tl ("\\" : Str) = [92] := by decide +kernel
  rw [e3] at e2
  exact (List.cons.inj e2).1)
def spString : Sp := fun vs H Q _ => ∃ (t : Str) (p : Nat) (z : Str) (rest : List Nat), vs = [.str t, .int (p : Int)] ∧ Short t ∧ p ≤ t.length ∧ (tl t).drop p = 34 :: (escL (tl z) ++ 34 :: rest) ∧
  ∀ r H', Same H H' → H r = none → H' r = some (.tup [.str z, .int ((p + (escL (tl z)).length + 2 : Nat) : Int)]) → Q (.ref r) H'
theorem ok_string_at (T : Txt K mg) : Ok P w K mg base 1 "string_at" p_string_at spString := by
  refine T.D_string_at.ok sc_string_at (fun vs H Q E h => ?_) (fun _ _ _ _ _ _ us hl => match us, hl with | [_, _], _ => rfl) (fun f cdv A outer s H vs Q E hr h => ?_)
  · obtain ⟨t, p, _, _, rfl, _⟩ := h
    rfl
  obtain ⟨t, p, z, rest, rfl, hz, hp, hL, q⟩ := h
  refine ⟨_, (pss_cons (ps_par (i := 2) (j := 1) (by rfl) sc_string_at.nd rfl rfl (by decide) rfl rfl (pa_cons (pe_lst pa_nil) (pa_cons (pe_op op_add (pv 1) pe_int) pa_nil)) (by rfl))
  (pss_cons (ps_while PassesOwn.never (PW.pt (pw_and (pt_cmpR op_lt (pv 1) (pe_callB call_len_str (by rfl) T.b_len (by decide +kernel) (pa_cons (pv 0) pa_nil)) (nomark _)) (pw_and1 (pt_cmpR op_ne (pe_item_str (pv 0) (pv 1) (fun _ _ => rfl)) (pe_gS T.c_QUOTE) (nomark _)))))
  (pss_cons (ps_if (pt_cmpR op_eq (pe_item_str (pv 0) (pv 1) (fun _ _ => rfl)) (pe_gS T.c_STROKE) (nomark _))
  (pss_cons (ps_aug (i := 1) sc_string_at.nd rfl (.inl rfl) pe_int ip_add)
  (pss_one (ps_if (pt_cmpR op_notIn_seq (pe_slice sl_str (pv 0) (po_some (pv 1)) (po_some (pe_op op_add (pv 1) pe_int))) (pe_tup (pa_cons (pe_gS T.c_QUOTE) (pa_cons (pe_gS T.c_STROKE) pa_nil))) (by rfl))
  (pss_one (ps_ret pe_non))
  pss_nil)))
  pss_nil)
  (pss_cons (ps_expr (pe_bm PySem.F.plainAttrs_list PySem.F.slot_list_append PySem.F.type_list_append mt_append (pv 2) (pa_cons (pe_item_str (pv 0) (pv 1) (fun _ _ => rfl)) pa_nil)))
  (pss_one (ps_aug (i := 1) sc_string_at.nd rfl (.inl rfl) pe_int ip_add)))))
  (pss_one (ps_ret (pe_ifExp (pt_cmpR op_lt (pv 1) (pe_callB call_len_str (by rfl) T.b_len (by decide +kernel) (pa_cons (pv 0) pa_nil)) (nomark _)) (pe_tup (pa_cons (pe_join pe_str (pv 2)) (pa_cons (pe_op op_add (pv 1) pe_int) pa_nil))) pe_non))))), ?_⟩
  have hle := le_of_drop hL (by simp)
  have hzz := hz
  unfold Short at hzz
  simp only [List.length_cons, List.length_append] at hle
  refine ⟨Nat.zero_le _, fun F hF => ?_⟩
  refine ⟨_, rfl, _, _, rfl, rfl, _, _, rfl, ?_⟩
  refine ⟨fun n σ H' => ∃ done todo, n = todo.length ∧ tl z = done ++ todo ∧ σ = [some (.str t), some (.int ((p + 1 + (escL done).length : Nat) : Int)), some (.ref F)] ∧ Same H H' ∧ H' F = some (.lst (done.map one1)),
    ⟨(tl z).length, [], tl z, rfl, rfl, rfl, same_new hF _, upd_same⟩, ?_⟩
  rintro n σ H' ⟨done, todo, rfl, hdt, rfl, s1, hF1⟩
  have e0 : (escL (tl z)).length = (escL done).length + (escL todo).length := by rw [hdt, esc_app, List.length_append]
  have hL1 : (tl t).drop (p + 1 + (escL done).length) = escL todo ++ 34 :: rest := by
    have a : (tl t).drop (p + 1) = escL (tl z) ++ 34 :: rest := drop_more (A := [34]) hL
    rw [hdt, esc_app, List.append_assoc] at a
    exact drop_more a
  refine ⟨_, rfl, _, rfl, t, rfl, hz.le, _, _, rfl, rfl, _, rfl, ifT (decide_eq_true (by omega)) ?_⟩
  have hbig : done.length ≤ 5000 := by
    have a : (tl z).length ≤ (escL (tl z)).length := by
      unfold escL
      generalize tl z = l
      induction l with
      | nil => simp
      | cons c r ih =>
        rw [List.flatMap_cons, List.length_append, List.length_cons]
        have : 1 ≤ (escC c).length := by unfold escC; split <;> simp
        omega
    have b := congrArg List.length hdt
    rw [List.length_append] at b
    omega
  cases todo with
  | nil =>
    have hL2 : (tl t).drop (p + 1 + (escL done).length) = 34 :: rest := hL1
    obtain ⟨hc1, hc2⟩ := item_at hL2
    refine ⟨_, rfl, _, rfl, t, _, 34, rfl, rfl, by omega, by omega, by omega, by rw [Int.toNat_natCast]; exact hc1, rfl, _, rfl, ifF ?_ ?_⟩
    · show (!decide (V.str ⟨#[34]⟩ = V.str ("\"" : Str))) = false
      decide +kernel
    · refine ⟨_, rfl, _, rfl, t, rfl, hz.le, _, _, rfl, rfl, _, rfl, ifT (decide_eq_true (by omega)) ?_⟩
      rw [List.append_nil] at hdt
      refine ⟨⟨_, rfl⟩, _, rfl, _, F, done.map fun c => (⟨#[c]⟩ : Str), rfl, rfl, .inl (SqL.of (by rw [hF1, List.map_map]; rfl)), ?_, ?_⟩
      · have a : ((done.map fun c => (⟨#[c]⟩ : Str)).map (·.length)).sum ≤ done.length := by
          rw [List.map_map]
          clear hbig hF1 e0 hL1 hc1 hc2 hdt hL2
          induction done with
          | nil => simp
          | cons c r ih =>
            rw [List.map_cons, List.sum_cons, List.length_cons]
            have : ((fun s : Str => s.length) ∘ fun c => (⟨#[c]⟩ : Str)) c = 1 := rfl
            omega
        have b : ("" : Str).length = 0 := by decide +kernel
        rw [b]
        omega
      · rw [← hdt, join_ones]
        refine ⟨_, rfl, _, _, rfl, rfl, (by show 2 ≤ sizeLine; decide), fun r hr => ?_⟩
        refine q r _ (s1.trans (same_new hr _)) (s1.free hr) ?_
        have e9 : (escL ([] : List Nat)).length = 0 := rfl
        have ev : (((p + 1 + (escL done).length : Nat) : Int) + 1) = ((p + (escL (tl z)).length + 2 : Nat) : Int) := by omega
        rw [upd_same, ← ev, hdt]
  | cons c todo =>
    rw [esc_cons, List.append_assoc] at hL1
    by_cases hc : c = 34 ∨ c = 92
    · have he : escC c = [92, c] := by unfold escC; rw [if_pos hc]
      rw [he] at hL1
      have hL2 : (tl t).drop (p + 1 + (escL done).length) = 92 :: (c :: (escL todo ++ 34 :: rest)) := hL1
      obtain ⟨hc1, hc2⟩ := item_at hL2
      refine ⟨_, rfl, _, rfl, t, _, 92, rfl, rfl, by omega, by omega, by omega, by rw [Int.toNat_natCast]; exact hc1, rfl, _, rfl, ifT ?_ ?_⟩
      · show (!decide (V.str ⟨#[92]⟩ = V.str ("\"" : Str))) = true
        decide +kernel
      refine ⟨fun σ H1 => ∃ done' todo', todo.length = todo'.length ∧ tl z = done' ++ todo' ∧ σ = [some (.str t), some (.int ((p + 1 + (escL done').length : Nat) : Int)), some (.ref F)] ∧ Same H H1 ∧ H1 F = some (.lst (done'.map one1)), fun σ H1 h => ⟨todo.length, by simp, h⟩, ?_⟩
      refine ⟨_, rfl, _, rfl, t, _, 92, rfl, rfl, by omega, by omega, by omega, by rw [Int.toNat_natCast]; exact hc1, rfl, _, rfl, ifT ?_ ?_⟩
      · show decide (V.str ⟨#[92]⟩ = V.str ("\\" : Str)) = true
        decide +kernel
      have hL3 : (tl t).drop (p + 1 + (escL done).length + 1) = c :: (escL todo ++ 34 :: rest) := drop_more (A := [92]) hL2
      obtain ⟨hd1, hd2⟩ := item_at hL3
      refine ⟨_, rfl, _, _, rfl, rfl, ?_⟩
      refine ⟨_, rfl, _, rfl, _, rfl, _, rfl, _, _, rfl, rfl, _, rfl, t, rfl, hz.le, ?_⟩
      have ec : cutS t (some ((p + 1 + (escL done).length : Nat) + 1 : Int)) (some ((p + 1 + (escL done).length : Nat) + 1 + 1 : Int)) = S [c] := cut_at hL3 (by omega) 1
      rw [ec]
      refine ⟨(by show 2 ≤ sizeLine; decide), fun U hU => ?_⟩
      refine ⟨U, _, rfl, .inr (SqT.of upd_same), rfl, rfl, _, rfl, ifF ?_ ?_⟩
      · rcases hc with rfl | rfl <;> decide +kernel
      have sU : Same H' (upd H' U (.tup [.str ("\"" : Str), .str ("\\" : Str)])) := same_new hU _
      refine ⟨_, rfl, .inl ⟨rfl, _, SqL.of (sU _ _ hF1)⟩, _, rfl, _, rfl, t, _, c, rfl, rfl, (by show (0 : Int) ≤ ((p + 1 + (escL done).length : Nat) : Int) + 1; omega), (by show ((p + 1 + (escL done).length : Nat) : Int) + 1 < 2 ^ 63; omega), (by show ((p + 1 + (escL done).length : Nat) : Int) + 1 < (t.length : Int); omega), by exact hd1, F, _, _, rfl, rfl, sU _ _ hF1, Nat.lt_of_le_of_lt (by rw [List.length_map]; exact hbig) (by decide), ?_⟩
      refine ⟨_, rfl, _, _, rfl, rfl, done ++ [c], todo, rfl, by rw [hdt, List.append_assoc]; rfl, ?_, same_mut (s1.trans sU) hF _, by rw [upd_same, List.map_append]; rfl⟩
      have e5 : (escL (done ++ [c])).length = (escL done).length + 2 := by
        rw [esc_app, List.length_append, esc_cons, he]
        rfl
      rw [e5]
      show ([some (.str t), some (.int ((p + 1 + (escL done).length : Nat) + 1 + 1 : Int)), some (.ref F)] : List (Option V)) = _
      congr 4
    · have he : escC c = [c] := by unfold escC; rw [if_neg hc]
      rw [he] at hL1
      have hL2 : (tl t).drop (p + 1 + (escL done).length) = c :: (escL todo ++ 34 :: rest) := hL1
      obtain ⟨hc1, hc2⟩ := item_at hL2
      refine ⟨_, rfl, _, rfl, t, _, c, rfl, rfl, by omega, by omega, by omega, by rw [Int.toNat_natCast]; exact hc1, rfl, _, rfl, ifT ?_ ?_⟩
      · show (!decide (V.str ⟨#[c]⟩ = V.str ("\"" : Str))) = true
        rw [quote_ne c fun e => hc (.inl e)]
        rfl
      refine ⟨fun σ H1 => ∃ done' todo', todo.length = todo'.length ∧ tl z = done' ++ todo' ∧ σ = [some (.str t), some (.int ((p + 1 + (escL done').length : Nat) : Int)), some (.ref F)] ∧ Same H H1 ∧ H1 F = some (.lst (done'.map one1)), fun σ H1 h => ⟨todo.length, by simp, h⟩, ?_⟩
      refine ⟨_, rfl, _, rfl, t, _, c, rfl, rfl, by omega, by omega, by omega, by rw [Int.toNat_natCast]; exact hc1, rfl, _, rfl, ifF ?_ ?_⟩
      · exact stroke_ne c fun e => hc (.inr e)
      refine ⟨_, rfl, .inl ⟨rfl, _, SqL.of hF1⟩, _, rfl, _, rfl, t, _, c, rfl, rfl, by omega, by omega, by omega, by rw [Int.toNat_natCast]; exact hc1, F, _, _, rfl, rfl, hF1, Nat.lt_of_le_of_lt (by rw [List.length_map]; exact hbig) (by decide), ?_⟩
      refine ⟨_, rfl, _, _, rfl, rfl, done ++ [c], todo, rfl, by rw [hdt, List.append_assoc]; rfl, ?_, same_mut s1 hF _, by rw [upd_same, List.map_append]; rfl⟩
      have e5 : (escL (done ++ [c])).length = (escL done).length + 1 := by
        rw [esc_app, List.length_append, esc_cons, he]
        rfl
      rw [e5]
      show ([some (.str t), some (.int ((p + 1 + (escL done).length : Nat) + 1 : Int)), some (.ref F)] : List (Option V)) = _
      congr 4
end
end K87
namespace K87
open PySem L2 TL SX PySem.Spec PyProof.Rows
theorem eqs (x y : Str) : decide (V.str x = V.str y) = decide (tl x = tl y) := decide_eq_decide.mpr ⟨fun e => congrArg tl (V.str.inj e), fun e => by rw [ext_tl e]⟩
theorem eq1 {c k : Nat} {y : Str} (h : tl y = [k]) : decide (V.str ⟨#[c]⟩ = V.str y) = decide (c = k) := by
  rw [eqs, h]
  exact decide_eq_decide.mpr ⟨fun e => (List.cons.inj e).1, fun e => by rw [e]⟩
theorem tl_quote : tl ("\"" : Str) = [34] := by decide +kernel
theorem tl_brack : tl ("[" : Str) = [91] := by decide +kernel
theorem tl_brace : tl ("{" : Str) = [123] := by decide +kernel
theorem tl_minus : tl ("-" : Str) = [45] := by decide +kernel
theorem tl_yes : tl ("yes" : Str) = [121, 101, 115] := by decide +kernel
theorem tl_no : tl ("no" : Str) = [110, 111] := by decide +kernel
theorem tl_parted : tl (", " : Str) = [44, 32] := by decide +kernel
theorem tl_named : tl (": " : Str) = [58, 32] := by decide +kernel
theorem tl_rbrack : tl ("]" : Str) = [93] := by decide +kernel
theorem tl_rbrace : tl ("}" : Str) = [125] := by decide +kernel
theorem sw_head {t y : Str} {p c k : Nat} {r ys : List Nat} (h : (tl t).drop p = c :: r) (hp : p ≤ t.length) (hy : tl y = k :: ys) (n : c ≠ k) : Txt.startswith3 t y (p : Int) = false := by
  rw [sw3 h hp, hy, decide_eq_false]
  intro e
  exact n (List.cons.inj e).1
theorem sw_yes {t y : Str} {p : Nat} {r ys : List Nat} (h : (tl t).drop p = ys ++ r) (hp : p ≤ t.length) (hy : tl y = ys) : Txt.startswith3 t y (p : Int) = true := by
  rw [sw3 h hp, hy, List.take_left]
  exact decide_eq_true rfl
theorem inV_sign (d : Nat) : ∀ l : List Nat, inV (V.str ⟨#[d]⟩) (l.map fun c => V.str ⟨#[c]⟩) = decide (d ∈ l)
  | [] => rfl
  | c :: r => by
    have ih := inV_sign d r
    have e : inV (V.str ⟨#[d]⟩) ((c :: r).map fun c => V.str ⟨#[c]⟩) = ((⟨#[c]⟩ : Str) == ⟨#[d]⟩ || inV (V.str ⟨#[d]⟩) (r.map fun c => V.str ⟨#[c]⟩)) := rfl
    rw [e, ih]
    by_cases h : d = c
    · subst h
      simp
    · have : ((⟨#[c]⟩ : Str) == ⟨#[d]⟩) = false := beq_eq_false_iff_ne.mpr fun q => h (by
        have e2 : tl (⟨#[c]⟩ : Str) = tl (⟨#[d]⟩ : Str) := congrArg tl q
        exact (List.cons.inj e2).1.symm)
      rw [this]
      simp [h]
theorem inV_none : ∀ l : List Nat, inV (V.str (S [])) (l.map fun c => V.str ⟨#[c]⟩) = false
  | [] => rfl
  | c :: r => by
    have e : inV (V.str (S [])) ((c :: r).map fun c => V.str ⟨#[c]⟩) = ((⟨#[c]⟩ : Str) == S [] || inV (V.str (S [])) (r.map fun c => V.str ⟨#[c]⟩)) := rfl
    rw [e, inV_none r, Bool.or_false]
    refine beq_eq_false_iff_ne.mpr fun q => ?_
    have e2 : tl (⟨#[c]⟩ : Str) = tl (S []) := congrArg tl q
    cases e2
theorem all_flat : ∀ l : List Nat, (l.map fun c => V.str ⟨#[c]⟩).all flatV = true
  | [] => rfl
  | c :: r => by rw [List.map_cons, List.all_cons, all_flat r]; rfl
theorem numT_head (i : Int) : ∃ c r, numT i = c :: r ∧ (isDig c ∨ (c = 45 ∧ ∃ d r', r = d :: r' ∧ isDig d)) := by
  cases hn : numL i.natAbs with
  | nil => exact absurd hn (numL_ne _)
  | cons d r =>
    have hd := numL_all i.natAbs d (by rw [hn]; simp)
    unfold numT
    rw [hn]
    split
    · exact ⟨45, d :: r, rfl, .inr ⟨rfl, d, r, rfl, hd⟩⟩
    · exact ⟨d, r, rfl, .inl hd⟩
/-- how a written document begins -/
theorem wr_head : ∀ d : Doc, ∃ c r, wr d = c :: r ∧ c ≠ 93 ∧ c ≠ 125
  | .non => ⟨_, _, rfl, by decide, by decide⟩
  | .bl true => ⟨_, _, rfl, by decide, by decide⟩
  | .bl false => ⟨_, _, rfl, by decide, by decide⟩
  | .int i => by
    obtain ⟨c, r, e, h⟩ := numT_head i
    refine ⟨c, r, e, ?_, ?_⟩ <;> rcases h with h | h <;> unfold isDig at h <;> omega
  | .str s => ⟨_, _, rfl, by decide, by decide⟩
  | .list ds => ⟨_, _, rfl, by decide, by decide⟩
  | .dict fs => ⟨_, _, rfl, by decide, by decide⟩
section
variable {P : Program} {w : World} {K : PySem.W.Frag} {mg : Str → Option Value} {base : Heap}
def spField : Sp := fun vs H Q _ => ∃ (t : Str) (p : Nat) (f : Str) (rest : List Nat), vs = [.str t, .int (p : Int)] ∧ Short t ∧ p ≤ t.length ∧ (tl t).drop p = tl f ++ [58, 32] ++ rest ∧ 58 ∉ tl f ∧ Q (.str f) H
theorem ok_field_at (T : Txt K mg) : Ok P w K mg base 1 "field_at" p_field_at spField := by
  refine T.D_field_at.ok sc_field_at (fun vs H Q E h => ?_) (fun _ _ _ _ _ _ us hl => match us, hl with | [_, _], _ => rfl) (fun f cdv A outer s H vs Q E hr h => ?_)
  · obtain ⟨t, p, _, _, rfl, _⟩ := h
    rfl
  obtain ⟨t, p, f', rest, rfl, hz, hp, hL, hf, q⟩ := h
  refine ⟨_, (pss_cons (ps_set (i := 2) sc_field_at.nd rfl (Or.inl rfl) (pe_bm PySem.F.plainAttrs_str PySem.F.slot_str_find PySem.F.type_str_find mt_find3 (pv 0) (pa_cons (pe_gS T.c_NAMED) (pa_cons (pv 1) pa_nil))))
  (pss_one (ps_ret (pe_ifExp (pt_cmpR op_ge (pv 2) pe_int (nomark _)) (pe_slice sl_str (pv 0) (po_some (pv 1)) (po_some (pv 2))) pe_str)))), ?_⟩
  refine ⟨_, rfl, rfl, _, rfl, t, _, _, rfl, rfl, ?_⟩
  rw [find_at hL hf]
  refine ⟨_, rfl, _, _, rfl, rfl, _, rfl, ifT (decide_eq_true (by omega)) ?_⟩
  refine ⟨_, rfl, _, rfl, _, rfl, _, rfl, _, rfl, t, rfl, hz.le, ?_⟩
  have ec : cutS t (some (p : Int)) (some ((p + (tl f').length : Nat) : Int)) = f' := by
    have := cut_at hL hp (tl f').length
    rw [List.append_assoc, List.take_left] at this
    exact this.trans (S_tl f')
  rw [ec]
  exact q
end
end K87
namespace K87
open PySem L2 TL SX PySem.Spec PyProof.Rows
section
variable {P : Program} {w : World} {K : PySem.W.Frag} {mg : Str → Option Value} {base : Heap}
/-- what is read at a place: a new document, its fields ascending, and the place behind it -/
def spPart (m : Nat) : Sp := fun vs H Q _ => ∃ (t : Str) (p n : Nat) (d : Doc) (rest : List Nat), vs = [.str t, .int (p : Int)] ∧ m = n + 1 ∧ Short t ∧ p ≤ t.length ∧ Wf n d ∧ (tl t).drop p = wr d ++ rest ∧ NoDig rest ∧
  ∀ r v H', Same H H' → H r = none → H' r = some (.tup [v, .int ((p + (wr d).length : Nat) : Int)]) → DocAt H' (fun b => H b = none) v (srt d) → Q (.ref r) H'
def spList (m : Nat) : Sp := fun vs H Q _ => ∃ (t : Str) (p n : Nat) (ds : List Doc) (rest : List Nat), vs = [.str t, .int (p : Int)] ∧ m = n + 1 ∧ Short t ∧ p ≤ t.length ∧ Wf n (.list ds) ∧ (tl t).drop p = wr (.list ds) ++ rest ∧
  ∀ r v H', Same H H' → H r = none → H' r = some (.tup [v, .int ((p + (wr (.list ds)).length : Nat) : Int)]) → DocAt H' (fun b => H b = none) v (srt (.list ds)) → Q (.ref r) H'
def spRec (m : Nat) : Sp := fun vs H Q _ => ∃ (t : Str) (p n : Nat) (fs : List (Str × Doc)) (rest : List Nat), vs = [.str t, .int (p : Int)] ∧ m = n + 1 ∧ Short t ∧ p ≤ t.length ∧ Wf n (.dict fs) ∧ (tl t).drop p = wr (.dict fs) ++ rest ∧
  ∀ r v H', Same H H' → H r = none → H' r = some (.tup [v, .int ((p + (wr (.dict fs)).length : Nat) : Int)]) → DocAt H' (fun b => H b = none) v (srt (.dict fs)) → Q (.ref r) H'
theorem ok_part_at (T : Txt K mg) (m k : Nat) (hk : 2 ≤ k) (G_list_at : Ok P w K mg base k "list_at" p_list_at (spList m)) (G_record_at : Ok P w K mg base k "record_at" p_record_at (spRec m)) : Ok P w K mg base (k + 1) "part_at" p_part_at (spPart m) := by
  have G_string_at : Ok P w K mg base k "string_at" p_string_at spString := (ok_string_at T).mono (by omega)
  have G_number_at : Ok P w K mg base k "number_at" p_number_at spNumber := (ok_number_at T).mono (by omega)
  refine T.D_part_at.ok sc_part_at (fun vs H Q E h => ?_) (fun _ _ _ _ _ _ us hl => match us, hl with | [_, _], _ => rfl) (fun f cdv A outer s H vs Q E hr h => ?_)
  · obtain ⟨t, p, _, _, _, rfl, _⟩ := h
    rfl
  obtain ⟨t, p, n, d, rest, rfl, em, hz, hp, hw, hL, hno, q⟩ := h
  refine ⟨_, (pss_cons (ps_set (i := 2) sc_part_at.nd rfl (Or.inl rfl) (pe_slice sl_str (pv 0) (po_some (pv 1)) (po_some (pe_op op_add (pv 1) pe_int))))
  (pss_cons (ps_if (pt_cmpR op_eq (pv 2) (pe_gS T.c_QUOTE) (nomark _))
  (pss_one (ps_ret (pe_callO G_string_at (hr.mono (by omega)) (pa_cons (pv 0) (pa_cons (pv 1) pa_nil)))))
  pss_nil)
  (pss_cons (ps_if (pt_cmpR op_eq (pv 2) pe_str (nomark _))
  (pss_one (ps_ret (pe_callO G_list_at (hr.mono (by omega)) (pa_cons (pv 0) (pa_cons (pv 1) pa_nil)))))
  pss_nil)
  (pss_cons (ps_if (pt_cmpR op_eq (pv 2) pe_str (nomark _))
  (pss_one (ps_ret (pe_callO G_record_at (hr.mono (by omega)) (pa_cons (pv 0) (pa_cons (pv 1) pa_nil)))))
  pss_nil)
  (pss_cons (ps_if (pt_val (pe_bm PySem.F.plainAttrs_str PySem.F.slot_str_startswith PySem.F.type_str_startswith mt_startswith3 (pv 0) (pa_cons (pe_gS T.c_YES) (pa_cons (pv 1) pa_nil))))
  (pss_one (ps_ret (pe_tup (pa_cons pe_bl (pa_cons (pe_op op_add (pv 1) (pe_callB call_len_str (by rfl) T.b_len (by decide +kernel) (pa_cons (pe_gS T.c_YES) pa_nil))) pa_nil)))))
  pss_nil)
  (pss_cons (ps_if (pt_val (pe_bm PySem.F.plainAttrs_str PySem.F.slot_str_startswith PySem.F.type_str_startswith mt_startswith3 (pv 0) (pa_cons (pe_gS T.c_NO) (pa_cons (pv 1) pa_nil))))
  (pss_one (ps_ret (pe_tup (pa_cons pe_bl (pa_cons (pe_op op_add (pv 1) (pe_callB call_len_str (by rfl) T.b_len (by decide +kernel) (pa_cons (pe_gS T.c_NO) pa_nil))) pa_nil)))))
  pss_nil)
  (pss_cons (ps_if (PW.pt (pw_and (pt_cmpR op_eq (pv 2) (pe_gS T.c_MINUS) (nomark _)) (pw_and1 (pt_cmpR op_notIn_seq (pe_slice sl_str (pv 0) (po_some (pe_op op_add (pv 1) pe_int)) (po_some (pe_op op_add (pv 1) (pe_gI T.c_PAIR)))) (pe_callTy (call_list_str rfl) (by rfl) T.b_list (by decide +kernel) (pa_cons (pe_gS T.c_DIGITS) pa_nil)) (by rfl)))))
  (pss_one (ps_ret (pe_tup (pa_cons pe_non (pa_cons (pe_op op_add (pv 1) pe_int) pa_nil)))))
  pss_nil)
  (pss_one (ps_ret (pe_callO G_number_at (hr.mono (by omega)) (pa_cons (pv 0) (pa_cons (pv 1) pa_nil)))))))))))), ?_⟩
  obtain ⟨c, r, hc, h93, h125⟩ := wr_head d
  have hL1 : (tl t).drop p = c :: (r ++ rest) := by rw [hL, hc]; rfl
  have hle := le_of_drop hL1 (by simp)
  simp only [List.length_cons, List.length_append] at hle
  have hzz := hz
  unfold Short at hzz
  refine ⟨_, rfl, _, rfl, _, rfl, _, rfl, _, _, rfl, rfl, _, rfl, t, rfl, hz.le, ?_⟩
  have ec : cutS t (some (p : Int)) (some ((p : Int) + 1)) = S [c] := cut_at hL1 hp 1
  rw [ec]
  have x1 : ∀ {y : Str} {k : Nat}, tl y = [k] → decide (V.str (S [c]) = V.str y) = decide (c = k) := fun h => eq1 h
  cases d with
  | str z =>
    have e : c = 34 := by rw [wr] at hc; exact (List.cons.inj hc).1.symm
    refine ⟨_, rfl, rfl, _, rfl, ifT (by rw [x1 tl_quote]; exact decide_eq_true e) ?_⟩
    refine ⟨_, rfl, _, rfl, t, p, z, rest, rfl, hz, hp, by rw [hL, wr]; simp, fun r' H' s1 hr' e' => ?_⟩
    refine q r' (.str z) H' s1 hr' ?_ rfl
    have ev : p + (escL (tl z)).length + 2 = p + (wr (.str z)).length := by
      rw [wr]
      simp only [List.length_cons, List.length_append, List.length_nil]
      omega
    rw [e', ev]
  | list ds =>
    have e : c = 91 := by rw [wr] at hc; exact (List.cons.inj hc).1.symm
    refine ⟨_, rfl, rfl, _, rfl, ifF (by rw [x1 tl_quote]; exact decide_eq_false (by omega)) ?_⟩
    refine ⟨_, rfl, rfl, _, rfl, ifT (by rw [x1 tl_brack]; exact decide_eq_true e) ?_⟩
    exact ⟨_, rfl, _, rfl, t, p, n, ds, rest, rfl, em, hz, hp, hw, hL, q⟩
  | dict fs =>
    have e : c = 123 := by rw [wr] at hc; exact (List.cons.inj hc).1.symm
    refine ⟨_, rfl, rfl, _, rfl, ifF (by rw [x1 tl_quote]; exact decide_eq_false (by omega)) ?_⟩
    refine ⟨_, rfl, rfl, _, rfl, ifF (by rw [x1 tl_brack]; exact decide_eq_false (by omega)) ?_⟩
    refine ⟨_, rfl, rfl, _, rfl, ifT (by rw [x1 tl_brace]; exact decide_eq_true e) ?_⟩
    exact ⟨_, rfl, _, rfl, t, p, n, fs, rest, rfl, em, hz, hp, hw, hL, q⟩
  | bl b =>
    cases b with
    | true =>
      have e : c = 121 := by rw [wr] at hc; exact (List.cons.inj hc).1.symm
      refine ⟨_, rfl, rfl, _, rfl, ifF (by rw [x1 tl_quote]; exact decide_eq_false (by omega)) ?_⟩
      refine ⟨_, rfl, rfl, _, rfl, ifF (by rw [x1 tl_brack]; exact decide_eq_false (by omega)) ?_⟩
      refine ⟨_, rfl, rfl, _, rfl, ifF (by rw [x1 tl_brace]; exact decide_eq_false (by omega)) ?_⟩
      refine ⟨_, rfl, rfl, _, rfl, t, _, _, rfl, rfl, _, rfl, ifT (sw_yes (ys := [121, 101, 115]) hL hp tl_yes) ?_⟩
      refine ⟨_, rfl, _, rfl, by decide +kernel, _, _, rfl, rfl, (by show 2 ≤ sizeLine; decide), fun x hx => ?_⟩
      exact q x (.bl true) _ (same_new hx _) hx (by rw [upd_same]; rfl) rfl
    | false =>
      have e : c = 110 := by rw [wr] at hc; exact (List.cons.inj hc).1.symm
      refine ⟨_, rfl, rfl, _, rfl, ifF (by rw [x1 tl_quote]; exact decide_eq_false (by omega)) ?_⟩
      refine ⟨_, rfl, rfl, _, rfl, ifF (by rw [x1 tl_brack]; exact decide_eq_false (by omega)) ?_⟩
      refine ⟨_, rfl, rfl, _, rfl, ifF (by rw [x1 tl_brace]; exact decide_eq_false (by omega)) ?_⟩
      refine ⟨_, rfl, rfl, _, rfl, t, _, _, rfl, rfl, _, rfl, ifF (sw_head hL1 hp tl_yes (by omega)) ?_⟩
      refine ⟨_, rfl, rfl, _, rfl, t, _, _, rfl, rfl, _, rfl, ifT (sw_yes (ys := [110, 111]) hL hp tl_no) ?_⟩
      refine ⟨_, rfl, _, rfl, by decide +kernel, _, _, rfl, rfl, (by show 2 ≤ sizeLine; decide), fun x hx => ?_⟩
      exact q x (.bl false) _ (same_new hx _) hx (by rw [upd_same]; rfl) rfl
  | non =>
    have e : c = 45 := by rw [wr] at hc; exact (List.cons.inj hc).1.symm
    have er : r = [] := by rw [wr] at hc; exact (List.cons.inj hc).2.symm
    refine ⟨_, rfl, rfl, _, rfl, ifF (by rw [x1 tl_quote]; exact decide_eq_false (by omega)) ?_⟩
    refine ⟨_, rfl, rfl, _, rfl, ifF (by rw [x1 tl_brack]; exact decide_eq_false (by omega)) ?_⟩
    refine ⟨_, rfl, rfl, _, rfl, ifF (by rw [x1 tl_brace]; exact decide_eq_false (by omega)) ?_⟩
    refine ⟨_, rfl, rfl, _, rfl, t, _, _, rfl, rfl, _, rfl, ifF (sw_head hL1 hp tl_yes (by omega)) ?_⟩
    refine ⟨_, rfl, rfl, _, rfl, t, _, _, rfl, rfl, _, rfl, ifF (sw_head hL1 hp tl_no (by omega)) ?_⟩
    refine ⟨_, rfl, rfl, _, rfl, ifT (by rw [x1 tl_minus]; exact decide_eq_true e) ?_⟩
    have hL2 : (tl t).drop (p + 1) = rest := drop_more (A := [c]) (by rw [hL1, er]; rfl)
    refine ⟨_, rfl, _, rfl, _, _, rfl, rfl, _, rfl, _, rfl, _, _, rfl, rfl, _, rfl, t, rfl, hz.le, ?_⟩
    have ec2 : cutS t (some ((p : Int) + 1)) (some ((p : Int) + 2)) = S (rest.take 1) := cut_at hL2 (by omega) 1
    rw [ec2]
    refine ⟨_, rfl, by decide +kernel, fun x hx => ⟨x, _, rfl, .inl (SqL.of upd_same), rfl, all_flat _, _, rfl, ifT ?_ ?_⟩⟩
    · show (!inV (V.str (S (rest.take 1))) ((tl ("0123456789" : Str)).map fun c => V.str ⟨#[c]⟩)) = true
      cases rest with
      | nil => rw [List.take_nil, inV_none]; rfl
      | cons c0 r0 =>
        have : inV (V.str (S ((c0 :: r0).take 1))) ((tl ("0123456789" : Str)).map fun c => V.str ⟨#[c]⟩) = decide (c0 ∈ tl ("0123456789" : Str)) := inV_sign c0 _
        rw [this, mem_digits, decide_eq_false (show ¬ (48 ≤ c0 ∧ c0 ≤ 57) from hno c0 r0 rfl)]
        rfl
    · refine ⟨_, rfl, _, _, rfl, rfl, (by show 2 ≤ sizeLine; decide), fun y hy => ?_⟩
      exact q y .non _ ((same_new hx _).trans (same_new hy _)) ((same_new hx _).free hy) (by rw [upd_same]; rfl) rfl
  | int i =>
    obtain ⟨c', r', e', hh⟩ := numT_head i
    have ew : wr (.int i) = numT i := by rw [wr]
    have hcc : c' = c ∧ r' = r := by rw [ew, e'] at hc; exact ⟨(List.cons.inj hc).1, (List.cons.inj hc).2⟩
    obtain ⟨rfl, rfl⟩ := hcc
    have hcn : c' ≠ 34 ∧ c' ≠ 91 ∧ c' ≠ 123 ∧ c' ≠ 121 ∧ c' ≠ 110 := by rcases hh with h | h <;> unfold isDig at h <;> omega
    refine ⟨_, rfl, rfl, _, rfl, ifF (by rw [x1 tl_quote]; exact decide_eq_false hcn.1) ?_⟩
    refine ⟨_, rfl, rfl, _, rfl, ifF (by rw [x1 tl_brack]; exact decide_eq_false hcn.2.1) ?_⟩
    refine ⟨_, rfl, rfl, _, rfl, ifF (by rw [x1 tl_brace]; exact decide_eq_false hcn.2.2.1) ?_⟩
    refine ⟨_, rfl, rfl, _, rfl, t, _, _, rfl, rfl, _, rfl, ifF (sw_head hL1 hp tl_yes hcn.2.2.2.1) ?_⟩
    refine ⟨_, rfl, rfl, _, rfl, t, _, _, rfl, rfl, _, rfl, ifF (sw_head hL1 hp tl_no hcn.2.2.2.2) ?_⟩
    have fin : ∀ H1, Same H H1 → L2.tRet (L2.tCall spNumber [] E0 (tCons (tVar 0) (tCons (tVar 1) tNil))) { nx := fun x H' => Q V.non H', rt := Q } [some (.str t), some (.int (p : Int)), some (.str (S [c']))] H1 := fun H1 s1 => by
      refine ⟨_, rfl, _, rfl, t, p, i, rest, rfl, hz, hp, by rw [hL, ew], hw, hno, fun x hx => ?_⟩
      exact q x (.int i) _ (s1.trans (same_new hx _)) (s1.free hx) (by rw [upd_same, ew]) rfl
    rcases hh with hh | ⟨rfl, d0, r0, rfl, hd0⟩
    · refine ⟨_, rfl, rfl, _, rfl, ifF (by rw [x1 tl_minus]; exact decide_eq_false (by unfold isDig at hh; omega)) ?_⟩
      exact ifF rfl (fin H (.refl H))
    · refine ⟨_, rfl, rfl, _, rfl, ifT (by rw [x1 tl_minus]; exact decide_eq_true rfl) ?_⟩
      have hL2 : (tl t).drop (p + 1) = d0 :: (r0 ++ rest) := drop_more (A := [45]) hL1
      refine ⟨_, rfl, _, rfl, _, _, rfl, rfl, _, rfl, _, rfl, _, _, rfl, rfl, _, rfl, t, rfl, hz.le, ?_⟩
      have ec2 : cutS t (some ((p : Int) + 1)) (some ((p : Int) + 2)) = S [d0] := cut_at hL2 (by omega) 1
      rw [ec2]
      refine ⟨_, rfl, by decide +kernel, fun x hx => ⟨x, _, rfl, .inl (SqL.of upd_same), rfl, all_flat _, _, rfl, ifF ?_ ?_⟩⟩
      · have : inV (V.str (S [d0])) ((tl ("0123456789" : Str)).map fun c => V.str ⟨#[c]⟩) = decide (d0 ∈ tl ("0123456789" : Str)) := inV_sign d0 _
        show (!inV (V.str (S [d0])) ((tl ("0123456789" : Str)).map fun c => V.str ⟨#[c]⟩)) = false
        rw [this, mem_digits, decide_eq_true (show 48 ≤ d0 ∧ d0 ≤ 57 from hd0)]
        rfl
      · exact fin _ (same_new hx _)
end
end K87
namespace K87
open PySem L2 TL SX PySem.Spec PyProof.Rows
theorem parted_len : ((", " : Str).length : Int) = 2 := by decide +kernel
theorem parted_len2 : (", " : Str).length = 2 := by decide +kernel
/-- what stands behind one of the parts -/
def after (r : List (List Nat)) (tail : List Nat) : List Nat := match r with
  | [] => tail
  | x :: r => 44 :: 32 :: (joinL [44, 32] (x :: r) ++ tail)
theorem joinL_cons (x : List Nat) (r : List (List Nat)) (tail : List Nat) : joinL [44, 32] (x :: r) ++ tail = x ++ after r tail := by
  cases r with
  | nil => rfl
  | cons y r =>
    show (x ++ ([44, 32] ++ joinL [44, 32] (y :: r))) ++ tail = x ++ (44 :: 32 :: (joinL [44, 32] (y :: r) ++ tail))
    simp
theorem after_nodig (r : List (List Nat)) {c : Nat} (rest : List Nat) (h : ¬ isDig c) : NoDig (after r (c :: rest)) := by
  intro d l e
  cases r with
  | nil => cases e; exact h
  | cons x r => cases e; exact fun k => absurd k.1 (by decide)
theorem docs_ok_mono {H : Hp} {ok ok' : Addr → Prop} {vs : List V} {ds : List Doc} (m : ∀ a, ok a → ok' a) (h : DocsAt H ok vs ds) : DocsAt H ok' vs ds := docs_frame ds (fun _ _ _ e => e) m h
section
variable {P : Program} {w : World} {K : PySem.W.Frag} {mg : Str → Option Value} {base : Heap}
theorem ok_list_at (T : Txt K mg) (m k : Nat) (G_part_at : Ok P w K mg base k "part_at" p_part_at (spPart m)) : Ok P w K mg base (k + 1) "list_at" p_list_at (spList (m + 1)) := by
  refine T.D_list_at.ok sc_list_at (fun vs H Q E h => ?_) (fun _ _ _ _ _ _ us hl => match us, hl with | [_, _], _ => rfl) (fun f cdv A outer s H vs Q E hr h => ?_)
  · obtain ⟨t, p, _, _, _, rfl, _⟩ := h
    rfl
  obtain ⟨t, p, n, ds, rest, rfl, em, hz, hp, hw, hL, q⟩ := h
  obtain rfl : m = n := by omega
  refine ⟨_, (pss_cons (ps_if (pt_val (pe_bm PySem.F.plainAttrs_str PySem.F.slot_str_startswith PySem.F.type_str_startswith mt_startswith3 (pv 0) (pa_cons pe_str (pa_cons (pe_op op_add (pv 1) pe_int) pa_nil))))
  (pss_one (ps_ret (pe_tup (pa_cons (pe_lst pa_nil) (pa_cons (pe_op op_add (pv 1) (pe_gI T.c_PAIR)) pa_nil)))))
  pss_nil)
  (pss_cons (ps_par (i := 2) (j := 3) (by rfl) sc_list_at.nd rfl rfl (by decide) rfl rfl (pa_cons (pe_lst pa_nil) (pa_cons (pe_gS T.c_PARTED) pa_nil)) (by rfl))
  (pss_cons (ps_aug (i := 1) sc_list_at.nd rfl (.inl rfl) pe_int ip_add)
  (pss_cons (ps_while PassesOwn.never (pt_cmpR op_eq (pv 3) (pe_gS T.c_PARTED) (nomark _))
  (pss_cons (ps_set (i := 4) sc_list_at.nd rfl (Or.inl rfl) (pe_callO G_part_at (hr.mono (by omega)) (pa_cons (pv 0) (pa_cons (pv 1) pa_nil))))
  (pss_cons (ps_if (pt_cmpR op_isN (pv 4) pe_non (nomark _))
  (pss_one (ps_ret pe_non))
  pss_nil)
  (pss_cons (ps_expr (pe_bm PySem.F.plainAttrs_list PySem.F.slot_list_append PySem.F.type_list_append mt_append (pv 2) (pa_cons (pe_ix ix_tup (pv 4) pe_int (fun _ _ => rfl)) pa_nil)))
  (pss_cons (ps_set (i := 1) sc_list_at.nd rfl (Or.inl rfl) (pe_ix ix_tup (pv 4) pe_int (fun _ _ => rfl)))
  (pss_cons (ps_set (i := 3) sc_list_at.nd rfl (Or.inl rfl) (pe_slice sl_str (pv 0) (po_some (pv 1)) (po_some (pe_op op_add (pv 1) (pe_callB call_len_str (by rfl) T.b_len (by decide +kernel) (pa_cons (pe_gS T.c_PARTED) pa_nil))))))
  (pss_one (ps_aug (i := 1) sc_list_at.nd rfl (.inl rfl) (pe_ifExp (pt_cmpR op_eq (pv 3) (pe_gS T.c_PARTED) (nomark _)) (pe_callB call_len_str (by rfl) T.b_len (by decide +kernel) (pa_cons (pe_gS T.c_PARTED) pa_nil)) pe_int) ip_add))))))))
  (pss_one (ps_ret (pe_ifExp (pt_val (pe_bm PySem.F.plainAttrs_str PySem.F.slot_str_startswith PySem.F.type_str_startswith mt_startswith3 (pv 0) (pa_cons pe_str (pa_cons (pv 1) pa_nil)))) (pe_tup (pa_cons (pv 2) (pa_cons (pe_op op_add (pv 1) pe_int) pa_nil))) pe_non))))))), ?_⟩
  have hwr : wr (.list ds) = 91 :: (joinL [44, 32] (wrs ds) ++ [93]) := by rw [wr]
  have hL1 : (tl t).drop (p + 1) = joinL [44, 32] (wrs ds) ++ 93 :: rest := drop_more (A := [91]) (by rw [hL, hwr]; simp)
  have hle := le_of_drop (t := t) (p := p) (L := wr (.list ds) ++ rest) hL (by rw [hwr]; simp)
  rw [List.length_append] at hle
  have hzz := hz
  unfold Short at hzz
  refine ⟨_, rfl, rfl, _, rfl, _, _, rfl, rfl, t, _, _, rfl, rfl, _, rfl, ?_⟩
  cases ds with
  | nil =>
    have hL2 : (tl t).drop (p + 1) = 93 :: rest := hL1
    obtain ⟨_, hp1⟩ := item_at hL2
    refine ifT (sw_yes (p := p + 1) (ys := [93]) (r := rest) hL2 (by omega) tl_rbrack) ?_
    refine ⟨Nat.zero_le _, fun F hF => ⟨_, rfl, _, _, rfl, rfl, (by show 2 ≤ sizeLine; decide), fun x hx => ?_⟩⟩
    have nFx : F ≠ x := ne_of_none upd_same hx
    exact q x (.ref F) _ ((same_new hF _).trans (same_new hx _)) ((same_new hF _).free hx) (by rw [upd_same]; rfl) ⟨F, [], rfl, hF, by rw [upd_ne nFx, upd_same], rfl⟩
  | cons d0 ds0 =>
    have hl3 : (d0 :: ds0).length ≤ 4 := hw.2.1
    obtain ⟨c0, r0, hc0, n93, _⟩ := wr_head d0
    have hL2 : (tl t).drop (p + 1) = c0 :: (r0 ++ after (wrs ds0) (93 :: rest)) := by
      rw [hL1, wrs, joinL_cons, hc0]
      rfl
    obtain ⟨_, hp1⟩ := item_at hL2
    refine ifF (sw_head (p := p + 1) hL2 (by omega) tl_rbrack n93) ?_
    refine ⟨Nat.zero_le _, fun F hF => ⟨_, _, rfl, ?_⟩⟩
    refine ⟨_, rfl, _, _, rfl, rfl, ?_⟩
    generalize hds : d0 :: ds0 = ds at *
    refine ⟨fun n σ H' => ∃ (done todo : List Doc) (vs : List V) (pos : Nat) (sg : Str) (pt : Option V), n = todo.length ∧ ds = done ++ todo ∧ σ = [some (.str t), some (.int (pos : Int)), some (.ref F), some (.str sg), pt] ∧ Same H H' ∧ H' F = some (.lst vs) ∧
      DocsAt H' (fun b => H b = none ∧ b ≠ F) vs (srts done) ∧ pos ≤ t.length ∧ ((todo ≠ [] ∧ tl sg = [44, 32] ∧ (tl t).drop pos = joinL [44, 32] (wrs todo) ++ 93 :: rest) ∨ (todo = [] ∧ tl sg ≠ [44, 32] ∧ (tl t).drop pos = 93 :: rest)),
      ⟨ds.length, [], ds, [], p + 1, (", " : Str), none, rfl, rfl, rfl, same_new hF _, upd_same, rfl, by omega, .inl ⟨by rw [← hds]; simp, tl_parted, hL1⟩⟩, ?_⟩
    rintro n σ H' ⟨done, todo, vs, pos, sg, pt, rfl, hdt, rfl, s1, hF1, hdocs, hpos, hcase⟩
    refine ⟨_, rfl, rfl, _, rfl, ?_⟩
    rcases hcase with ⟨hne, hsg, hdrop⟩ | ⟨rfl, hsg, hdrop⟩
    · refine ifT (by rw [eqs, tl_parted]; exact decide_eq_true hsg) ?_
      cases todo with
      | nil => exact absurd rfl hne
      | cons d r =>
        rw [wrs, joinL_cons] at hdrop
        have hdm : d ∈ ds := by rw [hdt]; simp
        have hwd : Wf (m - 1) d := wfs_iff.mp hw.2.2 d hdm
        have hw1 := hw.1
        have hposL := le_of_drop hdrop (by obtain ⟨c, r', e, _⟩ := wr_head d; rw [e]; simp)
        rw [List.length_append] at hposL
        refine ⟨fun σ H1 => ∃ (done' todo' : List Doc) (vs : List V) (pos : Nat) (sg : Str) (pt : Option V), r.length = todo'.length ∧ ds = done' ++ todo' ∧ σ = [some (.str t), some (.int (pos : Int)), some (.ref F), some (.str sg), pt] ∧ Same H H1 ∧ H1 F = some (.lst vs) ∧
          DocsAt H1 (fun b => H b = none ∧ b ≠ F) vs (srts done') ∧ pos ≤ t.length ∧ ((todo' ≠ [] ∧ tl sg = [44, 32] ∧ (tl t).drop pos = joinL [44, 32] (wrs todo') ++ 93 :: rest) ∨ (todo' = [] ∧ tl sg ≠ [44, 32] ∧ (tl t).drop pos = 93 :: rest)),
          fun σ H1 h => ⟨r.length, by simp, h⟩, ?_⟩
        refine ⟨_, rfl, _, rfl, t, pos, m - 1, d, after (wrs r) (93 :: rest), rfl, by omega, hz, hpos, hwd, hdrop, after_nodig _ _ (fun k => absurd k.2 (by decide)), fun q' v H2 s2 hq hq2 hdoc => ?_⟩
        refine ⟨_, rfl, rfl, _, rfl, ifF (decide_eq_false (by intro e; cases e)) ?_⟩
        have hF2 := s2 _ _ hF1
        have hvl : vs.length = done.length := by rw [docs_len hdocs, srts_map, List.length_map]
        have hdl : done.length + (d :: r).length = ds.length := by rw [hdt, List.length_append]
        refine ⟨_, rfl, .inl ⟨rfl, _, SqL.of hF2⟩, _, rfl, q', _, _, _, rfl, rfl, SqT.of hq2, rfl, F, _, _, rfl, rfl, hF2, Nat.lt_of_le_of_lt (by rw [hvl]; omega : vs.length ≤ 4) (by decide), ?_⟩
        have nqF : q' ≠ F := fun e => by rw [e, hF1] at hq; cases hq
        have hq3 : upd H2 F (.lst (vs ++ [v])) q' = some (.tup [v, .int ((pos + (wr d).length : Nat) : Int)]) := by rw [upd_ne nqF]; exact hq2
        refine ⟨_, rfl, q', _, _, _, rfl, rfl, SqT.of hq3, rfl, ?_⟩
        have hdrop2 : (tl t).drop (pos + (wr d).length) = after (wrs r) (93 :: rest) := drop_more hdrop
        refine ⟨_, rfl, _, rfl, _, rfl, _, rfl, _, rfl, by decide +kernel, _, _, rfl, rfl, _, rfl, t, rfl, hz.le, ?_⟩
        have ec : cutS t (some ((pos + (wr d).length : Nat) : Int)) (some (((pos + (wr d).length : Nat) : Int) + ((", " : Str).length : Int))) = S ((after (wrs r) (93 :: rest)).take 2) := by
          rw [parted_len]
          exact cut_at hdrop2 (by omega) 2
        rw [ec]
        have sF : ∀ b o, b ≠ F → H2 b = some o → upd H2 F (.lst (vs ++ [v])) b = some o := fun b o n e => by rw [upd_ne n]; exact e
        have hdocs2 : DocsAt (upd H2 F (.lst (vs ++ [v]))) (fun b => H b = none ∧ b ≠ F) (vs ++ [v]) (srts (done ++ [d])) := by
          have e : srts (done ++ [d]) = srts done ++ [srt d] := by rw [srts_map, srts_map, List.map_append]; rfl
          rw [e]
          refine docs_snoc ?_ (docs_frame _ (fun b o k e => sF b o k.2 (s2 _ _ e)) (fun _ k => k) hdocs)
          refine doc_frame _ (fun b o k e => sF b o (fun z => by rw [z, hF1] at k; cases k) e) (fun b k => ⟨s1.free k, fun z => by rw [z, hF1] at k; cases k⟩) hdoc
        have s3 : Same H (upd H2 F (.lst (vs ++ [v]))) := same_mut (s1.trans s2) hF _
        have hdt2 : ds = (done ++ [d]) ++ r := by rw [hdt, List.append_assoc]; rfl
        refine ⟨_, rfl, _, rfl, rfl, _, rfl, ?_⟩
        cases r with
        | nil =>
          have hnb : tl (S ((after (wrs []) (93 :: rest)).take 2)) ≠ [44, 32] := by
            show (93 :: rest).take 2 ≠ [44, 32]
            intro e
            have := (List.cons.inj e).1
            omega
          refine ifF (by rw [eqs, tl_parted]; exact decide_eq_false hnb) ?_
          exact ⟨_, _, rfl, rfl, done ++ [d], [], _, pos + (wr d).length, _, _, rfl, hdt2, rfl, s3, upd_same, hdocs2, by omega, .inr ⟨rfl, hnb, hdrop2⟩⟩
        | cons d2 r2 =>
          have hnb : tl (S ((after (wrs (d2 :: r2)) (93 :: rest)).take 2)) = [44, 32] := rfl
          refine ifT (by rw [eqs, tl_parted]; exact decide_eq_true hnb) ?_
          have hdrop3 : (tl t).drop (pos + (wr d).length + 2) = joinL [44, 32] (wrs (d2 :: r2)) ++ 93 :: rest := drop_more (A := [44, 32]) hdrop2
          have hlen3 := le_of_drop hdrop3 (by obtain ⟨c, r', e, _⟩ := wr_head d2; rw [wrs, joinL_cons, e]; simp)
          refine ⟨_, rfl, by decide +kernel, _, _, rfl, rfl, done ++ [d], d2 :: r2, _, pos + (wr d).length + 2, _, some (.ref q'), rfl, hdt2, ?_, s3, upd_same, hdocs2, by omega, .inl ⟨by simp, hnb, hdrop3⟩⟩
          show ([some (.str t), some (.int (((pos + (wr d).length : Nat) : Int) + ((", " : Str).length : Int))), some (.ref F), _, _] : List (Option V)) = _
          rw [parted_len]
          rfl
    · refine ifF (by rw [eqs, tl_parted]; exact decide_eq_false hsg) ?_
      have hposL := le_of_drop hdrop (by simp)
      refine ⟨_, rfl, rfl, _, rfl, t, _, _, rfl, rfl, _, rfl, ifT (sw_yes (ys := [93]) (r := rest) hdrop hpos tl_rbrack) ?_⟩
      refine ⟨_, rfl, _, rfl, _, _, rfl, rfl, (by show 2 ≤ sizeLine; decide), fun x hx => ?_⟩
      have nFx : F ≠ x := ne_of_none hF1 hx
      rw [List.append_nil] at hdt
      subst hdt
      have ev : pos + 1 = p + (wr (.list ds)).length := by
        rw [List.length_cons] at hposL
        omega
      refine q x (.ref F) _ (s1.trans (same_new hx _)) (s1.free hx) (by rw [upd_same, ← ev]; rfl) ?_
      refine ⟨F, vs, rfl, hF, by rw [upd_ne nFx]; exact hF1, ?_⟩
      exact docs_frame _ (fun b o k e => same_new hx _ _ _ e) (fun _ k => k) hdocs
end
end K87
namespace K87
open PySem L2 TL SX PySem.Spec PyProof.Rows
theorem named_len : ((": " : Str).length : Int) = 2 := by decide +kernel
def rowD (p : Str × Doc) : List Nat := rowT (p.1, wr p.2)
def srt2 (p : Str × Doc) : Str × Doc := (p.1, srt p.2)
theorem wr_dict (fs : List (Str × Doc)) : wr (.dict fs) = 123 :: (joinL [44, 32] ((sortF fs).map rowD) ++ [125]) := by
  rw [wr, rowsT, wrf_map, sortF_map, List.map_map]
  rfl
theorem srt_dict (fs : List (Str × Doc)) : srt (.dict fs) = .dict ((sortF fs).map srt2) := by
  rw [srt, srtf_map, sortF_map]
  rfl
theorem name_cons {f : Str} (h : NameOk f) : ∃ c r, tl f = c :: r ∧ 97 ≤ c ∧ c ≤ 122 := by
  cases e : tl f with
  | nil =>
    have := h.1.1
    rw [len_tl, e] at this
    exact absurd this (by decide)
  | cons c r => exact ⟨c, r, rfl, h.2 c (by rw [e]; simp)⟩
section
variable {P : Program} {w : World} {K : PySem.W.Frag} {mg : Str → Option Value} {base : Heap}
theorem ok_record_at (T : Txt K mg) (m k : Nat) (hk : 1 ≤ k) (G_part_at : Ok P w K mg base k "part_at" p_part_at (spPart m)) : Ok P w K mg base (k + 1) "record_at" p_record_at (spRec (m + 1)) := by
  have G_is_name : Ok P w K mg base k "is_name" p_is_name spName := (ok_is_name T).mono hk
  have G_field_at : Ok P w K mg base k "field_at" p_field_at spField := (ok_field_at T).mono hk
  refine T.D_record_at.ok sc_record_at (fun vs H Q E h => ?_) (fun _ _ _ _ _ _ us hl => match us, hl with | [_, _], _ => rfl) (fun f cdv A outer s H vs Q E hr h => ?_)
  · obtain ⟨t, p, _, _, _, rfl, _⟩ := h
    rfl
  obtain ⟨t, p, n, fs, rest, rfl, em, hz, hp, hw, hL, q⟩ := h
  obtain rfl : m = n := by omega
  have hu := hu_of hr
  refine ⟨_, (pss_cons (ps_if (pt_val (pe_bm PySem.F.plainAttrs_str PySem.F.slot_str_startswith PySem.F.type_str_startswith mt_startswith3 (pv 0) (pa_cons pe_str (pa_cons (pe_op op_add (pv 1) pe_int) pa_nil))))
  (pss_one (ps_ret (pe_tup (pa_cons pe_dnewK (pa_cons (pe_op op_add (pv 1) (pe_gI T.c_PAIR)) pa_nil)))))
  pss_nil)
  (pss_cons (ps_par3 (i := 2) (j := 3) (l := 4) (by rfl) sc_record_at.nd rfl rfl rfl (by decide) (by decide) (by decide) rfl rfl rfl (pa_cons pe_dnewK (pa_cons pe_str (pa_cons (pe_gS T.c_PARTED) pa_nil))) (by rfl))
  (pss_cons (ps_aug (i := 1) sc_record_at.nd rfl (.inl rfl) pe_int ip_add)
  (pss_cons (ps_while PassesOwn.never (pt_cmpR op_eq (pv 4) (pe_gS T.c_PARTED) (nomark _))
  (pss_cons (ps_set (i := 5) sc_record_at.nd rfl (Or.inl rfl) (pe_callO G_field_at (hr.mono (by omega)) (pa_cons (pv 0) (pa_cons (pv 1) pa_nil))))
  (pss_cons (ps_if (PW.pt (pw_or (pt_not (pt_val (pe_callO G_is_name (hr.mono (by omega)) (pa_cons (pv 5) pa_nil)))) (pw_or1 (pt_cmpR op_le_str (pv 5) (pv 3) (nomark _)))))
  (pss_one (ps_ret pe_non))
  pss_nil)
  (pss_cons (ps_set (i := 6) sc_record_at.nd rfl (Or.inl rfl) (pe_callO G_part_at (hr.mono (by omega)) (pa_cons (pv 0) (pa_cons (pe_op op_add (pe_op op_add (pv 1) (pe_callB call_len_str (by rfl) T.b_len (by decide +kernel) (pa_cons (pv 5) pa_nil))) (pe_callB call_len_str (by rfl) T.b_len (by decide +kernel) (pa_cons (pe_gS T.c_NAMED) pa_nil))) pa_nil))))
  (pss_cons (ps_if (pt_cmpR op_isN (pv 6) pe_non (nomark _))
  (pss_one (ps_ret pe_non))
  pss_nil)
  (pss_cons (ps_asg (pe_tup (pa_cons (pe_ix ix_tup (pv 6) pe_int (fun _ _ => rfl)) (pa_cons (pv 5) (pa_cons (pe_ix ix_tup (pv 6) pe_int (fun _ _ => rfl)) pa_nil)))) (pg_tup rfl (pgs_cons (pg_sub (pv 2) (pv 5) (set_dict hu)) (pgs_cons (pg_name (i := 3) sc_record_at.nd rfl (Or.inl rfl)) (pgs_cons (pg_name (i := 1) sc_record_at.nd rfl (Or.inl rfl)) pgs_nil)))))
  (pss_cons (ps_set (i := 4) sc_record_at.nd rfl (Or.inl rfl) (pe_slice sl_str (pv 0) (po_some (pv 1)) (po_some (pe_op op_add (pv 1) (pe_callB call_len_str (by rfl) T.b_len (by decide +kernel) (pa_cons (pe_gS T.c_PARTED) pa_nil))))))
  (pss_one (ps_aug (i := 1) sc_record_at.nd rfl (.inl rfl) (pe_ifExp (pt_cmpR op_eq (pv 4) (pe_gS T.c_PARTED) (nomark _)) (pe_callB call_len_str (by rfl) T.b_len (by decide +kernel) (pa_cons (pe_gS T.c_PARTED) pa_nil)) pe_int) ip_add)))))))))
  (pss_one (ps_ret (pe_ifExp (pt_val (pe_bm PySem.F.plainAttrs_str PySem.F.slot_str_startswith PySem.F.type_str_startswith mt_startswith3 (pv 0) (pa_cons pe_str (pa_cons (pv 1) pa_nil)))) (pe_tup (pa_cons (pv 2) (pa_cons (pe_op op_add (pv 1) pe_int) pa_nil))) pe_non))))))), ?_⟩
  have hnd := hw.2.2.1
  have hasc := sortF_asc hnd
  have hperm := sortF_perm fs
  have hgl : (sortF fs).length ≤ 4 := by rw [hperm.length_eq]; exact hw.2.1
  have hgn : ((sortF fs).map (·.1)).Nodup := ((hperm.map (·.1)).nodup_iff).mpr hnd
  have hgw : ∀ p ∈ sortF fs, NameOk p.1 ∧ Wf (m - 1) p.2 := fun p hp => wff_iff.mp hw.2.2.2 p (hperm.mem_iff.mp hp)
  rw [wr_dict] at hL q
  rw [srt_dict] at q
  generalize sortF fs = gs at *
  have hL1 : (tl t).drop (p + 1) = joinL [44, 32] (gs.map rowD) ++ 125 :: rest := drop_more (A := [123]) (by rw [hL]; simp)
  have hle := le_of_drop hL (by simp)
  rw [List.length_append] at hle
  have hzz := hz
  unfold Short at hzz
  refine ⟨_, rfl, rfl, _, rfl, _, _, rfl, rfl, t, _, _, rfl, rfl, _, rfl, ?_⟩
  cases gs with
  | nil =>
    have hL2 : (tl t).drop (p + 1) = 125 :: rest := hL1
    obtain ⟨_, hp1⟩ := item_at hL2
    refine ifT (sw_yes (p := p + 1) (ys := [125]) (r := rest) hL2 (by omega) tl_rbrace) ?_
    refine fun F hF => ⟨_, rfl, _, _, rfl, rfl, (by show 2 ≤ sizeLine; decide), fun x hx => ?_⟩
    have nFx : F ≠ x := ne_of_none upd_same hx
    exact q x (.ref F) _ ((same_new hF _).trans (same_new hx _)) ((same_new hF _).free hx) (by rw [upd_same]; rfl) ⟨F, [], rfl, hF, by rw [upd_ne nFx, upd_same], rfl⟩
  | cons d0 ds0 =>
    obtain ⟨c0, r0, hc0, n97, n122⟩ := name_cons (hgw d0 (by simp)).1
    have hL2 : (tl t).drop (p + 1) = c0 :: (r0 ++ [58, 32] ++ wr d0.2 ++ after (ds0.map rowD) (125 :: rest)) := by
      rw [hL1, List.map_cons, joinL_cons]
      unfold rowD rowT
      rw [hc0]
      simp
    obtain ⟨_, hp1⟩ := item_at hL2
    refine ifF (sw_head (p := p + 1) hL2 (by omega) tl_rbrace (by omega)) ?_
    refine fun F hF => ⟨_, _, _, rfl, ?_⟩
    refine ⟨_, rfl, _, _, rfl, rfl, ?_⟩
    generalize hds : d0 :: ds0 = gs at *
    refine ⟨fun n σ H' => ∃ (done todo : List (Str × Doc)) (rs : List (Key × V)) (pos : Nat) (sg la : Str) (fv pt : Option V), n = todo.length ∧ gs = done ++ todo ∧ σ = [some (.str t), some (.int (pos : Int)), some (.ref F), some (.str la), some (.str sg), fv, pt] ∧ Same H H' ∧ H' F = some (.dK rs) ∧
      FldsAt H' (fun b => H b = none ∧ b ≠ F) rs (done.map srt2) ∧ pos ≤ t.length ∧ (∀ p ∈ todo, ltC (tl la) (tl p.1) = true) ∧ ((todo ≠ [] ∧ tl sg = [44, 32] ∧ (tl t).drop pos = joinL [44, 32] (todo.map rowD) ++ 125 :: rest) ∨ (todo = [] ∧ tl sg ≠ [44, 32] ∧ (tl t).drop pos = 125 :: rest)),
      ⟨gs.length, [], gs, [], p + 1, (", " : Str), ("" : Str), none, none, rfl, rfl, rfl, same_new hF _, upd_same, rfl, by omega, fun p hp => by
        obtain ⟨c, r, e, _⟩ := name_cons (hgw p hp).1
        rw [e, show tl ("" : Str) = [] by decide +kernel]; rfl, .inl ⟨by rw [← hds]; simp, tl_parted, hL1⟩⟩, ?_⟩
    rintro n σ H' ⟨done, todo, rs, pos, sg, la, fv, pt, rfl, hdt, rfl, s1, hF1, hdocs, hpos, hlast, hcase⟩
    refine ⟨_, rfl, rfl, _, rfl, ?_⟩
    rcases hcase with ⟨hne, hsg, hdrop⟩ | ⟨rfl, hsg, hdrop⟩
    · refine ifT (by rw [eqs, tl_parted]; exact decide_eq_true hsg) ?_
      cases todo with
      | nil => exact absurd rfl hne
      | cons d r =>
        obtain ⟨fn, d⟩ := d
        rw [List.map_cons, joinL_cons] at hdrop
        have hdm : (fn, d) ∈ gs := by rw [hdt]; simp
        obtain ⟨hname, hwd⟩ := hgw (fn, d) hdm
        have hname : NameOk fn := hname
        have hwd : Wf (m - 1) d := hwd
        have hw1 := hw.1
        have hrow : rowD (fn, d) ++ after (r.map rowD) (125 :: rest) = tl fn ++ [58, 32] ++ (wr d ++ after (r.map rowD) (125 :: rest)) := by unfold rowD rowT; simp
        rw [hrow] at hdrop
        have hposL := le_of_drop hdrop (by obtain ⟨c, r', e, _⟩ := name_cons hname; rw [e]; simp)
        simp only [List.length_append, List.length_cons, List.length_nil] at hposL
        have hfl : (tl fn).length = fn.length := (len_tl fn).symm
        refine ⟨fun σ H1 => ∃ (done' todo' : List (Str × Doc)) (rs : List (Key × V)) (pos : Nat) (sg la : Str) (fv pt : Option V), r.length = todo'.length ∧ gs = done' ++ todo' ∧ σ = [some (.str t), some (.int (pos : Int)), some (.ref F), some (.str la), some (.str sg), fv, pt] ∧ Same H H1 ∧ H1 F = some (.dK rs) ∧
          FldsAt H1 (fun b => H b = none ∧ b ≠ F) rs (done'.map srt2) ∧ pos ≤ t.length ∧ (∀ p ∈ todo', ltC (tl la) (tl p.1) = true) ∧ ((todo' ≠ [] ∧ tl sg = [44, 32] ∧ (tl t).drop pos = joinL [44, 32] (todo'.map rowD) ++ 125 :: rest) ∨ (todo' = [] ∧ tl sg ≠ [44, 32] ∧ (tl t).drop pos = 125 :: rest)),
          fun σ H1 h => ⟨r.length, by simp, h⟩, ?_⟩
        refine ⟨_, rfl, _, rfl, t, pos, fn, _, rfl, hz, hpos, hdrop, fun h => ?_, ?_⟩
        · have := hname.2 58 h
          omega
        refine ⟨_, rfl, fn, rfl, hname, fun H1 sn => ⟨true, rfl, ifN rfl ?_⟩⟩
        have hlt := hlast (fn, d) (by simp)
        refine ⟨_, rfl, _, rfl, _, _, rfl, rfl, _, rfl, ifF ?_ ?_⟩
        · show (!decide (tl la < tl fn)) = false
          rw [← ltCps_eq]
          have hlt' : ltCps (tl la) (tl fn) = true := hlt
          rw [hlt']
          rfl
        have hdropP : (tl t).drop (pos + (tl fn).length + 2) = wr d ++ after (r.map rowD) (125 :: rest) := by
          rw [List.append_assoc] at hdrop
          exact drop_more (A := [58, 32]) (drop_more (A := tl fn) hdrop)
        refine ⟨_, rfl, _, rfl, _, rfl, fn, rfl, Nat.le_trans hname.1.2 (by decide), _, _, rfl, rfl, _, rfl, by decide +kernel, _, _, rfl, rfl, t, pos + (tl fn).length + 2, m - 1, d, after (r.map rowD) (125 :: rest), ?_, by omega, hz, by omega, hwd, hdropP, after_nodig _ _ (fun k => absurd k.2 (by decide)), fun q' v H2 s2 hq hq2 hdoc => ?_⟩
        · show ([.str t, .int (((pos : Int) + (fn.length : Int)) + ((": " : Str).length : Int))] : List V) = _
          rw [named_len, hfl]
          rfl
        have s2 : Same H' H2 := sn.trans s2
        have hq' : H' q' = none := sn.free hq
        refine ⟨_, rfl, rfl, _, rfl, ifF (decide_eq_false (by intro e; cases e)) ?_⟩
        have hF2 := s2 _ _ hF1
        have hvl : rs.length = done.length := by rw [flds_len hdocs, List.length_map]
        have hdl : done.length + ((fn, d) :: r).length = gs.length := by rw [hdt, List.length_append]
        refine ⟨_, rfl, q', _, _, _, rfl, rfl, SqT.of hq2, rfl, _, rfl, _, rfl, q', _, _, _, rfl, rfl, SqT.of hq2, rfl, (by show 3 ≤ sizeLine; decide), fun U hU => ?_⟩
        have nUF : F ≠ U := ne_of_none hF2 hU
        have sU : Same H2 (upd H2 U (.tup [v, .str fn, .int ((pos + (tl fn).length + 2 + (wr d).length : Nat) : Int)])) := same_new hU _
        have hnew : valV rs (.inr fn) = none := flds_no hdocs (by
          rw [List.map_map]
          intro hm
          rw [hdt, List.map_append] at hgn
          obtain ⟨_, _, dj⟩ := List.nodup_append.mp hgn
          obtain ⟨x, hx, ex⟩ := List.mem_map.mp hm
          exact dj x.1 (List.mem_map_of_mem hx) fn (by simp) ex)
        refine ⟨U, _, rfl, SqT.of upd_same, rfl, v, _, rfl, _, rfl, _, rfl, F, _, rfl, DPut.k (k := Sum.inr fn) (by rw [upd_ne nUF]; exact hF2) (Nat.lt_of_le_of_lt (by rw [hvl]; omega : rs.length ≤ 4) (by decide)), _, _, rfl, _, _, rfl, rfl, ?_⟩
        rw [putK_new _ hnew]
        have hdrop2 : (tl t).drop (pos + (tl fn).length + 2 + (wr d).length) = after (r.map rowD) (125 :: rest) := drop_more hdropP
        refine ⟨_, rfl, _, rfl, _, rfl, _, rfl, _, rfl, by decide +kernel, _, _, rfl, rfl, _, rfl, t, rfl, hz.le, ?_⟩
        have ec : cutS t (some ((pos + (tl fn).length + 2 + (wr d).length : Nat) : Int)) (some (((pos + (tl fn).length + 2 + (wr d).length : Nat) : Int) + ((", " : Str).length : Int))) = S ((after (r.map rowD) (125 :: rest)).take 2) := by
          rw [parted_len]
          exact cut_at hdrop2 (by omega) 2
        rw [ec]
        generalize hH3 : upd (upd H2 U (.tup [v, .str fn, .int ((pos + (tl fn).length + 2 + (wr d).length : Nat) : Int)])) F (.dK (rs ++ [(Sum.inr fn, v)])) = H3
        have sF : ∀ b o, b ≠ F → H2 b = some o → H3 b = some o := fun b o n e => by rw [← hH3, upd_ne n]; exact sU b o e
        have hF3 : H3 F = some (.dK (rs ++ [(Sum.inr fn, v)])) := by rw [← hH3, upd_same]
        have hdocs2 : FldsAt H3 (fun b => H b = none ∧ b ≠ F) (rs ++ [(Sum.inr fn, v)]) ((done ++ [(fn, d)]).map srt2) := by
          rw [List.map_append]
          refine flds_snoc ?_ (flds_frame _ (fun b o k e => sF b o k.2 (s2 _ _ e)) (fun _ k => k) hdocs)
          refine doc_frame _ (fun b o k e => sF b o (fun z => by rw [z, sn _ _ hF1] at k; cases k) e) (fun b k => ⟨s1.free (sn.free k), fun z => by rw [z, sn _ _ hF1] at k; cases k⟩) hdoc
        have s3 : Same H H3 := fun b o e => sF b o (fun z => by rw [z, hF] at e; cases e) (s2 _ _ (s1 _ _ e))
        have hdt2 : gs = (done ++ [(fn, d)]) ++ r := by rw [hdt, List.append_assoc]; rfl
        have hlast2 : ∀ p ∈ r, ltC (tl fn) (tl p.1) = true := fun p hp => by
          rw [hdt] at hasc
          obtain ⟨_, a2, _⟩ := List.pairwise_append.mp hasc
          exact (List.pairwise_cons.mp a2).1 p hp
        refine ⟨_, rfl, _, rfl, rfl, _, rfl, ?_⟩
        cases r with
        | nil =>
          have hnb : tl (S ((after ([].map rowD) (125 :: rest)).take 2)) ≠ [44, 32] := by
            show (125 :: rest).take 2 ≠ [44, 32]
            intro e
            have := (List.cons.inj e).1
            omega
          refine ifF (by rw [eqs, tl_parted]; exact decide_eq_false hnb) ?_
          exact ⟨_, _, rfl, rfl, done ++ [(fn, d)], [], _, pos + (tl fn).length + 2 + (wr d).length, _, fn, some (.str fn), some (.ref q'), rfl, hdt2, rfl, s3, hF3, hdocs2, by omega, hlast2, .inr ⟨rfl, hnb, hdrop2⟩⟩
        | cons d2 r2 =>
          have hnb : tl (S ((after ((d2 :: r2).map rowD) (125 :: rest)).take 2)) = [44, 32] := rfl
          refine ifT (by rw [eqs, tl_parted]; exact decide_eq_true hnb) ?_
          have hdrop3 : (tl t).drop (pos + (tl fn).length + 2 + (wr d).length + 2) = joinL [44, 32] ((d2 :: r2).map rowD) ++ 125 :: rest := drop_more (A := [44, 32]) hdrop2
          have hlen3 := le_of_drop hdrop3 (by
            obtain ⟨c, r', e, _⟩ := name_cons (hgw d2 (by rw [hdt]; simp)).1
            rw [List.map_cons, joinL_cons]
            unfold rowD rowT
            rw [e]; simp)
          refine ⟨_, rfl, by decide +kernel, _, _, rfl, rfl, done ++ [(fn, d)], d2 :: r2, _, pos + (tl fn).length + 2 + (wr d).length + 2, _, fn, some (.str fn), some (.ref q'), rfl, hdt2, ?_, s3, hF3, hdocs2, by omega, hlast2, .inl ⟨by simp, hnb, hdrop3⟩⟩
          show ([some (.str t), some (.int (((pos + (tl fn).length + 2 + (wr d).length : Nat) : Int) + ((", " : Str).length : Int))), some (.ref F), _, _, _, _] : List (Option V)) = _
          rw [parted_len]
          rfl
    · refine ifF (by rw [eqs, tl_parted]; exact decide_eq_false hsg) ?_
      have hposL := le_of_drop hdrop (by simp)
      refine ⟨_, rfl, rfl, _, rfl, t, _, _, rfl, rfl, _, rfl, ifT (sw_yes (ys := [125]) (r := rest) hdrop hpos tl_rbrace) ?_⟩
      refine ⟨_, rfl, _, rfl, _, _, rfl, rfl, (by show 2 ≤ sizeLine; decide), fun x hx => ?_⟩
      have nFx : F ≠ x := ne_of_none hF1 hx
      rw [List.append_nil] at hdt
      subst hdt
      have ev : pos + 1 = p + (123 :: (joinL [44, 32] (gs.map rowD) ++ [125])).length := by
        rw [List.length_cons] at hposL
        omega
      refine q x (.ref F) _ (s1.trans (same_new hx _)) (s1.free hx) (by rw [upd_same, ← ev]; rfl) ?_
      refine ⟨F, rs, rfl, hF, by rw [upd_ne nFx]; exact hF1, ?_⟩
      exact flds_frame _ (fun b o k e => same_new hx _ _ _ e) (fun _ k => k) hdocs
end
end K87
namespace K87
open PySem L2 TL SX PySem.Spec PyProof.Rows
section
variable {P : Program} {w : World} {K : PySem.W.Frag} {mg : Str → Option Value} {base : Heap}
theorem ok_parts (T : Txt K mg) : ∀ m, Ok P w K mg base (2 * m + 3) "part_at" p_part_at (spPart m)
  | 0 => T.D_part_at.no (N := N_part_at) (fun vs H Q E ⟨_, _, _, _, _, _, e, _⟩ => by omega) (fun _ _ _ _ _ _ us hl => match us, hl with | [_, _], _ => rfl)
  | m + 1 => by
    have ih := ok_parts T m
    exact ok_part_at T (m + 1) (2 * m + 4) (by omega) (ok_list_at T m (2 * m + 3) ih) (ok_record_at T m (2 * m + 3) (by omega) ih)
def spDocIn (m : Nat) : Sp := fun vs H Q _ => ∃ (t : Str) (n : Nat) (d : Doc), vs = [.str t] ∧ m = n + 1 ∧ Short t ∧ Wf n d ∧ tl t = wr d ∧
  ∀ r v H', Same H H' → H r = none → H' r = some (.tup [v]) → DocAt H' (fun b => H b = none) v (srt d) → Q (.ref r) H'
theorem ok_document_in (T : Txt K mg) (m : Nat) : Ok P w K mg base (2 * m + 4) "document_in" p_document_in (spDocIn m) := by
  have G_part_at : Ok P w K mg base (2 * m + 3) "part_at" p_part_at (spPart m) := ok_parts T m
  refine T.D_document_in.ok sc_document_in (fun vs H Q E h => ?_) (fun _ _ _ _ _ _ us hl => match us, hl with | [_], _ => rfl) (fun f cdv A outer s H vs Q E hr h => ?_)
  · obtain ⟨t, _, _, rfl, _⟩ := h
    rfl
  obtain ⟨t, n, d, rfl, em, hz, hw, ht, q⟩ := h
  refine ⟨_, (pss_cons (ps_set (i := 1) sc_document_in.nd rfl (Or.inl rfl) (pe_callO G_part_at (hr.mono (by omega)) (pa_cons (pv 0) (pa_cons pe_int pa_nil))))
  (pss_cons (ps_if (PW.pt (pw_or (pt_cmpR op_isN (pv 1) pe_non (nomark _)) (pw_or1 (pt_cmpR op_ne (pe_ix ix_tup (pv 1) pe_int (fun _ _ => rfl)) (pe_callB call_len_str (by rfl) T.b_len (by decide +kernel) (pa_cons (pv 0) pa_nil)) (nomark _)))))
  (pss_one (ps_ret pe_non))
  pss_nil)
  (pss_one (ps_ret (pe_tup (pa_cons (pe_ix ix_tup (pv 1) pe_int (fun _ _ => rfl)) pa_nil)))))), ?_⟩
  have hlen : (wr d).length = t.length := by rw [← ht, ← len_tl]
  refine ⟨_, rfl, t, 0, n, d, [], rfl, em, hz, Nat.zero_le _, hw, by rw [List.drop_zero, List.append_nil]; exact ht, (fun c r e => by cases e), fun r v H1 s1 hr1 hr2 hd => ?_⟩
  refine ⟨_, rfl, rfl, _, rfl, ifF (decide_eq_false (by intro e; cases e)) ?_⟩
  refine ⟨_, rfl, r, _, _, _, rfl, rfl, SqT.of hr2, rfl, _, rfl, t, rfl, hz.le, rfl, _, rfl, ifF ?_ ?_⟩
  · have e : ((0 + (wr d).length : Nat) : Int) = (t.length : Int) := by rw [Nat.zero_add, hlen]
    rw [e, decide_eq_true rfl]
    rfl
  refine ⟨_, rfl, r, _, _, _, rfl, rfl, SqT.of hr2, rfl, (by show 1 ≤ sizeLine; decide), fun x hx => ?_⟩
  refine q x v _ (s1.trans (same_new hx _)) (s1.free hx) upd_same ?_
  exact doc_frame _ (fun b o k e => same_new hx _ _ _ e) (fun _ k => k) hd
def spRead (m : Nat) : Sp := fun vs H Q _ => ∃ (t : Str) (n : Nat) (d : Doc), vs = [.str t] ∧ m = n + 1 ∧ Short t ∧ Wf n d ∧ tl t = wr d ∧
  ∀ v H', Same H H' → DocAt H' (fun b => H b = none) v (srt d) → Q v H'
theorem ok_read_document (T : Txt K mg) (m : Nat) : Ok P w K mg base (2 * m + 5) "read_document" p_read_document (spRead m) := by
  have G_document_in : Ok P w K mg base (2 * m + 4) "document_in" p_document_in (spDocIn m) := ok_document_in T m
  refine T.D_read_document.ok sc_read_document (fun vs H Q E h => ?_) (fun _ _ _ _ _ _ us hl => match us, hl with | [_], _ => rfl) (fun f cdv A outer s H vs Q E hr h => ?_)
  · obtain ⟨t, _, _, rfl, _⟩ := h
    rfl
  obtain ⟨t, n, d, rfl, em, hz, hw, ht, q⟩ := h
  refine ⟨_, (pss_cons (ps_set (i := 1) sc_read_document.nd rfl (Or.inl rfl) (pe_ifExp (pt_val (pe_callB call_isi (by rfl) T.b_isinstance (by decide +kernel) (pa_cons (pv 0) (pa_cons (pe_bltn (v := .ty "str") (u := .type "str") (by rfl) T.b_str (by decide +kernel) rfl) pa_nil)))) (pe_callO G_document_in (hr.mono (by omega)) (pa_cons (pv 0) pa_nil)) pe_non))
  (pss_cons (ps_if (pt_cmpR op_isN (pv 1) pe_non (nomark _))
  (pss_one ps_never)
  pss_nil)
  (pss_one (ps_ret (pe_ix ix_tup (pv 1) pe_int (fun _ _ => rfl)))))), ?_⟩
  refine ⟨_, rfl, _, _, _, _, true, rfl, .ty _, .base (.str t), kit_ty (by decide +kernel), _, rfl, ?_⟩
  refine ifT rfl ?_
  refine ⟨_, rfl, t, n, d, rfl, em, hz, hw, ht, fun r v H1 s1 hr1 hr2 hd => ?_⟩
  refine ⟨_, rfl, rfl, _, rfl, ifF (decide_eq_false (by intro e; cases e)) ?_⟩
  exact ⟨_, rfl, r, _, _, _, rfl, rfl, SqT.of hr2, rfl, q v _ s1 hd⟩
end
end K87
namespace K87
open PySem L2 TL SX PySem.Spec PyProof.Rows
/-! ## 8. The law's own defs: draws -/
/-- a pot at p that has been stirred c times -/
def PotAt (H : Hp) (p : Addr) (c : Nat) : Prop := ∃ a b : Int, H p = some (.lst [.int a, .int b, .int (c : Int)]) ∧ 0 ≤ a ∧ 0 ≤ b ∧ b < 2305843009213693921
/-- all but the object at p stands -/
def But (p : Addr) (H H' : Hp) : Prop := ∀ b o, b ≠ p → H b = some o → H' b = some o
theorem But.refl (p : Addr) (H : Hp) : But p H H := fun _ _ _ e => e
theorem But.trans {p : Addr} {H H1 H2 : Hp} (a : But p H H1) (b : But p H1 H2) : But p H H2 := fun c o n e => b c o n (a c o n e)
theorem But.of {p : Addr} {H H1 : Hp} (s : Same H H1) : But p H H1 := fun c o _ e => s c o e
theorem But.put {p : Addr} {H H1 : Hp} (a : But p H H1) (o : HO) : But p H (upd H1 p o) := fun c u n e => by rw [upd_ne n]; exact a c u n e
theorem But.free {p : Addr} {H H1 : Hp} (a : But p H H1) {x : Addr} (n : x ≠ p) (h : H1 x = none) : H x = none := by
  cases e : H x with
  | none => rfl
  | some o => rw [a x o n e] at h; cases h
theorem PotAt.same {H H1 : Hp} {p : Addr} {c : Nat} (h : PotAt H p c) (s : Same H H1) : PotAt H1 p c := by
  obtain ⟨a, b, e, r⟩ := h
  exact ⟨a, b, s _ _ e, r⟩
theorem PotAt.ne {H : Hp} {p x : Addr} {c : Nat} (h : PotAt H p c) (n : H x = none) : x ≠ p := by
  obtain ⟨a, b, e, _⟩ := h
  intro z
  rw [z, e] at n
  cases n
section
variable {P : Program} {w : World} {K : PySem.W.Frag} {mg : Str → Option Value} {base : Heap}
def spTake : Sp := fun vs H Q _ => ∃ (p : Addr) (u : Int) (c : Nat), vs = [.ref p, .int u] ∧ 1 ≤ u ∧ u ≤ 1000000000 ∧ c ≤ 1000000 ∧ PotAt H p c ∧
  ∀ (z : Int) (H' : Hp) (c' : Nat), But p H H' → PotAt H' p c' → c' ≤ c + 1 → 0 ≤ z → z < u → Q (.int z) H'
theorem fm_lo {a b : Int} (h : 0 < b) : 0 ≤ a.fmod b := Int.fmod_nonneg_of_pos a h
theorem fm_hi {a b : Int} (h : 0 < b) : a.fmod b < b := Int.fmod_lt_of_pos a h
theorem ok_take (T : Txt K mg) : Ok P w K mg base 1 "_law_take" p__law_take spTake := by
  refine T.D__law_take.ok sc__law_take (fun vs H Q E h => ?_) (fun _ _ _ _ _ _ us hl => match us, hl with | [_, _], _ => rfl) (fun f cdv A outer s H vs Q E hr h => ?_)
  · obtain ⟨p, u, c, rfl, _⟩ := h
    rfl
  obtain ⟨p, u, c, rfl, hu1, hu2, hc, ⟨a, b, hp, ha, hb, hb2⟩, q⟩ := h
  refine ⟨_, (pss_cons (ps_if (pt_cmpR op_gt (pe_ix ix_list (pv 0) pe_int (fun _ _ => rfl)) pe_int (nomark _))
  (pss_cons (ps_set (i := 2) sc__law_take.nd rfl (Or.inl rfl) (pe_op op_modN (pe_callTy call_int1 (by rfl) T.b_int (by decide +kernel) (pa_cons (pe_ix ix_list (pv 0) pe_int (fun _ _ => rfl)) pa_nil)) (pv 1)))
  (pss_cons (ps_asg (pe_op op_fdivN (pe_ix ix_list (pv 0) pe_int (fun _ _ => rfl)) (pv 1)) (pg_sub (pv 0) pe_int set_list))
  (pss_one (ps_ret (pv 2)))))
  pss_nil)
  (pss_cons (ps_asg (pe_op op_add (pe_ix ix_list (pv 0) pe_int (fun _ _ => rfl)) pe_int) (pg_sub (pv 0) pe_int set_list))
  (pss_cons (ps_set (i := 3) sc__law_take.nd rfl (Or.inl rfl) (pe_ix ix_list (pe_lst (pa_cons pe_int (pa_cons pe_int (pa_cons pe_int (pa_cons pe_int (pa_cons pe_int pa_nil)))))) (pe_op op_modN (pe_callTy call_int1 (by rfl) T.b_int (by decide +kernel) (pa_cons (pe_ix ix_list (pv 0) pe_int (fun _ _ => rfl)) pa_nil)) pe_int) (fun _ _ => rfl)))
  (pss_cons (ps_set (i := 4) sc__law_take.nd rfl (Or.inl rfl) (pe_op op_modN (pe_callTy call_int1 (by rfl) T.b_int (by decide +kernel) (pa_cons (pe_op op_pow (pe_op op_add (pe_op op_add (pe_ix ix_list (pv 0) pe_int (fun _ _ => rfl)) (pe_op op_mul (pe_op op_mul pe_int (pe_ix ix_list (pv 0) pe_int (fun _ _ => rfl))) (pe_ix ix_list (pv 0) pe_int (fun _ _ => rfl)))) pe_int) pe_int) pa_nil)) (pv 3)))
  (pss_one (ps_ret (pe_op op_modN (pe_callTy call_int1 (by rfl) T.b_int (by decide +kernel) (pa_cons (pe_op op_fdivN (pe_op op_mul (pv 4) (pe_op op_add (pe_op op_modN (pe_callTy call_int1 (by rfl) T.b_int (by decide +kernel) (pa_cons (pv 4) pa_nil)) pe_int) (pe_op op_mul pe_int (pe_ix ix_list (pv 0) pe_int (fun _ _ => rfl))))) pe_int) pa_nil)) (pv 1)))))))), ?_⟩
  have hu0 : u ≠ 0 := by omega
  refine ⟨_, rfl, p, _, _, _, rfl, rfl, SqL.of hp, rfl, _, _, rfl, rfl, _, rfl, ?_⟩
  by_cases ha0 : 0 < a
  · refine ifT (decide_eq_true ha0) ?_
    refine ⟨_, rfl, p, _, _, _, rfl, rfl, SqL.of hp, rfl, .inl ⟨_, rfl, _, rfl, _, _, rfl, rfl, hu0, ?_⟩⟩
    refine ⟨_, rfl, p, _, _, _, rfl, rfl, SqL.of hp, rfl, _, rfl, _, _, rfl, rfl, ⟨hu0, by omega⟩, _, rfl, p, _, _, _, rfl, rfl, hp, rfl, ?_⟩
    refine ⟨_, rfl, q _ _ c ((But.refl p H).put _) ⟨_, b, upd_same, ?_, hb, hb2⟩ (by omega) (fm_lo (by omega)) (fm_hi (by omega))⟩
    exact Int.fdiv_nonneg ha (by omega)
  · refine ifF (decide_eq_false ha0) ?_
    refine ⟨_, rfl, p, _, _, _, rfl, rfl, SqL.of hp, rfl, _, _, rfl, rfl, _, rfl, p, _, _, _, rfl, rfl, hp, rfl, ?_⟩
    generalize hH1 : upd H p _ = H1
    have hp1 : H1 p = some (.lst [.int a, .int b, .int ((c : Int) + 1)]) := by rw [← hH1, upd_same]; rfl
    have b1 : But p H H1 := by rw [← hH1]; exact (But.refl p H).put _
    have hm : ((c : Int) + 1).fmod 5 = 0 ∨ ((c : Int) + 1).fmod 5 = 1 ∨ ((c : Int) + 1).fmod 5 = 2 ∨ ((c : Int) + 1).fmod 5 = 3 ∨ ((c : Int) + 1).fmod 5 = 4 := by
      have h1 := fm_lo (a := (c : Int) + 1) (b := 5) (by decide)
      have h2 := fm_hi (a := (c : Int) + 1) (b := 5) (by decide)
      omega
    have hat : ∃ pr : Int, atI [V.int 2147483647, V.int 2147483629, V.int 2147483587, V.int 2147483579, V.int 2147483563] (((c : Int) + 1).fmod 5) = some (.int pr) ∧ 2147483563 ≤ pr ∧ pr ≤ 2147483647 := by
      rcases hm with h | h | h | h | h <;> rw [h]
      · exact ⟨_, rfl, by decide, by decide⟩
      · exact ⟨_, rfl, by decide, by decide⟩
      · exact ⟨_, rfl, by decide, by decide⟩
      · exact ⟨_, rfl, by decide, by decide⟩
      · exact ⟨_, rfl, by decide, by decide⟩
    obtain ⟨pr, hat, hpr1, hpr2⟩ := hat
    refine ⟨(by show 5 ≤ sizeLine; decide), fun D hD => ?_⟩
    generalize hH2 : upd H1 D (.lst [V.int 2147483647, V.int 2147483629, V.int 2147483587, V.int 2147483579, V.int 2147483563]) = H2
    have hD2 : H2 D = some (.lst [V.int 2147483647, V.int 2147483629, V.int 2147483587, V.int 2147483579, V.int 2147483563]) := by rw [← hH2, upd_same]
    have hp2 : H2 p = some (.lst [.int a, .int b, .int ((c : Int) + 1)]) := by rw [← hH2]; exact same_new hD _ _ _ hp1
    have b2 : But p H H2 := by rw [← hH2]; exact b1.trans (But.of (same_new hD _))
    refine ⟨_, rfl, p, _, _, _, rfl, rfl, SqL.of hp2, rfl, .inl ⟨_, rfl, _, _, rfl, rfl, (by show (5 : Int) ≠ 0; decide), D, _, _, _, rfl, rfl, SqL.of hD2, hat, ?_⟩⟩
    have hc1 : (c : Int) + 1 ≤ 1000001 := by omega
    have hcc : 70001 * ((c : Int) + 1) ≤ 70001 * 1000001 := by omega
    have hc3 : 70001 * ((c : Int) + 1) * ((c : Int) + 1) ≤ 70001 * 1000001 * 1000001 := Int.mul_le_mul hcc hc1 (by omega) (by omega)
    have hc4 : 0 ≤ 70001 * ((c : Int) + 1) * ((c : Int) + 1) := Int.mul_nonneg (by omega) (by omega)
    refine ⟨_, rfl, p, _, _, _, rfl, rfl, SqL.of hp2, rfl, _, rfl, p, _, _, _, rfl, rfl, SqL.of hp2, rfl, _, _, rfl, rfl, .inl ⟨(by show -(2 ^ 64) < (70001 : Int); decide), (by show (70001 : Int) < 2 ^ 64; decide)⟩, _, rfl, p, _, _, _, rfl, rfl, SqL.of hp2, rfl, _, _, rfl, rfl, .inl ⟨?_, ?_⟩,
      _, _, rfl, rfl, _, _, rfl, rfl, _, _, rfl, rfl, ⟨(by show (0 : Int) ≤ 3; decide), (by show (3 : Int) ≤ 1000000; decide), ?_⟩, .inl ⟨_, rfl, _, rfl, _, _, rfl, rfl, (by show pr ≠ 0; omega), ?_⟩⟩
    · show -(2 ^ 64) < 70001 * ((c : Int) + 1); omega
    · show 70001 * ((c : Int) + 1) < 2 ^ 64; omega
    · show (b + 70001 * ((c : Int) + 1) * ((c : Int) + 1) + 67).natAbs < 2 ^ 64
      omega
    have st0 : ∀ z : Int, 0 ≤ z.fmod pr := fun z => fm_lo (by omega)
    have st1 : ∀ z : Int, z.fmod pr < 2147483647 := fun z => by
      have : z.fmod pr < pr := fm_hi (by omega)
      omega
    have st2 : ∀ z : Int, 0 ≤ (z.fmod pr).fmod 10007 := fun z => fm_lo (by decide)
    have st3 : ∀ z : Int, (z.fmod pr).fmod 10007 < 10007 := fun z => fm_hi (by decide)
    refine ⟨_, rfl, _, rfl, .inl ⟨_, rfl, _, _, rfl, rfl, (by show (10007 : Int) ≠ 0; decide), _, rfl, p, _, _, _, rfl, rfl, SqL.of hp2, rfl, _, _, rfl, rfl, .inl ⟨(by show -(2 ^ 64) < (89 : Int); decide), (by show (89 : Int) < 2 ^ 64; decide)⟩, _, _, rfl, rfl, _, _, rfl, rfl, .inl ⟨?_, ?_⟩, _, _, rfl, rfl, ⟨(by show (101 : Int) ≠ 0; decide), (by show (101 : Int).natAbs < 1073741824; decide)⟩,
      .inl ⟨_, rfl, _, rfl, _, _, rfl, rfl, hu0, ?_⟩⟩⟩
    · have := st0 ((b + 70001 * ((c : Int) + 1) * ((c : Int) + 1) + 67) ^ Int.toNat 3)
      show -(2 ^ 64) < ((b + 70001 * ((c : Int) + 1) * ((c : Int) + 1) + 67) ^ Int.toNat 3).fmod pr
      omega
    · have := st1 ((b + 70001 * ((c : Int) + 1) * ((c : Int) + 1) + 67) ^ Int.toNat 3)
      show ((b + 70001 * ((c : Int) + 1) * ((c : Int) + 1) + 67) ^ Int.toNat 3).fmod pr < 2 ^ 64
      omega
    exact q _ H2 (c + 1) b2 ⟨a, b, hp2, ha, hb, hb2⟩ (by omega) (fm_lo (by omega)) (fm_hi (by omega))
end
end K87
namespace K87
open PySem L2 TL SX PySem.Spec PyProof.Rows
/-! ## 9. One of a list -/
theorem atI_some {α : Type} {xs : List α} {z : Int} (h : 0 ≤ z) (l : z < xs.length) : ∃ x ∈ xs, atI xs z = some x := by
  obtain ⟨j, rfl⟩ := Int.eq_ofNat_of_zero_le h
  have hj : j < xs.length := by omega
  exact ⟨xs[j], List.getElem_mem hj, atI_nat (List.getElem?_eq_getElem hj)⟩
section
variable {P : Program} {w : World} {K : PySem.W.Frag} {mg : Str → Option Value} {base : Heap}
/-- after a draw: all but the pot stands, the pot was stirred at most m times more -/
def Drawn (p : Addr) (H : Hp) (c m : Nat) (H' : Hp) : Prop := But p H H' ∧ ∃ c' : Nat, PotAt H' p c' ∧ c' ≤ c + m
theorem Drawn.mono {p : Addr} {H H' : Hp} {c m n : Nat} (h : Drawn p H c m H') (l : m ≤ n) : Drawn p H c n H' :=
  ⟨h.1, h.2.choose, h.2.choose_spec.1, by have := h.2.choose_spec.2; omega⟩
def spOf : Sp := fun vs H Q _ => ∃ (p q : Addr) (c : Nat) (xs : List V), vs = [.ref p, .ref q] ∧ c ≤ 1000000 ∧ PotAt H p c ∧ H q = some (.lst xs) ∧ q ≠ p ∧ 1 ≤ xs.length ∧ xs.length ≤ 1000 ∧
  ∀ (x : V) (H' : Hp), x ∈ xs → Drawn p H c 1 H' → Q x H'
theorem ok_of (T : Txt K mg) : Ok P w K mg base 2 "_law_of" p__law_of spOf := by
  have G__law_take := ok_take (P := P) (w := w) (base := base) T
  refine T.D__law_of.ok sc__law_of (fun vs H Q E h => ?_) (fun _ _ _ _ _ _ us hl => match us, hl with | [_, _], _ => rfl) (fun f cdv A outer s H vs Q E hr h => ?_)
  · obtain ⟨p, q, c, xs, rfl, _⟩ := h
    rfl
  obtain ⟨p, q, c, xs, rfl, hc, hp, hq, hqp, hl1, hl2, z⟩ := h
  refine ⟨_, (pss_one (ps_ret (pe_ix ix_list (pv 1) (pe_callO G__law_take (hr.mono (by omega)) (pa_cons (pv 0) (pa_cons (pe_callB call_len_seq (by rfl) T.b_len (by decide +kernel) (pa_cons (pv 1) pa_nil)) pa_nil))) (fun _ _ => rfl)))), ?_⟩
  refine ⟨_, rfl, _, rfl, _, rfl, q, _, rfl, .inl (SqL.of hq), p, _, c, rfl, by omega, by omega, hc, hp, fun i H1 c' b1 p1 hc' i0 i1 => ?_⟩
  obtain ⟨x, hx, hi⟩ := atI_some i0 i1
  exact ⟨q, _, _, _, rfl, rfl, SqL.of (b1 q _ hqp hq), hi, z x H1 hx ⟨b1, c', p1, hc'⟩⟩
end
end K87
namespace K87
open PySem L2 TL SX PySem.Spec PyProof.Rows
/-! ## 10. Some of a list, each once -/
theorem er_map {α β : Type} (f : α → β) : ∀ (l : List α) (j : Nat), (l.map f).eraseIdx j = (l.eraseIdx j).map f
  | [], _ => rfl
  | _ :: _, 0 => rfl
  | x :: l, j + 1 => by
    have := er_map f l j
    simp only [List.map_cons, List.eraseIdx_cons_succ, this]
theorem er_perm {α : Type} : ∀ (l : List α) (j : Nat) (h : j < l.length), (l[j] :: l.eraseIdx j).Perm l
  | [], _, h => by simp at h
  | x :: l, 0, _ => by simp
  | x :: l, j + 1, h => by
    have hj : j < l.length := by simpa using h
    have ih := er_perm l j hj
    simp only [List.getElem_cons_succ, List.eraseIdx_cons_succ]
    exact (List.Perm.swap x l[j] _).trans (ih.cons x)
theorem But.pu {p : Addr} {H H1 : Hp} (a : But p H H1) {x : Addr} (n : H x = none) (o : HO) : But p H (upd H1 x o) := fun c u h e => by
  rw [upd_ne (by intro z; rw [z, n] at e; cases e)]
  exact a c u h e
theorem PotAt.pu {p : Addr} {H : Hp} {c : Nat} (a : PotAt H p c) {x : Addr} (n : x ≠ p) (o : HO) : PotAt (upd H x o) p c := by
  obtain ⟨u, v, e, r⟩ := a
  exact ⟨u, v, by rw [upd_ne n.symm]; exact e, r⟩
section
variable {P : Program} {w : World} {K : PySem.W.Frag} {mg : Str → Option Value} {base : Heap}
def spUnl : Sp := fun vs H Q _ => ∃ (p q : Addr) (c n : Nat) (fs : List Str), vs = [.ref p, .ref q, .int (n : Int)] ∧ c + n ≤ 1000000 ∧ PotAt H p c ∧ H q = some (.lst (fs.map V.str)) ∧ q ≠ p ∧ n ≤ fs.length ∧ fs.length ≤ 1000 ∧
  ∀ (r : Addr) (gs rest : List Str) (H' : Hp), (rest ++ gs).Perm fs → gs.length = n → Drawn p H c n H' → H r = none → H' r = some (.lst (gs.map V.str)) → Q (.ref r) H'
theorem ok_unlike (T : Txt K mg) : Ok P w K mg base 2 "_law_unlike" p__law_unlike spUnl := by
  have G__law_take := ok_take (P := P) (w := w) (base := base) T
  refine T.D__law_unlike.ok sc__law_unlike (fun vs H Q E h => ?_) (fun _ _ _ _ _ _ us hl => match us, hl with | [_, _, _], _ => rfl) (fun f cdv A outer s H vs Q E hr h => ?_)
  · obtain ⟨p, q, c, n, fs, rfl, _⟩ := h
    rfl
  obtain ⟨p, q, c, n, fs, rfl, hc, hp, hq, hqp, hl1, hl2, z⟩ := h
  refine ⟨_, (pss_cons (ps_par (i := 3) (j := 4) (by rfl) sc__law_unlike.nd rfl rfl (by decide) rfl rfl (pa_cons (pe_callTy call_list_of (by rfl) T.b_list (by decide +kernel) (pa_cons (pv 1) pa_nil)) (pa_cons (pe_lst pa_nil) pa_nil)) (by rfl))
  (pss_cons (ps_for PassesOwn.never rfl (pi_range1 rfl T.b_range (pa_cons (pe_callB (call_min2 rfl) (by rfl) T.b_min (by decide +kernel) (pa_cons (pv 2) (pa_cons (pe_callB call_len_seq (by rfl) T.b_len (by decide +kernel) (pa_cons (pv 3) pa_nil)) pa_nil))) pa_nil)) (pg_name (i := 5) sc__law_unlike.nd rfl (Or.inl rfl))
  (pss_one (ps_expr (pe_bm PySem.F.plainAttrs_list PySem.F.slot_list_append PySem.F.type_list_append mt_append (pv 4) (pa_cons (pe_bm PySem.F.plainAttrs_list PySem.F.slot_list_pop PySem.F.type_list_pop mt_popAt (pv 3) (pa_cons (pe_callO G__law_take (hr.mono (by omega)) (pa_cons (pv 0) (pa_cons (pe_callB call_len_seq (by rfl) T.b_len (by decide +kernel) (pa_cons (pv 3) pa_nil)) pa_nil))) pa_nil)) pa_nil)))))
  (pss_one (ps_ret (pv 4))))), ?_⟩
  refine ⟨_, rfl, q, _, rfl, .inl (SqL.of hq), fun D1 f1 => ?_⟩
  have hqD : q ≠ D1 := by intro e; rw [← e, hq] at f1; cases f1
  refine ⟨(by show 0 ≤ sizeLine; decide), fun D2 f2 => ?_⟩
  have hp1 := hp.ne f1
  have n21 : D2 ≠ D1 := by intro e; rw [e, upd_same] at f2; cases f2
  have f2' : H D2 = none := by rw [upd_ne n21] at f2; exact f2
  have hp2 := hp.ne f2'
  refine ⟨_, _, rfl, ?_⟩
  refine ⟨_, rfl, _, rfl, D1, _, rfl, .inl (SqL.of (by rw [upd_ne n21.symm]; exact upd_same)), _, _, rfl, ?_⟩
  have hmin : (if (((fs.map V.str).length : Nat) : Int) < (n : Int) then (((fs.map V.str).length : Nat) : Int) else (n : Int)) = (n : Int) := by
    rw [List.length_map, if_neg (by omega)]
  refine ⟨_, rfl, ?_⟩
  rw [hmin]
  refine ⟨by omega, by omega, ?_⟩
  refine ⟨fun i m σ H' => ∃ (o : Option V) (rest gs : List Str), m = n - i ∧ i ≤ n ∧ gs.length = i ∧ (rest ++ gs).Perm fs ∧ σ = [some (.ref p), some (.ref q), some (.int (n : Int)), some (.ref D1), some (.ref D2), o] ∧ Drawn p H c i H' ∧ H' D1 = some (.lst (rest.map V.str)) ∧ H' D2 = some (.lst (gs.map V.str)), ⟨n, none, fs, [], rfl, Nat.zero_le _, rfl, by rw [List.append_nil], rfl, ⟨(But.of (same_new f1 _)).trans (But.of (same_new f2 _)), c, (hp.same (same_new f1 _)).same (same_new f2 _), Nat.le_refl _⟩, by rw [upd_ne n21.symm]; exact upd_same, upd_same⟩, ?_⟩
  rintro i m σ H' ⟨o, rest, gs, rfl, hi, hgs, hpm, rfl, ⟨b1, c1, p1, hc1⟩, e1, e2⟩
  by_cases hin : i < n
  · refine .inr ⟨hin, fun σ1 H1 => ∃ (o : Option V) (rest gs : List Str), gs.length = i + 1 ∧ (rest ++ gs).Perm fs ∧ σ1 = [some (.ref p), some (.ref q), some (.int (n : Int)), some (.ref D1), some (.ref D2), o] ∧ Drawn p H c (i + 1) H1 ∧ H1 D1 = some (.lst (rest.map V.str)) ∧ H1 D2 = some (.lst (gs.map V.str)), ?_, ?_⟩
    · rintro σ1 H1 ⟨o, rest, gs, a, b, d⟩
      exact ⟨n - (i + 1), by omega, o, rest, gs, rfl, hin, a, b, d⟩
    rintro x H1 ⟨rfl, rfl⟩
    have hlen : rest.length + gs.length = fs.length := by rw [← hpm.length_eq, List.length_append]
    refine ⟨_, rfl, .inl ⟨rfl, _, SqL.of e2⟩, ?_⟩
    refine ⟨_, rfl, .inl ⟨rfl, _, SqL.of e1⟩, ?_⟩
    refine ⟨_, rfl, _, rfl, D1, _, rfl, .inl (SqL.of e1), p, _, c1, rfl, ?_, ?_, by omega, p1, fun z H2 c2 b2 p2 hc2 z0 z1 => ?_⟩
    · rw [List.length_map]; omega
    · rw [List.length_map]; omega
    obtain ⟨y, hy, hat⟩ := atI_some (xs := rest.map V.str) z0 z1
    obtain ⟨j, hj, hjy, hj1, hj2, hj3⟩ := atI_get hat
    have hD1 : H2 D1 = some (.lst (rest.map V.str)) := b2 D1 _ hp1 e1
    have hD2 : H2 D2 = some (.lst (gs.map V.str)) := b2 D2 _ hp2 e2
    rw [List.length_map] at hj3 hj2 hj1
    rw [List.getElem?_map, List.getElem?_eq_getElem hj1] at hjy
    cases hjy
    refine ⟨D1, _, z, j, _, rfl, rfl, hD1, by omega, by omega, hj, by rw [List.getElem?_map, List.getElem?_eq_getElem hj1]; rfl, ?_⟩
    refine ⟨D2, _, _, rfl, rfl, by rw [upd_ne n21]; exact hD2, ?_, ?_⟩
    · rw [List.length_map]
      exact Nat.lt_of_le_of_lt (by omega : gs.length ≤ 1000) (by decide)
    refine ⟨_, rest.eraseIdx j, gs ++ [rest[j]], by rw [List.length_append, hgs]; rfl, ?_, rfl, ⟨?_, c2, ?_, by omega⟩, ?_, ?_⟩
    · have a : (rest.eraseIdx j ++ (gs ++ [rest[j]])).Perm ((rest[j] :: rest.eraseIdx j) ++ gs) := by
        rw [← List.append_assoc]
        exact List.perm_append_singleton _ _
      exact (a.trans ((er_perm rest j hj1).append_right gs)).trans hpm
    · exact ((b1.trans b2).pu f1 _).pu f2' _
    · exact (p2.pu hp1 _).pu hp2 _
    · rw [upd_ne n21.symm, upd_same, er_map]
    · rw [upd_same, List.map_append]; rfl
  · have : i = n := by omega
    subst this
    refine .inl ⟨Nat.le_refl _, _, rfl, ?_⟩
    exact z D2 gs rest H' hpm hgs ⟨b1, c1, p1, hc1⟩ f2' e2
end
end K87
namespace K87
open PySem L2 TL SX PySem.Spec PyProof.Rows
/-! ## 11. Scalars -/
/-- v is the scalar d, whatever the heap -/
def Sca (v : V) (d : Doc) : Prop := (∀ H ok, DocAt H ok v d) ∧ Wf 0 d
theorem sca_non : ∃ d, Sca .non d := ⟨.non, fun _ _ => rfl, trivial⟩
theorem sca_bl (b : Bool) : ∃ d, Sca (.bl b) d := ⟨.bl b, fun _ _ => rfl, trivial⟩
theorem sca_int {i : Int} (h : i.natAbs < 10 ^ 18) : ∃ d, Sca (.int i) d := ⟨.int i, fun _ _ => rfl, by rw [Wf]; exact h⟩
theorem sca_str {s : Str} (h : s.length ≤ 18 ∧ ∀ c ∈ tl s, 32 ≤ c ∧ c < 127) : ∃ d, Sca (.str s) d := ⟨.str s, fun _ _ => rfl, by rw [Wf]; exact h⟩
def Bit (s : Str) : Prop := s.length ≤ 3 ∧ ∀ c ∈ tl s, 32 ≤ c ∧ c < 127
theorem bits_of : ∀ {ys : List V}, (∀ (i : Nat) (y : V), ys[i]? = some y → ∃ s, y = .str s ∧ Bit s) → ∃ zs : List Str, ys = zs.map V.str ∧ ∀ z ∈ zs, Bit z
  | [], _ => ⟨[], rfl, by simp⟩
  | y :: r, h => by
    obtain ⟨s, rfl, b⟩ := h 0 y rfl
    obtain ⟨zs, rfl, bs⟩ := bits_of (ys := r) fun i z q => h (i + 1) z q
    exact ⟨s :: zs, rfl, by simpa using ⟨b, bs⟩⟩
theorem joinL_bits : ∀ zs : List Str, (∀ z ∈ zs, Bit z) → (joinL [] (zs.map tl)).length ≤ 3 * zs.length ∧ ∀ c ∈ joinL [] (zs.map tl), 32 ≤ c ∧ c < 127
  | [], _ => by simp [joinL]
  | [z], h => by
    have := h z (by simp)
    show (tl z).length ≤ 3 * 1 ∧ _
    exact ⟨by rw [← len_tl]; exact this.1, this.2⟩
  | z :: y :: r, h => by
    have a := h z (by simp)
    have b := joinL_bits (y :: r) fun u m => h u (List.mem_cons_of_mem _ m)
    show (tl z ++ ([] ++ joinL [] ((y :: r).map tl))).length ≤ 3 * ((y :: r).length + 1) ∧ ∀ c ∈ tl z ++ ([] ++ joinL [] ((y :: r).map tl)), _
    rw [List.nil_append, List.length_append, ← len_tl]
    refine ⟨by have := a.1; have := b.1; omega, fun c m => ?_⟩
    rcases List.mem_append.mp m with m | m
    · exact a.2 c m
    · exact b.2 c m
theorem sum_bits : ∀ zs : List Str, (∀ z ∈ zs, Bit z) → (zs.map (·.length)).sum ≤ 3 * zs.length
  | [], _ => by simp
  | z :: r, h => by
    have a := (h z (by simp)).1
    have b := sum_bits r fun u m => h u (List.mem_cons_of_mem _ m)
    rw [List.map_cons, List.sum_cons, List.length_cons]
    omega
theorem nat_part {z : Int} (h : 0 ≤ z) : ∃ n : Nat, z = n := ⟨z.toNat, by omega⟩
section
variable {P : Program} {w : World} {K : PySem.W.Frag} {mg : Str → Option Value} {base : Heap}
def spSca (m : Nat) : Sp := fun vs H Q _ => ∃ (p : Addr) (c : Nat), vs = [.ref p] ∧ c + m ≤ 1000000 ∧ PotAt H p c ∧ ∀ (v : V) (d : Doc) (H' : Hp), Sca v d → Drawn p H c m H' → Q v H'
theorem ok_flat (T : Txt K mg) : Ok P w K mg base 3 "_law_flat" p__law_flat (spSca 1) := by
  have G__law_of := ok_of (P := P) (w := w) (base := base) T
  refine T.D__law_flat.ok sc__law_flat (fun vs H Q E h => ?_) (fun _ _ _ _ _ _ us hl => match us, hl with | [_], _ => rfl) (fun f cdv A outer s H vs Q E hr h => ?_)
  · obtain ⟨p, c, rfl, _⟩ := h
    rfl
  obtain ⟨p, c, rfl, hc, hp, z⟩ := h
  refine ⟨_, (pss_one (ps_ret (pe_callO G__law_of (hr.mono (by omega)) (pa_cons (pv 0) (pa_cons (pe_lst (pa_cons pe_non (pa_cons pe_bl (pa_cons pe_bl (pa_cons pe_int (pa_cons pe_int (pa_cons (pe_un un_neg pe_int) (pa_cons pe_int (pa_cons pe_int (pa_cons pe_str (pa_cons pe_str (pa_cons pe_str (pa_cons pe_str (pa_cons pe_str (pa_cons pe_str (pa_cons pe_str pa_nil)))))))))))))))) pa_nil))))), ?_⟩
  refine ⟨_, rfl, _, rfl, (by show 15 ≤ sizeLine; decide), fun D hD => ?_⟩
  refine ⟨p, D, c, _, rfl, by omega, hp.same (same_new hD _), upd_same, hp.ne hD, (by show 1 ≤ 15; decide), (by show 15 ≤ 1000; decide), fun x H1 hx dr => ?_⟩
  have hs : ∃ d, Sca x d := by
    simp only [List.mem_cons, List.not_mem_nil, or_false] at hx
    rcases hx with rfl | rfl | rfl | rfl | rfl | rfl | rfl | rfl | rfl | rfl | rfl | rfl | rfl | rfl | rfl
    · exact sca_non
    · exact sca_bl _
    · exact sca_bl _
    · exact sca_int (by decide)
    · exact sca_int (by decide)
    · exact sca_int (by decide)
    · exact sca_int (by decide)
    · exact sca_int (by decide)
    · exact sca_str (by decide +kernel)
    · exact sca_str (by decide +kernel)
    · exact sca_str (by decide +kernel)
    · exact sca_str (by decide +kernel)
    · exact sca_str (by decide +kernel)
    · exact sca_str (by decide +kernel)
    · exact sca_str (by decide +kernel)
  obtain ⟨d, hs⟩ := hs
  exact z x d H1 hs ⟨(But.of (same_new hD _)).trans dr.1, dr.2⟩
theorem ok_strange (T : Txt K mg) : Ok P w K mg base 3 "_law_strange" p__law_strange (spSca 8) := by
  have G__law_of := ok_of (P := P) (w := w) (base := base) T
  have G__law_take := ok_take (P := P) (w := w) (base := base) T
  refine T.D__law_strange.ok sc__law_strange (fun vs H Q E h => ?_) (fun _ _ _ _ _ _ us hl => match us, hl with | [_], _ => rfl) (fun f cdv A outer s H vs Q E hr h => ?_)
  · obtain ⟨p, c, rfl, _⟩ := h
    rfl
  obtain ⟨p, c, rfl, hc, hp, z⟩ := h
  refine ⟨_, (pss_cons (ps_set (i := 1) sc__law_strange.nd rfl (Or.inr rfl) (pe_lst (pa_cons pe_str (pa_cons pe_str (pa_cons pe_str (pa_cons pe_str (pa_cons pe_str (pa_cons pe_str (pa_cons pe_str (pa_cons pe_str (pa_cons pe_str (pa_cons pe_str (pa_cons pe_str (pa_cons pe_str (pa_cons pe_str (pa_cons pe_str pa_nil))))))))))))))))
  (pss_cons (ps_if (pt_cmpR op_eq (pe_callO G__law_take (hr.mono (by omega)) (pa_cons (pv 0) (pa_cons pe_int pa_nil))) pe_int (nomark _))
  (pss_one (ps_ret (pe_op op_mul (pe_op op_add (pe_op op_mul (pe_callO G__law_take (hr.mono (by omega)) (pa_cons (pv 0) (pa_cons (pe_op op_pow pe_int pe_int) pa_nil))) (pe_op op_pow pe_int pe_int)) (pe_callO G__law_take (hr.mono (by omega)) (pa_cons (pv 0) (pa_cons (pe_op op_pow pe_int pe_int) pa_nil)))) (pe_op op_sub pe_int (pe_op op_mul pe_int (pe_callO G__law_take (hr.mono (by omega)) (pa_cons (pv 0) (pa_cons pe_int pa_nil))))))))
  pss_nil)
  (pss_one (ps_ret (pe_join pe_str (pe_lc (own := [("_law_turn", 2)]) (g := (gName 2)) (tt := tYes) rfl sc__law_strange.nd (pi_range1 rfl T.b_range (pa_cons (pe_callO G__law_take (hr.mono (by omega)) (pa_cons (pv 0) (pa_cons pe_int pa_nil))) pa_nil)) (blkOk_by (N := N__law_strange) (sc := defScope s__law_strange) (by decide +kernel)) (fun _ _ _ _ _ => (pg_name (i := 2) sc__law_strange.nd rfl (Or.inl rfl))) (fun _ _ _ _ _ => pts_nil) (fun _ _ _ _ _ => (pe_callO G__law_of (hr.mono (by omega)) (pa_cons (pv 0) (pa_cons (pv 1) pa_nil)))))))))), ?_⟩
  refine ⟨(by show 14 ≤ sizeLine; decide), fun D hD => ?_⟩
  have hDp := hp.ne hD
  generalize hH0 : upd H D _ = H0
  have hD0 : ∃ xs : List V, H0 D = some (.lst xs) ∧ 1 ≤ xs.length ∧ xs.length ≤ 1000 ∧ ∀ x ∈ xs, ∃ s, x = .str s ∧ Bit s := by
    refine ⟨_, by rw [← hH0]; exact upd_same, by decide, by decide, ?_⟩
    intro x hx
    simp only [List.mem_cons, List.not_mem_nil, or_false] at hx
    rcases hx with rfl | rfl | rfl | rfl | rfl | rfl | rfl | rfl | rfl | rfl | rfl | rfl | rfl | rfl
    · exact ⟨_, rfl, by unfold Bit; decide +kernel⟩
    · exact ⟨_, rfl, by unfold Bit; decide +kernel⟩
    · exact ⟨_, rfl, by unfold Bit; decide +kernel⟩
    · exact ⟨_, rfl, by unfold Bit; decide +kernel⟩
    · exact ⟨_, rfl, by unfold Bit; decide +kernel⟩
    · exact ⟨_, rfl, by unfold Bit; decide +kernel⟩
    · exact ⟨_, rfl, by unfold Bit; decide +kernel⟩
    · exact ⟨_, rfl, by unfold Bit; decide +kernel⟩
    · exact ⟨_, rfl, by unfold Bit; decide +kernel⟩
    · exact ⟨_, rfl, by unfold Bit; decide +kernel⟩
    · exact ⟨_, rfl, by unfold Bit; decide +kernel⟩
    · exact ⟨_, rfl, by unfold Bit; decide +kernel⟩
    · exact ⟨_, rfl, by unfold Bit; decide +kernel⟩
    · exact ⟨_, rfl, by unfold Bit; decide +kernel⟩
  have b0 : But p H H0 := by rw [← hH0]; exact (But.refl p H).pu hD _
  have p0 : PotAt H0 p c := by rw [← hH0]; exact hp.pu hDp _
  clear hH0
  obtain ⟨xs, e0, hx1, hx2, hxs⟩ := hD0
  refine ⟨_, rfl, p, _, c, rfl, (by show (1 : Int) ≤ 3; decide), (by show (3 : Int) ≤ 1000000000; decide), by omega, p0, fun z0 H1 c1 b1 p1 hc1 z0a z0b => ?_⟩
  refine ⟨rfl, _, rfl, ?_⟩
  by_cases hz0 : z0 = 0
  · refine ifT (by rw [hz0]; rfl) ?_
    have h9 : CPow 10 9 := ⟨(by decide), (by decide), (by decide)⟩
    have e9 : (10 : Int) ^ (9 : Int).toNat = 1000000000 := by decide
    refine ⟨_, rfl, _, _, rfl, rfl, h9, p, _, c1, rfl, (by rw [e9]; decide), (by rw [e9]; decide), by omega, p1, fun z1 H2 c2 b2 p2 hc2 z1a z1b => ?_⟩
    refine ⟨_, _, rfl, rfl, h9, _, _, rfl, rfl, .inr ⟨(by rw [e9]; decide), (by rw [e9]; decide)⟩, ?_⟩
    refine ⟨_, rfl, _, _, rfl, rfl, h9, p, _, c2, rfl, (by rw [e9]; decide), (by rw [e9]; decide), by omega, p2, fun z2 H3 c3 b3 p3 hc3 z2a z2b => ?_⟩
    refine ⟨_, _, rfl, rfl, ?_⟩
    refine ⟨_, rfl, p, _, c3, rfl, (by decide), (by decide), by omega, p3, fun z3 H4 c4 b4 p4 hc4 z3a z3b => ?_⟩
    refine ⟨_, _, rfl, rfl, .inl ⟨(by decide), (by decide)⟩, _, _, rfl, rfl, _, _, rfl, rfl, .inr ⟨?_, ?_⟩, ?_⟩
    · show -(2 ^ 64) < 1 - 2 * z3; omega
    · show 1 - 2 * z3 < 2 ^ 64; omega
    rw [e9] at z1b z2b
    obtain ⟨d, sd⟩ := sca_int (i := (z1 * 10 ^ (9 : Int).toNat + z2) * (1 - 2 * z3)) (by
      rw [e9, Int.natAbs_mul]
      have a : (z1 * 1000000000 + z2).natAbs < 10 ^ 18 := by omega
      have b : (1 - 2 * z3).natAbs = 1 := by omega
      rw [b, Nat.mul_one]
      exact a)
    exact z _ d H4 sd ⟨b0.trans (b1.trans (b2.trans (b3.trans b4))), c4, p4, by omega⟩
  · refine ifF (by show decide (V.int z0 = V.int 0) = false; exact decide_eq_false (by intro e; cases e; exact hz0 rfl)) ?_
    refine ⟨⟨_, rfl⟩, _, rfl, p, _, c1, rfl, (by decide), (by decide), by omega, p1, fun z1 H2 c2 b2 p2 hc2 z1a z1b => ?_⟩
    obtain ⟨n, rfl⟩ := nat_part z1a
    have hn : n < 7 := by omega
    refine ⟨_, rfl, by omega, by omega, fun F hF => ?_⟩
    rw [Int.toNat_natCast]
    have hFp := p2.ne hF
    have bX : But p H H2 := b0.trans (b1.trans b2)
    have eX : H2 D = some (.lst xs) := b2 _ _ hDp (b1 _ _ hDp e0)
    refine lc_grow walk_range (fun i H' => Drawn p H2 c2 i H') (fun _ y _ => ∃ s, y = .str s ∧ Bit s) (by omega) ?_ (fun _ _ _ _ h => h) ⟨But.refl p H2, c2, p2, Nat.le_refl _⟩ (fun _ _ _ _ => trivial) ?_ ?_
    · rintro i H' ys ⟨b, c', pc, hc'⟩
      exact ⟨b.pu hF _, c', pc.pu hFp _, hc'⟩
    · rintro i x H3 H4 hi ⟨b3, c3, p3, hc3⟩ ⟨ys, hD3⟩ ⟨rfl, rfl⟩ C Z k
      refine ⟨rfl, ?_⟩
      dsimp only [tYes]
      try rw [if_pos rfl]
      refine ⟨_, rfl, _, rfl, p, D, c3, xs, rfl, by omega, p3, b3 _ _ hDp eX, hDp, hx1, hx2, fun x H5 hx dr => ?_⟩
      obtain ⟨b5, c5, p5, hc5⟩ := dr
      refine k x H5 ?_ ⟨b3.trans b5, c5, p5, by omega⟩ (hxs x hx) (fun _ _ h => h)
      rw [hD3]
      exact b5 _ _ hFp hD3
    · rintro H3 ys ⟨b3, c3, p3, hc3⟩ hD3 hl hy
      obtain ⟨zs, rfl, hzs⟩ := bits_of hy
      rw [List.length_map] at hl
      have e0s : ("" : Str).length = 0 := by decide +kernel
      have hsum := sum_bits zs hzs
      refine ⟨_, F, zs, rfl, rfl, .inl (SqL.of hD3), ?_, ?_⟩
      · rw [e0s]; omega
      have hj : tl (Txt.join ("" : Str) zs) = joinL [] (zs.map tl) := by rw [join_eq, tl_join]; rfl
      have hjb := joinL_bits zs hzs
      obtain ⟨d, sd⟩ := sca_str (s := Txt.join ("" : Str) zs) ⟨by rw [len_tl, hj]; omega, by rw [hj]; exact hjb.2⟩
      exact z _ d H3 sd ⟨bX.trans b3, c3, p3, by omega⟩
end
end K87
namespace K87
open PySem L2 TL SX PySem.Spec PyProof.Rows
/-! ## 12. A drawn document -/
mutual
theorem doc_fr2 {H H' : Hp} : ∀ (d : Doc) {ok ok' : Addr → Prop} {v : V}, (∀ a o, ok a → H a = some o → H' a = some o ∧ ok' a) → DocAt H ok v d → DocAt H' ok' v d
  | .non, _, _, _, _, h => h
  | .bl _, _, _, _, _, h => h
  | .int _, _, _, _, _, h => h
  | .str _, _, _, _, _, h => h
  | .list ds, _, _, _, k, ⟨a, vs, e, o, s, h⟩ => ⟨a, vs, e, (k a _ o s).2, (k a _ o s).1, docs_fr2 ds (fun b u p q => ⟨(k b u p.1 q).1, (k b u p.1 q).2, p.2⟩) h⟩
  | .dict fs, _, _, _, k, ⟨a, rs, e, o, s, h⟩ => ⟨a, rs, e, (k a _ o s).2, (k a _ o s).1, flds_fr2 fs (fun b u p q => ⟨(k b u p.1 q).1, (k b u p.1 q).2, p.2⟩) h⟩
theorem docs_fr2 {H H' : Hp} : ∀ (ds : List Doc) {ok ok' : Addr → Prop} {vs : List V}, (∀ a o, ok a → H a = some o → H' a = some o ∧ ok' a) → DocsAt H ok vs ds → DocsAt H' ok' vs ds
  | [], _, _, _, _, h => h
  | d :: ds, _, _, _, k, ⟨v, r, e, h1, h2⟩ => ⟨v, r, e, doc_fr2 d k h1, docs_fr2 ds k h2⟩
theorem flds_fr2 {H H' : Hp} : ∀ (fs : List (Str × Doc)) {ok ok' : Addr → Prop} {rs : List (Key × V)}, (∀ a o, ok a → H a = some o → H' a = some o ∧ ok' a) → FldsAt H ok rs fs → FldsAt H' ok' rs fs
  | [], _, _, _, _, h => h
  | (f, d) :: fs, _, _, _, k, ⟨v, r, e, h1, h2⟩ => ⟨v, r, e, doc_fr2 d k h1, flds_fr2 fs k h2⟩
end
theorem docs_all {H : Hp} {ok : Addr → Prop} {M : Doc → Prop} : ∀ {ys : List V}, (∀ (i : Nat) (y : V), ys[i]? = some y → ∃ d, M d ∧ DocAt H ok y d) → ∃ ds, DocsAt H ok ys ds ∧ ds.length = ys.length ∧ ∀ d ∈ ds, M d
  | [], _ => ⟨[], rfl, rfl, by simp⟩
  | y :: r, h => by
    obtain ⟨d, m, a⟩ := h 0 y rfl
    obtain ⟨ds, b, l, ms⟩ := docs_all (ys := r) fun i z q => h (i + 1) z q
    exact ⟨d :: ds, ⟨y, r, rfl, a, b⟩, by rw [List.length_cons, List.length_cons, l], by simpa using ⟨m, ms⟩⟩
theorem pairs_all {H : Hp} {K : PySem.W.Frag} {ok : Addr → Prop} {M : Str → Doc → Prop} : ∀ {gs : List Str} {ys : List V}, ys.length = gs.length → (∀ (i : Nat) (y : V), ys[i]? = some y → ∃ (U : Addr) (v : V) (g : Str) (d : Doc), y = .ref U ∧ gs[i]? = some g ∧ SqT K H U [.str g, v] ∧ M g d ∧ DocAt H ok v d) →
    ∃ (ps : List Addr) (kvs : List (Key × V)) (fs : List (Str × Doc)), ys = ps.map V.ref ∧ Paired (fun p kv => SqT K H p [kV kv.1, kv.2]) ps kvs ∧ FldsAt H ok kvs fs ∧ fs.map (·.1) = gs ∧ ∀ p ∈ fs, M p.1 p.2
  | [], [], _, _ => ⟨[], [], [], rfl, .nil, rfl, rfl, by simp⟩
  | [], _ :: _, l, _ => by simp at l
  | _ :: _, [], l, _ => by simp at l
  | g :: gs, y :: r, l, h => by
    obtain ⟨U, v, g', d, rfl, e, t, m, a⟩ := h 0 y rfl
    cases e
    obtain ⟨ps, kvs, fs, rfl, b1, b2, b3, b4⟩ := pairs_all (gs := gs) (ys := r) (by simpa using l) fun i z q => h (i + 1) z q
    exact ⟨U :: ps, (.inr g, v) :: kvs, (g, d) :: fs, rfl, .cons t b1, ⟨v, kvs, rfl, a, b2⟩, by rw [List.map_cons, b3], by
      intro p hp
      rcases List.mem_cons.mp hp with rfl | hp
      · exact m
      · exact b4 p hp⟩
theorem valV_no {k : Key} : ∀ {kvs : List (Key × V)}, k ∉ kvs.map (·.1) → valV kvs k = none
  | [], _ => valV_nil
  | p :: q, h => by
    rw [List.map_cons, List.mem_cons, not_or] at h
    exact (valV_neg (p := p) (fun z => h.1 z.symm)).trans (valV_no h.2)
theorem wf_up {n : Nat} {d : Doc} (h : Wf 0 d) : Wf n d := by
  cases d with
  | non => rw [Wf]; trivial
  | bl b => rw [Wf]; trivial
  | int i => rw [Wf] at h ⊢; exact h
  | str s => rw [Wf] at h ⊢; exact h
  | list ds => rw [Wf] at h; exact absurd h.1 (by decide)
  | dict fs => rw [Wf] at h; exact absurd h.1 (by decide)
theorem merge_app : ∀ (more kvs : List (Key × V)), ((kvs ++ more).map (·.1)).Nodup → mergeK kvs more = kvs ++ more
  | [], kvs, _ => by rw [List.append_nil]; rfl
  | (k, v) :: r, kvs, h => by
    have hn : valV kvs k = none := by
      rw [List.map_append] at h
      obtain ⟨_, _, dj⟩ := List.nodup_append.mp h
      have : k ∉ kvs.map (·.1) := fun hm => dj k hm k (by simp) rfl
      exact valV_no this
    show mergeK (putK kvs k v) r = _
    rw [putK_new _ hn, merge_app r _ (by rw [List.append_assoc]; exact h), List.append_assoc]
    rfl
theorem keys_nodup {gs : List Str} (h : gs.Nodup) : (gs.map (Sum.inr : Str → Key)).Nodup := h.map (f := Sum.inr) (fun _ _ n e => n (Sum.inr.inj e))
def cost : Nat → Nat
  | 0 => 10
  | n + 1 => 4 * cost n + 10
theorem cost_ge (n : Nat) : 10 ≤ cost n := by
  cases n with
  | zero => exact Nat.le_refl _
  | succ n => unfold cost; omega
theorem merge_nodup {kvs : List (Key × V)} (h : (kvs.map (·.1)).Nodup) : mergeK [] kvs = kvs := merge_app kvs [] h
theorem keep_but {p : Addr} {H0 H H' : Hp} {c : Nat} {ok ok' : Addr → Prop} {v : V} {d : Doc} (hp : PotAt H0 p c) (b : But p H H') (k : ∀ a, ok a → H0 a = none ∧ ok' a) (h : DocAt H ok v d) : DocAt H' ok' v d :=
  doc_fr2 d (fun a o q e => ⟨b a o (hp.ne (k a q).1) e, (k a q).2⟩) h
section
variable {P : Program} {w : World} {K : PySem.W.Frag} {mg : Str → Option Value} {base : Heap}
def spThing (m : Nat) : Sp := fun vs H Q _ => ∃ (p : Addr) (c n : Nat), vs = [.ref p, .int (n : Int)] ∧ m = n + 1 ∧ n ≤ 100 ∧ c + cost n ≤ 1000000 ∧ PotAt H p c ∧
  ∀ (v : V) (d : Doc) (H' : Hp), Wf n d → DocAt H' (fun b => H b = none) v d → Drawn p H c (cost n) H' → Q v H'
theorem ok_thing (T : Txt K mg) : ∀ m, Ok P w K mg base (m + 4) "_law_thing" p__law_thing (spThing m)
  | 0 => T.D__law_thing.no (N := N__law_thing) (fun vs H Q E ⟨_, _, _, _, e, _⟩ => by omega) (fun _ _ _ _ _ _ us hl => match us, hl with | [_, _], _ => rfl)
  | m + 1 => by
    have G__law_thing : Ok P w K mg base (m + 4) "_law_thing" p__law_thing (spThing m) := ok_thing T m
    have G__law_take := (ok_take (P := P) (w := w) (base := base) T).mono (show 1 ≤ m + 4 by omega)
    have G__law_strange := (ok_strange (P := P) (w := w) (base := base) T).mono (show 3 ≤ m + 4 by omega)
    have G__law_flat := (ok_flat (P := P) (w := w) (base := base) T).mono (show 3 ≤ m + 4 by omega)
    have G__law_unlike := (ok_unlike (P := P) (w := w) (base := base) T).mono (show 2 ≤ m + 4 by omega)
    refine T.D__law_thing.ok sc__law_thing (fun vs H Q E h => ?_) (fun _ _ _ _ _ _ us hl => match us, hl with | [_, _], _ => rfl) (fun f cdv A outer s H vs Q E hr h => ?_)
    · obtain ⟨p, c, n, rfl, _⟩ := h
      rfl
    obtain ⟨p, c, n, rfl, em, hn, hc, hp, z⟩ := h
    obtain rfl : m = n := by omega
    refine ⟨_, (pss_cons (ps_set (i := 2) sc__law_thing.nd rfl (Or.inl rfl) (pe_callO G__law_take (hr.mono (by omega)) (pa_cons (pv 0) (pa_cons pe_int pa_nil))))
  (pss_cons (ps_if (PW.pt (pw_or (pt_cmpR op_lt (pv 2) pe_int (nomark _)) (pw_or1 (pt_cmpR op_eq (pv 1) pe_int (nomark _)))))
  (pss_one (ps_ret (pe_ifExp (pt_cmpR op_eq (pe_callO G__law_take (hr.mono (by omega)) (pa_cons (pv 0) (pa_cons pe_int pa_nil))) pe_int (nomark _)) (pe_callO G__law_strange (hr.mono (by omega)) (pa_cons (pv 0) pa_nil)) (pe_callO G__law_flat (hr.mono (by omega)) (pa_cons (pv 0) pa_nil)))))
  pss_nil)
  (pss_cons (ps_if (pt_cmpR op_lt (pv 2) pe_int (nomark _))
  (pss_one (ps_ret (pe_lc (own := [("_law_turn", 4)]) (g := (gName 4)) (tt := tYes) rfl sc__law_thing.nd (pi_range1 rfl T.b_range (pa_cons (pe_callO G__law_take (hr.mono (by omega)) (pa_cons (pv 0) (pa_cons pe_int pa_nil))) pa_nil)) (blkOk_by (N := N__law_thing) (sc := defScope s__law_thing) (by decide +kernel)) (fun _ _ _ _ _ => (pg_name (i := 4) sc__law_thing.nd rfl (Or.inl rfl))) (fun _ _ _ _ _ => pts_nil) (fun _ _ _ _ _ => (pe_callO G__law_thing (hr.mono (by omega)) (pa_cons (pv 0) (pa_cons (pe_op op_sub (pv 1) pe_int) pa_nil)))))))
  pss_nil)
  (pss_cons (ps_set (i := 3) sc__law_thing.nd rfl (Or.inl rfl) (pe_callO G__law_unlike (hr.mono (by omega)) (pa_cons (pv 0) (pa_cons (pe_lst (pa_cons pe_str (pa_cons pe_str (pa_cons pe_str (pa_cons pe_str (pa_cons pe_str (pa_cons pe_str pa_nil))))))) (pa_cons (pe_callO G__law_take (hr.mono (by omega)) (pa_cons (pv 0) (pa_cons pe_int pa_nil))) pa_nil)))))
  (pss_one (ps_ret (pe_callTy (call_dictP rfl) (by rfl) T.b_dict (by decide +kernel) (pa_cons (pe_lc (own := [("_law_field", 5)]) (g := (gName 5)) (tt := tYes) rfl sc__law_thing.nd (pi_list (pv 3)) (blkOk_by (N := N__law_thing) (sc := defScope s__law_thing) (by decide +kernel)) (fun _ _ _ _ _ => (pg_name (i := 5) sc__law_thing.nd rfl (Or.inl rfl))) (fun _ _ _ _ _ => pts_nil) (fun _ _ _ _ _ => (pe_tup (pa_cons (pv 5) (pa_cons (pe_callO G__law_thing (hr.mono (by omega)) (pa_cons (pv 0) (pa_cons (pe_op op_sub (pv 1) pe_int) pa_nil))) pa_nil))))) pa_nil)))))))), ?_⟩
    have hge := cost_ge m
    refine ⟨_, rfl, p, _, c, rfl, (by decide), (by decide), by omega, hp, fun z0 H1 c1 b1 p1 hc1 z0a z0b => ?_⟩
    refine ⟨_, rfl, _, _, rfl, rfl, _, rfl, ?_⟩
    by_cases hpick : z0 < 2 ∨ m = 0
    · have leaf : ∀ (v : V) (d : Doc) (H' : Hp), Sca v d → Drawn p H1 c1 9 H' → Q v H' := fun v d H' hs dr =>
        z v d H' (wf_up hs.2) (hs.1 _ _) ⟨b1.trans dr.1, dr.2.choose, dr.2.choose_spec.1, by have := dr.2.choose_spec.2; omega⟩
      by_cases h1 : z0 < 2
      refine ifT (decide_eq_true h1) (ifT rfl ?_)
      rotate_left
      refine ifF (decide_eq_false h1) ⟨_, rfl, rfl, _, rfl, ifT (by show decide (V.int (m : Int) = V.int 0) = true; exact decide_eq_true (by rw [hpick.resolve_left h1]; rfl)) ?_⟩
      all_goals
        refine ⟨_, rfl, p, _, c1, rfl, (by decide), (by decide), by omega, p1, fun z1 H2 c2 b2 p2 hc2 z1a z1b => ?_⟩
        refine ⟨rfl, _, rfl, ?_⟩
        by_cases h3 : z1 = 0
        · refine ifT (by rw [h3]; rfl) ?_
          exact ⟨_, rfl, p, c2, rfl, by omega, p2, fun v d H3 hs dr => leaf v d H3 hs ⟨b2.trans dr.1, dr.2.choose, dr.2.choose_spec.1, by have := dr.2.choose_spec.2; omega⟩⟩
        · refine ifF (by show decide (V.int z1 = V.int 0) = false; exact decide_eq_false (by intro e; cases e; exact h3 rfl)) ?_
          exact ⟨_, rfl, p, c2, rfl, by omega, p2, fun v d H3 hs dr => leaf v d H3 hs ⟨b2.trans dr.1, dr.2.choose, dr.2.choose_spec.1, by have := dr.2.choose_spec.2; omega⟩⟩
    have h1 : ¬ z0 < 2 := fun h => hpick (.inl h)
    have h2 : m ≠ 0 := fun h => hpick (.inr h)
    refine ifF (decide_eq_false h1) ⟨_, rfl, rfl, _, rfl, ifF (by show decide (V.int (m : Int) = V.int 0) = false; exact decide_eq_false (by intro e; injection e with e; omega)) ?_⟩
    obtain ⟨n, rfl⟩ : ∃ n, m = n + 1 := ⟨m - 1, by omega⟩
    have hcost : cost (n + 1) = 4 * cost n + 10 := rfl
    have hdeep : ((n + 1 : Nat) : Int) - 1 = (n : Int) := by omega
    refine ⟨_, rfl, _, _, rfl, rfl, _, rfl, ?_⟩
    by_cases h4 : z0 < 4
    · refine ifT (decide_eq_true h4) ?_
      refine ⟨_, rfl, p, _, c1, rfl, (by decide), (by decide), by omega, p1, fun z1 H2 c2 b2 p2 hc2 z1a z1b => ?_⟩
      obtain ⟨k, rfl⟩ := nat_part z1a
      have hk : k < 4 := by omega
      refine ⟨_, rfl, by omega, by omega, fun D hD => ?_⟩
      rw [Int.toNat_natCast]
      have hDp := p2.ne hD
      have bX : But p H H2 := b1.trans b2
      refine lc_grow walk_range (fun i H' => Drawn p H2 c2 (i * cost n) H') (fun _ y H' => ∃ d, Wf n d ∧ DocAt H' (fun b => H b = none ∧ b ≠ D) y d) (by omega) ?_ ?_ ⟨But.refl p H2, c2, p2, by omega⟩ (fun _ _ _ _ => trivial) ?_ ?_
      · rintro i H' ys ⟨b, c', pc, hc'⟩
        exact ⟨b.pu hD _, c', pc.pu hDp _, hc'⟩
      · rintro i y H' ys ⟨d, wd, hd⟩
        exact ⟨d, wd, doc_frame d (fun a o q e => by rw [upd_ne q.2]; exact e) (fun _ q => q) hd⟩
      · rintro i x H3 H4 hi ⟨b3, c3, p3, hc3⟩ ⟨ys, hD3⟩ ⟨rfl, rfl⟩ C Z kk
        refine ⟨rfl, ?_⟩
        dsimp only [tYes]
        try rw [if_pos rfl]
        have hi3 : i ≤ 3 := by omega
        have hmul : i * cost n ≤ 2 * cost n := Nat.mul_le_mul_right _ (by omega)
        refine ⟨_, rfl, _, rfl, _, _, rfl, rfl, p, c3, n, ?_, rfl, by omega, by omega, p3, fun v d H5 wd hd dr => ?_⟩
        · show [V.ref p, V.int (((n + 1 : Nat) : Int) - 1)] = _
          rw [hdeep]
        obtain ⟨b5, c5, p5, hc5⟩ := dr
        refine kk v H5 (by rw [hD3]; exact b5 _ _ hDp hD3) ⟨b3.trans b5, c5, p5, ?_⟩ ⟨d, wd, ?_⟩ ?_
        · rw [Nat.add_mul]; omega
        · exact doc_frame d (fun _ _ _ e => e) (fun b q => ⟨(bX.trans b3).free (p3.ne q) q, fun e => by rw [e, hD3] at q; cases q⟩) hd
        · rintro j u ⟨d', wd', hd'⟩
          exact ⟨d', wd', keep_but hp b5 (fun a q => ⟨q.1, q⟩) hd'⟩
      · rintro H3 ys ⟨b3, c3, p3, hc3⟩ hD3 hl hy
        obtain ⟨ds, hds, hdl, hw⟩ := docs_all hy
        have hmul : k * cost n ≤ 3 * cost n := Nat.mul_le_mul_right _ (by omega)
        refine z _ (.list ds) H3 ?_ ⟨D, ys, rfl, bX.free hDp hD, hD3, hds⟩ ⟨bX.trans b3, c3, p3, by omega⟩
        rw [Wf]
        exact ⟨by omega, by rw [hdl, hl]; omega, wfs_iff.mpr hw⟩
    · refine ifF (decide_eq_false h4) ?_
      refine ⟨_, rfl, (by show 6 ≤ sizeLine; decide), fun L hL => ?_⟩
      have hLp := p1.ne hL
      generalize hH2 : upd H1 L _ = H2
      have eL : H2 L = some (.lst (([("x" : Str), ("yes" : Str), ("no" : Str), ("abcdefgh" : Str), ("k" : Str), ("zz" : Str)] : List Str).map V.str)) := by rw [← hH2, upd_same]; rfl
      have bL : But p H1 H2 := by rw [← hH2]; exact (But.refl p H1).pu hL _
      have p2 : PotAt H2 p c1 := by rw [← hH2]; exact p1.pu hLp _
      clear hH2
      have hnames : ∀ s ∈ ([("x" : Str), ("yes" : Str), ("no" : Str), ("abcdefgh" : Str), ("k" : Str), ("zz" : Str)] : List Str), NameOk s := by unfold NameOk; decide +kernel
      have hnod : ([("x" : Str), ("yes" : Str), ("no" : Str), ("abcdefgh" : Str), ("k" : Str), ("zz" : Str)] : List Str).Nodup := by decide +kernel
      have h6 : ([("x" : Str), ("yes" : Str), ("no" : Str), ("abcdefgh" : Str), ("k" : Str), ("zz" : Str)] : List Str).length = 6 := rfl
      generalize ([("x" : Str), ("yes" : Str), ("no" : Str), ("abcdefgh" : Str), ("k" : Str), ("zz" : Str)] : List Str) = names at *
      refine ⟨_, rfl, p, _, c1, rfl, (by decide), (by decide), by omega, p2, fun z1 H3 c3 b3 p3 hc3 z1a z1b => ?_⟩
      obtain ⟨k, rfl⟩ := nat_part z1a
      have hk : k < 5 := by omega
      refine ⟨p, L, c3, k, names, rfl, by omega, p3, b3 _ _ hLp eL, hLp, by omega, by omega, fun r gs rest H4 hpm hgl dr hr0 hr4 => ?_⟩
      obtain ⟨b4, c4, p4, hc4⟩ := dr
      have bX : But p H H4 := b1.trans (bL.trans (b3.trans b4))
      have hrp := p3.ne hr0
      have hgn : gs.Nodup := (List.nodup_append.mp (hpm.nodup_iff.mpr hnod)).2.1
      have hgo : ∀ g ∈ gs, NameOk g := fun g hg => hnames g (hpm.mem_iff.mp (List.mem_append_right _ hg))
      refine ⟨_, rfl, r, rfl, ⟨_, SqL.of hr4⟩, fun D hD => ?_⟩
      have hDp := p4.ne hD
      have hrD : r ≠ D := ne_of_none hr4 hD
      refine lc_grow walk_list (fun i H' => Drawn p H4 c4 (i * cost n) H') (fun i y H' => ∃ (U : Addr) (v : V) (g : Str) (d : Doc), y = .ref U ∧ gs[i]? = some g ∧ H U = none ∧ U ≠ D ∧ H' U = some (.tup [.str g, v]) ∧ Wf n d ∧ DocAt H' (fun b => H b = none ∧ b ≠ D) v d)
        (by rw [List.length_map]; omega) ?_ ?_ ⟨But.refl p H4, c4, p4, by omega⟩ (fun i H' _ q => SqL.of (q.1 _ _ hrp hr4)) ?_ ?_
      · rintro i H' ys ⟨b, c', pc, hc'⟩
        exact ⟨b.pu hD _, c', pc.pu hDp _, hc'⟩
      · rintro i y H' ys ⟨U, v, g, d, e1, e2, e3, e4, e5, wd, hd⟩
        exact ⟨U, v, g, d, e1, e2, e3, e4, by rw [upd_ne e4]; exact e5, wd, doc_frame d (fun a o q e => by rw [upd_ne q.2]; exact e) (fun _ q => q) hd⟩
      · rintro i x H5 H6 hi ⟨b5, c5, p5, hc5⟩ ⟨ys, hD5⟩ ⟨rfl, hx⟩ C Z kk
        rw [List.length_map] at hi
        have hgi : gs[i]? = some gs[i] := List.getElem?_eq_getElem hi
        rw [List.getElem?_map, hgi] at hx
        cases hx
        refine ⟨rfl, ?_⟩
        dsimp only [tYes]
        try rw [if_pos rfl]
        have hmul : i * cost n ≤ 3 * cost n := Nat.mul_le_mul_right _ (by omega)
        refine ⟨_, rfl, _, rfl, _, rfl, _, _, rfl, rfl, p, c5, n, ?_, rfl, by omega, by omega, p5, fun v d H7 wd hd dr => ?_⟩
        · show [V.ref p, V.int (((n + 1 : Nat) : Int) - 1)] = _
          rw [hdeep]
        obtain ⟨b7, c7, p7, hc7⟩ := dr
        refine ⟨(by show 2 ≤ sizeLine; decide), fun U hU => ?_⟩
        have hUp := p7.ne hU
        have bY : But p H H7 := bX.trans (b5.trans b7)
        have hD7 := b7 _ _ hDp hD5
        have nDU : D ≠ U := ne_of_none hD7 hU
        have sU := same_new hU (.tup [V.str gs[i], v])
        refine kk _ _ (by rw [sU _ _ hD7, hD5]) ⟨(b5.trans b7).pu (b5.trans b7 |>.free hUp hU) _, c7, p7.pu hUp _, ?_⟩ ⟨U, v, gs[i], d, rfl, hgi, bY.free hUp hU, nDU.symm, upd_same, wd, ?_⟩ ?_
        · rw [Nat.add_mul]; omega
        · exact doc_frame d (fun a o q e => sU _ _ e) (fun b q => ⟨(bX.trans b5).free (p5.ne q) q, fun e => by rw [e, hD5] at q; cases q⟩) hd
        · rintro j u ⟨U', v', g', d', e1, e2, e3, e4, e5, wd', hd'⟩
          exact ⟨U', v', g', d', e1, e2, e3, e4, sU _ _ (b7 _ _ (hp.ne e3) e5), wd', doc_same sU (keep_but hp b7 (fun a q => ⟨q.1, q⟩) hd')⟩
      · rintro H5 ys ⟨b5, c5, p5, hc5⟩ hD5 hl hy
        rw [List.length_map] at hl
        have hmul : gs.length * cost n ≤ 4 * cost n := Nat.mul_le_mul_right _ (by omega)
        rw [List.length_map] at hc5
        obtain ⟨ps, kvs, fs, rfl, hps, hfl, hkeys, hw⟩ := pairs_all (K := K) (M := fun _ => Wf n) (gs := gs) hl fun i y e => by
          obtain ⟨U, v, g, d, e1, e2, e3, e4, e5, wd', hd'⟩ := hy i y e
          exact ⟨U, v, g, d, e1, e2, SqT.of e5, wd', hd'⟩
        have hfn : (fs.map (·.1)).Nodup := by rw [hkeys]; exact hgn
        have hkn : (kvs.map (·.1)).Nodup := by rw [flds_keys hfl]; exact keys_nodup hfn
        refine ⟨D, ps, kvs, rfl, SqL.of hD5, hps, fun F hF => ?_⟩
        rw [merge_nodup hkn]
        have hFp := p5.ne hF
        have bY : But p H H5 := bX.trans b5
        refine z _ (.dict fs) _ ?_ ⟨F, kvs, rfl, bY.free hFp hF, upd_same, ?_⟩ ⟨bY.pu (bY.free hFp hF) _, c5, p5.pu hFp _, by omega⟩
        · rw [Wf]
          have hfl2 : fs.length = gs.length := by rw [← hkeys, List.length_map]
          exact ⟨by omega, by omega, hfn, wff_iff.mpr fun q hq => ⟨hgo _ (by rw [← hkeys]; exact List.mem_map_of_mem hq), hw q hq⟩⟩
        · exact flds_fr2 fs (fun a o q e => ⟨same_new hF _ _ _ e, q.1, ne_of_none e hF⟩) hfl
end
end K87
namespace K87
open PySem L2 TL SX PySem.Spec PyProof.Rows
/-! ## 13. A turned document -/
theorem docs_ix {H : Hp} {ok : Addr → Prop} : ∀ {es : List Doc} {ys : List V}, ys.length = es.length → (∀ (i : Nat) (y : V), ys[i]? = some y → ∃ d, es[i]? = some d ∧ DocAt H ok y d) → DocsAt H ok ys es
  | [], [], _, _ => rfl
  | [], _ :: _, l, _ => by simp at l
  | _ :: _, [], l, _ => by simp at l
  | e :: es, y :: r, l, h => by
    obtain ⟨d, q, a⟩ := h 0 y rfl
    cases q
    exact ⟨y, r, rfl, a, docs_ix (by simpa using l) fun i z q => h (i + 1) z q⟩
theorem pairs_ix {H : Hp} {K : PySem.W.Frag} {ok : Addr → Prop} : ∀ {fs : List (Str × Doc)} {ys : List V}, ys.length = fs.length → (∀ (i : Nat) (y : V), ys[i]? = some y → ∃ (U : Addr) (v : V) (p : Str × Doc), y = .ref U ∧ fs[i]? = some p ∧ SqT K H U [.str p.1, v] ∧ DocAt H ok v p.2) →
    ∃ (ps : List Addr) (kvs : List (Key × V)), ys = ps.map V.ref ∧ Paired (fun p kv => SqT K H p [kV kv.1, kv.2]) ps kvs ∧ FldsAt H ok kvs fs
  | [], [], _, _ => ⟨[], [], rfl, .nil, rfl⟩
  | [], _ :: _, l, _ => by simp at l
  | _ :: _, [], l, _ => by simp at l
  | (f, d) :: fs, y :: r, l, h => by
    obtain ⟨U, v, p, rfl, e, t, a⟩ := h 0 y rfl
    cases e
    obtain ⟨ps, kvs, rfl, b1, b2⟩ := pairs_ix (fs := fs) (ys := r) (by simpa using l) fun i z q => h (i + 1) z q
    exact ⟨U :: ps, (.inr f, v) :: kvs, rfl, .cons t b1, ⟨v, kvs, rfl, a, b2⟩⟩
section
variable {P : Program} {w : World} {K : PySem.W.Frag} {mg : Str → Option Value} {base : Heap}
def spTurn (m : Nat) : Sp := fun vs H Q _ => ∃ (v : V) (n : Nat) (d : Doc) (ok : Addr → Prop), vs = [v] ∧ m = n + 1 ∧ n ≤ 100 ∧ Wf n d ∧ DocAt H ok v d ∧
  ∀ (v' : V) (H' : Hp), Same H H' → DocAt H' (fun b => H b = none) v' (trn d) → Q v' H'
theorem ok_turned (T : Txt K mg) : ∀ m, Ok P w K mg base (m + 1) "_law_turned" p__law_turned (spTurn m)
  | 0 => T.D__law_turned.no (N := N__law_turned) (fun vs H Q E ⟨_, _, _, _, _, e, _⟩ => by omega) (fun _ _ _ _ _ _ us hl => match us, hl with | [_], _ => rfl)
  | m + 1 => by
    have G__law_turned : Ok P w K mg base (m + 1) "_law_turned" p__law_turned (spTurn m) := ok_turned T m
    refine T.D__law_turned.ok sc__law_turned (fun vs H Q E h => ?_) (fun _ _ _ _ _ _ us hl => match us, hl with | [_], _ => rfl) (fun f cdv A outer s H vs Q E hr h => ?_)
    · obtain ⟨v, n, d, ok, rfl, _⟩ := h
      rfl
    obtain ⟨v, n, d, ok, rfl, em, hn, hw, hd, z⟩ := h
    obtain rfl : m = n := by omega
    have hu := hu_of hr
    refine ⟨_, (pss_cons (ps_if (pt_val (pe_callB call_isi (by rfl) T.b_isinstance (by decide +kernel) (pa_cons (pv 0) (pa_cons (pe_bltn (v := .ty "list") (u := .type "list") (by rfl) T.b_list (by decide +kernel) rfl) pa_nil))))
  (pss_one (ps_ret (pe_lc (own := [("_law_part", 1)]) (g := (gName 1)) (tt := tYes) rfl sc__law_turned.nd (pi_list (pv 0)) (blkOk_by (N := N__law_turned) (sc := defScope s__law_turned) (by decide +kernel)) (fun _ _ _ _ _ => (pg_name (i := 1) sc__law_turned.nd rfl (Or.inl rfl))) (fun _ _ _ _ _ => pts_nil) (fun _ _ _ _ _ => (pe_callO G__law_turned (hr.mono (by omega)) (pa_cons (pv 1) pa_nil))))))
  pss_nil)
  (pss_cons (ps_if (pt_val (pe_callB call_isi (by rfl) T.b_isinstance (by decide +kernel) (pa_cons (pv 0) (pa_cons (pe_bltn (v := .ty "dict") (u := .type "dict") (by rfl) T.b_dict (by decide +kernel) rfl) pa_nil))))
  (pss_one (ps_ret (pe_callTy (call_dictP rfl) (by rfl) T.b_dict (by decide +kernel) (pa_cons (pe_lc (own := [("_law_field", 2)]) (g := (gName 2)) (tt := tYes) rfl sc__law_turned.nd (pi_list (pe_revL (pe_callTy (call_list_dK rfl) (by rfl) T.b_list (by decide +kernel) (pa_cons (pv 0) pa_nil)))) (blkOk_by (N := N__law_turned) (sc := defScope s__law_turned) (by decide +kernel)) (fun _ _ _ _ _ => (pg_name (i := 2) sc__law_turned.nd rfl (Or.inl rfl))) (fun _ _ _ _ _ => pts_nil) (fun _ _ _ _ _ => (pe_tup (pa_cons (pv 2) (pa_cons (pe_callO G__law_turned (hr.mono (by omega)) (pa_cons (pe_dget hu (pv 0) (pv 2) (fun _ _ => rfl)) pa_nil)) pa_nil))))) pa_nil))))
  pss_nil)
  (pss_one (ps_ret (pv 0))))), ?_⟩
    cases d with
    | list ds =>
      obtain ⟨a, vs, rfl, oa, ha, hs⟩ := id hd
      rw [Wf] at hw
      have l1 := docs_len hs
      refine ⟨_, rfl, _, _, _, _, true, rfl, .ty _, docTy (d := .list ds) (hd), kit_ty (by simp only [tyName]; decide +kernel), _, rfl, ?_⟩
      refine ifT rfl ?_
      refine ⟨_, rfl, a, rfl, ⟨_, SqL.of ha⟩, fun D hD => ?_⟩
      refine lc_grow walk_list (fun _ H' => Same H H') (fun i y H' => ∃ d, ds[i]? = some d ∧ DocAt H' (fun b => H b = none ∧ b ≠ D) y (trn d)) (by rw [l1]; omega) (fun i H' ys k => same_mut k hD _) ?_ (.refl H) (fun _ _ _ k => SqL.of (k _ _ ha)) ?_ ?_
      · rintro i y H' ys ⟨d, e, g⟩
        exact ⟨d, e, doc_frame _ (fun b o q e => by rw [upd_ne q.2]; exact e) (fun _ q => q) g⟩
      · rintro i x H1 H2 hi s1 ⟨zs, hD1⟩ ⟨rfl, hx⟩ C Z k
        refine ⟨rfl, ?_⟩
        dsimp only [tYes]
        try rw [if_pos rfl]
        obtain ⟨d1, k1, g1⟩ := docs_at hs hx
        have hw1 := hw.1
        refine ⟨_, rfl, x, m - 1, d1, _, rfl, by omega, by omega, wfs_iff.mp hw.2.2 _ (List.mem_of_getElem? k1), doc_same s1 g1, fun v H3 s3 g3 => ?_⟩
        refine k _ _ (by rw [s3 _ _ hD1, hD1]) (s1.trans s3) ⟨d1, k1, ?_⟩ ?_
        · exact doc_frame _ (fun _ _ _ e => e) (fun b q => ⟨s1.free q, fun e => by rw [e, hD1] at q; cases q⟩) g3
        · rintro j u ⟨d', e', g'⟩
          exact ⟨d', e', doc_same s3 g'⟩
      · intro H1 ys s1 hD1 hl hy
        refine z _ _ s1 ?_
        rw [trn]
        refine ⟨D, ys, rfl, hD, hD1, ?_⟩
        rw [trns_map]
        refine docs_ix (by rw [hl, List.length_map, l1]) fun i y e => ?_
        obtain ⟨d1, k1, g⟩ := hy i y e
        exact ⟨trn d1, by rw [List.getElem?_map, k1]; rfl, g⟩
    | dict fs =>
      obtain ⟨a, rs, rfl, oa, ha, hs⟩ := id hd
      rw [Wf] at hw
      have l1 := flds_len hs
      refine ⟨_, rfl, _, _, _, _, false, rfl, .ty _, docTy (d := .dict fs) (hd), kit_ty (by simp only [tyName]; decide +kernel), _, rfl, ?_⟩
      refine ifF rfl ?_
      refine ⟨_, rfl, _, _, _, _, true, rfl, .ty _, docTy (d := .dict fs) (hd), kit_ty (by simp only [tyName]; decide +kernel), _, rfl, ?_⟩
      refine ifT rfl ?_
      refine ⟨_, rfl, a, rs, rfl, ha, fun L1 hL1 => ?_⟩
      have sL1 : Same H (upd H L1 (.lst (rs.map fun kv => kV kv.1))) := same_new hL1 _
      refine ⟨L1, _, rfl, SqL.of upd_same, fun L2 hL2 => ?_⟩
      have sL2 : Same H (upd (upd H L1 (.lst (rs.map fun kv => kV kv.1))) L2 (.lst (rs.map fun kv => kV kv.1).reverse)) := sL1.trans (same_new hL2 _)
      have eL2 : upd (upd H L1 (.lst (rs.map fun kv => kV kv.1))) L2 (.lst (rs.map fun kv => kV kv.1).reverse) L2 = some (.lst (((trnf fs).reverse.map (·.1)).map V.str)) := by
        rw [upd_same]
        have e1 : (rs.map fun kv => kV kv.1) = (rs.map (·.1)).map kV := by rw [List.map_map]; rfl
        have e2 : (trnf fs).map (·.1) = fs.map (·.1) := by rw [trnf_map, map_fst]
        rw [e1, flds_keys hs, ← e2, ← List.map_reverse, ← List.map_reverse, ← List.map_reverse, List.map_map]
        rfl
      have hlen : (trnf fs).reverse.length = fs.length := by rw [List.length_reverse, trnf_map, List.length_map]
      generalize upd (upd H L1 _) L2 _ = H0 at *
      refine ⟨L2, rfl, ⟨_, SqL.of eL2⟩, fun D hD => ?_⟩
      have hD0 : H D = none := sL2.free hD
      refine lc_grow walk_list (fun _ H' => Same H0 H') (fun i y H' => ∃ (U : Addr) (v : V) (p : Str × Doc), y = .ref U ∧ (trnf fs).reverse[i]? = some p ∧ U ≠ D ∧ H' U = some (.tup [.str p.1, v]) ∧ DocAt H' (fun b => H b = none ∧ b ≠ D) v p.2)
        (by rw [List.length_map, List.length_map, hlen]; omega) (fun i H' ys k => same_mut k hD _) ?_ (.refl H0) (fun _ _ _ k => SqL.of (k _ _ eL2)) ?_ ?_
      · rintro i y H' ys ⟨U, v, p, e1, e2, e3, e4, g⟩
        exact ⟨U, v, p, e1, e2, e3, by rw [upd_ne e3]; exact e4, doc_frame _ (fun b o q e => by rw [upd_ne q.2]; exact e) (fun _ q => q) g⟩
      · rintro i x H1 H2 hi s1 ⟨zs, hD1⟩ ⟨rfl, hx⟩ C Z k
        rw [List.length_map, List.length_map] at hi
        have hpi : (trnf fs).reverse[i]? = some (trnf fs).reverse[i] := List.getElem?_eq_getElem hi
        rw [List.getElem?_map, List.getElem?_map, hpi] at hx
        cases hx
        generalize (trnf fs).reverse[i] = p at *
        have hm := List.mem_of_getElem? hpi
        rw [List.mem_reverse, trnf_map] at hm
        obtain ⟨⟨f', d1⟩, hm2, rfl⟩ := List.mem_map.mp hm
        refine ⟨rfl, ?_⟩
        dsimp only [tYes]
        try rw [if_pos rfl]
        have sX := sL2.trans s1
        obtain ⟨u1, k3, g2⟩ := flds_look hs (look_mem hw.2.2.1 hm2)
        have ha1 := sX _ _ ha
        have gk : DGet H2 a (.str f') (some u1) := by
          rw [← k3]
          exact DGet.k (k := Sum.inr f') ha1
        have hw1 := hw.1
        refine ⟨_, rfl, _, rfl, _, rfl, a, u1, rfl, gk, u1, m - 1, d1, _, rfl, by omega, by omega, (wff_iff.mp hw.2.2.2 _ hm2).2, doc_same sX g2, fun v H3 s3 g3 => ?_⟩
        refine ⟨(by show 2 ≤ sizeLine; decide), fun U hU => ?_⟩
        have hD3 := s3 _ _ hD1
        have sU := same_new hU (.tup [V.str f', v])
        refine k _ _ (by rw [sU _ _ hD3, hD1]) (s1.trans (s3.trans sU)) ⟨U, v, _, rfl, hpi, (ne_of_none hD3 hU).symm, upd_same, ?_⟩ ?_
        · exact doc_frame _ (fun _ o _ e => sU _ o e) (fun b q => ⟨sX.free q, fun e => by rw [e, hD1] at q; cases q⟩) g3
        · rintro j u ⟨U', v', p', e1, e2, e3, e4, g⟩
          exact ⟨U', v', p', e1, e2, e3, sU _ _ (s3 _ _ e4), doc_same sU (doc_same s3 g)⟩
      · intro H1 ys s1 hD1 hl hy
        rw [List.length_map, List.length_map] at hl
        obtain ⟨ps, kvs, rfl, hps, hfl⟩ := pairs_ix (K := K) hl fun i y e => by
          obtain ⟨U, v, p, e1, e2, e3, e4, g⟩ := hy i y e
          exact ⟨U, v, p, e1, e2, SqT.of e4, g⟩
        have hkn : (kvs.map (·.1)).Nodup := by
          rw [flds_keys hfl]
          refine keys_nodup ?_
          rw [List.map_reverse, trnf_map, map_fst]
          exact (List.reverse_perm _).nodup_iff.mpr hw.2.2.1
        refine ⟨D, ps, kvs, rfl, SqL.of hD1, hps, fun F hF => ?_⟩
        rw [merge_nodup hkn]
        have sF := same_new hF (.dK kvs)
        have sX := sL2.trans s1
        refine z _ _ (sX.trans sF) ?_
        rw [trn]
        refine ⟨F, kvs, rfl, sX.free hF, upd_same, ?_⟩
        exact flds_fr2 _ (fun a o q e => ⟨sF _ _ e, q.1, ne_of_none e hF⟩) hfl
    | non =>
      obtain rfl : v = V.non := hd
      have hd : DocAt H ok (V.non) (.non) := rfl
      refine ⟨_, rfl, _, _, _, _, false, rfl, .ty _, docTy (d := .non) (hd), kit_ty (by simp only [tyName]; decide +kernel), _, rfl, ?_⟩
      refine ifF rfl ?_
      refine ⟨_, rfl, _, _, _, _, false, rfl, .ty _, docTy (d := .non) (hd), kit_ty (by simp only [tyName]; decide +kernel), _, rfl, ?_⟩
      refine ifF rfl ?_
      exact ⟨_, rfl, z _ H (.refl H) rfl⟩
    | bl b =>
      obtain rfl : v = V.bl b := hd
      have hd : DocAt H ok (V.bl b) (.bl b) := rfl
      refine ⟨_, rfl, _, _, _, _, false, rfl, .ty _, docTy (d := .bl b) (hd), kit_ty (by simp only [tyName]; decide +kernel), _, rfl, ?_⟩
      refine ifF rfl ?_
      refine ⟨_, rfl, _, _, _, _, false, rfl, .ty _, docTy (d := .bl b) (hd), kit_ty (by simp only [tyName]; decide +kernel), _, rfl, ?_⟩
      refine ifF rfl ?_
      exact ⟨_, rfl, z _ H (.refl H) rfl⟩
    | int i =>
      obtain rfl : v = V.int i := hd
      have hd : DocAt H ok (V.int i) (.int i) := rfl
      refine ⟨_, rfl, _, _, _, _, false, rfl, .ty _, docTy (d := .int i) (hd), kit_ty (by simp only [tyName]; decide +kernel), _, rfl, ?_⟩
      refine ifF rfl ?_
      refine ⟨_, rfl, _, _, _, _, false, rfl, .ty _, docTy (d := .int i) (hd), kit_ty (by simp only [tyName]; decide +kernel), _, rfl, ?_⟩
      refine ifF rfl ?_
      exact ⟨_, rfl, z _ H (.refl H) rfl⟩
    | str s' =>
      obtain rfl : v = V.str s' := hd
      have hd : DocAt H ok (V.str s') (.str s') := rfl
      refine ⟨_, rfl, _, _, _, _, false, rfl, .ty _, docTy (d := .str s') (hd), kit_ty (by simp only [tyName]; decide +kernel), _, rfl, ?_⟩
      refine ifF rfl ?_
      refine ⟨_, rfl, _, _, _, _, false, rfl, .ty _, docTy (d := .str s') (hd), kit_ty (by simp only [tyName]; decide +kernel), _, rfl, ?_⟩
      refine ifF rfl ?_
      exact ⟨_, rfl, z _ H (.refl H) rfl⟩
end
end K87
namespace K87
open PySem L2 TL SX PySem.Spec PyProof.Rows
/-! ## 14. The law's own text -/
theorem strs_ix : ∀ {parts : List (List Nat)} {ys : List V}, ys.length = parts.length → (∀ (i : Nat) (y : V), ys[i]? = some y → ∃ s : Str, y = .str s ∧ parts[i]? = some (tl s)) → ∃ zs : List Str, ys = zs.map V.str ∧ zs.map tl = parts
  | [], [], _, _ => ⟨[], rfl, rfl⟩
  | [], _ :: _, l, _ => by simp at l
  | _ :: _, [], l, _ => by simp at l
  | p :: ps, y :: r, l, h => by
    obtain ⟨s, rfl, e⟩ := h 0 y rfl
    cases e
    obtain ⟨zs, rfl, e2⟩ := strs_ix (parts := ps) (ys := r) (by simpa using l) fun i z q => h (i + 1) z q
    exact ⟨s :: zs, rfl, by rw [List.map_cons, e2]⟩
theorem joinL_sum (s : List Nat) : ∀ zs : List Str, (zs.map (·.length)).sum + zs.length * s.length ≤ (joinL s (zs.map tl)).length + s.length
  | [] => by simp [joinL]
  | [z] => by
    show (z.length + 0) + 1 * s.length ≤ (tl z).length + s.length
    rw [← len_tl]
    omega
  | z :: y :: r => by
    have ih := joinL_sum s (y :: r)
    show (z.length + ((y :: r).map (·.length)).sum) + ((y :: r).length + 1) * s.length ≤ (tl z ++ (s ++ joinL s ((y :: r).map tl))).length + s.length
    rw [List.length_append, List.length_append, ← len_tl, Nat.add_mul]
    omega
/-- the parts are joined to the text between two brackets -/
theorem wrap_ok {zs : List Str} {sep : Str} {B : Nat} (h : (joinL (tl sep) (zs.map tl)).length ≤ B) (hs : sep.length ≤ 2) (hB : B ≤ 100000) : (zs.map (·.length)).sum + zs.length * sep.length ≤ 16777216 ∧ (Txt.join sep zs).length ≤ B ∧ tl (Txt.join sep zs) = joinL (tl sep) (zs.map tl) := by
  have a := joinL_sum (tl sep) zs
  have e : tl (Txt.join sep zs) = joinL (tl sep) (zs.map tl) := by rw [join_eq, tl_join]
  rw [← len_tl] at a
  exact ⟨by omega, by rw [len_tl, e]; exact h, e⟩
theorem tl_q : tl ("\"" : Str) = [34] := by decide +kernel
theorem tl_lb : tl ("[" : Str) = [91] := by decide +kernel
theorem tl_rb : tl ("]" : Str) = [93] := by decide +kernel
theorem tl_lc : tl ("{" : Str) = [123] := by decide +kernel
theorem tl_rc : tl ("}" : Str) = [125] := by decide +kernel
theorem tl_sep : tl (", " : Str) = [44, 32] := by decide +kernel
theorem tl_col : tl (": " : Str) = [58, 32] := by decide +kernel
theorem tl_qs : ("\"\\" : Str).cps.toList = [34, 92] := by decide +kernel
theorem tl_bs : tl ("\\" : Str) = [92] := by decide +kernel
theorem wrap2 {a j b : Str} {x y : List Nat} {p : List Nat} (ha : tl a = x) (hb : tl b = y) (hj : tl j = p) (h : (x ++ (p ++ y)).length ≤ 100000) : a.length + j.length ≤ sizeLine ∧ (a ++ j).length + b.length ≤ sizeLine ∧ tl (a ++ j ++ b) = x ++ (p ++ y) := by
  have e : tl (a ++ j ++ b) = x ++ (p ++ y) := by rw [tl_append, tl_append, ha, hb, hj, List.append_assoc]
  have e1 : tl (a ++ j) = x ++ p := by rw [tl_append, ha, hj]
  rw [List.length_append, List.length_append] at h
  have h100 : (100000 : Nat) ≤ sizeLine := by decide
  refine ⟨?_, ?_, e⟩
  · rw [len_tl, len_tl, ha, hj]; omega
  · rw [len_tl (a ++ j), len_tl b, e1, hb, List.length_append]; omega
theorem joinL_flat : ∀ parts : List (List Nat), joinL [] parts = parts.flatten
  | [] => rfl
  | [p] => by show p = [p].flatten; simp
  | p :: q :: r => by
    show p ++ ([] ++ joinL [] (q :: r)) = _
    rw [joinL_flat (q :: r), List.nil_append]
    simp
theorem escL_flat (l : List Nat) : joinL [] (l.map escC) = escL l := by
  rw [joinL_flat]
  unfold escL
  rw [List.flatMap_def]
theorem size_ok {n : Nat} (h : n ≤ 100000) : n ≤ sizeLine := Nat.le_trans h (by decide)
theorem len_of {x : Str} {l : List Nat} (h : tl x = l) : x.length = l.length := by rw [len_tl, h]
section
variable {P : Program} {w : World} {K : PySem.W.Frag} {mg : Str → Option Value} {base : Heap}
def spWrit (m : Nat) : Sp := fun vs H Q _ => ∃ (v : V) (n : Nat) (d : Doc) (ok : Addr → Prop), vs = [v] ∧ m = n + 1 ∧ n ≤ 4 ∧ Wf n d ∧ DocAt H ok v d ∧
  ∀ (t : Str) (H' : Hp), Same H H' → tl t = wr d → Q (.str t) H'
theorem ok_writ (T : Txt K mg) : ∀ m, Ok P w K mg base (m + 1) "_law_writ" p__law_writ (spWrit m)
  | 0 => T.D__law_writ.no (N := N__law_writ) (fun vs H Q E ⟨_, _, _, _, _, e, _⟩ => by omega) (fun _ _ _ _ _ _ us hl => match us, hl with | [_], _ => rfl)
  | m + 1 => by
    have G__law_writ : Ok P w K mg base (m + 1) "_law_writ" p__law_writ (spWrit m) := ok_writ T m
    refine T.D__law_writ.ok sc__law_writ (fun vs H Q E h => ?_) (fun _ _ _ _ _ _ us hl => match us, hl with | [_], _ => rfl) (fun f cdv A outer s H vs Q E hr h => ?_)
    · obtain ⟨v, n, d, ok, rfl, _⟩ := h
      rfl
    obtain ⟨v, n, d, ok, rfl, em, hn, hw, hd, z⟩ := h
    obtain rfl : m = n := by omega
    have hu := hu_of hr
    refine ⟨_, (pss_cons (ps_if (pt_cmpR op_isN (pv 0) pe_non (nomark _))
  (pss_one (ps_ret pe_str))
  pss_nil)
  (pss_cons (ps_if (pt_val (pe_callB call_isi (by rfl) T.b_isinstance (by decide +kernel) (pa_cons (pv 0) (pa_cons (pe_bltn (v := .ty "bool") (u := .type "bool") (by rfl) T.b_bool (by decide +kernel) rfl) pa_nil))))
  (pss_one (ps_ret (pe_ifExp (pt_truth (pv 0) (by intro _; rfl)) pe_str pe_str)))
  pss_nil)
  (pss_cons (ps_if (pt_val (pe_callB call_isi (by rfl) T.b_isinstance (by decide +kernel) (pa_cons (pv 0) (pa_cons (pe_bltn (v := .ty "int") (u := .type "int") (by rfl) T.b_int (by decide +kernel) rfl) pa_nil))))
  (pss_one (ps_ret (pe_callTy call_str_int (by rfl) T.b_str (by decide +kernel) (pa_cons (pv 0) pa_nil))))
  pss_nil)
  (pss_cons (ps_if (pt_val (pe_callB call_isi (by rfl) T.b_isinstance (by decide +kernel) (pa_cons (pv 0) (pa_cons (pe_bltn (v := .ty "str") (u := .type "str") (by rfl) T.b_str (by decide +kernel) rfl) pa_nil))))
  (pss_one (ps_ret (pe_op op_add_str (pe_op op_add_str pe_str (pe_join pe_str (pe_lc (own := [("_law_sign", 2)]) (g := (gName 2)) (tt := tYes) rfl sc__law_writ.nd (pi_str (pv 0)) (blkOk_by (N := N__law_writ) (sc := defScope s__law_writ) (by decide +kernel)) (fun _ _ _ _ _ => (pg_name (i := 2) sc__law_writ.nd rfl (Or.inl rfl))) (fun _ _ _ _ _ => pts_nil) (fun _ _ _ _ _ => (pe_op op_add_str (pe_op op_mul_si pe_str (pe_callTy call_int1 (by rfl) T.b_int (by decide +kernel) (pa_cons (pe_cmpR op_in_sign (pv 2) pe_str (by rfl)) pa_nil))) (pv 2)))))) pe_str)))
  pss_nil)
  (pss_cons (ps_if (pt_val (pe_callB call_isi (by rfl) T.b_isinstance (by decide +kernel) (pa_cons (pv 0) (pa_cons (pe_bltn (v := .ty "list") (u := .type "list") (by rfl) T.b_list (by decide +kernel) rfl) pa_nil))))
  (pss_one (ps_ret (pe_op op_add_str (pe_op op_add_str pe_str (pe_join pe_str (pe_lc (own := [("_law_part", 3)]) (g := (gName 3)) (tt := tYes) rfl sc__law_writ.nd (pi_list (pv 0)) (blkOk_by (N := N__law_writ) (sc := defScope s__law_writ) (by decide +kernel)) (fun _ _ _ _ _ => (pg_name (i := 3) sc__law_writ.nd rfl (Or.inl rfl))) (fun _ _ _ _ _ => pts_nil) (fun _ _ _ _ _ => (pe_callO G__law_writ (hr.mono (by omega)) (pa_cons (pv 3) pa_nil)))))) pe_str)))
  pss_nil)
  (pss_one (ps_ret (pe_op op_add_str (pe_op op_add_str pe_str (pe_join pe_str (pe_lc (own := [("_law_field", 1)]) (g := (gName 1)) (tt := tYes) rfl sc__law_writ.nd (pi_list (pe_callB (call_sortedD rfl) (by rfl) T.b_sorted (by decide +kernel) (pa_cons (pv 0) pa_nil))) (blkOk_by (N := N__law_writ) (sc := defScope s__law_writ) (by decide +kernel)) (fun _ _ _ _ _ => (pg_name (i := 1) sc__law_writ.nd rfl (Or.inl rfl))) (fun _ _ _ _ _ => pts_nil) (fun _ _ _ _ _ => (pe_op op_add_str (pe_op op_add_str (pv 1) pe_str) (pe_callO G__law_writ (hr.mono (by omega)) (pa_cons (pe_dget hu (pv 0) (pv 1) (fun _ _ => rfl)) pa_nil))))))) pe_str)))))))), ?_⟩
    have hB : bnd m ≤ 14490 := by
      have : m = 0 ∨ m = 1 ∨ m = 2 ∨ m = 3 ∨ m = 4 := by omega
      rcases this with rfl | rfl | rfl | rfl | rfl <;> decide
    have hL := wr_len m d hw
    have hL' := hL
    cases d with
    | non =>
      obtain rfl : v = V.non := hd
      refine ⟨_, rfl, rfl, _, rfl, ifT rfl ?_⟩
      exact z _ H (.refl H) (by decide +kernel)
    | bl b =>
      obtain rfl : v = V.bl b := hd
      have hd : DocAt H ok (V.bl b) (.bl b) := rfl
      refine ⟨_, rfl, rfl, _, rfl, ifF (decide_eq_false (by intro e; cases e)) ?_⟩
      refine ⟨_, rfl, _, _, _, _, true, rfl, .ty _, docTy (d := .bl b) (hd), kit_ty (by simp only [tyName]; decide +kernel), _, rfl, ?_⟩
      refine ifT rfl ?_
      refine ⟨_, rfl, b, rfl, ?_⟩
      cases b with
      | true => exact ifT rfl (z _ H (.refl H) (by decide +kernel))
      | false => exact ifF rfl (z _ H (.refl H) (by decide +kernel))
    | int i =>
      obtain rfl : v = V.int i := hd
      have hd : DocAt H ok (V.int i) (.int i) := rfl
      refine ⟨_, rfl, rfl, _, rfl, ifF (decide_eq_false (by intro e; cases e)) ?_⟩
      refine ⟨_, rfl, _, _, _, _, false, rfl, .ty _, docTy (d := .int i) (hd), kit_ty (by simp only [tyName]; decide +kernel), _, rfl, ?_⟩
      refine ifF rfl ?_
      refine ⟨_, rfl, _, _, _, _, true, rfl, .ty _, docTy (d := .int i) (hd), kit_ty (by simp only [tyName]; decide +kernel), _, rfl, ?_⟩
      refine ifT rfl ?_
      rw [Wf] at hw
      exact ⟨_, rfl, i, rfl, int_log hw, z _ H (.refl H) (by rw [tl_int, wr])⟩
    | str q =>
      obtain rfl : v = V.str q := hd
      have hd : DocAt H ok (V.str q) (.str q) := rfl
      refine ⟨_, rfl, rfl, _, rfl, ifF (decide_eq_false (by intro e; cases e)) ?_⟩
      refine ⟨_, rfl, _, _, _, _, false, rfl, .ty _, docTy (d := .str q) (hd), kit_ty (by simp only [tyName]; decide +kernel), _, rfl, ?_⟩
      refine ifF rfl ?_
      refine ⟨_, rfl, _, _, _, _, false, rfl, .ty _, docTy (d := .str q) (hd), kit_ty (by simp only [tyName]; decide +kernel), _, rfl, ?_⟩
      refine ifF rfl ?_
      refine ⟨_, rfl, _, _, _, _, true, rfl, .ty _, docTy (d := .str q) (hd), kit_ty (by simp only [tyName]; decide +kernel), _, rfl, ?_⟩
      refine ifT rfl ?_
      rw [Wf] at hw
      refine ⟨⟨_, rfl⟩, _, rfl, q, rfl, fun D hD => ?_⟩
      refine lc_grow walk_str (fun _ H' => Same H H') (fun i y _ => ∃ s : Str, y = .str s ∧ ((tl q).map escC)[i]? = some (tl s)) (by have := hw.1; show q.length ≤ 1000; omega) (fun i H' ys k => same_mut k hD _) (fun _ _ _ _ h => h) (.refl H) (fun _ _ _ _ => trivial) ?_ ?_
      · rintro i x H1 H2 hi s1 ⟨zs, hD1⟩ ⟨rfl, c, hc, rfl⟩ C Z k
        refine ⟨rfl, ?_⟩
        dsimp only [tYes]
        try rw [if_pos rfl]
        refine ⟨_, rfl, _, _, rfl, rfl, .inr ⟨_, rfl, _, _, rfl, rfl, ?_, ?_⟩⟩
        · show (if decide (c ∈ ("\"\\" : Str).cps.toList) = true then (1 : Int) else 0) = 0 ∨ _
          split
          · exact .inr rfl
          · exact .inl rfl
        have key : tl ((if (if decide (c ∈ ("\"\\" : Str).cps.toList) = true then (1 : Int) else 0) = 0 then Str.empty else ("\\" : Str)) ++ (⟨#[c]⟩ : Str)) = escC c := by
          rw [tl_append, tl_qs]
          unfold escC
          by_cases h : c = 34 ∨ c = 92
          · rw [if_pos h, if_pos (decide_eq_true (by simpa using h)), if_neg (by decide), tl_bs]; rfl
          · have hk : (if decide (c ∈ [34, 92]) = true then (1 : Int) else 0) = 0 := if_neg (by intro e; exact h (by simpa using of_decide_eq_true e))
            rw [if_neg h, if_pos hk]; rfl
        have h100 : (100000 : Nat) ≤ sizeLine := by decide
        refine ⟨_, rfl, _, _, rfl, rfl, ?_, k _ H2 rfl s1 ⟨_, rfl, ?_⟩ (fun _ _ h => h)⟩
        · have e1 : (escC c).length ≤ 2 := by unfold escC; split <;> simp
          rw [← key, tl_append, List.length_append, ← len_tl, ← len_tl] at e1
          exact Nat.le_trans e1 (by decide)
        · rw [List.getElem?_map, show (tl q)[i]? = some c by rw [← hc, ← Array.getElem?_toList]]
          exact congrArg some key.symm
      · intro H1 ys s1 hD1 hl hy
        obtain ⟨zs, rfl, hz⟩ := strs_ix (parts := (tl q).map escC) (by rw [hl, List.length_map]; exact len_tl q) hy
        have hwr : wr (.str q) = [34] ++ (escL (tl q) ++ [34]) := by rw [wr]; rfl
        have e0 : tl ("" : Str) = [] := by decide +kernel
        have hJ : (joinL (tl ("" : Str)) (zs.map tl)).length ≤ 14490 := by
          rw [e0, hz, escL_flat]
          rw [hwr, List.length_append, List.length_append] at hL'
          omega
        obtain ⟨w1, w2, w3⟩ := wrap_ok hJ (by decide +kernel) (by decide)
        rw [e0, hz, escL_flat] at w3
        obtain ⟨v1, v2, v3⟩ := wrap2 (x := [34]) (y := [34]) tl_q tl_q w3 (by rw [← hwr]; omega)
        exact ⟨_, D, zs, rfl, rfl, .inl (SqL.of hD1), w1, _, _, rfl, rfl, v1, _, _, rfl, rfl, v2, z _ _ s1 (v3.trans hwr.symm)⟩
    | list ds =>
      obtain ⟨a, vs, rfl, oa, ha, hs⟩ := id hd
      rw [Wf] at hw
      have l1 := docs_len hs
      refine ⟨_, rfl, rfl, _, rfl, ifF (decide_eq_false (by intro e; cases e)) ?_⟩
      refine ⟨_, rfl, _, _, _, _, false, rfl, .ty _, docTy (d := .list ds) (hd), kit_ty (by simp only [tyName]; decide +kernel), _, rfl, ?_⟩
      refine ifF rfl ?_
      refine ⟨_, rfl, _, _, _, _, false, rfl, .ty _, docTy (d := .list ds) (hd), kit_ty (by simp only [tyName]; decide +kernel), _, rfl, ?_⟩
      refine ifF rfl ?_
      refine ⟨_, rfl, _, _, _, _, false, rfl, .ty _, docTy (d := .list ds) (hd), kit_ty (by simp only [tyName]; decide +kernel), _, rfl, ?_⟩
      refine ifF rfl ?_
      refine ⟨_, rfl, _, _, _, _, true, rfl, .ty _, docTy (d := .list ds) (hd), kit_ty (by simp only [tyName]; decide +kernel), _, rfl, ?_⟩
      refine ifT rfl ?_
      refine ⟨⟨_, rfl⟩, _, rfl, a, rfl, ⟨_, SqL.of ha⟩, fun D hD => ?_⟩
      refine lc_grow walk_list (fun _ H' => Same H H') (fun i y _ => ∃ s : Str, y = .str s ∧ (wrs ds)[i]? = some (tl s)) (by rw [l1]; omega) (fun i H' ys k => same_mut k hD _) (fun _ _ _ _ h => h) (.refl H) (fun _ _ _ k => SqL.of (k _ _ ha)) ?_ ?_
      · rintro i x H1 H2 hi s1 ⟨zs, hD1⟩ ⟨rfl, hx⟩ C Z k
        refine ⟨rfl, ?_⟩
        dsimp only [tYes]
        try rw [if_pos rfl]
        obtain ⟨d1, k1, g1⟩ := docs_at hs hx
        have hw1 := hw.1
        refine ⟨_, rfl, x, m - 1, d1, _, rfl, by omega, by omega, wfs_iff.mp hw.2.2 _ (List.mem_of_getElem? k1), doc_same s1 g1, fun t H3 s3 g3 => ?_⟩
        exact k _ _ (by rw [s3 _ _ hD1, hD1]) (s1.trans s3) ⟨t, rfl, by rw [wrs_map, List.getElem?_map, k1, g3]; rfl⟩ (fun _ _ h => h)
      · intro H1 ys s1 hD1 hl hy
        obtain ⟨zs, rfl, hz⟩ := strs_ix (parts := wrs ds) (by rw [hl, l1, wrs_map, List.length_map]) hy
        have hwr : wr (.list ds) = 91 :: (joinL [44, 32] (wrs ds) ++ [93]) := by rw [wr]
        have hJ : (joinL (tl (", " : Str)) (zs.map tl)).length ≤ 14490 := by
          rw [tl_sep, hz]
          rw [hwr, List.length_cons, List.length_append] at hL
          omega
        obtain ⟨w1, w2, w3⟩ := wrap_ok hJ (by decide +kernel) (by decide)
        rw [tl_sep, hz] at w3
        obtain ⟨v1, v2, v3⟩ := wrap2 (x := [91]) (y := [93]) tl_lb tl_rb w3 (by have : [91] ++ (joinL [44, 32] (wrs ds) ++ [93]) = wr (.list ds) := hwr.symm; rw [this]; omega)
        exact ⟨_, D, zs, rfl, rfl, .inl (SqL.of hD1), w1, _, _, rfl, rfl, v1, _, _, rfl, rfl, v2, z _ _ s1 (v3.trans hwr.symm)⟩
    | dict fs =>
      obtain ⟨a, rs, rfl, oa, ha, hs⟩ := id hd
      rw [Wf] at hw
      have l1 := flds_len hs
      refine ⟨_, rfl, rfl, _, rfl, ifF (decide_eq_false (by intro e; cases e)) ?_⟩
      refine ⟨_, rfl, _, _, _, _, false, rfl, .ty _, docTy (d := .dict fs) (hd), kit_ty (by simp only [tyName]; decide +kernel), _, rfl, ?_⟩
      refine ifF rfl ?_
      refine ⟨_, rfl, _, _, _, _, false, rfl, .ty _, docTy (d := .dict fs) (hd), kit_ty (by simp only [tyName]; decide +kernel), _, rfl, ?_⟩
      refine ifF rfl ?_
      refine ⟨_, rfl, _, _, _, _, false, rfl, .ty _, docTy (d := .dict fs) (hd), kit_ty (by simp only [tyName]; decide +kernel), _, rfl, ?_⟩
      refine ifF rfl ?_
      refine ⟨_, rfl, _, _, _, _, false, rfl, .ty _, docTy (d := .dict fs) (hd), kit_ty (by simp only [tyName]; decide +kernel), _, rfl, ?_⟩
      refine ifF rfl ?_
      refine ⟨⟨_, rfl⟩, _, rfl, a, rs, fs.map (·.1), rfl, .inl ha, flds_keys hs, by rw [List.length_map]; omega, fun ks L hpm hst hL => ?_⟩
      obtain rfl : ks = (sortF fs).map (·.1) := sortF_keys hw.2.2.1 hpm hst
      have sL := same_new hL (.lst (((sortF fs).map (·.1)).map V.str))
      have eL : upd H L (.lst (((sortF fs).map (·.1)).map V.str)) L = some (.lst (((sortF fs).map (·.1)).map V.str)) := upd_same
      have hlen : (sortF fs).length = fs.length := (sortF_perm fs).length_eq
      generalize upd H L _ = H0 at *
      refine ⟨L, rfl, ⟨_, SqL.of eL⟩, fun D hD => ?_⟩
      refine lc_grow walk_list (fun _ H' => Same H0 H') (fun i y _ => ∃ s : Str, y = .str s ∧ ((sortF fs).map rowD)[i]? = some (tl s)) (by rw [List.length_map, List.length_map, hlen]; omega) (fun i H' ys k => same_mut k hD _) (fun _ _ _ _ h => h) (.refl H0) (fun _ _ _ k => SqL.of (k _ _ eL)) ?_ ?_
      · rintro i x H1 H2 hi s1 ⟨zs, hD1⟩ ⟨rfl, hx⟩ C Z k
        rw [List.length_map, List.length_map] at hi
        have hpi : (sortF fs)[i]? = some (sortF fs)[i] := List.getElem?_eq_getElem hi
        rw [List.getElem?_map, List.getElem?_map, hpi] at hx
        cases hx
        generalize (sortF fs)[i] = p at *
        have hm := (sortF_perm fs).mem_iff.mp (List.mem_of_getElem? hpi)
        obtain ⟨f', d1⟩ := p
        refine ⟨rfl, ?_⟩
        dsimp only [tYes]
        try rw [if_pos rfl]
        have sX := sL.trans s1
        obtain ⟨u1, k3, g2⟩ := flds_look hs (look_mem hw.2.2.1 hm)
        have gk : DGet H2 a (.str f') (some u1) := by
          rw [← k3]
          exact DGet.k (k := Sum.inr f') (sX _ _ ha)
        have hw1 := hw.1
        have hnm := (wff_iff.mp hw.2.2.2 _ hm).1
        have hf8 : f'.length ≤ 8 := hnm.1.2
        have hc2 : (": " : Str).length = 2 := by decide +kernel
        have h100 : (100000 : Nat) ≤ sizeLine := by decide
        have wd : Wf (m - 1) d1 := (wff_iff.mp hw.2.2.2 _ hm).2
        refine ⟨_, rfl, _, _, rfl, rfl, by omega, _, rfl, _, rfl, a, u1, rfl, gk, u1, m - 1, d1, _, rfl, by omega, by omega, wd, doc_same sX g2, fun t H3 s3 g3 => ?_⟩
        have hl2 : t.length ≤ 14490 := by
          rw [len_tl, g3]
          have := wr_len _ _ wd
          have : bnd (m - 1) ≤ bnd m := by
            obtain ⟨j, rfl⟩ : ∃ j, m = j + 1 := ⟨m - 1, by omega⟩
            show bnd j ≤ 4 * (bnd j + 12) + 2
            omega
          omega
        have e2 : (f' ++ (": " : Str)).length = f'.length + 2 := by rw [len_tl, tl_append, List.length_append, ← len_tl, ← len_tl, hc2]
        refine ⟨_, _, rfl, rfl, by rw [e2]; omega, ?_⟩
        refine k _ _ (by rw [s3 _ _ hD1, hD1]) (s1.trans s3) ⟨_, rfl, ?_⟩ (fun _ _ h => h)
        rw [List.getElem?_map, hpi, tl_append, tl_append, tl_col, g3]
        rfl
      · intro H1 ys s1 hD1 hl hy
        rw [List.length_map, List.length_map] at hl
        obtain ⟨zs, rfl, hz⟩ := strs_ix (parts := (sortF fs).map rowD) (by rw [hl, List.length_map]) hy
        have hwr := wr_dict fs
        have hJ : (joinL (tl (", " : Str)) (zs.map tl)).length ≤ 14490 := by
          rw [tl_sep, hz]
          rw [hwr, List.length_cons, List.length_append] at hL'
          omega
        obtain ⟨w1, w2, w3⟩ := wrap_ok hJ (by decide +kernel) (by decide)
        rw [tl_sep, hz] at w3
        obtain ⟨v1, v2, v3⟩ := wrap2 (x := [123]) (y := [125]) tl_lc tl_rc w3 (by have : [123] ++ (joinL [44, 32] ((sortF fs).map rowD) ++ [125]) = wr (.dict fs) := hwr.symm; rw [this]; omega)
        exact ⟨_, D, zs, rfl, rfl, .inl (SqL.of hD1), w1, _, _, rfl, rfl, v1, _, _, rfl, rfl, v2, z _ _ (sL.trans s1) (v3.trans hwr.symm)⟩
end
end K87
namespace K87
open PySem L2 TL SX PySem.Spec PyProof.Rows
/-! ## 15. The same judgements where the tokens below n are given out -/
theorem upN {n : Nat} {α : Type} {M : Model} {A : Around} {c : Sem α} {Q Q' : α → Shared → Prop} {E : Value → Shared → Prop} {s : Shared} (hn : n ≤ s.toks) (h : wpAny M A c Q E s)
    (k : ∀ a z, n ≤ z.toks → Q a z → Q' a z) : wpAny M A c Q' E s := wpAny_mono (PySem.wpAny_toks_of hn h) (fun a z q => k a z q.1 q.2) (fun _ _ q => q.2)
def NE (n : Nat) (X : Cx) (e : Expr) (t : TE) : Prop := ∀ (pz : List (Addr × Obj)) (z : Shared) (σ : L2.St) (H : Hp) (Q : VK), n ≤ z.toks → Inv X pz σ H z → t σ H Q → wpAny (model X.prog X.w) X.A (eval e X.env) (EP X pz σ Q) X.xe z
def NT (n : Nat) (X : Cx) (e : Expr) (t : TT) : Prop := ∀ (pz : List (Addr × Obj)) (z : Shared) (σ : L2.St) (H : Hp) (Q : Bool → Hp → Prop), n ≤ z.toks → Inv X pz σ H z → t σ H Q → wpAny (model X.prog X.w) X.A (isTrue e X.env (eval e X.env)) (TP X pz σ Q) X.xe z
def NW (n : Nat) (X : Cx) (e : Expr) (t : TT) : Prop := ∀ (wh : Sem Value) (pz : List (Addr × Obj)) (z : Shared) (σ : L2.St) (H : Hp) (Q : Bool → Hp → Prop), n ≤ z.toks → Inv X pz σ H z → t σ H Q → wpAny (model X.prog X.w) X.A (isTrue e X.env wh) (TP X pz σ Q) X.xe z
def NA (n : Nat) (X : Cx) (es : List Expr) (t : TA) : Prop := ∀ (pos : Pos) (pz : List (Addr × Obj)) (z : Shared) (σ : L2.St) (H : Hp) (Q : List V → Hp → Prop), n ≤ z.toks → Inv X pz σ H z → t σ H Q → wpAny (model X.prog X.w) X.A (spliced (backTo pos (starEach es X.env))) (AP X pz σ Q) X.xe z
def NS (n : Nat) (X : Cx) (st : Stmt) (t : TS) : Prop := ∀ (pz : List (Addr × Obj)) (z : Shared) (σ : L2.St) (H : Hp) (D : Ends), n ≤ z.toks → Inv X pz σ H z → t D σ H → wpAny (model X.prog X.w) X.A (exec st X.env) (SP X pz D) X.xe z
def NB (n : Nat) (X : Cx) (st : List Stmt) (t : TS) : Prop := ∀ (pz : List (Addr × Obj)) (z : Shared) (σ : L2.St) (H : Hp) (D : Ends), n ≤ z.toks → Inv X pz σ H z → t D σ H → wpAny (model X.prog X.w) X.A (execs st X.env) (SP X pz D) X.xe z
section
variable {n : Nat} {X : Cx} {e a b c : Expr} {es : List Expr} {st : Stmt} {rest : List Stmt} {t u : TS} {te ta tb : TE} {tt ty : TT} {pos : Pos}
theorem ne_of (h : PE X e te) : NE n X e te := fun pz z σ H Q _ I q => h.run pz z σ H Q I q
theorem nt_of (h : PT X e tt) : NT n X e tt := fun pz z σ H Q _ I q => h.run pz z σ H Q I q
theorem na_of {k : TA} (h : PA X es k) : NA n X es k := fun pos pz z σ H Q _ I q => h.run pos pz z σ H Q I q
theorem ns_of (h : PS X st t) : NS n X st t := fun pz z σ H D _ I q => h.run pz z σ H D I q
theorem nb_of (h : PSs X rest t) : NB n X rest t := fun pz z σ H D _ I q => h.run pz z σ H D I q
theorem nb_cons (h : NS n X st t) (k : NB n X rest u) : NB n X (st :: rest) (tSeq t u) := fun pz z σ H D hn I q =>
  wpAny_execs_cons (upN hn (h pz z σ H { D with nx := u D } hn I q) fun f y hy r => match f, r with
    | .next, ⟨σ2, H2, I2, q2⟩ => k pz y σ2 H2 D hy I2 q2
    | .ret _, r => r
    | .brk, r => r
    | .cont, r => r)
theorem nb_one (h : NS n X st t) : NB n X [st] t := fun pz z σ H D hn I q =>
  wpAny_execs_cons (upN hn (h pz z σ H D hn I q) fun f y hy r => match f, r with
    | .next, r => wpAny_execs_nil r
    | .ret _, r => r
    | .brk, r => r
    | .cont, r => r)
theorem ns_if {xs ys : List Stmt} (hc : NT n X c tt) (h : NB n X xs t) (k : NB n X ys u) : NS n X (.If c xs ys pos) (tIfS tt t u) := fun pz z σ H D hn I q =>
  wpAny_If (upN hn (hc pz z σ H _ hn I q) fun d y hy ⟨H2, I2, q2⟩ => match d, q2 with
    | true, q2 => h pz y σ H2 D hy I2 q2
    | false, q2 => k pz y σ H2 D hy I2 q2)
theorem ns_ret (h : NE n X e te) : NS n X (.Return (some e) pos) (tRet te) := fun pz z σ H D hn I q =>
  wpAny_Return_some (thn (h pz z σ H _ hn I q) fun v y ⟨x, H2, I2, r2, q2⟩ => ⟨x, σ, H2, I2, r2, q2⟩)
theorem ne_op {op : Operator} {r : R2} (ho : OpR X (binaryOp op) r) (h : NE n X a ta) (k : NE n X b tb) : NE n X (.BinOp a op b pos) (tOp r ta tb) := fun pz z σ H Q hn I q =>
  wpAny_BinOp (upN hn (h pz z σ H _ hn I q) fun v y hy ⟨x, H2, I2, r2, q2⟩ => thn (k pz y σ H2 _ hy I2 q2) fun u' y' ⟨x', H3, I3, r3, q3⟩ => ho pz y' σ H3 x x' v u' Q I3 r2 r3 q3)
theorem nt_cmp {op : CmpOp} {r : R2} (ho : OpR X (compareOp op) r) (h : NE n X a ta) (k : NE n X b tb) (hm : behindInMarks op b = false) : NT n X (.Compare a [op] [b] pos) (tTest (tOp r ta tb)) := fun pz z σ H Q hn I q => by
  refine wpAny_isTrue_Compare1 (upN hn (h pz z σ H _ hn I q) fun v y hy ⟨x, H2, I2, r2, q2⟩ => thn (k pz y σ H2 _ hy I2 q2) fun u' y' ⟨x', H3, I3, r3, q3⟩ =>
    thn (ho pz y' σ H3 x x' v u' _ I3 r2 r3 q3) fun _ y4 ⟨w4, H4, I4, r4, k4, e4, q4⟩ => ?_) hm
  subst e4
  cases r4
  exact wpAny_truthy_bool ⟨H4, I4, q4⟩
theorem nt_val (h : NE n X e te) (he : ∀ whole, isTrue e X.env whole = (do let v ← whole; standAt e.pos; holding [v] (truthy v)) := by intro _; rfl) : NT n X e (tB te) := fun pz z σ H Q hn I q => by
  refine isTrue_plain (thn (h pz z σ H _ hn I q) fun v y ⟨x, H2, I2, r2, d, ed, q2⟩ => ?_) (he _)
  subst ed
  cases r2
  exact wpAny_truthy_bool ⟨H2, I2, q2⟩
theorem nt_not (h : NT n X e tt) : NT n X (.UnaryOp .Not e pos) (tNot tt) := fun pz z σ H Q hn I q => isTrue_not (h pz z σ H (fun d H2 => Q (!d) H2) hn I q)
theorem nw_or1 (h : NT n X e tt) : NW n X (.BoolOp .Or [e] pos) tt := fun wh pz z σ H Q hn I q =>
  isTrue_or (thn (h pz z σ H Q hn I q) fun d y r => match d, r with
    | false, r => isTrue_or_nil r
    | true, r => r)
theorem nw_or {more : List Expr} (h : NT n X a tt) (k : NW n X (.BoolOp .Or (b :: more) pos) ty) : NW n X (.BoolOp .Or (a :: b :: more) pos) (tOr tt ty) := fun wh pz z σ H Q hn I q =>
  isTrue_or (upN hn (h pz z σ H _ hn I q) fun d y hy ⟨H2, I2, q2⟩ => match d, q2 with
    | true, q2 => ⟨H2, I2, q2⟩
    | false, q2 => k wh pz y σ H2 Q hy I2 q2)
theorem NW.nt (h : NW n X e tt) : NT n X e tt := h _
theorem na_one (h : NE n X e te) (hs : starEach [e] X.env = (false, eval e X.env) :: starEach [] X.env := by rfl) : NA n X [e] (tCons te tNil) := by
  intro pos pz z σ H Q hn I q
  rw [hs]
  exact Calls.spliced_cons (thn (h pz z σ H _ hn I q) fun v y ⟨x, H2, I2, r2, q2⟩ => Calls.spliced_nil ⟨[x], H2, I2, .cons r2 .nil, q2⟩)
theorem ne_callB {x : Str} {id : String} {p : Pos} {k : TA} {r : List V → Hp → VK → Prop} (hc : CallR X (.builtin id) r) (hg : Gl X x) (hm : X.mg x = none) (hv : bootBuiltins x = some (.builtin id)) (h : NA n X (e :: es) k) (hx : x ≠ "__name__" := by decide) (hdb : (x == ("__debug__" : Str)) = false := by decide)
    (he : starEach (e :: es) X.env = (false, eval e X.env) :: starEach es X.env := by rfl) (hpl : (backTo pos (starEach es X.env)).any (·.1) = false := by rfl) : NE n X (.Call (.Name x p) (e :: es) [] pos) (tCB r k) := fun pz z σ H Q hn I q =>
  wpAny_Call_Name_kw (ld_blt I hg hm hv (PyProof.Rows.callWith_builtin1 (thn (h pos pz z σ H _ hn I q) fun us y ⟨vs, H2, I2, r2, q2⟩ => hc pz y σ H2 vs us Q I2 r2 q2) he hpl) hx hdb)
theorem ne_join {o : Expr} {to : TE} {apos : Pos} (ho : PE X o to) (h : NE n X e te) (hs : starEach [e] X.env = [(false, eval e X.env)] := by rfl) (hbase : attributeBase o "join" X.env (eval o X.env) = eval o X.env := by rfl) (hline : (apos.endLine == pos.line) = true := by rfl) :
    NE n X (.Call (.Attribute o "join" apos) [e] [] pos) (tM1 (fun x xs H Q => ∃ a p, ∃ ys : List Str, x = .str a ∧ xs = [.ref p] ∧ (SqL X.K H p (ys.map V.str) ∨ SqT X.K H p (ys.map V.str)) ∧
      (ys.map (·.length)).sum + ys.length * a.length ≤ 16777216 ∧ Q (.str (Txt.join a ys)) H) to te) := fun pz z σ H Q hn I q => by
  refine PySem.Call_method1 hbase hs hline (upN hn (ho.run pz z σ H _ I q) fun v y hy ⟨x, H2, I2, r2, ⟨sx, ex⟩, q2⟩ => ?_)
  subst ex
  obtain ⟨tk, rfl⟩ := _root_.id r2
  refine ⟨"str", _, F.plainAttrs_str, F.slot_str_join, F.type_str_join, typeIs_str _ _ _, (fun _ e => nomatch e), Calls.callWith_builtin rfl (Calls.evalArgs_plain (Calls.spliced_cons ?_))⟩
  exact thn (h pz y σ H2 _ hy I2 q2) fun u' y' ⟨x', H3, I3, r3, q3⟩ => Calls.spliced_nil (mt_join pz y' σ H3 _ [x'] _ [u'] Q I3 r2 (.cons r3 .nil) q3)
end
/-! ### a def, where the tokens below n are out and no limit is set -/
structure OkN (n : Nat) (P : Program) (w : World) (K : PySem.W.Frag) (mg : Str → Option Value) (base : Heap) (k : Nat) (x : Str) (ps : List Str) (sp : Sp) : Prop where
  ex : ∃ fd, (∀ vs H Q E, sp vs H Q E → vs.length = ps.length) ∧ Binds K fd ps [] ∧
    ∀ (A : Around) (outer : List Env) (z : Shared) (H : Hp) (args : Args) (us : List Value) (vs : List V) (Q : VK) (E : XK), n ≤ z.toks → A.guards = some [] → Room k A → Env0 P w K mg base A outer z H → BindsTo z fd args (ps.zip us) → Vals vs us → sp vs H Q E →
      codeAny (model P w) A (.call (.ref (He.ga K x)) args) (CR CX0 outer P w H z Q E) z
  kp : PySem.W.keepIn K (.ref (He.ga K x)) = true
  m : mg x = some (.ref (He.ga K x))
theorem ne_call {n k : Nat} {X : Cx} {x : Str} {ps : List Str} {sp : Sp} {e : Expr} {es : List Expr} {t : TA} {p pos : Pos} (O : OkN n X.prog X.w X.K X.mg X.base k x ps sp) (hr : Room k X.A) (hgd : X.A.guards = some []) (ha : PA X (e :: es) t) (hg : Gl X x := by rfl)
    (hdb : (x == ("__debug__" : Str)) = false := by decide) (he : starEach (e :: es) X.env = (false, eval e X.env) :: starEach es X.env := by rfl) (hpl : (backTo pos (starEach es X.env)).any (·.1) = false := by rfl) :
    NE n X (.Call (.Name x p) (e :: es) [] pos) (tCall sp [] E0 t) := by
  intro pz z σ H Q hn I q
  obtain ⟨fd, len, hb, run⟩ := O.ex
  refine wpAny_Call_Name_kw (ld_glob I hg O.m (PySem.W.callWith_K (h₀ := X.base) I.ok.mod.kin O.kp (upN hn (ha.run pos pz z σ H _ I q) fun us y hy ⟨vs, H2, I2, r2, q2⟩ => ⟨I2.kIn, ?_⟩) he hpl) hdb)
  have q3 : sp (vs ++ []) H2 Q E0 := q2
  rw [List.append_nil] at q3
  have hl : (us ++ []).length = ps.length := by rw [List.append_nil, ← r2.length]; exact len _ _ _ _ q3
  have hB := hb y us I2.kIn hl
  rw [List.append_nil] at hB
  refine wpAny_call (codeAny_mono (run X.A X.stack y H2 ⟨us, []⟩ us vs Q E0 hy hgd hr I2.env0 hB r2 q3) fun r y' hq => ?_)
  match r, hq with
  | .error _, hq => exact hq.elim
  | .ok (.ret _), hq => exact I2.after hq
theorem NB.nox {n : Nat} {X : Cx} {st : List Stmt} {t : TS} (h : NB n X.nox st t) : NB n X st t := fun pz z σ H D hn I q =>
  wpAny_mono (h pz z σ H D hn (I.wish _) q) (fun _ _ r => r.unwish) fun _ _ r => False.elim r
theorem Df.okN {n : Nat} {P : Program} {w : World} {K : PySem.W.Frag} {mg : Str → Option Value} {base : Heap} {x : Str} {st : Stmt} {N ps : List Str} {k : Nat} {sp : Sp} (D : Df K mg x st) (S : FnScope N ps (defScope st)) (len : ∀ vs H Q E, sp vs H Q E → vs.length = ps.length)
    (hb : ∀ (kV doc pm : Value) (an : Option Addr) (cdv ct : Value) (us : List Value), us.length = ps.length → bindArgs (PySem.W.fnOf x x (defArgs st) (defBody st) (defScope st) .none kV doc pm an cdv ct) ⟨us, []⟩ = pure (ps.zip us))
    (hbody : ∀ (f : Addr) (cdv : Value) (A : Around) (outer : List Env) (s : Shared) (H : Hp) (vs : List V) (Q : VK) (E : XK), Room k (A.deeper (envOfC x (defScope st) s.heap.objs.size f cdv)) → (A.deeper (envOfC x (defScope st) s.heap.objs.size f cdv)).guards = some [] → sp vs H Q E →
      ∃ t, NB n (cxOf CX0 P w K mg base N x (defScope st) f cdv A outer s H E).nox (defBody st) t ∧ t { nx := fun _ H' => Q .non H', rt := Q } (start N vs) H) : OkN n P w K mg base (k + 1) x ps sp := by
  obtain ⟨fd, F⟩ := D.ex
  refine ⟨⟨fd, len, F.bindsN hb, fun A outer z H args us vs Q E hn hgd hr e0 hB rv hsp => ?_⟩, F.kp, D.m⟩
  obtain ⟨oc, od, dV, kV, doc, pm, an, cdv, ct, osl, rfl, lk, hcd, _, _⟩ := F.ex
  have hl := len _ _ _ _ hsp
  have inK : K.In z.heap := e0.mod.kin.keeps fun a o q => (e0.bs a o q).1
  have lim : z.heap.NoLimit := e0.mod.nolimit.keeps fun a o q => (e0.bs a o q).1
  refine codeAny_call_function hr.depth (inK _ _ lk) rfl S.co S.gen rfl (PySem.W.codeRec_of inK hcd) (hB _ _ _ _ ?_)
  refine upN hn (wpAny_newFunctionEnv_cells (Q := fun env y => env = envOfC x (defScope st) z.heap.objs.size (He.ga K x) cdv ∧ InCallC z z.heap.objs.size (bindL (envOfC x (defScope st) z.heap.objs.size (He.ga K x) cdv).kindOf (ps.zip us) fun _ => none) (cellsFrom (z.heap.objs.size + 1) (defScope st).names []) (bindC (envOfC x (defScope st) z.heap.objs.size (He.ga K x) cdv).kindOf (ps.zip us) fun _ => none) y)
    S.kind (fun ⟨m', v⟩ hy => ?_) fun env he y xx => by subst he; exact ⟨rfl, xx⟩) fun env y hy ⟨he, xx⟩ => ?_
  · rcases S.par m' (List.of_mem_zip hy).1 with q | q
    · exact .inl q
    · exact .inr ⟨q, PySem.W.cellsFrom_some _ _ _ (.inl q)⟩
  subst he
  refine ⟨lim.keeps xx.toInCall.keep, codeAny_func ?_⟩
  obtain ⟨t, ht, hq⟩ := hbody (He.ga K x) cdv A outer z H vs Q E (hr.deeper _) hgd hsp
  have I : Inv (cxOf CX0 P w K mg base N x (defScope st) (He.ga K x) cdv A outer z H E) [] (start N vs) H y := inv_start S hr.hd e0 hl rv xx
  refine wpAny_mono (ht.nox [] y (start N vs) H _ hy I hq) (fun fl y' r => ?_) fun _ _ r => r
  match fl, r with
  | .ret u', ⟨v, σ', H', J, r', q'⟩ => exact ⟨v, H', J.os, J.bare, J.base, J.hok, r', q'⟩
  | .next, ⟨σ', H', J, q'⟩ => exact ⟨.non, H', J.os, J.bare, J.base, J.hok, rfl, q'⟩
  | .brk, ⟨_, _, _, q'⟩ => exact q'.elim
  | .cont, ⟨_, _, _, q'⟩ => exact q'.elim
end K87
namespace K87
open PySem L2 TL SX PySem.Spec PyProof.Rows
/-! ## 16. A comprehension and a loop, where the tokens below n are given out -/
section
variable {n : Nat} {X : Cx}
abbrev emptyL : Obj := { cls := .type "list", data := .seq ([] : List Value).toArray }
abbrev emptyD : Obj := { cls := .type "dict", data := .dict #[] }
theorem nlc_run {pz : List (Addr × Obj)} {z : Shared} {σ : L2.St} {H : Hp} {Q : VK} {elt tg iter : Expr} {sc : Scope} {own : List (Str × Nat)} {pos p2 : Pos} {wi : TI} {g : TG} {te : TE} {use : Option (Value → Sem Unit)} {Qf : Value → Shared → Prop} (hn : n ≤ z.toks) (hcalm : X.calm = true) (hND : X.N.Nodup) (I : Inv X pz σ H z)
    (hi : PI X tg iter wi) (ok : BlkOk X.N X.env.scope sc own) (hg : ∀ (y : Shared) (H' : Hp) (C : Addr) (cl : List (Str × Addr)) (fp : List Addr), PG (X.blk y H' sc (compEnvC sc cl C X.env) fp) tg g)
    (he : ∀ (y : Shared) (H' : Hp) (C : Addr) (cl : List (Str × Addr)) (fp : List Addr), NE n (X.blk y H' sc (compEnvC sc cl C X.env) fp) elt te) (hfold : ∀ x, foldedSetIterable iter X.env x = pure x)
    (h : tLc wi g tYes te (own.map (·.2)) σ H Q)
    (fin : ∀ D C y m H', Inv X pz σ H' y → Q (.ref D) H' → y.heap.Ns C m → FpOk X pz H' C → compPost (model X.prog X.w) X.A X.xe use Qf (.ref D) C (.ok .next) y) :
    wpAny (model X.prog X.w) X.A (comprehension (.ListComp elt [⟨tg, iter, [], 0⟩] sc pos) sc X.env p2 (newList []) false (eval iter X.env) use) Qf X.xe z := by
  have hcl : ∀ y ∈ sc.names, y.2 = .free → ∃ c, X.env.cells.lookup y.1 = some c := fun y hy e => (ok.free y hy e).elim (fun k => I.ok.has _ (.inl k)) fun k => I.ok.has _ (.inr k)
  refine wpAny_comprehension_free (use := use) rfl hfold (closure_ok hcl) ok.kind (fun y hy e => by rw [ok.uniq y hy, e]) ?_
  refine upN hn (hi.run pz z σ H _ I h) fun xv a ha hx => upN ha hx fun itv b hb q => ?_
  obtain ⟨it, fp, tn, J, H2, rfl, I2, T, st2, f2, q⟩ := q
  refine wpAny_newObj_type (newEnv_comp ?_) (by show 0 ≤ sizeLine; decide)
  generalize hD : b.heap.objs.size = D
  have freeD : H2 D = none := I2.hok.fresh (Nat.le_of_eq hD)
  obtain ⟨W, ⟨m0, w0⟩, step⟩ := q D freeD
  generalize hc : ({ b with heap := b.heap.push emptyL } : Shared) = c
  have hcn : n ≤ c.toks := by rw [← hc]; exact hb
  have I3 : Inv X pz σ (upd H2 D (.lst [])) c := hc ▸ I2.laid (t' := b.toks) (fun o u e => Heap.get?_push_of_some _ e) (Nat.le_of_eq hD) ⟨Nat.zero_le _, [], 0, .nil, hD ▸ Heap.get?_push_size _ rfl⟩
  have ch : c.heap = b.heap.push emptyL := by rw [← hc]
  have below : ∀ o ∈ fp, o < b.heap.objs.size := fun o ho => let ⟨_, e, _⟩ := T.obj _ _ st2 o ho; Heap.lt_size e
  have f3 : ∀ o ∈ fp, FpOk X pz (upd H2 D (.lst [])) o ∧ o < c.heap.objs.size := fun o ho =>
    ⟨⟨by rw [upd_ne (hD ▸ Nat.ne_of_lt (below o ho))]; exact (f2 o ho).1, (f2 o ho).2⟩, by rw [ch, Heap.size_push]; exact Nat.lt_succ_of_lt (below o ho)⟩
  have st3 : tn 0 c.heap := T.keep _ _ _ st2 fun o _ u e => by rw [ch]; exact Heap.get?_push_of_some _ e
  have I4 := block_start I3 ok hND f3
  have Pg := hg c (upd H2 D (.lst [])) c.heap.objs.size (cellsFrom (c.heap.objs.size + 1) sc.names (cloFrom X.env.cells sc.names [])) fp
  have Pe := he c (upd H2 D (.lst [])) c.heap.objs.size (cellsFrom (c.heap.objs.size + 1) sc.names (cloFrom X.env.cells sc.names [])) fp
  generalize hM : (cellsFrom (c.heap.objs.size + 1) sc.names (cloFrom X.env.cells sc.names [])) = cl at I4 Pg Pe
  show codeAny _ _ (.compStart (.ListComp elt [⟨tg, iter, [], 0⟩] sc pos) 0 (.ref it) (.ref D) (compEnvC sc cl c.heap.objs.size X.env)) (compPost (model X.prog X.w) X.A X.xe use Qf (.ref D) c.heap.objs.size) { c with heap := pushCells (c.heap.push emptyD) sc.names }
  have away : ∀ o ∈ fp, (upd H2 D (.lst [])) o = none := fun o ho => (f3 o ho).1.1
  have hdn : n ≤ ({ c with heap := pushCells (c.heap.push emptyD) sc.names } : Shared).toks := hcn
  generalize hce : compEnvC sc cl c.heap.objs.size X.env = ce at I4 Pg Pe ⊢
  have cL : ce.locals = c.heap.objs.size := by rw [← hce]; rfl
  generalize hH3 : upd H2 D (.lst []) = H3 at I3 I4 Pg Pe w0 away f3
  have st4 : tn 0 (pushCells (c.heap.push emptyD) sc.names) := T.keep _ _ _ st3 fun o _ u e => pushCells_keeps _ _ _ _ (Heap.get?_push_of_some _ e)
  generalize hd : ({ c with heap := pushCells (c.heap.push emptyD) sc.names } : Shared) = d at I4 hdn ⊢
  have st4 : tn 0 d.heap := by rw [← hd]; exact st4
  have stat : ∀ {σ' : L2.St} {H' : Hp} {y : Shared}, Inv (X.blk c H3 sc ce fp) [] σ' H' y → (∀ o ∈ fp, H' o = none) → ∀ o ∈ fp, FpOk (X.blk c H3 sc ce fp) [] H' o := fun {σ' H' y} I' k o ho =>
    ⟨k o ho, (I'.ok.exf o ho).1, I'.ok.exfs o ho, .inl ho, fun x v e => (I'.ok.exf o ho).2 x v e, fun p hp => absurd (show p ∈ ([] : List (Addr × Obj)) ++ [] from hp) (by simp)⟩
  have loop : codeAny (model X.prog X.w) X.A (.compLoop (.ListComp elt [⟨tg, iter, [], 0⟩] sc pos) 0 (.ref it) (.ref D) ce) (compPost (model X.prog X.w) X.A X.xe use Qf (.ref D) c.heap.objs.size) d := by
    refine compLoop_any (fun k y => n ≤ y.toks ∧ ∃ i H', Inv (X.blk c H3 sc ce fp) [] (wipe σ (own.map (·.2))) H' y ∧ tn i y.heap ∧ (∀ o ∈ fp, H' o = none) ∧ W i k H') ?_ m0 ⟨hdn, 0, H3, I4, st4, away, w0⟩
    rintro k y ⟨hy, i, H5, I5, st5, n5, w5⟩
    rcases step i k H5 w5 with ⟨stop, qq⟩ | ⟨go, Nx, hNx, turn⟩
    · refine thnF (T.done (X.blk c H3 sc ce fp) rfl rfl rfl hcalm i [] y _ H5 (fun _ _ => False) I5 (stat I5 n5) st5 stop) fun r y6 ⟨hr, I6⟩ => ?_
      subst hr
      have I7 : Inv X pz σ H5 y6 := I3.call' (ch := fp) I6.os I6.base I6.hok I6.bare fun o ho => ⟨(f3 o ho).1.2.2.2.1, (f3 o ho).1.2.1, (f3 o ho).1.2.2.2.2.1, (f3 o ho).1.2.2.2.2.2⟩
      have gone : H5 c.heap.objs.size = none := cL ▸ (show H5 ce.locals = none from I6.free)
      obtain ⟨m, hm, _⟩ := I6.loc
      have hm : y6.heap.Ns ce.locals m := hm
      exact fin D c.heap.objs.size y6 m H5 I7 qq (cL ▸ hm) (I3.fpOk (Nat.le_refl _) gone)
    · refine thnF (upN hy (T.item (X.blk c H3 sc ce fp) rfl rfl rfl hcalm i [] y _ H5 (fun _ _ => False) I5 (stat I5 n5) st5 go) fun r y6 h6n h6 => And.intro h6n h6) fun r y6 ⟨h6n, v, hr, h6⟩ => ?_
      subst hr
      refine thnF (upN h6n h6 fun _ y7 h7n h7 => And.intro h7n h7) fun _ y7 ⟨h7n, x, H7, I7, r7, z7, st7, n7⟩ => ?_
      have I7' := I7.pinned (stat I7 n7) (T.obj _ _ st7)
      refine thnF (upN h7n (Pg.run _ y7 _ H7 x v _ I7' r7 (turn x H7 z7)) fun _ y8 h8n h8 => And.intro h8n h8) fun _ y8 ⟨h8n, σ8, H8, I8, hw8, q8⟩ => ?_
      refine wpAny_tests_nil ?_
      have again : ∀ {y' : Shared} {H' : Hp}, n ≤ y'.toks → Inv (X.blk c H3 sc ce fp) ([] ++ pinsAt fp y7.heap) σ8 H' y' → Nx H' → ∃ m, m < k ∧ n ≤ y'.toks ∧ ∃ i H', Inv (X.blk c H3 sc ce fp) [] (wipe σ (own.map (·.2))) H' y' ∧ tn i y'.heap ∧ (∀ o ∈ fp, H' o = none) ∧ W i m H' := fun {y' H'} hy' I' nx => by
        obtain ⟨m', hm, w'⟩ := hNx H' nx
        have held : ∀ o ∈ fp, ∀ u, y7.heap.get? o = some u → y'.heap.get? o = some u ∧ H' o = none := fun o ho u e =>
          have p := I'.pin (o, u) (List.mem_append_right _ (List.mem_append_right _ (mem_pinsAt ho e)))
          ⟨p.1, p.2.1⟩
        refine ⟨m', hm, hy', i + 1, H', (I'.unpinned (pins := [])).weak (by rw [← hw8, wipe_length]) (fun j u e => ?_), T.keep _ _ _ st7 fun o ho u e => (held o ho u e).1, fun o ho => ?_, w'⟩
        · rw [← hw8] at e
          exact (wipe_some e).1
        · obtain ⟨u, e, _⟩ := T.obj _ _ st7 o ho
          exact (held o ho u e).2
      simp only [tYes, if_true] at q8 ⊢
      refine thnF (upN h8n (Pe _ y8 σ8 H8 _ h8n I8 q8) fun _ y9 h9n h9 => And.intro h9n h9) fun u y9 ⟨h9n, yv, H9, I9, r9, acc, hD9, hz9, nx⟩ => ?_
      refine PySem.wpAny_with_toks h9n ?_
      exact app_ok (X := X.blk c H3 sc ce fp) I9 hD9 hz9 r9 fun y10 I10 h10n => again h10n I10 nx
  exact codeAny_compStart_list loop (T.self X.A 0 _ _ _ st4 loop)
end
end K87
namespace K87
open PySem L2 TL SX PySem.Spec PyProof.Rows
section
variable {n : Nat} {X : Cx}
theorem ne_lc {elt tg iter : Expr} {sc : Scope} {own : List (Str × Nat)} {pos : Pos} {wi : TI} {g : TG} {te : TE} (hcalm : X.calm = true) (hND : X.N.Nodup) (hi : PI X tg iter wi) (ok : BlkOk X.N X.env.scope sc own)
    (hg : ∀ (y : Shared) (H' : Hp) (C : Addr) (cl : List (Str × Addr)) (fp : List Addr), PG (X.blk y H' sc (compEnvC sc cl C X.env) fp) tg g)
    (he : ∀ (y : Shared) (H' : Hp) (C : Addr) (cl : List (Str × Addr)) (fp : List Addr), NE n (X.blk y H' sc (compEnvC sc cl C X.env) fp) elt te) (hfold : ∀ x, foldedSetIterable iter X.env x = pure x := by intro _; rfl) :
    NE n X (.ListComp elt [⟨tg, iter, [], 0⟩] sc pos) (tLc wi g tYes te (own.map (·.2))) := fun pz z σ H Q hn I q => by
  rw [eval_ListComp]
  exact nlc_run hn hcalm hND I hi ok hg he hfold q fun D C y m H' J q' hm ⟨f0, f1, f2, f3, f4, f5⟩ => ⟨m, hm, fun h' sb => ⟨.ref D, H', J.turned (t' := y.toks) (fun o u ho e => (sb.2 o ho).trans e) f0 f1 f3 f4 f5, rfl, q'⟩⟩
theorem ns_setLc {i : Nat} {v : Str} {pv : Pos} {elt tg iter : Expr} {sc : Scope} {own : List (Str × Nat)} {pos spos : Pos} {wi : TI} {g : TG} {te : TE} (hcalm : X.calm = true) (hND : X.N.Nodup) (hv : X.N[i]? = some v) (hvl : X.env.scope.names.lookup v = some .local)
    (hsw : swapsWith (.ListComp elt [⟨tg, iter, [], 0⟩] sc pos) (some (.Name v pv)) spos.line X.env = pure true) (hi : PI X tg iter wi) (ok : BlkOk X.N X.env.scope sc own)
    (hg : ∀ (y : Shared) (H' : Hp) (C : Addr) (cl : List (Str × Addr)) (fp : List Addr), PG (X.blk y H' sc (compEnvC sc cl C X.env) fp) tg g)
    (he : ∀ (y : Shared) (H' : Hp) (C : Addr) (cl : List (Str × Addr)) (fp : List Addr), NE n (X.blk y H' sc (compEnvC sc cl C X.env) fp) elt te) (hfold : ∀ x, foldedSetIterable iter X.env x = pure x := by intro _; rfl) :
    NS n X (.Assign [.Name v pv] (.ListComp elt [⟨tg, iter, [], 0⟩] sc pos) spos) (tAsg (tLc wi g tYes te (own.map (·.2))) (gName i)) := fun pz z σ H D hn I q => by
  rw [exec_Assign_Name_used _ _ _ _ hsw]
  refine wpAny_bind (wpAny_standAt (wpAny_bind ?_))
  show wpAny _ X.A (do let _ ← comprehension (.ListComp elt [⟨tg, iter, [], 0⟩] sc pos) sc X.env (firstIterPos [⟨tg, iter, [], 0⟩] pos) (newList []) false (eval iter X.env) (some (assign (.Name v pv) X.env))) _ _ z
  have q0 : tLc wi g tYes te (own.map (·.2)) σ H (fun x H1 => gName i x σ H1 D.nx) := q
  refine wpAny_bind (thn (nlc_run (Qf := fun _ y => SP X pz D .next y) hn hcalm hND I hi ok hg he hfold q0 fun L C y m H' J q' hm ⟨f0, f1, f2, f3, f4, f5⟩ => ?_) fun _ y hy => wpAny_pure (wpAny_pure hy))
  refine wpAny_assign_Name (store_ok2 (v := V.ref L) J hND hv (.inl hvl) rfl (fun y2 J2 ⟨a, sb, ha⟩ => ?_) (.inr hvl))
  have off : C ≠ a := ha.elim (fun k => k ▸ f1) fun k e => f4 v a k e.symm
  exact ⟨m, hm.sameBut sb off, fun h3 sb3 => ⟨_, H', J2.turned (t' := y2.toks) (fun o u ho e => (sb3.2 o ho).trans e) f0 f1 f3 f4 f5, q'⟩⟩
theorem ns_for {iter : Expr} {body : List Stmt} {wi : TI} {tg : Expr} {g : TG} {tb : TS} {pos : Pos} (hp : PassesOwn (model X.prog X.w) X.A X.env X.xe) (hcalm : X.calm = true) (hi : PI X tg iter wi) (hg : PG X tg g) (hb : NB n X body tb)
    (hfold : ∀ x, foldedSetIterable iter X.env x = pure x := by intro _; rfl) : NS n X (.For tg iter body [] pos) (tFor wi g tb) := fun pz z σ H D hn I q => by
  refine wpAny_For (upN hn (hi.run pz z σ H _ I q) fun v a ha h1 => upN ha h1 fun itv b hb' h2 => ?_) hfold
  obtain ⟨it, fp, tn, J, H2, rfl, I2, T, st2, f2, W, ⟨m0, w0⟩, step⟩ := h2
  have own : ∀ {H' : Hp}, (∀ o ∈ fp, H' o = none) → ∀ o ∈ fp, FpOk X pz H' o := fun k o ho => ⟨k o ho, (f2 o ho).2⟩
  refine codeAny_forLoop_any (fun k y => n ≤ y.toks ∧ ∃ i σ' H', Inv X pz σ' H' y ∧ tn i y.heap ∧ (∀ o ∈ fp, H' o = none) ∧ W i k σ' H') ?_ m0 ⟨hb', 0, σ, H2, I2, st2, fun o ho => (f2 o ho).1, w0⟩
  rintro k y ⟨hy, i, σ3, H3, I3, st3, fr3, w3⟩
  rcases step i k σ3 H3 w3 with ⟨stop, qn⟩ | ⟨go, N, hN, turn⟩
  · refine wpAny_passesOwn hp (thn (T.done X rfl rfl rfl hcalm i pz y σ3 H3 X.xe I3 (own fr3) st3 stop) fun r y4 ⟨hr, I4⟩ => ?_)
    subst hr
    exact wpAny_execs_nil ⟨σ3, H3, I4, qn⟩
  · refine wpAny_passesOwn hp (upN hy (T.item X rfl rfl rfl hcalm i pz y σ3 H3 X.xe I3 (own fr3) st3 go) fun r y4 h4n ⟨u, hr, h4⟩ => ?_)
    subst hr
    refine wpAny_passesOwn hp (upN h4n h4 fun _ y5 h5n ⟨x, H5, I5, r5, z5, st5, fr5⟩ => ?_)
    have I5' := I5.pinned (own fr5) (T.obj _ _ st5)
    refine wpAny_passesOwn hp (upN h5n (hg.run _ y5 σ3 H5 x u _ I5' r5 (turn x H5 z5)) fun _ y6 h6n ⟨σ6, H6, I6, q6⟩ => ?_)
    refine wpAny_passesOwn hp (upN h6n (hb _ y6 σ6 H6 _ h6n I6 q6) fun f y7 h7n q7 => ?_)
    have again : ∀ {σ7 : L2.St} {H7 : Hp}, Inv X (pz ++ pinsAt fp y5.heap) σ7 H7 y7 → N σ7 H7 → ∃ m, m < k ∧ n ≤ y7.toks ∧ ∃ i σ' H', Inv X pz σ' H' y7 ∧ tn i y7.heap ∧ (∀ o ∈ fp, H' o = none) ∧ W i m σ' H' := fun {σ7 H7} I7 n7 => by
      obtain ⟨m', hm, w7⟩ := hN σ7 H7 n7
      refine ⟨m', hm, h7n, i + 1, σ7, H7, I7.unpinned, T.keep _ _ _ st5 fun o ho u' e => (I7.pin (o, u') (List.mem_append_right _ (List.mem_append_right _ (mem_pinsAt ho e)))).1, fun o ho => ?_, w7⟩
      obtain ⟨u', e, _⟩ := T.obj _ _ st5 o ho
      exact (I7.pin (o, u') (List.mem_append_right _ (List.mem_append_right _ (mem_pinsAt ho e)))).2.1
    match f, q7 with
    | .next, ⟨σ7, H7, I7, n7⟩ => exact again I7 n7
    | .cont, ⟨σ7, H7, I7, n7⟩ => exact again I7 n7
    | .brk, ⟨σ7, H7, I7, q7⟩ => exact ⟨σ7, H7, I7.unpinned, q7⟩
    | .ret v, ⟨x7, σ7, H7, I7, r7, q7⟩ => exact ⟨x7, σ7, H7, I7.unpinned, r7, q7⟩
/-! ### text.replace(A, B + C) of the module's texts -/
def tRp (to : TE) (y w : Str) : TE := fun σ H Q => to σ H fun v H1 => ∃ x, v = .str x ∧ x.length + (x.length + 1) * w.length ≤ 16777216 ∧ Q (.str (Txt.replace x y w)) H1
theorem ne_rep {o : Expr} {to : TE} {A B C : Str} {y b c : Str} {u ub uc : Tok} {pa pb pc pd apos pos : Pos} (ho : NE n X o to) (ga : Gl X A) (gb : Gl X B) (gc : Gl X C) (ha : X.mg A = some (.str y u)) (hb : X.mg B = some (.str b ub)) (hc : X.mg C = some (.str c uc)) (hu0 : u ≠ 0) (hun : u < n) (hb0 : (b.length == 0) = false) (hc0 : (c.length == 0) = false) (hsz : b.length + c.length ≤ sizeLine)
    (hne : (y == b ++ c) = false) (da : (A == ("__debug__" : Str)) = false := by decide) (db : (B == ("__debug__" : Str)) = false := by decide) (dc : (C == ("__debug__" : Str)) = false := by decide)
    (hst : starEach [.Name A pa, .BinOp (.Name B pb) .Add (.Name C pc) pd] X.env = [(false, eval (.Name A pa) X.env), (false, eval (.BinOp (.Name B pb) .Add (.Name C pc) pd) X.env)] := by rfl)
    (hbase : attributeBase o "replace" X.env (eval o X.env) = eval o X.env := by rfl) (hline : (apos.endLine == pos.line) = true := by rfl) :
    NE n X (.Call (.Attribute o "replace" apos) [.Name A pa, .BinOp (.Name B pb) .Add (.Name C pc) pd] [] pos) (tRp to y (b ++ c)) := fun pz z σ H Q hn I q => by
  refine PySem.Call_method2 hbase hst hline (upN hn (ho pz z σ H _ hn I q) fun v s hs ⟨x, H1, I1, r1, x', ex, hx, q1⟩ => ?_)
  subst ex
  obtain ⟨tx, rfl⟩ := _root_.id r1
  refine ⟨"str", _, PySem.F.plainAttrs_str, PySem.F.slot_str_replace, PySem.F.type_str_replace, typeIs_str _ _ _, (fun _ e => nomatch e), Calls.callWith_builtin rfl (Calls.evalArgs_plain (Calls.spliced_cons ?_))⟩
  refine ld_glob I1 ga ha (Calls.spliced_cons (wpAny_BinOp (ld_glob I1 gb hb (ld_glob I1 gc hc (PySem.P.add_str ?_) dc) db))) da
  rw [hb0, hc0]
  refine ⟨by rw [len_tl, tl_append, List.length_append, ← len_tl, ← len_tl]; exact hsz, Calls.spliced_nil ?_⟩
  have h1 : u < s.toks := Nat.lt_of_lt_of_le hun hs
  refine PySem.SC.replace hu0 (Nat.ne_of_gt (Nat.lt_of_le_of_lt (Nat.zero_le u) h1)) (Nat.ne_of_lt h1) hne hx fun t' k => ⟨.str (Txt.replace x' y (b ++ c)), H1, I1.tok k, ⟨t', rfl⟩, q1⟩
end
end K87
namespace K87
open PySem L2 TL SX PySem.Spec PyProof.Rows
/-! ## 17. The program's text -/
/-- the tokens of the two signs -/
structure Two (n : Nat) (mg : Str → Option Value) : Prop where
  q : ∃ u, mg "QUOTE" = some (.str "\"" u) ∧ u ≠ 0 ∧ u < n
  s : ∃ u, mg "STROKE" = some (.str "\\" u) ∧ u ≠ 0 ∧ u < n
theorem repl_one {a : Nat} {l : List Nat} : ∀ r : List Nat, StrLaws.replL [a] l r = r.flatMap fun c => if c = a then l else [c]
  | [] => by rw [StrLaws.replL_nil]; rfl
  | c :: r => by
    by_cases h : c = a
    · rw [StrLaws.replL_hit (by simp) (by simp [h]), List.flatMap_cons, if_pos h]
      show l ++ StrLaws.replL [a] l r = _
      rw [repl_one r]
    · rw [StrLaws.replL_miss (by simpa using h), List.flatMap_cons, if_neg h, repl_one r]
      rfl
theorem esc_two (l : List Nat) : (l.flatMap fun c => if c = 92 then [92, 92] else [c]).flatMap (fun c => if c = 34 then [92, 34] else [c]) = escL l := by
  rw [List.flatMap_assoc]
  unfold escL
  congr 1
  funext c
  unfold escC
  by_cases h : c = 92
  · subst h; rfl
  · rw [if_neg h]
    by_cases k : c = 34
    · subst k; rfl
    · rw [if_neg (by simp [h, k])]
      show (if c = 34 then [92, 34] else [c]) ++ [] = [c]
      rw [if_neg k]; rfl
theorem rep_esc (x : Str) : tl (Txt.replace (Txt.replace x ("\\" : Str) (("\\" : Str) ++ ("\\" : Str))) ("\"" : Str) (("\\" : Str) ++ ("\"" : Str))) = escL (tl x) := by
  have e1 : ("\"" : Str).cps.toList = [34] := by decide +kernel
  have e2 : ("\\" : Str).cps.toList = [92] := by decide +kernel
  have e3 : (("\\" : Str) ++ ("\\" : Str)).cps.toList = [92, 92] := by decide +kernel
  have e4 : (("\\" : Str) ++ ("\"" : Str)).cps.toList = [92, 34] := by decide +kernel
  show (Txt.replace _ _ _).cps.toList = _
  rw [StrLaws.replace_list (by decide +kernel), StrLaws.replace_list (by decide +kernel), e1, e2, e3, e4, repl_one, repl_one]
  exact esc_two _
theorem flat_two (f : Nat → List Nat) (h : ∀ c, (f c).length ≤ 2) : ∀ l : List Nat, (l.flatMap f).length ≤ 2 * l.length
  | [] => by simp
  | c :: r => by
    rw [List.flatMap_cons, List.length_append, List.length_cons]
    have := h c
    have := flat_two f h r
    omega
theorem rep_len (x : Str) : (Txt.replace x ("\\" : Str) (("\\" : Str) ++ ("\\" : Str))).length ≤ 2 * x.length := by
  have e2 : ("\\" : Str).cps.toList = [92] := by decide +kernel
  have e3 : (("\\" : Str) ++ ("\\" : Str)).cps.toList = [92, 92] := by decide +kernel
  rw [len_tl, len_tl x]
  show (Txt.replace _ _ _).cps.toList.length ≤ _
  rw [StrLaws.replace_list (by decide +kernel), e2, e3, repl_one]
  exact flat_two _ (fun c => by split <;> simp) _
section
variable {P : Program} {w : World} {K : PySem.W.Frag} {mg : Str → Option Value} {base : Heap} {n : Nat}
def spStrT : Sp := fun vs H Q _ => ∃ x : Str, vs = [.str x] ∧ x.length ≤ 18 ∧ ∀ t : Str, tl t = [34] ++ (escL (tl x) ++ [34]) → Q (.str t) H
theorem ok_string_text (T : Txt K mg) (W : Two n mg) : OkN n P w K mg base 1 "string_text" p_string_text spStrT := by
  obtain ⟨uq, mq, q0, qn⟩ := W.q
  obtain ⟨us, ms, s0, sn⟩ := W.s
  refine T.D_string_text.okN sc_string_text (fun vs H Q E h => ?_) (fun _ _ _ _ _ _ us hl => match us, hl with | [_], _ => rfl) (fun f cdv A outer s H vs Q E hr hgd h => ?_)
  · obtain ⟨x, rfl, _⟩ := h
    rfl
  obtain ⟨x, rfl, hx, q⟩ := h
  refine ⟨_, nb_one (ns_ret (ne_op op_add_str (ne_op op_add_str (ne_of (pe_gS T.c_QUOTE)) (ne_rep (ne_rep (ne_of (pv 0)) (by rfl) (by rfl) (by rfl) ms ms ms s0 sn (by decide +kernel) (by decide +kernel) (by decide +kernel) (by decide +kernel)) (by rfl) (by rfl) (by rfl) mq ms mq q0 qn (by decide +kernel) (by decide +kernel) (by decide +kernel) (by decide +kernel))) (ne_of (pe_gS T.c_QUOTE)))), ?_⟩
  have l1 := rep_len x
  have l2 : (escL (tl x)).length ≤ 2 * (tl x).length := by unfold escL; exact flat_two _ (fun c => by unfold escC; split <;> simp) _
  rw [← len_tl] at l2
  have e2 : (("\\" : Str) ++ ("\\" : Str)).length = 2 := by decide +kernel
  have e3 : (("\\" : Str) ++ ("\"" : Str)).length = 2 := by decide +kernel
  have hr := rep_esc x
  obtain ⟨v1, v2, v3⟩ := wrap2 (x := [34]) (y := [34]) tl_q tl_q hr (by simp only [List.length_append, List.length_cons, List.length_nil]; omega)
  exact ⟨_, rfl, x, rfl, by rw [e2]; omega, _, rfl, by rw [e3]; omega, _, _, rfl, rfl, v1, _, _, rfl, rfl, v2, q _ v3⟩
end
end K87
namespace K87
open PySem L2 TL SX PySem.Spec PyProof.Rows
/-! ## 18. document_text, show_document -/
theorem Df.noN {n : Nat} {P : Program} {w : World} {K : PySem.W.Frag} {mg : Str → Option Value} {base : Heap} {x : Str} {st : Stmt} {ps : List Str} {k : Nat} {sp : Sp} (D : Df K mg x st) (no : ∀ vs H Q E, ¬ sp vs H Q E)
    (hb : ∀ (kV doc pm : Value) (an : Option Addr) (cdv ct : Value) (us : List Value), us.length = ps.length → bindArgs (PySem.W.fnOf x x (defArgs st) (defBody st) (defScope st) .none kV doc pm an cdv ct) ⟨us, []⟩ = pure (ps.zip us)) : OkN n P w K mg base k x ps sp := by
  obtain ⟨fd, F⟩ := D.ex
  exact ⟨⟨fd, fun vs H Q E h => (no vs H Q E h).elim, F.bindsN hb, fun _ _ _ _ _ _ vs Q E _ _ _ _ _ _ h => (no vs _ Q E h).elim⟩, F.kp, D.m⟩
theorem OkN.mono {n : Nat} {P : Program} {w : World} {K : PySem.W.Frag} {mg : Str → Option Value} {base : Heap} {j k : Nat} {x : Str} {ps : List Str} {sp : Sp} (O : OkN n P w K mg base j x ps sp) (h : j ≤ k) : OkN n P w K mg base k x ps sp := by
  obtain ⟨fd, a, b, c⟩ := O.ex
  exact ⟨⟨fd, a, b, fun A outer z H args us vs Q E hn hg hr => c A outer z H args us vs Q E hn hg (hr.mono h)⟩, O.kp, O.m⟩
section
variable {P : Program} {w : World} {K : PySem.W.Frag} {mg : Str → Option Value} {base : Heap} {n₀ : Nat}
theorem ok_document_text (T : Txt K mg) (W : Two n₀ mg) : ∀ m, OkN n₀ P w K mg base (m + 1) "document_text" p_document_text (spWrit m)
  | 0 => T.D_document_text.noN (fun vs H Q E ⟨_, _, _, _, _, e, _⟩ => by omega) (fun _ _ _ _ _ _ us hl => match us, hl with | [_], _ => rfl)
  | m + 1 => by
    have G_document_text : OkN n₀ P w K mg base (m + 1) "document_text" p_document_text (spWrit m) := ok_document_text T W m
    have G_string_text := (ok_string_text (P := P) (w := w) (base := base) T W).mono (show 1 ≤ m + 1 by omega)
    refine T.D_document_text.okN sc_document_text (fun vs H Q E h => ?_) (fun _ _ _ _ _ _ us hl => match us, hl with | [_], _ => rfl) (fun f cdv A outer s H vs Q E hr hgd h => ?_)
    · obtain ⟨v, n, d, ok, rfl, _⟩ := h
      rfl
    obtain ⟨v, n, d, ok, rfl, em, hn, hw, hd, z⟩ := h
    obtain rfl : m = n := by omega
    have hu := hu_of hr
    refine ⟨_, (nb_cons (ns_of (ps_if (pt_cmpR op_isN (pv 0) pe_non (nomark _)) (pss_one (ps_ret (pe_gS T.c_MINUS))) pss_nil))
  (nb_cons (ns_of (ps_if (pt_val (pe_callB call_isi (by rfl) T.b_isinstance (by decide +kernel) (pa_cons (pv 0) (pa_cons (pe_bltn (v := .ty "bool") (u := .type "bool") (by rfl) T.b_bool (by decide +kernel) rfl) pa_nil)))) (pss_one (ps_ret (pe_ifExp (pt_truth (pv 0) (by intro _; rfl)) (pe_gS T.c_YES) (pe_gS T.c_NO)))) pss_nil))
  (nb_cons (ns_if (nt_of (pt_val (pe_callB call_isi (by rfl) T.b_isinstance (by decide +kernel) (pa_cons (pv 0) (pa_cons (pe_bltn (v := .ty "str") (u := .type "str") (by rfl) T.b_str (by decide +kernel) rfl) pa_nil))))) (nb_one (ns_ret (ne_call G_string_text (hr.mono (by omega)) hgd (pa_cons (pv 0) pa_nil)))) (nb_of pss_nil))
  (nb_cons (ns_if (nt_of (pt_val (pe_callB call_isi (by rfl) T.b_isinstance (by decide +kernel) (pa_cons (pv 0) (pa_cons (pe_bltn (v := .ty "list") (u := .type "list") (by rfl) T.b_list (by decide +kernel) rfl) pa_nil))))) (nb_one (ns_ret (ne_op op_add_str (ne_op op_add_str (ne_of pe_str) (ne_join (pe_gS T.c_PARTED) (ne_lc (own := [("part", 3)]) (g := (gName 3)) rfl sc_document_text.nd (pi_list (pv 0)) (blkOk_by (N := N_document_text) (sc := defScope s_document_text) (by decide +kernel)) (fun _ _ _ _ _ => (pg_name (i := 3) sc_document_text.nd rfl (Or.inl rfl))) (fun _ _ _ _ _ => (ne_call G_document_text (hr.mono (by omega)) hgd (pa_cons (pv 3) pa_nil)))))) (ne_of pe_str)))) (nb_of pss_nil))
  (nb_cons (ns_if (nt_of (pt_val (pe_callB call_isi (by rfl) T.b_isinstance (by decide +kernel) (pa_cons (pv 0) (pa_cons (pe_bltn (v := .ty "dict") (u := .type "dict") (by rfl) T.b_dict (by decide +kernel) rfl) pa_nil))))) (nb_cons (ns_setLc (i := 1) (own := [("field", 2)]) (g := (gName 2)) rfl sc_document_text.nd rfl rfl (sw_true rfl rfl rfl (by decide +kernel)) (pi_list (pe_callB (call_sortedD rfl) (by rfl) T.b_sorted (by decide +kernel) (pa_cons (pv 0) pa_nil))) (blkOk_by (N := N_document_text) (sc := defScope s_document_text) (by decide +kernel)) (fun _ _ _ _ _ => (pg_name (i := 2) sc_document_text.nd rfl (Or.inl rfl))) (fun _ _ _ _ _ => (ne_op op_add_str (ne_of (pe_op op_add_str (pv 2) (pe_gS T.c_NAMED))) (ne_call G_document_text (hr.mono (by omega)) hgd (pa_cons (pe_dget hu (pv 0) (pv 2) (fun _ _ => rfl)) pa_nil)))))
    (nb_of (pss_one (ps_ret (pe_op op_add_str (pe_op op_add_str pe_str (pe_join (pe_gS T.c_PARTED) (pv 1))) pe_str))))) (nb_of pss_nil))
  (nb_of (pss_one (ps_ret (pe_callTy call_str_int (by rfl) T.b_str (by decide +kernel) (pa_cons (pv 0) pa_nil)))))))))), ?_⟩
    have hB : bnd m ≤ 14490 := by
      have : m = 0 ∨ m = 1 ∨ m = 2 ∨ m = 3 ∨ m = 4 := by omega
      rcases this with rfl | rfl | rfl | rfl | rfl <;> decide
    have hL := wr_len m d hw
    have hL' := hL
    cases d with
    | non =>
      obtain rfl : v = V.non := hd
      refine ⟨_, rfl, rfl, _, rfl, ifT rfl ?_⟩
      exact z _ H (.refl H) (by decide +kernel)
    | bl b =>
      obtain rfl : v = V.bl b := hd
      have hd : DocAt H ok (V.bl b) (.bl b) := rfl
      refine ⟨_, rfl, rfl, _, rfl, ifF (decide_eq_false (by intro e; cases e)) ?_⟩
      refine ⟨_, rfl, _, _, _, _, true, rfl, .ty _, docTy (d := .bl b) (hd), kit_ty (by simp only [tyName]; decide +kernel), _, rfl, ?_⟩
      refine ifT rfl ?_
      refine ⟨_, rfl, b, rfl, ?_⟩
      cases b with
      | true => exact ifT rfl (z _ H (.refl H) (by decide +kernel))
      | false => exact ifF rfl (z _ H (.refl H) (by decide +kernel))
    | int i =>
      obtain rfl : v = V.int i := hd
      have hd : DocAt H ok (V.int i) (.int i) := rfl
      refine ⟨_, rfl, rfl, _, rfl, ifF (decide_eq_false (by intro e; cases e)) ?_⟩
      refine ⟨_, rfl, _, _, _, _, false, rfl, .ty _, docTy (d := .int i) (hd), kit_ty (by simp only [tyName]; decide +kernel), _, rfl, ?_⟩
      refine ifF rfl ?_
      refine ⟨_, rfl, _, _, _, _, false, rfl, .ty _, docTy (d := .int i) (hd), kit_ty (by simp only [tyName]; decide +kernel), _, rfl, ?_⟩
      refine ifF rfl ?_
      refine ⟨_, rfl, _, _, _, _, false, rfl, .ty _, docTy (d := .int i) (hd), kit_ty (by simp only [tyName]; decide +kernel), _, rfl, ?_⟩
      refine ifF rfl ?_
      refine ⟨_, rfl, _, _, _, _, false, rfl, .ty _, docTy (d := .int i) (hd), kit_ty (by simp only [tyName]; decide +kernel), _, rfl, ?_⟩
      refine ifF rfl ?_
      rw [Wf] at hw
      exact ⟨_, rfl, i, rfl, int_log hw, z _ H (.refl H) (by rw [tl_int, wr])⟩
    | str q =>
      obtain rfl : v = V.str q := hd
      have hd : DocAt H ok (V.str q) (.str q) := rfl
      refine ⟨_, rfl, rfl, _, rfl, ifF (decide_eq_false (by intro e; cases e)) ?_⟩
      refine ⟨_, rfl, _, _, _, _, false, rfl, .ty _, docTy (d := .str q) (hd), kit_ty (by simp only [tyName]; decide +kernel), _, rfl, ?_⟩
      refine ifF rfl ?_
      refine ⟨_, rfl, _, _, _, _, true, rfl, .ty _, docTy (d := .str q) (hd), kit_ty (by simp only [tyName]; decide +kernel), _, rfl, ?_⟩
      refine ifT rfl ?_
      rw [Wf] at hw
      exact ⟨_, rfl, q, rfl, hw.1, fun t ht => z t H (.refl H) (by rw [ht, wr]; rfl)⟩
    | list ds =>
      obtain ⟨a, vs, rfl, oa, ha, hs⟩ := id hd
      rw [Wf] at hw
      have l1 := docs_len hs
      refine ⟨_, rfl, rfl, _, rfl, ifF (decide_eq_false (by intro e; cases e)) ?_⟩
      refine ⟨_, rfl, _, _, _, _, false, rfl, .ty _, docTy (d := .list ds) (hd), kit_ty (by simp only [tyName]; decide +kernel), _, rfl, ?_⟩
      refine ifF rfl ?_
      refine ⟨_, rfl, _, _, _, _, false, rfl, .ty _, docTy (d := .list ds) (hd), kit_ty (by simp only [tyName]; decide +kernel), _, rfl, ?_⟩
      refine ifF rfl ?_
      refine ⟨_, rfl, _, _, _, _, true, rfl, .ty _, docTy (d := .list ds) (hd), kit_ty (by simp only [tyName]; decide +kernel), _, rfl, ?_⟩
      refine ifT rfl ?_
      refine ⟨⟨_, rfl⟩, _, rfl, a, rfl, ⟨_, SqL.of ha⟩, fun D hD => ?_⟩
      refine lc_grow walk_list (fun _ H' => Same H H') (fun i y _ => ∃ s : Str, y = .str s ∧ (wrs ds)[i]? = some (tl s)) (by rw [l1]; omega) (fun i H' ys k => same_mut k hD _) (fun _ _ _ _ h => h) (.refl H) (fun _ _ _ k => SqL.of (k _ _ ha)) ?_ ?_
      · rintro i x H1 H2 hi s1 ⟨zs, hD1⟩ ⟨rfl, hx⟩ C Z k
        refine ⟨rfl, ?_⟩
        dsimp only [tYes]
        try rw [if_pos rfl]
        obtain ⟨d1, k1, g1⟩ := docs_at hs hx
        have hw1 := hw.1
        refine ⟨_, rfl, x, m - 1, d1, _, rfl, by omega, by omega, wfs_iff.mp hw.2.2 _ (List.mem_of_getElem? k1), doc_same s1 g1, fun t H3 s3 g3 => ?_⟩
        exact k _ _ (by rw [s3 _ _ hD1, hD1]) (s1.trans s3) ⟨t, rfl, by rw [wrs_map, List.getElem?_map, k1, g3]; rfl⟩ (fun _ _ h => h)
      · intro H1 ys s1 hD1 hl hy
        obtain ⟨zs, rfl, hz⟩ := strs_ix (parts := wrs ds) (by rw [hl, l1, wrs_map, List.length_map]) hy
        have hwr : wr (.list ds) = 91 :: (joinL [44, 32] (wrs ds) ++ [93]) := by rw [wr]
        have hJ : (joinL (tl (", " : Str)) (zs.map tl)).length ≤ 14490 := by
          rw [tl_sep, hz]
          rw [hwr, List.length_cons, List.length_append] at hL
          omega
        obtain ⟨w1, w2, w3⟩ := wrap_ok hJ (by decide +kernel) (by decide)
        rw [tl_sep, hz] at w3
        obtain ⟨v1, v2, v3⟩ := wrap2 (x := [91]) (y := [93]) tl_lb tl_rb w3 (by have : [91] ++ (joinL [44, 32] (wrs ds) ++ [93]) = wr (.list ds) := hwr.symm; rw [this]; omega)
        exact ⟨_, D, zs, rfl, rfl, .inl (SqL.of hD1), w1, _, _, rfl, rfl, v1, _, _, rfl, rfl, v2, z _ _ s1 (v3.trans hwr.symm)⟩
    | dict fs =>
      obtain ⟨a, rs, rfl, oa, ha, hs⟩ := id hd
      rw [Wf] at hw
      have l1 := flds_len hs
      refine ⟨_, rfl, rfl, _, rfl, ifF (decide_eq_false (by intro e; cases e)) ?_⟩
      refine ⟨_, rfl, _, _, _, _, false, rfl, .ty _, docTy (d := .dict fs) (hd), kit_ty (by simp only [tyName]; decide +kernel), _, rfl, ?_⟩
      refine ifF rfl ?_
      refine ⟨_, rfl, _, _, _, _, false, rfl, .ty _, docTy (d := .dict fs) (hd), kit_ty (by simp only [tyName]; decide +kernel), _, rfl, ?_⟩
      refine ifF rfl ?_
      refine ⟨_, rfl, _, _, _, _, false, rfl, .ty _, docTy (d := .dict fs) (hd), kit_ty (by simp only [tyName]; decide +kernel), _, rfl, ?_⟩
      refine ifF rfl ?_
      refine ⟨_, rfl, _, _, _, _, true, rfl, .ty _, docTy (d := .dict fs) (hd), kit_ty (by simp only [tyName]; decide +kernel), _, rfl, ?_⟩
      refine ifT rfl ?_
      refine ⟨_, rfl, a, rs, fs.map (·.1), rfl, .inl ha, flds_keys hs, by rw [List.length_map]; omega, fun ks L hpm hst hL => ?_⟩
      obtain rfl : ks = (sortF fs).map (·.1) := sortF_keys hw.2.2.1 hpm hst
      have sL := same_new hL (.lst (((sortF fs).map (·.1)).map V.str))
      have eL : upd H L (.lst (((sortF fs).map (·.1)).map V.str)) L = some (.lst (((sortF fs).map (·.1)).map V.str)) := upd_same
      have hlen : (sortF fs).length = fs.length := (sortF_perm fs).length_eq
      generalize upd H L _ = H0 at *
      refine ⟨L, rfl, ⟨_, SqL.of eL⟩, fun D hD => ?_⟩
      refine lc_grow walk_list (fun _ H' => Same H0 H') (fun i y _ => ∃ s : Str, y = .str s ∧ ((sortF fs).map rowD)[i]? = some (tl s)) (by rw [List.length_map, List.length_map, hlen]; omega) (fun i H' ys k => same_mut k hD _) (fun _ _ _ _ h => h) (.refl H0) (fun _ _ _ k => SqL.of (k _ _ eL)) ?_ ?_
      · rintro i x H1 H2 hi s1 ⟨zs, hD1⟩ ⟨rfl, hx⟩ C Z k
        rw [List.length_map, List.length_map] at hi
        have hpi : (sortF fs)[i]? = some (sortF fs)[i] := List.getElem?_eq_getElem hi
        rw [List.getElem?_map, List.getElem?_map, hpi] at hx
        cases hx
        generalize (sortF fs)[i] = p at *
        have hm := (sortF_perm fs).mem_iff.mp (List.mem_of_getElem? hpi)
        obtain ⟨f', d1⟩ := p
        refine ⟨rfl, ?_⟩
        dsimp only [tYes]
        try rw [if_pos rfl]
        have sX := sL.trans s1
        obtain ⟨u1, k3, g2⟩ := flds_look hs (look_mem hw.2.2.1 hm)
        have gk : DGet H2 a (.str f') (some u1) := by
          rw [← k3]
          exact DGet.k (k := Sum.inr f') (sX _ _ ha)
        have hw1 := hw.1
        have hnm := (wff_iff.mp hw.2.2.2 _ hm).1
        have hf8 : f'.length ≤ 8 := hnm.1.2
        have hc2 : (": " : Str).length = 2 := by decide +kernel
        have h100 : (100000 : Nat) ≤ sizeLine := by decide
        have wd : Wf (m - 1) d1 := (wff_iff.mp hw.2.2.2 _ hm).2
        refine ⟨_, rfl, _, _, rfl, rfl, by omega, _, rfl, _, rfl, a, u1, rfl, gk, u1, m - 1, d1, _, rfl, by omega, by omega, wd, doc_same sX g2, fun t H3 s3 g3 => ?_⟩
        have hl2 : t.length ≤ 14490 := by
          rw [len_tl, g3]
          have := wr_len _ _ wd
          have : bnd (m - 1) ≤ bnd m := by
            obtain ⟨j, rfl⟩ : ∃ j, m = j + 1 := ⟨m - 1, by omega⟩
            show bnd j ≤ 4 * (bnd j + 12) + 2
            omega
          omega
        have e2 : (f' ++ (": " : Str)).length = f'.length + 2 := by rw [len_tl, tl_append, List.length_append, ← len_tl, ← len_tl, hc2]
        refine ⟨_, _, rfl, rfl, by rw [e2]; omega, ?_⟩
        refine k _ _ (by rw [s3 _ _ hD1, hD1]) (s1.trans s3) ⟨_, rfl, ?_⟩ (fun _ _ h => h)
        rw [List.getElem?_map, hpi, tl_append, tl_append, tl_col, g3]
        rfl
      · intro H1 ys s1 hD1 hl hy
        rw [List.length_map, List.length_map] at hl
        obtain ⟨zs, rfl, hz⟩ := strs_ix (parts := (sortF fs).map rowD) (by rw [hl, List.length_map]) hy
        have hwr := wr_dict fs
        have hJ : (joinL (tl (", " : Str)) (zs.map tl)).length ≤ 14490 := by
          rw [tl_sep, hz]
          rw [hwr, List.length_cons, List.length_append] at hL'
          omega
        obtain ⟨w1, w2, w3⟩ := wrap_ok hJ (by decide +kernel) (by decide)
        rw [tl_sep, hz] at w3
        obtain ⟨v1, v2, v3⟩ := wrap2 (x := [123]) (y := [125]) tl_lc tl_rc w3 (by have : [123] ++ (joinL [44, 32] ((sortF fs).map rowD) ++ [125]) = wr (.dict fs) := hwr.symm; rw [this]; omega)
        exact ⟨⟨_, rfl⟩, _, rfl, _, D, zs, rfl, rfl, .inl (SqL.of hD1), w1, _, _, rfl, rfl, v1, _, _, rfl, rfl, v2, z _ _ (sL.trans s1) (v3.trans hwr.symm)⟩
end
end K87
namespace K87
open PySem L2 TL SX PySem.Spec PyProof.Rows
/-! ## 19. The same document, sorted and turned -/
theorem eqv_srt : ∀ n d, Wf n d → Eqv (srt d) d := by
  refine doc_ind (fun _ => rfl) (fun _ _ => rfl) (fun _ _ _ => rfl) (fun _ _ _ _ => rfl) (fun n ds hl h => ?_) (fun n fs hl hn h => ?_)
  · rw [srt, srts_map]
    refine ⟨ds, rfl, eqvs_of (by rw [List.length_map]) fun i d e hd he => ?_⟩
    rw [List.getElem?_map, he] at hd
    cases hd
    exact (h e (List.mem_of_getElem? he)).2
  · have Pm := sortF_perm (fs.map fun p => (p.1, srt p.2))
    rw [srt, srtf_map]
    refine ⟨fs, rfl, by rw [Pm.length_eq, List.length_map], eqvf_of fun p hp => ?_⟩
    obtain ⟨x, hx, rfl⟩ := List.mem_map.mp (Pm.mem_iff.mp hp)
    exact ⟨x.2, look_mem hn hx, (h x hx).2.2⟩
theorem eqv_ts : ∀ n d, Wf n d → Eqv (trn d) (srt d) := by
  refine doc_ind (fun _ => rfl) (fun _ _ => rfl) (fun _ _ _ => rfl) (fun _ _ _ _ => rfl) (fun n ds hl h => ?_) (fun n fs hl hn h => ?_)
  · rw [srt, srts_map, trn, trns_map]
    refine ⟨_, rfl, eqvs_of (by rw [List.length_map, List.length_map]) fun i d e hd he => ?_⟩
    rw [List.getElem?_map] at hd he
    cases hk : ds[i]? with
    | none => rw [hk] at hd; cases hd
    | some x =>
      rw [hk] at hd he
      cases hd
      cases he
      exact (h x (List.mem_of_getElem? hk)).2
  · have Pm := sortF_perm (fs.map fun p => (p.1, srt p.2))
    rw [srt, srtf_map, trn, trnf_map]
    refine ⟨_, rfl, by rw [Pm.length_eq, List.length_reverse, List.length_map, List.length_map], eqvf_of fun p hp => ?_⟩
    obtain ⟨x, hx, rfl⟩ := List.mem_map.mp (List.mem_reverse.mp hp)
    refine ⟨srt x.2, look_mem ?_ (Pm.mem_iff.mpr (List.mem_map.mpr ⟨x, hx, rfl⟩)), (h x hx).2.2⟩
    rw [(Pm.map (·.1)).nodup_iff, map_fst]
    exact hn
theorem But.drawn {p : Addr} {H H' : Hp} {c c1 m : Nat} (b : But p H H') (h : PotAt H' p c1) (l : c1 ≤ c + m) : Drawn p H c m H' := ⟨b, c1, h, l⟩
section
variable {P : Program} {w : World} {K : PySem.W.Frag} {mg : Str → Option Value} {base : Heap} {n₀ : Nat}
theorem ok_show_document (T : Txt K mg) (W : Two n₀ mg) (m : Nat) : OkN n₀ P w K mg base (m + 3) "show_document" p_show_document (spWrit m) := by
  have G_check_document := ok_check_document (P := P) (w := w) (base := base) T m
  have G_document_text := (ok_document_text (P := P) (w := w) (base := base) T W m).mono (show m + 1 ≤ m + 2 by omega)
  refine T.D_show_document.okN sc_show_document (fun vs H Q E h => ?_) (fun _ _ _ _ _ _ us hl => match us, hl with | [_], _ => rfl) (fun f cdv A outer s H vs Q E hr hgd h => ?_)
  · obtain ⟨v, n, d, ok, rfl, _⟩ := h
    rfl
  obtain ⟨v, n, d, ok, rfl, em, hn, hw, hd, z⟩ := h
  refine ⟨_, nb_cons (ns_of (ps_expr (pe_callO G_check_document (hr.mono (by omega)) (pa_cons (pv 0) pa_nil)))) (nb_one (ns_ret (ne_call G_document_text (hr.mono (by omega)) hgd (pa_cons (pv 0) pa_nil)))), ?_⟩
  refine ⟨_, rfl, v, n, d, ok, rfl, em, hd, hw, fun H1 s1 => ?_⟩
  exact ⟨_, rfl, v, n, d, ok, rfl, em, hn, hw, doc_same s1 hd, fun t H2 s2 ht => z t H2 (s1.trans s2) ht⟩
def spRight : Sp := fun vs H Q _ => ∃ (p : Addr) (c : Nat), vs = [.ref p] ∧ c + cost 3 ≤ 1000000 ∧ PotAt H p c ∧ ∀ H', Drawn p H c (cost 3) H' → Q (.bl true) H'
theorem ok_right (T : Txt K mg) (W : Two n₀ mg) : OkN n₀ P w K mg base 14 "_law_right" p__law_right spRight := by
  have G__law_thing := (ok_thing (P := P) (w := w) (base := base) T 4).mono (show 8 ≤ 13 by omega)
  have G__law_writ := (ok_writ (P := P) (w := w) (base := base) T 4).mono (show 5 ≤ 13 by omega)
  have G__law_turned := (ok_turned (P := P) (w := w) (base := base) T 4).mono (show 5 ≤ 13 by omega)
  have G_show_document := (ok_show_document (P := P) (w := w) (base := base) T W 4).mono (show 7 ≤ 13 by omega)
  have G_read_document := (ok_read_document (P := P) (w := w) (base := base) T 4).mono (show 13 ≤ 13 by omega)
  have G_same := (ok_same (P := P) (w := w) (base := base) T 4).mono (show 7 ≤ 13 by omega)
  refine T.D__law_right.okN sc__law_right (fun vs H Q E h => ?_) (fun _ _ _ _ _ _ us hl => match us, hl with | [_], _ => rfl) (fun f cdv A outer s H vs Q E hr hgd h => ?_)
  · obtain ⟨p, c, rfl, _⟩ := h
    rfl
  obtain ⟨p, c, rfl, hc, hp, z⟩ := h
  have hu := hu_of hr
  have hu20 : (A.deeper (envOfC "_law_right" (defScope s__law_right) s.heap.objs.size f cdv)).units + 20 < cLine := by have := hr.un; omega
  have hg := hgd
  refine ⟨_, (nb_cons (ns_of (ps_set (i := 1) sc__law_right.nd rfl (Or.inl rfl) (pe_callO G__law_thing (hr.mono (by omega)) (pa_cons (pv 0) (pa_cons pe_int pa_nil))))) (nb_cons (ns_of (ps_par (i := 2) (j := 3) (by rfl) sc__law_right.nd rfl rfl (by decide) rfl rfl (pa_cons (pe_callO G__law_writ (hr.mono (by omega)) (pa_cons (pv 1) pa_nil)) (pa_cons (pe_callB (cr_reprDoc hg hu20) (by rfl) T.b_repr (by decide +kernel) (pa_cons (pv 1) pa_nil)) pa_nil)) (by rfl)))
    (nb_cons (ns_if (NW.nt (nw_or (nt_cmp op_ne (ne_call G_show_document (hr.mono (by omega)) hgd (pa_cons (pv 1) pa_nil)) (ne_of (pv 2)) (nomark _)) (nw_or1 (nt_cmp op_ne (ne_call G_show_document (hr.mono (by omega)) hgd (pa_cons (pe_callO G__law_turned (hr.mono (by omega)) (pa_cons (pv 1) pa_nil)) pa_nil)) (ne_of (pv 2)) (nomark _))))) (nb_of (pss_one (ps_ret pe_bl))) (nb_of pss_nil))
    (nb_cons (ns_of (ps_set (i := 4) sc__law_right.nd rfl (Or.inl rfl) (pe_callO G_read_document (hr.mono (by omega)) (pa_cons (pv 2) pa_nil)))) (nb_cons (ns_of (ps_if (PW.pt (pw_or (pt_cmpR op_ne (pe_callO G__law_writ (hr.mono (by omega)) (pa_cons (pv 4) pa_nil)) (pv 2) (nomark _)) (pw_or (pt_not (pt_val (pe_callO G_same (hr.mono (by omega)) (pa_cons (pv 4) (pa_cons (pv 1) pa_nil))))) (pw_or1 (pt_not (pt_val (pe_callO G_same (hr.mono (by omega)) (pa_cons (pe_callO G__law_turned (hr.mono (by omega)) (pa_cons (pv 1) pa_nil)) (pa_cons (pv 4) pa_nil)))))))))
  (pss_one (ps_ret pe_bl))
  pss_nil)) (nb_cons (ns_of (ps_if (pt_val (pe_callB call_isi (by rfl) T.b_isinstance (by decide +kernel) (pa_cons (pv 4) (pa_cons (pe_bltn (v := .ty "list") (u := .type "list") (by rfl) T.b_list (by decide +kernel) rfl) pa_nil))))
  (pss_one (ps_expr (pe_bm PySem.F.plainAttrs_list PySem.F.slot_list_append PySem.F.type_list_append mt_append (pv 4) (pa_cons pe_non pa_nil))))
  pss_nil)) (nb_cons (ns_of (ps_if (pt_val (pe_callB call_isi (by rfl) T.b_isinstance (by decide +kernel) (pa_cons (pv 4) (pa_cons (pe_bltn (v := .ty "dict") (u := .type "dict") (by rfl) T.b_dict (by decide +kernel) rfl) pa_nil))))
  (pss_one (ps_asg pe_non (pg_sub (pv 4) pe_str (set_dict hu))))
  pss_nil)) (nb_one (ns_of (ps_ret (pe_and (pe_cmpR op_eq (pe_callO G__law_writ (hr.mono (by omega)) (pa_cons (pe_callO G_read_document (hr.mono (by omega)) (pa_cons (pv 2) pa_nil)) pa_nil)) (pv 2) (nomark _)) (pe_one (pe_cmpR op_eq (pe_callB (cr_reprDoc hg hu20) (by rfl) T.b_repr (by decide +kernel) (pa_cons (pv 1) pa_nil)) (pv 3) (nomark _)))))))))))))), ?_⟩
  refine ⟨_, rfl, p, c, 3, rfl, rfl, by omega, by omega, hp, fun v d H1 wd hd1 dr => ?_⟩
  obtain ⟨b1, c1, p1, hc1⟩ := dr
  have dis1 : DocAt H1 (fun b => H1 b ≠ none) v d := doc_fr2 d (fun a o q e => ⟨e, by rw [e]; exact fun k => by cases k⟩) hd1
  refine ⟨_, rfl, v, 3, d, _, rfl, rfl, by decide, wd, dis1, fun t1 H2 s2 ht1 => ?_⟩
  refine ⟨_, rfl, v, 3, d, _, rfl, doc_same s2 dis1, wd, by decide, _, _, rfl, ?_⟩
  refine ⟨_, rfl, v, 3, d, _, rfl, rfl, by decide, wd, doc_same s2 dis1, fun t3 H3 s3 ht3 => ?_⟩
  obtain rfl : t3 = t1 := ext_tl (ht3.trans ht1.symm)
  refine ⟨_, rfl, rfl, _, rfl, ifF (by rw [decide_eq_true rfl]; rfl) ?_⟩
  refine ⟨_, rfl, v, 3, d, _, rfl, rfl, by decide, wd, doc_same (s2.trans s3) dis1, fun v4 H4 s4 hd4 => ?_⟩
  refine ⟨v4, 3, trn d, _, rfl, rfl, by decide, wf_trn 3 d wd, hd4, fun t5 H5 s5 ht5 => ?_⟩
  obtain rfl : t5 = t3 := ext_tl (ht5.trans ((wr_trn 3 d wd).trans ht1.symm))
  refine ⟨_, rfl, rfl, _, rfl, ifF (by rw [decide_eq_true rfl]; rfl) ?_⟩
  have sA : Same H1 H5 := s2.trans (s3.trans (s4.trans s5))
  have hlen : Short t5 := by
    unfold Short
    rw [len_tl, ht1]
    exact Nat.le_trans (wr_len 3 d wd) (by decide)
  refine ⟨_, rfl, t5, 3, d, rfl, rfl, hlen, wd, ht1, fun v6 H6 s6 hd6 => ?_⟩
  have wds := wf_srt 3 d wd
  -- the second test
  refine ⟨_, rfl, v6, 3, srt d, _, rfl, rfl, by decide, wds, hd6, fun t7 H7 s7 ht7 => ?_⟩
  obtain rfl : t7 = t5 := ext_tl (ht7.trans ((wr_srt 3 d wd).trans ht1.symm))
  refine ⟨_, rfl, rfl, _, rfl, ifF (by rw [decide_eq_true rfl]; rfl) ?_⟩
  have hdB : DocAt H7 (fun b => H1 b ≠ none) v d := doc_same (sA.trans (s6.trans s7)) dis1
  refine ⟨_, rfl, _, rfl, v6, v, 3, srt d, d, (fun b => H5 b = none), (fun b => H1 b ≠ none), rfl, rfl, doc_same s7 hd6, hdB, (fun b q k => k (sA.free q)), wds, wd, eqv_srt 3 d wd, fun H8 s8 => ?_⟩
  refine ⟨true, rfl, ifF rfl ?_⟩
  refine ⟨_, rfl, v, 3, d, _, rfl, rfl, by decide, wd, doc_same s8 hdB, fun v9 H9 s9 hd9 => ?_⟩
  have sB : Same H5 H8 := s6.trans (s7.trans s8)
  have hd6x : DocAt H6 (fun b => H5 b = none ∧ H6 b ≠ none) v6 (srt d) := doc_fr2 _ (fun a o q e => ⟨e, q, by rw [e]; exact fun k => by cases k⟩) hd6
  refine ⟨_, rfl, v9, v6, 3, trn d, srt d, (fun b => H8 b = none), (fun b => H5 b = none ∧ H6 b ≠ none), rfl, rfl, hd9, doc_same (s7.trans (s8.trans s9)) hd6x, (fun b q k => k.2 ((s7.trans s8).free q)), wf_trn 3 d wd, wds, eqv_ts 3 d wd, fun H10 s10 => ?_⟩
  refine ⟨true, rfl, ifF rfl ?_⟩
  have hdC : DocAt H10 (fun b => H1 b ≠ none) v d := doc_same (s8.trans (s9.trans s10)) hdB
  have hd10 : DocAt H10 (fun b => H5 b = none ∧ H6 b ≠ none) v6 (srt d) := doc_same (s7.trans (s8.trans (s9.trans s10))) hd6x
  have sC : Same H1 H10 := sA.trans (sB.trans (s9.trans s10))
  have bC : But p H H10 := b1.trans (But.of sC)
  have pC : PotAt H10 p c1 := p1.same sC
  cases d with
    | list ds =>
      have hd10 : DocAt H10 (fun b => H5 b = none ∧ H6 b ≠ none) v6 (.list (srts ds)) := hd10
      obtain ⟨a, vs, rfl, oa, ha, hs⟩ := id hd10
      refine ⟨_, rfl, _, _, _, _, true, rfl, .ty _, docTy (d := .list (srts ds)) (hd10), kit_ty (by simp only [tyName]; decide +kernel), _, rfl, ?_⟩
      refine ifT rfl ?_
      have hl : vs.length ≤ 4 := by
        rw [docs_len hs, srts_map, List.length_map]
        rw [Wf] at wd
        exact wd.2.1
      have hap : H1 a = none := sA.free oa.1
      refine ⟨_, rfl, .inl ⟨rfl, _, SqL.of ha⟩, a, vs, .non, rfl, rfl, ha, Nat.lt_of_le_of_lt hl (by decide), ?_⟩
      generalize hH11 : upd H10 a (.lst (vs ++ [.non])) = H11
      have keep : ∀ b o, b ≠ a → H10 b = some o → H11 b = some o := fun b o q e => by rw [← hH11, upd_ne q]; exact e
      have hd11 : DocAt H11 (fun b => H5 b = none ∧ H6 b ≠ none) (.ref a) (.list (srts ds ++ [.non])) := ⟨a, vs ++ [.non], rfl, oa, by rw [← hH11, upd_same], docs_snoc (show DocAt _ _ V.non Doc.non from rfl) (docs_frame _ (fun b o q e => keep b o q.2 e) (fun _ q => q) hs)⟩
      refine ⟨_, rfl, _, _, _, _, false, rfl, .ty _, docTy (d := .list (srts ds ++ [.non])) (hd11), kit_ty (by simp only [tyName]; decide +kernel), _, rfl, ?_⟩
      refine ifF rfl ?_
      have hK : DocAt H11 (fun b => H1 b ≠ none) v (.list ds) := doc_frame _ (fun b o q e => keep b o (fun k => q (k ▸ hap)) e) (fun _ q => q) hdC
      have hDr : But p H H11 := by rw [← hH11]; exact bC.pu (b1.free (p1.ne hap) hap) _
      have hPt : PotAt H11 p c1 := by rw [← hH11]; exact pC.pu (p1.ne hap) _
      refine ⟨_, rfl, t7, 3, (.list ds), rfl, rfl, hlen, wd, ht1, fun v11 H12 s12 hd12 => ?_⟩
      refine ⟨v11, 3, srt (.list ds), _, rfl, rfl, by decide, wds, hd12, fun t13 H13 s13 ht13 => ?_⟩
      obtain rfl : t13 = t7 := ext_tl (ht13.trans ((wr_srt 3 (.list ds) wd).trans ht1.symm))
      refine ⟨_, rfl, rfl, true, by rw [decide_eq_true rfl], ifT rfl ?_⟩
      refine ⟨_, rfl, v, 3, (.list ds), _, rfl, doc_same (s12.trans s13) hK, wd, by decide, _, rfl, rfl, ?_⟩
      rw [decide_eq_true rfl]
      exact z _ ((hDr.trans (But.of (s12.trans s13))).drawn ((hPt.same s12).same s13) (by omega))
    | dict fs =>
      have hd10 : DocAt H10 (fun b => H5 b = none ∧ H6 b ≠ none) v6 (.dict (sortF (srtf fs))) := hd10
      obtain ⟨a, rs, rfl, oa, ha, hs⟩ := id hd10
      refine ⟨_, rfl, _, _, _, _, false, rfl, .ty _, docTy (d := .dict (sortF (srtf fs))) (hd10), kit_ty (by simp only [tyName]; decide +kernel), _, rfl, ?_⟩
      refine ifF rfl ?_
      refine ⟨_, rfl, _, _, _, _, true, rfl, .ty _, docTy (d := .dict (sortF (srtf fs))) (hd10), kit_ty (by simp only [tyName]; decide +kernel), _, rfl, ?_⟩
      refine ifT rfl ?_
      have hl : rs.length ≤ 4 := by
        rw [flds_len hs, (sortF_perm (srtf fs)).length_eq, srtf_map, List.length_map]
        rw [Wf] at wd
        exact wd.2.1
      have hap : H1 a = none := sA.free oa.1
      refine ⟨_, rfl, a, _, rfl, DPut.k (k := Sum.inr "new") ha (Nat.lt_of_le_of_lt hl (by decide)), ?_⟩
      generalize hH11 : upd H10 a (.dK (putK rs (Sum.inr "new") .non)) = H11
      have keep : ∀ b o, b ≠ a → H10 b = some o → H11 b = some o := fun b o q e => by rw [← hH11, upd_ne q]; exact e
      have hK : DocAt H11 (fun b => H1 b ≠ none) v (.dict fs) := doc_frame _ (fun b o q e => keep b o (fun k => q (k ▸ hap)) e) (fun _ q => q) hdC
      have hDr : But p H H11 := by rw [← hH11]; exact bC.pu (b1.free (p1.ne hap) hap) _
      have hPt : PotAt H11 p c1 := by rw [← hH11]; exact pC.pu (p1.ne hap) _
      refine ⟨_, rfl, t7, 3, (.dict fs), rfl, rfl, hlen, wd, ht1, fun v11 H12 s12 hd12 => ?_⟩
      refine ⟨v11, 3, srt (.dict fs), _, rfl, rfl, by decide, wds, hd12, fun t13 H13 s13 ht13 => ?_⟩
      obtain rfl : t13 = t7 := ext_tl (ht13.trans ((wr_srt 3 (.dict fs) wd).trans ht1.symm))
      refine ⟨_, rfl, rfl, true, by rw [decide_eq_true rfl], ifT rfl ?_⟩
      refine ⟨_, rfl, v, 3, (.dict fs), _, rfl, doc_same (s12.trans s13) hK, wd, by decide, _, rfl, rfl, ?_⟩
      rw [decide_eq_true rfl]
      exact z _ ((hDr.trans (But.of (s12.trans s13))).drawn ((hPt.same s12).same s13) (by omega))
    | non =>
      have hd10 : DocAt H10 (fun b => H5 b = none ∧ H6 b ≠ none) v6 (.non) := hd10
      refine ⟨_, rfl, _, _, _, _, false, rfl, .ty _, docTy (d := .non) (hd10), kit_ty (by simp only [tyName]; decide +kernel), _, rfl, ?_⟩
      refine ifF rfl ?_
      refine ⟨_, rfl, _, _, _, _, false, rfl, .ty _, docTy (d := .non) (hd10), kit_ty (by simp only [tyName]; decide +kernel), _, rfl, ?_⟩
      refine ifF rfl ?_
      have hK := hdC
      have hDr := bC
      have hPt := pC
      refine ⟨_, rfl, t7, 3, .non, rfl, rfl, hlen, wd, ht1, fun v11 H12 s12 hd12 => ?_⟩
      refine ⟨v11, 3, srt .non, _, rfl, rfl, by decide, wds, hd12, fun t13 H13 s13 ht13 => ?_⟩
      obtain rfl : t13 = t7 := ext_tl (ht13.trans ((wr_srt 3 .non wd).trans ht1.symm))
      refine ⟨_, rfl, rfl, true, by rw [decide_eq_true rfl], ifT rfl ?_⟩
      refine ⟨_, rfl, v, 3, .non, _, rfl, doc_same (s12.trans s13) hK, wd, by decide, _, rfl, rfl, ?_⟩
      rw [decide_eq_true rfl]
      exact z _ ((hDr.trans (But.of (s12.trans s13))).drawn ((hPt.same s12).same s13) (by omega))
    | bl b =>
      have hd10 : DocAt H10 (fun b => H5 b = none ∧ H6 b ≠ none) v6 (.bl b) := hd10
      refine ⟨_, rfl, _, _, _, _, false, rfl, .ty _, docTy (d := .bl b) (hd10), kit_ty (by simp only [tyName]; decide +kernel), _, rfl, ?_⟩
      refine ifF rfl ?_
      refine ⟨_, rfl, _, _, _, _, false, rfl, .ty _, docTy (d := .bl b) (hd10), kit_ty (by simp only [tyName]; decide +kernel), _, rfl, ?_⟩
      refine ifF rfl ?_
      have hK := hdC
      have hDr := bC
      have hPt := pC
      refine ⟨_, rfl, t7, 3, (.bl b), rfl, rfl, hlen, wd, ht1, fun v11 H12 s12 hd12 => ?_⟩
      refine ⟨v11, 3, srt (.bl b), _, rfl, rfl, by decide, wds, hd12, fun t13 H13 s13 ht13 => ?_⟩
      obtain rfl : t13 = t7 := ext_tl (ht13.trans ((wr_srt 3 (.bl b) wd).trans ht1.symm))
      refine ⟨_, rfl, rfl, true, by rw [decide_eq_true rfl], ifT rfl ?_⟩
      refine ⟨_, rfl, v, 3, (.bl b), _, rfl, doc_same (s12.trans s13) hK, wd, by decide, _, rfl, rfl, ?_⟩
      rw [decide_eq_true rfl]
      exact z _ ((hDr.trans (But.of (s12.trans s13))).drawn ((hPt.same s12).same s13) (by omega))
    | int i =>
      have hd10 : DocAt H10 (fun b => H5 b = none ∧ H6 b ≠ none) v6 (.int i) := hd10
      refine ⟨_, rfl, _, _, _, _, false, rfl, .ty _, docTy (d := .int i) (hd10), kit_ty (by simp only [tyName]; decide +kernel), _, rfl, ?_⟩
      refine ifF rfl ?_
      refine ⟨_, rfl, _, _, _, _, false, rfl, .ty _, docTy (d := .int i) (hd10), kit_ty (by simp only [tyName]; decide +kernel), _, rfl, ?_⟩
      refine ifF rfl ?_
      have hK := hdC
      have hDr := bC
      have hPt := pC
      refine ⟨_, rfl, t7, 3, (.int i), rfl, rfl, hlen, wd, ht1, fun v11 H12 s12 hd12 => ?_⟩
      refine ⟨v11, 3, srt (.int i), _, rfl, rfl, by decide, wds, hd12, fun t13 H13 s13 ht13 => ?_⟩
      obtain rfl : t13 = t7 := ext_tl (ht13.trans ((wr_srt 3 (.int i) wd).trans ht1.symm))
      refine ⟨_, rfl, rfl, true, by rw [decide_eq_true rfl], ifT rfl ?_⟩
      refine ⟨_, rfl, v, 3, (.int i), _, rfl, doc_same (s12.trans s13) hK, wd, by decide, _, rfl, rfl, ?_⟩
      rw [decide_eq_true rfl]
      exact z _ ((hDr.trans (But.of (s12.trans s13))).drawn ((hPt.same s12).same s13) (by omega))
    | str s' =>
      have hd10 : DocAt H10 (fun b => H5 b = none ∧ H6 b ≠ none) v6 (.str s') := hd10
      refine ⟨_, rfl, _, _, _, _, false, rfl, .ty _, docTy (d := .str s') (hd10), kit_ty (by simp only [tyName]; decide +kernel), _, rfl, ?_⟩
      refine ifF rfl ?_
      refine ⟨_, rfl, _, _, _, _, false, rfl, .ty _, docTy (d := .str s') (hd10), kit_ty (by simp only [tyName]; decide +kernel), _, rfl, ?_⟩
      refine ifF rfl ?_
      have hK := hdC
      have hDr := bC
      have hPt := pC
      refine ⟨_, rfl, t7, 3, (.str s'), rfl, rfl, hlen, wd, ht1, fun v11 H12 s12 hd12 => ?_⟩
      refine ⟨v11, 3, srt (.str s'), _, rfl, rfl, by decide, wds, hd12, fun t13 H13 s13 ht13 => ?_⟩
      obtain rfl : t13 = t7 := ext_tl (ht13.trans ((wr_srt 3 (.str s') wd).trans ht1.symm))
      refine ⟨_, rfl, rfl, true, by rw [decide_eq_true rfl], ifT rfl ?_⟩
      refine ⟨_, rfl, v, 3, (.str s'), _, rfl, doc_same (s12.trans s13) hK, wd, by decide, _, rfl, rfl, ?_⟩
      rw [decide_eq_true rfl]
      exact z _ ((hDr.trans (But.of (s12.trans s13))).drawn ((hPt.same s12).same s13) (by omega))
end
end K87
namespace K87
open PySem L2 TL SX PySem.Spec PyProof.Rows
/-! ## 20. The pot, the law -/
theorem b01 (b : Bool) : -(2 ^ 64) < (if b = true then (1 : Int) else 0) ∧ (if b = true then (1 : Int) else 0) < 2 ^ 64 ∧ 0 ≤ (if b = true then (1 : Int) else 0) := by cases b <;> decide
section
variable {P : Program} {w : World} {K : PySem.W.Frag} {mg : Str → Option Value} {base : Heap} {n₀ : Nat}
def spPot (K : PySem.W.Frag) : Sp := fun vs H Q _ => ∃ (a : Addr) (ns : List Int) (k : Nat), vs = [.ref a, .int (k : Int)] ∧ SqL K H a (ns.map V.int) ∧ ns.length ≤ 1000 ∧ k ≤ 100 ∧ ∀ (r : Addr) (H' : Hp), Same H H' → H r = none → PotAt H' r 0 → Q (.ref r) H'
theorem ok_pot (T : Txt K mg) : Ok P w K mg base 1 "_law_pot" p__law_pot (spPot K) := by
  refine T.D__law_pot.ok sc__law_pot (fun vs H Q E h => ?_) (fun _ _ _ _ _ _ us hl => match us, hl with | [_, _], _ => rfl) (fun f cdv A outer s H vs Q E hr h => ?_)
  · obtain ⟨a, ns, k, rfl, _⟩ := h
    rfl
  obtain ⟨a, ns, k, rfl, ha, hl, hk, z⟩ := h
  refine ⟨_, (pss_cons (ps_set (i := 2) sc__law_pot.nd rfl (Or.inl rfl) (pe_ifExp (pt_cmpR op_lt (pv 1) (pe_callB call_len_seq (by rfl) T.b_len (by decide +kernel) (pa_cons (pv 0) pa_nil)) (nomark _)) (pe_ix ix_list (pv 0) (pv 1) (fun _ _ => rfl)) (pe_op op_add (pe_op op_mul pe_int (pv 1)) pe_int)))
  (pss_cons (ps_set (i := 3) sc__law_pot.nd rfl (Or.inl rfl) (pe_op op_mul (pe_op op_modN (pe_callTy call_int1 (by rfl) T.b_int (by decide +kernel) (pa_cons (pe_callB call_abs (by rfl) T.b_abs (by decide +kernel) (pa_cons (pv 2) pa_nil)) pa_nil)) (pe_op op_powN (pe_op op_pow pe_int pe_int) pe_int)) (pe_callTy call_int1 (by rfl) T.b_int (by decide +kernel) (pa_cons (pe_cmpR op_ge (pe_callB call_abs (by rfl) T.b_abs (by decide +kernel) (pa_cons (pv 2) pa_nil)) (pe_op op_pow pe_int pe_int) (nomark _)) pa_nil))))
  (pss_one (ps_ret (pe_lst (pa_cons (pv 3) (pa_cons (pe_op op_modN (pe_callTy call_int1 (by rfl) T.b_int (by decide +kernel) (pa_cons (pe_op op_add (pe_op op_add (pe_op op_mul (pe_op op_modN (pe_callTy call_int1 (by rfl) T.b_int (by decide +kernel) (pa_cons (pv 2) pa_nil)) pe_int) pe_int) (pe_op op_mul (pe_op op_mul pe_int (pv 1)) (pv 1))) pe_int) pa_nil)) pe_int) (pa_cons pe_int pa_nil)))))))), ?_⟩
  refine ⟨_, rfl, _, rfl, a, _, rfl, .inl ha, _, _, rfl, rfl, _, rfl, ?_⟩
  have pw1 : CPow 10 60 := ⟨by decide, by decide, by decide⟩
  have pw2 : CPowN (10 ^ (60 : Int).toNat) 5 := by unfold CPowN; decide +kernel
  have pw3 : ((10 : Int) ^ (60 : Int).toNat) ^ (5 : Int).toNat ≠ 0 := by decide +kernel
  have pw5 : 0 < ((10 : Int) ^ (60 : Int).toNat) ^ (5 : Int).toNat := by decide +kernel
  have pw4 : CPow 10 18 := ⟨by decide, by decide, by decide⟩
  by_cases hkl : k < ns.length
  · refine ifT (decide_eq_true (by rw [List.length_map]; omega)) ?_
    refine ⟨_, rfl, _, rfl, a, _, _, _, rfl, rfl, ha, atI_nat (v := V.int ns[k]) (by rw [List.getElem?_map, List.getElem?_eq_getElem hkl]; rfl), ?_⟩
    generalize ns[k] = x
    refine ⟨_, rfl, _, rfl, .inl ⟨_, rfl, _, _, rfl, rfl, pw1, _, _, rfl, rfl, pw2, _, _, rfl, rfl, pw3, _, rfl, _, rfl, _, _, rfl, rfl, pw4, _, _, rfl, rfl, .inr ⟨_, rfl, _, _, rfl, rfl, .inr ⟨(b01 _).1, (b01 _).2.1⟩, ?_⟩⟩⟩
    refine ⟨_, rfl, _, rfl, .inl ⟨_, rfl, _, _, rfl, rfl, (by show (2305843009213693951 : Int) ≠ 0; decide), _, _, rfl, rfl, .inr ⟨(by show -(2 ^ 64) < (60793 : Int); decide), (by show (60793 : Int) < 2 ^ 64; decide)⟩, _, rfl, _, _, rfl, rfl, .inl ⟨(by show -(2 ^ 64) < (7219 : Int); decide), (by show (7219 : Int) < 2 ^ 64; decide)⟩, _, rfl, _, _, rfl, rfl, .inl ⟨(by show -(2 ^ 64) < 7219 * (k : Int); omega), (by show 7219 * (k : Int) < 2 ^ 64; omega)⟩,
      _, _, rfl, rfl, _, _, rfl, rfl, .inl ⟨_, rfl, _, _, rfl, rfl, (by show (2305843009213693921 : Int) ≠ 0; decide), (by show 3 ≤ sizeLine; decide), fun r hr => z r _ (same_new hr _) hr ⟨_, _, upd_same, Int.mul_nonneg (fm_lo pw5) (b01 _).2.2, fm_lo (by decide), fm_hi (by decide)⟩⟩⟩⟩
  · refine ifF (decide_eq_false (by rw [List.length_map]; omega)) ?_
    refine ⟨_, rfl, _, _, rfl, rfl, .inl ⟨(by show -(2 ^ 64) < (37 : Int); decide), (by show (37 : Int) < 2 ^ 64; decide)⟩, _, _, rfl, rfl, ?_⟩
    generalize 37 * (k : Int) + 19 = x
    refine ⟨_, rfl, _, rfl, .inl ⟨_, rfl, _, _, rfl, rfl, pw1, _, _, rfl, rfl, pw2, _, _, rfl, rfl, pw3, _, rfl, _, rfl, _, _, rfl, rfl, pw4, _, _, rfl, rfl, .inr ⟨_, rfl, _, _, rfl, rfl, .inr ⟨(b01 _).1, (b01 _).2.1⟩, ?_⟩⟩⟩
    refine ⟨_, rfl, _, rfl, .inl ⟨_, rfl, _, _, rfl, rfl, (by show (2305843009213693951 : Int) ≠ 0; decide), _, _, rfl, rfl, .inr ⟨(by show -(2 ^ 64) < (60793 : Int); decide), (by show (60793 : Int) < 2 ^ 64; decide)⟩, _, rfl, _, _, rfl, rfl, .inl ⟨(by show -(2 ^ 64) < (7219 : Int); decide), (by show (7219 : Int) < 2 ^ 64; decide)⟩, _, rfl, _, _, rfl, rfl, .inl ⟨(by show -(2 ^ 64) < 7219 * (k : Int); omega), (by show 7219 * (k : Int) < 2 ^ 64; omega)⟩,
      _, _, rfl, rfl, _, _, rfl, rfl, .inl ⟨_, rfl, _, _, rfl, rfl, (by show (2305843009213693921 : Int) ≠ 0; decide), (by show 3 ≤ sizeLine; decide), fun r hr => z r _ (same_new hr _) hr ⟨_, _, upd_same, Int.mul_nonneg (fm_lo pw5) (b01 _).2.2, fm_lo (by decide), fm_hi (by decide)⟩⟩⟩⟩
end
end K87
namespace K87
open PySem L2 TL SX PySem.Spec PyProof.Rows
section
variable {P : Program} {w : World} {K : PySem.W.Frag} {mg : Str → Option Value} {base : Heap} {n₀ : Nat}
def spLaw (K : PySem.W.Frag) : Sp := fun vs H Q _ => ∃ (a : Addr) (ns : List Int), vs = [.ref a] ∧ SqL K H a (ns.map V.int) ∧ ns.length ≤ 63 ∧ ∀ H', Q (.bl true) H'
theorem ok_law (T : Txt K mg) (W : Two n₀ mg) : OkN n₀ P w K mg base 15 "law" p_law (spLaw K) := by
  have G__law_right := ok_right (P := P) (w := w) (base := base) T W
  have G__law_pot := (ok_pot (P := P) (w := w) (base := base) T).mono (show 1 ≤ 14 by omega)
  refine T.D_law.okN sc_law (fun vs H Q E h => ?_) (fun _ _ _ _ _ _ us hl => match us, hl with | [_], _ => rfl) (fun f cdv A outer s H vs Q E hr hgd h => ?_)
  · obtain ⟨a, ns, rfl, _⟩ := h
    rfl
  obtain ⟨a, ns, rfl, ha, hl, z⟩ := h
  refine ⟨_, (nb_cons (ns_for PassesOwn.never rfl (pi_range1 rfl T.b_range (pa_cons (pe_callB (call_max2 rfl) (by rfl) T.b_max (by decide +kernel) (pa_cons pe_int (pa_cons (pe_callB (call_min2 rfl) (by rfl) T.b_min (by decide +kernel) (pa_cons pe_int (pa_cons (pe_callB call_len_seq (by rfl) T.b_len (by decide +kernel) (pa_cons (pv 0) pa_nil)) pa_nil))) pa_nil))) pa_nil)) (pg_name (i := 1) sc_law.nd rfl (Or.inl rfl))
    (nb_cons (ns_of (ps_set (i := 2) sc_law.nd rfl (Or.inr rfl) (pe_callO G__law_pot (hr.mono (by omega)) (pa_cons (pv 0) (pa_cons (pv 1) pa_nil)))))
    (nb_one (ns_if (nt_not (nt_val (ne_callB (cr_all rfl) (by rfl) T.b_all (by decide +kernel) (na_one (ne_lc (own := [("_law_turn", 3)]) (g := (gName 3)) rfl sc_law.nd (pi_range1 rfl T.b_range (pa_cons pe_int pa_nil)) (blkOk_by (N := N_law) (sc := defScope s_law) (by decide +kernel)) (fun _ _ _ _ _ => (pg_name (i := 3) sc_law.nd rfl (Or.inl rfl))) (fun _ _ _ _ _ => (ne_call G__law_right (hr.mono (by omega)) hgd (pa_cons (pv 2) pa_nil))))))))
      (nb_of (pss_one (ps_ret pe_bl))) (nb_of pss_nil))))) (nb_of (pss_one (ps_ret pe_bl)))), ?_⟩
  refine ⟨_, rfl, a, _, rfl, .inl ha, _, _, rfl, _, _, rfl, ?_⟩
  rw [List.length_map]
  have hN : ∀ i j : Int, ∃ N : Nat, (if (if i < 3 then i else 3) > 1 then (if i < 3 then i else 3) else 1) = ((N : Nat) : Int) ∧ N ≤ 3 := fun i j => by
    by_cases h1 : i < 3
    · rw [if_pos h1]
      by_cases h2 : i > 1
      · rw [if_pos h2]; exact ⟨i.toNat, by omega, by omega⟩
      · rw [if_neg h2]; exact ⟨1, rfl, by omega⟩
    · rw [if_neg h1]
      exact ⟨3, rfl, by omega⟩
  obtain ⟨N, hN, hN3⟩ := hN (ns.length : Int) 0
  refine ⟨_, rfl, ?_⟩
  rw [hN]
  refine ⟨by omega, by omega, ?_⟩
  rw [Int.toNat_natCast]
  refine ⟨fun i m σ H' => ∃ (o1 o2 o3 : Option V), m = N - i ∧ i ≤ N ∧ σ = [some (.ref a), o1, o2, o3] ∧ Same H H', ⟨N, none, none, none, rfl, Nat.zero_le _, rfl, .refl H⟩, ?_⟩
  rintro i m σ H' ⟨o1, o2, o3, rfl, hi, rfl, s1⟩
  by_cases hin : i < N
  · refine .inr ⟨hin, fun σ1 H1 => ∃ (o1 o2 o3 : Option V), σ1 = [some (.ref a), o1, o2, o3] ∧ Same H H1, ?_, ?_⟩
    · rintro σ1 H1 ⟨o1, o2, o3, e, s⟩
      exact ⟨N - (i + 1), by omega, o1, o2, o3, rfl, hin, e, s⟩
    rintro x H1 ⟨rfl, rfl⟩
    refine ⟨_, rfl, _, rfl, a, ns, i, ?_, ha.imp (fun r => r.imp (s1 _ _) (fun ⟨o, e⟩ => ⟨o, s1 _ _ e⟩)) id, by omega, by omega, fun p H2 s2 hp0 pot => ?_⟩
    · show [V.ref a, V.int (0 + (i : Int))] = _
      rw [Int.zero_add]
    refine ⟨_, rfl, by decide, by decide, fun D hD => ?_⟩
    have hDp := pot.ne hD
    refine lc_grow walk_range (fun i H' => Drawn p H2 0 (i * cost 3) H') (fun _ y _ => y = .bl true) (by decide) ?_ (fun _ _ _ _ h => h) ⟨But.refl p H2, 0, pot, by omega⟩ (fun _ _ _ _ => trivial) ?_ ?_
    · rintro i H' ys ⟨b, c', pc, hc'⟩
      exact ⟨b.pu hD _, c', pc.pu hDp _, hc'⟩
    · rintro j x H3 H4 hj ⟨b3, c3, p3, hc3⟩ ⟨ys, hD3⟩ ⟨rfl, rfl⟩ C Z k
      refine ⟨rfl, ?_⟩
      dsimp only [tYes]
      try rw [if_pos rfl]
      have hj10 : j < 10 := hj
      have hcost : cost 3 = 850 := by decide
      refine ⟨_, rfl, p, c3, rfl, by rw [hcost] at hc3 ⊢; omega, p3, fun H5 dr => ?_⟩
      obtain ⟨b5, c5, p5, hc5⟩ := dr
      exact k _ H5 (by rw [hD3]; exact b5 _ _ hDp hD3) ⟨b3.trans b5, c5, p5, by rw [Nat.add_mul]; omega⟩ rfl (fun _ _ h => h)
    · rintro H3 ys ⟨b3, c3, p3, hc3⟩ hD3 hl3 hy
      refine ⟨D, _, rfl, SqL.of (by rw [hD3, ← all_yes hy]), ?_⟩
      rw [rep_all]
      refine ⟨true, rfl, ifF rfl ?_⟩
      refine ⟨_, _, _, rfl, fun b o e => ?_⟩
      exact b3 b o (fun k => by rw [k] at e; rw [s1 _ _ e] at hp0; cases hp0) (s2 _ _ (s1 _ _ e))
  · refine .inl ⟨(show N ≤ i by omega), ?_⟩
    exact z H'
end
end K87
namespace K87
open PySem L2 TL SX PySem.Spec PyProof.Rows
/-! ## 21. The head -/
def d_is_name : He.DefD := ⟨("is_name", none), "is_name", "is_name", defArgs s_is_name, defBody s_is_name, defScope s_is_name, [], []⟩
def d_is_document : He.DefD := ⟨("is_document", none), "is_document", "is_document", defArgs s_is_document, defBody s_is_document, defScope s_is_document, [], []⟩
def d_check_document : He.DefD := ⟨("check_document", none), "check_document", "check_document", defArgs s_check_document, defBody s_check_document, defScope s_check_document, [], []⟩
def d_are_same : He.DefD := ⟨("are_same", none), "are_same", "are_same", defArgs s_are_same, defBody s_are_same, defScope s_are_same, [], []⟩
def d_same : He.DefD := ⟨("same", none), "same", "same", defArgs s_same, defBody s_same, defScope s_same, [], []⟩
def d_string_text : He.DefD := ⟨("string_text", none), "string_text", "string_text", defArgs s_string_text, defBody s_string_text, defScope s_string_text, [], []⟩
def d_document_text : He.DefD := ⟨("document_text", none), "document_text", "document_text", defArgs s_document_text, defBody s_document_text, defScope s_document_text, [], []⟩
def d_show_document : He.DefD := ⟨("show_document", none), "show_document", "show_document", defArgs s_show_document, defBody s_show_document, defScope s_show_document, [], []⟩
def d_digits_behind : He.DefD := ⟨("digits_behind", none), "digits_behind", "digits_behind", defArgs s_digits_behind, defBody s_digits_behind, defScope s_digits_behind, [], []⟩
def d_number_at : He.DefD := ⟨("number_at", none), "number_at", "number_at", defArgs s_number_at, defBody s_number_at, defScope s_number_at, [], []⟩
def d_string_at : He.DefD := ⟨("string_at", none), "string_at", "string_at", defArgs s_string_at, defBody s_string_at, defScope s_string_at, [], []⟩
def d_list_at : He.DefD := ⟨("list_at", none), "list_at", "list_at", defArgs s_list_at, defBody s_list_at, defScope s_list_at, [], []⟩
def d_field_at : He.DefD := ⟨("field_at", none), "field_at", "field_at", defArgs s_field_at, defBody s_field_at, defScope s_field_at, [], []⟩
def d_record_at : He.DefD := ⟨("record_at", none), "record_at", "record_at", defArgs s_record_at, defBody s_record_at, defScope s_record_at, [], []⟩
def d_part_at : He.DefD := ⟨("part_at", none), "part_at", "part_at", defArgs s_part_at, defBody s_part_at, defScope s_part_at, [], []⟩
def d_document_in : He.DefD := ⟨("document_in", none), "document_in", "document_in", defArgs s_document_in, defBody s_document_in, defScope s_document_in, [], []⟩
def d_read_document : He.DefD := ⟨("read_document", none), "read_document", "read_document", defArgs s_read_document, defBody s_read_document, defScope s_read_document, [], []⟩
def d__law_pot : He.DefD := ⟨("_law_pot", none), "_law_pot", "_law_pot", defArgs s__law_pot, defBody s__law_pot, defScope s__law_pot, [], []⟩
def d__law_take : He.DefD := ⟨("_law_take", none), "_law_take", "_law_take", defArgs s__law_take, defBody s__law_take, defScope s__law_take, [], []⟩
def d__law_of : He.DefD := ⟨("_law_of", none), "_law_of", "_law_of", defArgs s__law_of, defBody s__law_of, defScope s__law_of, [], []⟩
def d__law_unlike : He.DefD := ⟨("_law_unlike", none), "_law_unlike", "_law_unlike", defArgs s__law_unlike, defBody s__law_unlike, defScope s__law_unlike, [], []⟩
def d__law_flat : He.DefD := ⟨("_law_flat", none), "_law_flat", "_law_flat", defArgs s__law_flat, defBody s__law_flat, defScope s__law_flat, [], []⟩
def d__law_writ : He.DefD := ⟨("_law_writ", none), "_law_writ", "_law_writ", defArgs s__law_writ, defBody s__law_writ, defScope s__law_writ, [], []⟩
def d__law_strange : He.DefD := ⟨("_law_strange", none), "_law_strange", "_law_strange", defArgs s__law_strange, defBody s__law_strange, defScope s__law_strange, [], []⟩
def d__law_thing : He.DefD := ⟨("_law_thing", none), "_law_thing", "_law_thing", defArgs s__law_thing, defBody s__law_thing, defScope s__law_thing, [], []⟩
def d__law_turned : He.DefD := ⟨("_law_turned", none), "_law_turned", "_law_turned", defArgs s__law_turned, defBody s__law_turned, defScope s__law_turned, [], []⟩
def d__law_right : He.DefD := ⟨("_law_right", none), "_law_right", "_law_right", defArgs s__law_right, defBody s__law_right, defScope s__law_right, [], []⟩
def d_law : He.DefD := ⟨("law", none), "law", "law", defArgs s_law, defBody s_law, defScope s_law, [], []⟩
def fn : List He.DefD := [d_is_name, d_is_document, d_check_document, d_are_same, d_same, d_string_text, d_document_text, d_show_document, d_digits_behind, d_number_at, d_string_at, d_list_at, d_field_at, d_record_at, d_part_at, d_document_in, d_read_document, d__law_pot, d__law_take, d__law_of, d__law_unlike, d__law_flat, d__law_writ, d__law_strange, d__law_thing, d__law_turned, d__law_right, d_law]
def fa : List He.Fa := [.free "abs", .free "all", .free "bool", .free "dict", .free "int", .free "isinstance", .free "len", .free "list", .free "max", .free "min", .free "range", .free "repr", .free "sorted", .free "str", .free "zip", .int "MOST_LETTERS" 8, .str "QUOTE" "\"", .str "STROKE" "\\", .str "PARTED" ", ", .str "NAMED" ": ", .str "YES" "yes", .str "NO" "no", .str "MINUS" "-", .str "DIGITS" "0123456789", .int "MOST_DIGITS" 4000, .int "PAIR" 2, .glo "is_name", .glo "is_document", .glo "check_document", .glo "are_same", .glo "same", .glo "string_text", .glo "document_text", .glo "show_document", .glo "digits_behind", .glo "number_at", .glo "string_at", .glo "list_at", .glo "field_at", .glo "record_at", .glo "part_at", .glo "document_in", .glo "read_document", .glo "_law_pot", .glo "_law_take", .glo "_law_of", .glo "_law_unlike", .glo "_law_flat", .glo "_law_writ", .glo "_law_strange", .glo "_law_thing", .glo "_law_turned", .glo "_law_right", .glo "law"]
theorem txt_of {K : PySem.W.Frag} {h : Heap} {mg : Str → Option Value} (X : K.In h) (G : h.Ns mainGlobals mg) (c : He.SaysD fa fn K) : Txt K mg where
  b_abs := He.free_ok X G (c.fact 0)
  b_all := He.free_ok X G (c.fact 1)
  b_bool := He.free_ok X G (c.fact 2)
  b_dict := He.free_ok X G (c.fact 3)
  b_int := He.free_ok X G (c.fact 4)
  b_isinstance := He.free_ok X G (c.fact 5)
  b_len := He.free_ok X G (c.fact 6)
  b_list := He.free_ok X G (c.fact 7)
  b_max := He.free_ok X G (c.fact 8)
  b_min := He.free_ok X G (c.fact 9)
  b_range := He.free_ok X G (c.fact 10)
  b_repr := He.free_ok X G (c.fact 11)
  b_sorted := He.free_ok X G (c.fact 12)
  b_str := He.free_ok X G (c.fact 13)
  b_zip := He.free_ok X G (c.fact 14)
  c_MOST_LETTERS := He.int_ok X G (c.fact 15)
  c_QUOTE := He.str_ok X G (c.fact 16)
  c_STROKE := He.str_ok X G (c.fact 17)
  c_PARTED := He.str_ok X G (c.fact 18)
  c_NAMED := He.str_ok X G (c.fact 19)
  c_YES := He.str_ok X G (c.fact 20)
  c_NO := He.str_ok X G (c.fact 21)
  c_MINUS := He.str_ok X G (c.fact 22)
  c_DIGITS := He.str_ok X G (c.fact 23)
  c_MOST_DIGITS := He.int_ok X G (c.fact 24)
  c_PAIR := He.int_ok X G (c.fact 25)
  D_is_name := ⟨c.def_ 0 (d := d_is_name) rfl, He.glo_ok X G (c.fact 26)⟩
  D_is_document := ⟨c.def_ 1 (d := d_is_document) rfl, He.glo_ok X G (c.fact 27)⟩
  D_check_document := ⟨c.def_ 2 (d := d_check_document) rfl, He.glo_ok X G (c.fact 28)⟩
  D_are_same := ⟨c.def_ 3 (d := d_are_same) rfl, He.glo_ok X G (c.fact 29)⟩
  D_same := ⟨c.def_ 4 (d := d_same) rfl, He.glo_ok X G (c.fact 30)⟩
  D_string_text := ⟨c.def_ 5 (d := d_string_text) rfl, He.glo_ok X G (c.fact 31)⟩
  D_document_text := ⟨c.def_ 6 (d := d_document_text) rfl, He.glo_ok X G (c.fact 32)⟩
  D_show_document := ⟨c.def_ 7 (d := d_show_document) rfl, He.glo_ok X G (c.fact 33)⟩
  D_digits_behind := ⟨c.def_ 8 (d := d_digits_behind) rfl, He.glo_ok X G (c.fact 34)⟩
  D_number_at := ⟨c.def_ 9 (d := d_number_at) rfl, He.glo_ok X G (c.fact 35)⟩
  D_string_at := ⟨c.def_ 10 (d := d_string_at) rfl, He.glo_ok X G (c.fact 36)⟩
  D_list_at := ⟨c.def_ 11 (d := d_list_at) rfl, He.glo_ok X G (c.fact 37)⟩
  D_field_at := ⟨c.def_ 12 (d := d_field_at) rfl, He.glo_ok X G (c.fact 38)⟩
  D_record_at := ⟨c.def_ 13 (d := d_record_at) rfl, He.glo_ok X G (c.fact 39)⟩
  D_part_at := ⟨c.def_ 14 (d := d_part_at) rfl, He.glo_ok X G (c.fact 40)⟩
  D_document_in := ⟨c.def_ 15 (d := d_document_in) rfl, He.glo_ok X G (c.fact 41)⟩
  D_read_document := ⟨c.def_ 16 (d := d_read_document) rfl, He.glo_ok X G (c.fact 42)⟩
  D__law_pot := ⟨c.def_ 17 (d := d__law_pot) rfl, He.glo_ok X G (c.fact 43)⟩
  D__law_take := ⟨c.def_ 18 (d := d__law_take) rfl, He.glo_ok X G (c.fact 44)⟩
  D__law_of := ⟨c.def_ 19 (d := d__law_of) rfl, He.glo_ok X G (c.fact 45)⟩
  D__law_unlike := ⟨c.def_ 20 (d := d__law_unlike) rfl, He.glo_ok X G (c.fact 46)⟩
  D__law_flat := ⟨c.def_ 21 (d := d__law_flat) rfl, He.glo_ok X G (c.fact 47)⟩
  D__law_writ := ⟨c.def_ 22 (d := d__law_writ) rfl, He.glo_ok X G (c.fact 48)⟩
  D__law_strange := ⟨c.def_ 23 (d := d__law_strange) rfl, He.glo_ok X G (c.fact 49)⟩
  D__law_thing := ⟨c.def_ 24 (d := d__law_thing) rfl, He.glo_ok X G (c.fact 50)⟩
  D__law_turned := ⟨c.def_ 25 (d := d__law_turned) rfl, He.glo_ok X G (c.fact 51)⟩
  D__law_right := ⟨c.def_ 26 (d := d__law_right) rfl, He.glo_ok X G (c.fact 52)⟩
  D_law := ⟨c.def_ 27 (d := d_law) rfl, He.glo_ok X G (c.fact 53)⟩
def twoB (K : PySem.W.Frag) (t : Nat) (x y : Str) : Bool := match PySem.W.nsIn K mainGlobals x with
  | some (some (.str z u)) => decide (z = y) && (decide (u ≠ 0) && decide (u < t))
  | _ => false
abbrev R : PySem.W.OpenRow := PySem.W.OpenLaw.row PySem.Challenge.rw_tagless_k87_documents_as_texts
abbrev Al : Type := He.AlD × (Bool × Bool)
def obG (g : Addr → Option Obj) (t : Nat) : Al := (He.obsDG 4 fa fn g, twoB (He.frG g (He.asD g 4)) t "QUOTE" "\"", twoB (He.frG g (He.asD g 4)) t "STROKE" "\\")
def hk : PySem.W.Hook where
  α := Al
  obs := fun s => obG s.heap.get? s.toks
  val := fun _ => (He.valD fn, true, true)
  says := fun _ h => ∃ K : PySem.W.Frag, K.In h ∧ He.SaysD fa fn K
  of := fun _ _ e => ⟨_, He.frG_in, congrArg Prod.fst e⟩
  keeps := fun _ _ _ ⟨K, hK, c⟩ k => ⟨K, PySem.W.Frag.In.keeps hK k, c⟩
def ob (s : PySem.W.SharedT) : Al := obG (HandSHeadRun.getT s) s.toks
theorem ob_eq (s : PySem.W.SharedT) : ob s = hk.obs s.abs := by
  have e : HandSHeadRun.getT s = s.abs.heap.get? := funext fun a => HandSHeadRun.getT_eq s a
  show obG _ _ = obG _ _
  rw [e]
  rfl
def loose1 : List Str := ["TaglessError", "NoDocument", "BadText", "MOST_LETTERS", "is_name", "is_document", "check_document", "are_same", "same", "QUOTE", "STROKE", "PARTED", "NAMED", "YES", "NO", "MINUS", "DIGITS", "MOST_DIGITS", "PAIR", "string_text"]
def loose2 : List Str := ["document_text", "show_document", "digits_behind", "number_at", "string_at", "list_at", "field_at", "record_at", "part_at", "document_in", "read_document", "_law_pot", "_law_take", "_law_of", "_law_unlike", "_law_flat", "_law_writ", "_law_strange", "_law_thing", "_law_turned", "_law_right"]
abbrev loose : List Str := loose1 ++ loose2
theorem run (w : World) : HandSHeadRun.RunEq R (PySem.W.view R.prog [45]) hk ob 4000 loose w := by
  intro os
  kernel_rfl
end K87
namespace K87
open PySem L2 TL SX PySem.Spec PyProof.Rows
/-! ## 22. The end -/
theorem two_of {K : PySem.W.Frag} {h : Heap} {mg : Str → Option Value} {t n : Nat} {x y : Str} (X : K.In h) (G : h.Ns mainGlobals mg) (c : twoB K t x y = true) (le : t ≤ n) : ∃ u, mg x = some (.str y u) ∧ u ≠ 0 ∧ u < n := by
  unfold twoB at c
  split at c
  case h_1 z u e =>
    obtain ⟨c1, c2⟩ := Bool.and_eq_true_iff.mp c
    obtain ⟨c2, c3⟩ := Bool.and_eq_true_iff.mp c2
    obtain rfl := of_decide_eq_true c1
    exact ⟨u, PySem.W.mg_of X G e, of_decide_eq_true c2, Nat.lt_of_lt_of_le (of_decide_eq_true c3) le⟩
  case h_2 => cases c
theorem py_ints : ∀ ns : List Int, PySem.W.ofPys (ns.map PyData.int) = ns.map PySem.W.WData.int
  | [] => by simp [PySem.W.ofPys]
  | i :: ns => by rw [List.map_cons, PySem.W.ofPys, py_ints ns, List.map_cons, PySem.W.ofPy]
/-- the call, from the law's promise -/
theorem call_law {P : Program} {w : World} {K : PySem.W.Frag} {mg mb : Str → Option Value} {s₁ : Shared} {a : Addr} {vs : List Value} {ns : List Int} {h₀ : Heap} (in0 : K.In h₀) (up : ∀ b o, h₀.get? b = some o → s₁.heap.get? b = some o) (new : h₀.get? a = none)
    (hns : s₁.heap.Ns mainGlobals mg) (hb : s₁.heap.Ns builtinsNs mb) (hbb : ∀ x : Str, x ≠ "__name__" → mb x = bootBuiltins x) (hlim : s₁.heap.NoLimit) (hg : s₁.gens = #[])
    (ha : s₁.heap.get? a = some { cls := .type "list", data := .seq vs.toArray }) (hi : IntsAre vs ns) (hl : ns.length ≤ 63) (F : ∀ base : Heap, OkN s₁.toks P w K mg base 15 "law" p_law (spLaw K)) :
    codeAny (model P w) callerA (.call (.ref (He.ga K "law")) ⟨[.ref a], []⟩) (fun r z => r = .ok (.ret (.bool true)) ∧ OldK s₁.heap z.heap ∧ z.os = s₁.os ∧ AllBare z.gens) s₁ := by
  have one : IntsAre vs ns := hi
  have ob : ∃ ob : Obj, ob = { cls := .type "list", data := .seq vs.toArray } := ⟨_, rfl⟩
  obtain ⟨ob, hob⟩ := ob
  have hob2 : s₁.heap.get? a = some ob := by rw [hob]; exact ha
  let H : Hp := fun b => if b = a then some (.frz ob (.lst (ns.map V.int))) else none
  have Ha : H a = some (.frz ob (.lst (ns.map V.int))) := if_pos rfl
  have Hn : ∀ b, b ≠ a → H b = none := fun b q => if_neg q
  have hok : HOk P w H s₁.heap := fun b u q => by
    by_cases e : b = a
    · rw [e, Ha] at q
      cases q
      rw [e]
      exact ⟨hob2, by rw [List.length_map]; exact Nat.le_trans hl (by decide), vs, _, vals_ints one, ha⟩
    · rw [Hn b e] at q
      cases q
  have nd : ∀ {b : Addr} {u : Obj} {es : Array DictEntry} {ep : Nat}, s₁.heap.get? b = some u → u.data = .dict es ep → b ≠ a := fun {b u es ep} q d e => by
    rw [e, ha] at q
    cases q
    cases (show Data.seq vs.toArray _ = Data.dict es ep from d)
  have see : ∀ {b : Addr} {m : Str → Option Value}, s₁.heap.Ns b m → (hidT s₁.heap H).Ns b m := fun {b m} ⟨u, es, ep, q, d, r⟩ => ⟨u, es, ep, hidT_get q (Hn b (nd q d)), d, r⟩
  have kin : K.In (hidT s₁.heap H) := fun b u q => hidT_get (up b u (in0 b u q)) (Hn b fun e => by rw [e] at q; rw [in0 a u q] at new; cases new)
  have md : Mod K mg (hidT s₁.heap H) := ⟨kin, see hns, ⟨mb, see hb, hbb⟩, hlim.elim fun mc q => ⟨mc, see q.1, q.2⟩⟩
  have env : Env0 P w K mg (hidT s₁.heap H) callerA [] s₁ H := ⟨rfl, md, fun b u q => of_hidT q, Nat.le_of_eq (hidT_size _ _), trivial, fun b q => absurd (show b ∈ ([] : List Addr) from q) (by simp), hok, .of_eq hg⟩
  obtain ⟨fd, _, bnd, run⟩ := (F (hidT s₁.heap H)).ex
  have kinS : K.In s₁.heap := fun b u q => up b u (in0 b u q)
  have bt : BindsTo s₁ fd ⟨[.ref a], []⟩ (p_law.zip [.ref a]) := bnd s₁ [.ref a] kinS rfl
  refine codeAny_mono (run callerA [] s₁ H ⟨[.ref a], []⟩ [.ref a] [.ref a] (fun v _ => v = .bl true) (fun _ _ _ => False) (Nat.le_refl _) rfl ⟨rfl, by decide, by decide⟩ env bt (.cons rfl .nil) ⟨a, ns, rfl, .inl (.inr ⟨_, Ha⟩), hl, fun _ => rfl⟩) fun r z q => ?_
  match r, q with
  | .error _, q => exact q.elim
  | .ok (.ret u), ⟨v, H', os, bare, un, hok', rv, qv⟩ =>
    have e : v = .bl true := qv
    subst e
    obtain rfl : u = Value.bool true := rv
    refine ⟨rfl, OldK.of_keep fun b o' q' => ?_, os, bare⟩
    by_cases e : b = a
    · have q2 := un.frzs a ob _ Ha
      obtain ⟨q3, _⟩ := hok' a _ q2
      rw [e] at q' ⊢
      rw [hob2] at q'
      cases q'
      exact q3
    · exact un.keep b o' q' (Hn b e) (fun k => absurd (show b ∈ ([] : List Addr) from k) (by simp)) (fun k => absurd (show b ∈ ([] : List Addr) from k) (by simp))
end K87
namespace K87
open PySem PySem.W PySem.Calls L2 TL SX PySem.Spec PyProof.Rows
theorem stroll {q : Program} {XP : (Str → Option Value) → Heap → Prop} {d : DefRec} (hdf : d.params.defaults = []) (dn : d.name = ("law" : Str)) :
    WalkX q loose XP hk.obs hk.val R.toRowW d [] (fun f vs => PySem.call f vs) := by
  intro w s₀ s₁ mg mb G y fa o pm cd doc dV kV ho hd hcd hD hmg hg args vals as L hpre hlay hrd hwl hlo
  have e1 : dV = .none := Dflts.none hD hdf
  have e2 : kV = .none := Dflts.noKw hD
  subst e1 e2
  obtain ⟨a, vs, ns, e3, e4, hobj, hints, hlen⟩ := Att.script_of (l := PySem.Challenge.rw_tagless_k87_documents_as_texts) (n := 63) rfl hpre hwl
  subst e3 e4
  have e5 : [WData.list (ns.map WData.int)] = [ofPy (PyData.list (ns.map PyData.int))] := by rw [ofPy, py_ints]
  have L2 := L
  rw [e5] at L2
  have tks : s₀.toks ≤ s₁.toks := PySem.W.X.script_toks L2 rfl
  obtain ⟨new, _⟩ := PySem.W.X.script_at L2
  generalize hK : He.frG s₀.heap.get? (He.asD s₀.heap.get? 4) = K
  have y1 : He.SaysD K87.fa fn K := by rw [← hK]; exact congrArg (fun z : Al => z.1) y
  have yq : twoB K s₀.toks "QUOTE" "\"" = true := by rw [← hK]; exact congrArg (fun z : Al => z.2.1) y
  have ys : twoB K s₀.toks "STROKE" "\\" = true := by rw [← hK]; exact congrArg (fun z : Al => z.2.2) y
  have in0 : K.In s₀.heap := by rw [← hK]; exact He.frG_in
  have in1 : K.In s₁.heap := PySem.W.Frag.In.keeps in0 L.keeps
  have gns := G.T.g
  have T : Txt K mg := txt_of in1 gns y1
  have W : Two s₁.toks mg := ⟨two_of in1 gns yq tks, two_of in1 gns ys tks⟩
  have fresh : s₀.heap.get? a = none := by
    cases e : s₀.heap.get? a with
    | none => rfl
    | some u => exact absurd (Heap.lt_size e) (by rw [new]; exact Nat.lt_irrefl _)
  have gl : mg ("law" : Str) = some (.ref (He.ga K "law")) := T.D_law.m
  rw [dn, gl] at hmg
  obtain rfl : He.ga K "law" = fa := by injection hmg with hmg; injection hmg
  refine enter_call (codeAny_mono (call_law (K := K) in0 L.keeps fresh gns G.T.b G.T.builtins G.T.nolimit hg hobj hints hlen (fun base => ok_law (P := R.prog) (w := w) (base := base) T W)) fun r s' hq => ?_)
  obtain ⟨e6, h2, h3, h4⟩ := hq
  subst e6
  exact ⟨.inl ⟨.bool true, .bool true, [], rfl, fun _ => rfl, .bool true, Att.post_true _ _, fun _ => ⟨List.Pairwise.nil, fun _ hm => (nomatch hm)⟩⟩, h2, h3, h4⟩
end K87
namespace K87
open PySem PySem.W PySem.Calls PyProof.Rows
theorem head_x {d : DefRec} {kwd : List (PySem.Str × PySem.Expr)} (e : opening R.prog = plainProg R.prog.main.scope.names) (f : ∀ s, fenceModules? R.prog s = some s)
    (hdef : defOf (view R.prog [45]) R.name = some (d, kwd)) (hp : R.prog.theDef R.name = some (d.params, d.body, d.scope)) (hkw : kwWritten? d.params.kwonlyargs d.params.kw_defaults = some kwd)
    (hwr : (!R.writes || R.records.isEmpty) = true) (k1 : R.wellSaid = true) (ok : (chainsOk (view R.prog [45]) && opensWell R.prog && (frees R.toRowW && R.within.isEmpty)) = true) (hb : R.prog.bare) (hw : R.toRowW.promised)
    (call : WalkX (view R.prog [45]) loose (XL (view R.prog [45]) []) hk.obs hk.val R.toRowW d kwd fun f vs => PySem.call f vs) : R.Holds := by
  have left : LeftO R.prog (view R.prog [45]) loose (fun s => xlAt (view R.prog [45]) [] s && recOk R.toRowW.records s) hk.obs hk.val (4000 + 600) true := by
    refine HandSHeadRun.left_one (M := 4000) e (by decide) f (by decide) fun w os => ?_
    have z := run w os
    rw [show ob = fun s => hk.obs s.abs from funext ob_eq] at z
    simp only [HandSHeadRun.endQ_eq, HandSHeadRun.seenQ_eq]
    exact z
  exact holds_openX left (fun s z => xl_of s (Bool.and_eq_true_iff.mp z).1) XL.keeps hdef hp hkw (fun s z => recFacts_of (Bool.and_eq_true_iff.mp z).2) hwr k1 ok hb hw call
end K87
open PySem PySem.W PySem.Calls PyProof.Rows
theorem PySem.Challenge.cw_tagless_k87_documents_as_texts_holds : PySem.Challenge.rw_tagless_k87_documents_as_texts.Holds := by
  w_on; o_law
  refine K87.head_x (d := HandSHeadRun.topDef K87.R.prog 45) (kwd := []) (by kernel_rfl) (fun s => by kernel_rfl) (by kernel_rfl) (by kernel_rfl) (by kernel_rfl) (by rfl) (by first | assumption | decide +kernel) (by decide +kernel) ⟨rfl, rfl, rfl, rfl, rfl, by decide +kernel⟩ ?hw (K87.stroll (by kernel_rfl) (by kernel_rfl))
  case hw => w_witness2
