import PyProof.Rows.All
import Wide.All
import OpenK.AllK
import Wide.FinOn
import HandS.ForMost
import HandS.Defaults
import HandS.HeadHook1
import HandS.HeadHook2
import PySem.Challenge.RW_manyleaf_k71_one_side
import KE.SortData
import HandS.More
import HandS.Set
import HandS.Strs
import HandS.TupSets
import HandS.SetFor
import HandS.Walk
import HandS.Zip
import HandS.Comp
import HandS.Iter
import HandS.Evl
import HandS.Text
import KE.KStateDown
import Lean
import HandS.Head0
import HandS.Head1
import HandS.Head2
import HandS.HeadEnd
set_option Elab.async false
set_option linter.all false
set_option maxRecDepth 100000
set_option maxHeartbeats 0
/-! the text by places, each def's scope -/
namespace Lf
open PySem PySem.Spec PyProof.Rows L2
def top (i : Nat) : Stmt := PySem.Challenge.pw_manyleaf_k71_one_side.main.body.getD i (.Pass ⟨0, 0, 0, 0⟩)
abbrev sPInit : Stmt := inClass (top 6) 0
abbrev sHas : Stmt := inClass (top 6) 1
abbrev sState : Stmt := inClass (top 6) 2
abbrev sNames : Stmt := inClass (top 6) 7
abbrev sUnder : Stmt := inClass (top 6) 8
abbrev sLinesU : Stmt := inClass (top 6) 10
abbrev sLines : Stmt := inClass (top 6) 11
abbrev sLay : Stmt := inClass (top 6) 12
abbrev sWord : Stmt := inClass (top 9) 0
abbrev sHolds : Stmt := inClass (top 9) 1
abbrev sKow : Stmt := top 13
abbrev sStateIn : Stmt := top 15
abbrev sSettled : Stmt := top 19
abbrev sUnheld : Stmt := top 20
abbrev sRinged : Stmt := top 21
abbrev sLoosened : Stmt := top 23
abbrev sLayB : Stmt := top 24
abbrev sJoin : Stmt := top 25
abbrev sCellAt : Stmt := top 27
abbrev sMix : Stmt := top 28
abbrev sDraw : Stmt := top 29
abbrev sLNames : Stmt := top 30
abbrev sContent : Stmt := top 31
abbrev sOrder : Stmt := top 32
abbrev sRecord : Stmt := top 33
abbrev sSide : Stmt := top 34
abbrev sPath : Stmt := top 35
abbrev sLLines : Stmt := top 36
abbrev sLPlain : Stmt := top 37
abbrev sComes : Stmt := top 38
abbrev sLaw : Stmt := top 39
abbrev FnP (K : PySem.W.Frag) (x qual : Str) (st : Stmt) (f : Addr) (fd : FuncData) : Prop := FunD K x qual (defArgs st) (defBody st) (defScope st) [] [] f fd
end Lf

/-! the mathematics: books, trees, the order of reading against the order of the paths -/
namespace Lf
open PySem PySem.W PyProof.Rows
/-- what stands in a part -/
inductive Con where
  | txt (s : Str)
  | tab (rows : List (List Str))
  deriving DecidableEq
def rowD (r : List Str) : PyData := .tuple (r.map .str)
def Con.d : Con → PyData
  | .txt s => .str s
  | .tab rows => .tuple (rows.map rowD)
structure Rec where
  kind : Str
  par : Str
  rank : Int
  con : Con
  deriving DecidableEq
def Rec.d (r : Rec) : PyData := .tuple [.str r.kind, .str r.par, .int r.rank, r.con.d]
abbrev Bk := List (Str × Rec)
def look (bk : Bk) (n : Str) : Option Rec := (bk.find? fun p => decide (p.1 = n)).map (·.2)
def optD : Option Rec → PyData
  | none => .none
  | some r => r.d

/-! ### signs in bounds -/
def okC : Con → Bool
  | .txt s => PyData.strOk s
  | .tab rows => rows.all fun r => r.all PyData.strOk
def okR (r : Rec) : Bool := PyData.strOk r.kind && (PyData.strOk r.par && okC r.con)

/-! ### equal data -/
theorem eqvAll_map {α : Type} (f : α → PyData) (h : ∀ a b, PyData.eqv (f a) (f b) = true → a = b) : ∀ xs ys : List α, PyData.eqvAll (xs.map f) (ys.map f) = true → xs = ys
  | [], [], _ => rfl
  | [], _ :: _, e => by simp [PyData.eqvAll] at e
  | _ :: _, [], e => by simp [PyData.eqvAll] at e
  | x :: xs, y :: ys, e => by
    rw [List.map_cons, List.map_cons, eqv_all_cons, Bool.and_eq_true] at e
    rw [h x y e.1, eqvAll_map f h xs ys e.2]
theorem eqv_str (a b : Str) (h : PyData.eqv (.str a) (.str b) = true) : a = b := by simpa [PyData.eqv] using h
theorem eqv_row (a b : List Str) (h : PyData.eqv (rowD a) (rowD b) = true) : a = b := by
  unfold rowD at h
  rw [PyData.eqv] at h
  exact eqvAll_map .str eqv_str a b h
theorem eqv_con (a b : Con) (h : PyData.eqv a.d b.d = true) : a = b := by
  cases a with
  | txt s => cases b with
    | txt t => rw [eqv_str s t h]
    | tab q => unfold Con.d at h; simp [PyData.eqv] at h
  | tab p => cases b with
    | txt t => unfold Con.d at h; simp [PyData.eqv] at h
    | tab q =>
      unfold Con.d at h
      rw [PyData.eqv] at h
      rw [eqvAll_map rowD eqv_row p q h]
theorem eqv_rec (a b : Rec) (h : PyData.eqv a.d b.d = true) : a = b := by
  obtain ⟨k, p, r, c⟩ := a
  obtain ⟨k', p', r', c'⟩ := b
  unfold Rec.d at h
  simp only [PyData.eqv, PyData.eqvAll, Bool.and_eq_true, Bool.and_true, beq_iff_eq] at h
  obtain ⟨h1, h2, h3, h4⟩ := h
  rw [h1, h2, h3, eqv_con c c' h4]
theorem canLay_all {α : Type} (f : α → PyData) (g : α → Bool) (h : ∀ a, g a = true → PyData.canLay0 (f a) = true) : ∀ xs : List α, xs.all g = true → PyData.canLayAll0 (xs.map f) = true
  | [], _ => by simp [PyData.canLayAll0]
  | x :: xs, e => by
    rw [List.all_cons, Bool.and_eq_true] at e
    rw [List.map_cons, PyData.canLayAll0, h x e.1, canLay_all f g h xs e.2]
    rfl
theorem depth_all {α : Type} (f : α → PyData) (n : Nat) (h : ∀ a, (f a).depth ≤ n) : ∀ xs : List α, PyData.depthAll (xs.map f) ≤ n
  | [] => by simp [PyData.depthAll]
  | x :: xs => by
    rw [List.map_cons, PyData.depthAll]
    exact Nat.max_le.mpr ⟨h x, depth_all f n h xs⟩
theorem canLay_row (r : List Str) (h : r.all PyData.strOk = true) : (rowD r).canLay0 = true := by
  unfold rowD
  rw [PyData.canLay0]
  exact canLay_all .str PyData.strOk (fun a e => by rw [PyData.canLay0]; exact e) r h
theorem canLay_con (c : Con) (h : okC c = true) : c.d.canLay0 = true := by
  cases c with
  | txt s =>
    unfold Con.d
    rw [PyData.canLay0]
    exact h
  | tab rows =>
    unfold Con.d
    rw [PyData.canLay0]
    exact canLay_all rowD (fun r => r.all PyData.strOk) canLay_row rows h
theorem depth_row (r : List Str) : (rowD r).depth ≤ 1 := by
  unfold rowD
  rw [PyData.depth]
  exact Nat.succ_le_succ (depth_all .str 0 (fun a => by rw [PyData.depth]; exact Nat.le_refl _) r)
theorem depth_con (c : Con) : c.d.depth ≤ 2 := by
  cases c with
  | txt s =>
    unfold Con.d
    rw [PyData.depth]
    exact Nat.zero_le _
  | tab rows =>
    unfold Con.d
    rw [PyData.depth]
    exact Nat.succ_le_succ (depth_all rowD 1 depth_row rows)
theorem shaped_rec (r : Rec) (h : okR r = true) : SeqAt.shaped r.d = true := by
  unfold okR at h
  simp only [Bool.and_eq_true] at h
  have hd := depth_con r.con
  unfold SeqAt.shaped Rec.d
  simp only [PyData.canLay0, PyData.canLayAll0, PyData.depth, PyData.depthAll, h.1, h.2.1, canLay_con _ h.2.2, Bool.and_true, Bool.true_and, decide_eq_true_eq, Nat.zero_max, Nat.max_zero]
  omega
theorem shaped_opt (o : Option Rec) (h : ∀ r, o = some r → okR r = true) : SeqAt.shaped (optD o) = true := by
  cases o with
  | none => decide
  | some r => exact shaped_rec r (h r rfl)
theorem eqv_opt (a b : Option Rec) (ha : ∀ r, a = some r → okR r = true) : PyData.eqv (optD a) (optD b) = decide (a = b) := by
  by_cases e : a = b
  · subst e
    rw [decide_eq_true rfl]
    exact SeqAt.eqv_refl _ (SeqAt.canLay_of_shaped (shaped_opt a ha))
  · rw [decide_eq_false e]
    cases q : PyData.eqv (optD a) (optD b) with
    | false => rfl
    | true =>
      exfalso
      apply e
      cases a with
      | none => cases b with
        | none => rfl
        | some r => simp [optD, Rec.d, PyData.eqv] at q
      | some r => cases b with
        | none => simp [optD, Rec.d, PyData.eqv] at q
        | some r' => rw [eqv_rec r r' q]

/-! ### a book as a map -/
theorem look_mem {bk : Bk} {n : Str} {r : Rec} (h : look bk n = some r) : (n, r) ∈ bk := by
  unfold look at h
  cases e : bk.find? fun p => decide (p.1 = n) with
  | none => rw [e] at h; cases h
  | some p =>
    rw [e] at h
    have h1 := List.find?_some e
    have h2 := List.mem_of_find?_eq_some e
    have h3 : p.1 = n := of_decide_eq_true h1
    have h4 : p.2 = r := Option.some.inj h
    rw [← h3, ← h4]
    exact h2
theorem look_of_mem : ∀ {bk : Bk} {n : Str} {r : Rec}, (bk.map (·.1)).Nodup → (n, r) ∈ bk → look bk n = some r
  | [], _, _, _, h => by cases h
  | p :: bk, n, r, nd, h => by
    rw [List.map_cons, List.nodup_cons] at nd
    unfold look
    rw [List.find?_cons]
    rcases List.mem_cons.mp h with e | h
    · rw [← e]
      simp
    · have ne : p.1 ≠ n := fun z => nd.1 (List.mem_map.mpr ⟨(n, r), h, z.symm⟩)
      rw [decide_eq_false ne]
      exact look_of_mem nd.2 h
theorem look_iff {bk : Bk} (nd : (bk.map (·.1)).Nodup) {n : Str} {r : Rec} : look bk n = some r ↔ (n, r) ∈ bk := ⟨look_mem, look_of_mem nd⟩
theorem look_none {bk : Bk} {n : Str} : look bk n = none ↔ n ∉ bk.map (·.1) := by
  constructor
  · intro h m
    obtain ⟨p, hp, e⟩ := List.mem_map.mp m
    unfold look at h
    rw [Option.map_eq_none_iff, List.find?_eq_none] at h
    exact h p hp (decide_eq_true e)
  · intro h
    unfold look
    rw [Option.map_eq_none_iff, List.find?_eq_none]
    intro p hp q
    exact h (List.mem_map.mpr ⟨p, hp, of_decide_eq_true q⟩)
theorem look_perm {a b : Bk} (nd : (a.map (·.1)).Nodup) (p : a.Perm b) (n : Str) : look a n = look b n := by
  have nd' : (b.map (·.1)).Nodup := (p.map _).nodup_iff.mp nd
  cases e : look b n with
  | none =>
    rw [look_none] at e ⊢
    exact fun m => e ((p.map _).mem_iff.mp m)
  | some r => exact look_of_mem nd (p.mem_iff.mpr (look_mem e))

/-! ### trees -/
structure Forest (bk : Bk) (lvl : Str → Nat) : Prop where
  nd : (bk.map (·.1)).Nodup
  ne : ∀ p ∈ bk, p.1 ≠ Str.empty
  ok : ∀ p ∈ bk, PyData.strOk p.1 = true ∧ okR p.2 = true
  lt : ∀ p ∈ bk, lvl p.1 < bk.length
  up : ∀ p ∈ bk, p.2.par = Str.empty ∨ ∃ q ∈ bk, q.1 = p.2.par ∧ q.2.kind = ("chapter" : Str) ∧ lvl q.1 < lvl p.1
theorem Forest.perm {a b : Bk} {lvl : Str → Nat} (F : Forest a lvl) (p : a.Perm b) : Forest b lvl where
  nd := (p.map _).nodup_iff.mp F.nd
  ne := fun q hq => F.ne q (p.mem_iff.mpr hq)
  ok := fun q hq => F.ok q (p.mem_iff.mpr hq)
  lt := fun q hq => by rw [← p.length_eq]; exact F.lt q (p.mem_iff.mpr hq)
  up := fun q hq => by
    rcases F.up q (p.mem_iff.mpr hq) with h | ⟨z, hz, h⟩
    · exact .inl h
    · exact .inr ⟨z, p.mem_iff.mp hz, h⟩
theorem Forest.nil : Forest [] (fun _ => 0) := ⟨List.nodup_nil, fun _ h => (nomatch h), fun _ h => (nomatch h), fun _ h => (nomatch h), fun _ h => (nomatch h)⟩
theorem Forest.snoc {bk : Bk} {lvl : Str → Nat} (F : Forest bk lvl) {n : Str} {r : Rec} (hn : n ∉ bk.map (·.1)) (h0 : n ≠ Str.empty) (hs : PyData.strOk n = true) (hr : okR r = true)
    (hp : r.par = Str.empty ∨ ∃ q ∈ bk, q.1 = r.par ∧ q.2.kind = ("chapter" : Str)) : Forest (bk ++ [(n, r)]) (fun m => if m = n then bk.length else lvl m) := by
  have ne : ∀ q ∈ bk, ¬ q.1 = n := fun q hq e => hn (List.mem_map.mpr ⟨q, hq, e⟩)
  refine ⟨?_, fun p hp' => ?_, fun p hp' => ?_, fun p hp' => ?_, fun p hp' => ?_⟩
  · rw [List.map_append, List.nodup_append]
    refine ⟨F.nd, by simp, fun a ha b hb e => ?_⟩
    rw [List.map_singleton, List.mem_singleton] at hb
    rw [e, hb] at ha
    exact hn ha
  · rcases List.mem_append.mp hp' with h | h
    · exact F.ne p h
    · rw [List.mem_singleton.mp h]
      exact h0
  · rcases List.mem_append.mp hp' with h | h
    · exact F.ok p h
    · rw [List.mem_singleton.mp h]
      exact ⟨hs, hr⟩
  · rw [List.length_append, List.length_singleton]
    rcases List.mem_append.mp hp' with h | h
    · have := F.lt p h
      show (if p.1 = n then bk.length else lvl p.1) < _
      rw [if_neg (ne p h)]
      omega
    · rw [List.mem_singleton.mp h]
      show (if n = n then bk.length else lvl n) < _
      rw [if_pos rfl]
      omega
  · rcases List.mem_append.mp hp' with h | h
    · rcases F.up p h with e | ⟨q, hq, e1, e2, e3⟩
      · exact .inl e
      · refine .inr ⟨q, List.mem_append_left _ hq, e1, e2, ?_⟩
        show (if q.1 = n then bk.length else lvl q.1) < (if p.1 = n then bk.length else lvl p.1)
        rw [if_neg (ne q hq), if_neg (ne p h)]
        exact e3
    · rw [List.mem_singleton.mp h]
      rcases hp with e | ⟨q, hq, e1, e2⟩
      · exact .inl e
      · refine .inr ⟨q, List.mem_append_left _ hq, e1, e2, ?_⟩
        show (if q.1 = n then bk.length else lvl q.1) < (if n = n then bk.length else lvl n)
        rw [if_neg (ne q hq), if_pos rfl]
        exact F.lt q hq

/-! ### the order of reading -/
def rkD (p : Str × Rec) : PyData := .tuple [.int p.2.rank, .str p.1]
def kids (bk : Bk) (par : Str) : Bk := (bk.filter fun p => decide (p.2.par = par)).mergeSort (dataLe false rkD)
theorem mem_kids {bk : Bk} {par : Str} {p : Str × Rec} : p ∈ kids bk par ↔ p ∈ bk ∧ p.2.par = par := by
  unfold kids
  rw [List.mem_mergeSort, List.mem_filter, decide_eq_true_eq]
def dfs : Nat → Bk → Str → Nat → List (Nat × Str × Rec)
  | 0, _, _, _ => []
  | f + 1, bk, par, dep => (kids bk par).flatMap fun p => (dep, p) :: dfs f bk p.1 (dep + 1)
def lineD (q : Nat × Str × Rec) : PyData := .tuple [.int (q.1 : Int), .str q.2.1, .str q.2.2.kind, .int q.2.2.rank, q.2.2.con.d]
/-- the way from the top to a part -/
def pathOf : Nat → Bk → Str → List (Int × Str × Str)
  | 0, _, _ => []
  | f + 1, bk, n => if n = Str.empty then [] else match look bk n with
    | none => []
    | some r => pathOf f bk r.par ++ [(r.rank, n, r.kind)]
def stepD (t : Int × Str × Str) : PyData := .tuple [.int t.1, .str t.2.1, .str t.2.2]
def pathD (p : List (Int × Str × Str)) : PyData := .tuple (p.map stepD)

/-! the order of the steps -/
theorem le_total (k : (Str × Rec) → PyData) : TotalLe (dataLe false k) := sortLe_total (PyProof.Rows.listOrd itemOrd) false fun b => keyToks (k b)
theorem le_eq (k : (Str × Rec) → PyData) (p q : Str × Rec) : dataLe false k p q = !dataLt (k q) (k p) := rfl
abbrev stepOf (p : Str × Rec) : Int × Str × Str := (p.2.rank, p.1, p.2.kind)
theorem lt_str_total {a b : Str} (ne : a ≠ b) (h : ¬ b.cps.toList < a.cps.toList) : a.cps.toList < b.cps.toList := by
  have h1 : a.cps.toList ≤ b.cps.toList := h
  rcases List.le_iff_lt_or_eq.mp h1 with h2 | h2
  · exact h2
  · exact absurd (str_of_cps h2) ne
theorem eqv_int_int (a b : Int) : PyData.eqv (.int a) (.int b) = decide (a = b) := by
  simp only [PyData.eqv]
  by_cases e : a = b
  · rw [decide_eq_true e, e]
    exact beq_self_eq_true b
  · rw [decide_eq_false e]
    exact beq_false_of_ne e
theorem eqv_str_str (a b : Str) : PyData.eqv (.str a) (.str b) = decide (a = b) := by
  simp only [PyData.eqv]
  by_cases e : a = b
  · rw [decide_eq_true e, e]
    exact beq_self_eq_true b
  · rw [decide_eq_false e]
    exact beq_false_of_ne e
/-- of two children the one ahead has the lesser step -/
theorem step_lt {p q : Str × Rec} (ne : p.1 ≠ q.1) (h : dataLe false rkD p q = true) : dataLt (stepD (stepOf p)) (stepD (stepOf q)) = true ∧ PyData.eqv (stepD (stepOf p)) (stepD (stepOf q)) = false := by
  have ea : ∀ a b : Int, alike (.int a) (.int b) = true := fun a b => by simp [alike]
  have es : ∀ a b : Str, alike (.str a) (.str b) = true := fun a b => by simp [alike]
  rw [le_eq] at h
  have h0 : dataLt (rkD q) (rkD p) = false := by simpa using h
  unfold rkD at h0
  rw [dataLt_pair (ea _ _) (es _ _), eqv_int_int, eqv_str_str, decide_eq_false (show ¬ q.1 = p.1 from fun e => ne e.symm), dataLt_str, dataLt_int] at h0
  constructor
  · unfold stepD
    rw [dataLt_tuple, dataLt_cons (ea _ _), dataLt_cons (es _ _), eqv_int_int, eqv_str_str, dataLt_int, dataLt_str]
    show (if decide (p.2.rank = q.2.rank) = true then (if decide (p.1 = q.1) = true then _ else decide (p.1.cps.toList < q.1.cps.toList)) else decide (p.2.rank < q.2.rank)) = true
    by_cases e : p.2.rank = q.2.rank
    · rw [if_pos (decide_eq_true e), decide_eq_false ne, if_neg Bool.false_ne_true]
      rw [if_pos (decide_eq_true e.symm), if_neg Bool.false_ne_true] at h0
      exact decide_eq_true (lt_str_total ne (of_decide_eq_false h0))
    · rw [if_neg (fun z => e (of_decide_eq_true z))]
      rw [if_neg (fun z => e (of_decide_eq_true z).symm)] at h0
      have h1 := of_decide_eq_false h0
      exact decide_eq_true (by omega)
  · unfold stepD
    simp only [PyData.eqv, PyData.eqvAll]
    have e : (p.1 == q.1) = false := beq_false_of_ne ne
    show ((p.2.rank == q.2.rank) && ((p.1 == q.1) && _)) = false
    rw [e, Bool.false_and, Bool.and_false]
abbrev plt (a b : List (Int × Str × Str)) : Bool := dataLt (pathD a) (pathD b)
theorem alike_step (a b : Int × Str × Str) : alike (stepD a) (stepD b) = true := by simp [stepD, alike, alikeAll]
theorem eqv_step (a : Int × Str × Str) : PyData.eqv (stepD a) (stepD a) = true := eqv_refl_alike _ (alike_step a a)
theorem plt_pre : ∀ (p a b : List (Int × Str × Str)), plt (p ++ a) (p ++ b) = plt a b
  | [], _, _ => rfl
  | x :: p, a, b => by
    have ih := plt_pre p a b
    unfold plt pathD at ih ⊢
    rw [dataLt_tuple, dataLt_tuple] at ih
    rw [dataLt_tuple, List.cons_append, List.cons_append, List.map_cons, List.map_cons, dataLt_cons (alike_step x x), if_pos (eqv_step x), ih, ← dataLt_tuple]
theorem plt_nil (x : Int × Str × Str) (r : List (Int × Str × Str)) : plt [] (x :: r) = true := by
  unfold plt pathD
  rw [dataLt_tuple, List.map_cons, toks_all_cons]
  simp only [List.map_nil, keyToksAll]
  rw [lex_diff (O := itemOrd) (by simp)]
  simp [itemLt]
theorem plt_cons {x y : Int × Str × Str} (h : dataLt (stepD x) (stepD y) = true ∧ PyData.eqv (stepD x) (stepD y) = false) (r t : List (Int × Str × Str)) : plt (x :: r) (y :: t) = true := by
  unfold plt pathD
  rw [dataLt_tuple, List.map_cons, List.map_cons, dataLt_cons (alike_step x y), h.2, if_neg Bool.false_ne_true]
  exact h.1
theorem plt_irrefl (a : List (Int × Str × Str)) : plt a a = false := lex_irrefl _
theorem plt_asymm {a b : List (Int × Str × Str)} (h : plt a b = true) : plt b a = false := by
  cases q : plt b a with
  | false => rfl
  | true =>
    have z : plt a a = true := lex_trans _ _ _ h q
    rw [plt_irrefl] at z
    cases z

/-! ### the paths -/
theorem pathOf_top (f : Nat) (bk : Bk) : pathOf f bk Str.empty = [] := by
  cases f with
  | zero => rfl
  | succ f =>
    unfold pathOf
    rw [if_pos rfl]
section
variable {bk : Bk} {lvl : Str → Nat}
theorem path_stable (F : Forest bk lvl) : ∀ (f : Nat) (n : Str), (n = Str.empty ∨ ∃ r, (n, r) ∈ bk ∧ lvl n < f) → pathOf f bk n = pathOf (f + 1) bk n
  | f, n, .inl e => by rw [e, pathOf_top, pathOf_top]
  | 0, n, .inr ⟨r, _, h⟩ => absurd h (Nat.not_lt_zero _)
  | f + 1, n, .inr ⟨r, hr, h⟩ => by
    have hn := F.ne _ hr
    have hl := look_of_mem F.nd hr
    rw [pathOf, pathOf, if_neg hn, if_neg hn, hl]
    show pathOf f bk r.par ++ [(r.rank, n, r.kind)] = pathOf (f + 1) bk r.par ++ [(r.rank, n, r.kind)]
    rw [path_stable F f r.par]
    rcases F.up _ hr with e | ⟨q, hq, e1, _, e3⟩
    · exact .inl e
    · have e1' : q.1 = r.par := e1
      refine .inr ⟨q.2, by rw [← e1']; exact hq, ?_⟩
      rw [← e1']
      have e3' : lvl q.1 < lvl n := e3
      omega
/-- the path of a part, in full -/
def pa (bk : Bk) (n : Str) : List (Int × Str × Str) := pathOf bk.length bk n
theorem pa_top : pa bk Str.empty = [] := pathOf_top _ _
theorem pa_step (F : Forest bk lvl) {p : Str × Rec} (hp : p ∈ bk) : pa bk p.1 = pa bk p.2.par ++ [stepOf p] := by
  have hn := F.ne p hp
  have hl : look bk p.1 = some p.2 := look_of_mem F.nd hp
  have hlt := F.lt p hp
  unfold pa
  obtain ⟨k, hk⟩ : ∃ k, bk.length = k + 1 := ⟨bk.length - 1, by omega⟩
  rw [hk] at hlt ⊢
  rw [pathOf, if_neg hn, hl]
  show pathOf k bk p.2.par ++ [stepOf p] = pathOf (k + 1) bk p.2.par ++ [stepOf p]
  rw [path_stable F k p.2.par]
  rcases F.up p hp with e | ⟨q, hq, e1, _, e3⟩
  · exact .inl e
  · refine .inr ⟨q.2, by rw [← e1]; exact hq, ?_⟩
    rw [← e1]
    omega
end
theorem pathOf_perm {a b : Bk} (nd : (a.map (·.1)).Nodup) (p : a.Perm b) : ∀ (f : Nat) (n : Str), pathOf f a n = pathOf f b n
  | 0, _ => rfl
  | f + 1, n => by
    rw [pathOf, pathOf, look_perm nd p]
    split
    · rfl
    · split
      · rfl
      · rw [pathOf_perm nd p f]
theorem pa_perm {a b : Bk} (nd : (a.map (·.1)).Nodup) (p : a.Perm b) (n : Str) : pa a n = pa b n := by
  unfold pa
  rw [p.length_eq]
  exact pathOf_perm nd p _ n

/-! ### the order of reading is the order of the paths -/
section
variable {bk : Bk} {lvl : Str → Nat}
theorem kids_names (nd : (bk.map (·.1)).Nodup) (par : Str) : ((kids bk par).map (·.1)).Nodup := by
  unfold kids
  rw [((List.mergeSort_perm _ _).map _).nodup_iff]
  exact (List.Sublist.map _ List.filter_sublist).nodup nd
theorem kids_sorted (nd : (bk.map (·.1)).Nodup) (par : Str) : (kids bk par).Pairwise fun p q => dataLe false rkD p q = true ∧ p.1 ≠ q.1 := by
  have h1 : (kids bk par).Pairwise fun p q => dataLe false rkD p q = true := sort_pairwise (le_total rkD) _
  have h2 : (kids bk par).Pairwise fun p q => p.1 ≠ q.1 := List.pairwise_map.mp (kids_names nd par)
  exact h1.and h2
theorem dfs_in (F : Forest bk lvl) : ∀ (f : Nat) (par : Str) (dep : Nat) (a : Nat × Str × Rec), a ∈ dfs f bk par dep →
    a.2 ∈ bk ∧ ∃ p ∈ kids bk par, ∃ rest, pa bk a.2.1 = pa bk par ++ stepOf p :: rest ∧ a.1 = dep + rest.length
  | 0, _, _, _, h => by cases h
  | f + 1, par, dep, a, h => by
    rw [dfs, List.mem_flatMap] at h
    obtain ⟨p, hp, h⟩ := h
    obtain ⟨hb, hpar⟩ := mem_kids.mp hp
    have hpa := pa_step F hb
    rw [hpar] at hpa
    rcases List.mem_cons.mp h with e | h
    · rw [e]
      exact ⟨hb, p, hp, [], hpa, rfl⟩
    · obtain ⟨h1, q, _, rest, h3, h4⟩ := dfs_in F f p.1 (dep + 1) a h
      refine ⟨h1, p, hp, stepOf q :: rest, ?_, ?_⟩
      · rw [h3, hpa, List.append_assoc, List.singleton_append]
      · rw [h4, List.length_cons]
        omega
theorem dfs_sorted (F : Forest bk lvl) : ∀ (f : Nat) (par : Str) (dep : Nat), (dfs f bk par dep).Pairwise fun a b => plt (pa bk a.2.1) (pa bk b.2.1) = true
  | 0, _, _ => List.Pairwise.nil
  | f + 1, par, dep => by
    rw [dfs, List.pairwise_flatMap]
    have blk : ∀ p ∈ kids bk par, ∀ x ∈ (dep, p) :: dfs f bk p.1 (dep + 1), ∃ rest, pa bk x.2.1 = pa bk par ++ stepOf p :: rest := fun p hp x hx => by
      obtain ⟨hb, hpar⟩ := mem_kids.mp hp
      have hpa := pa_step F hb
      rw [hpar] at hpa
      rcases List.mem_cons.mp hx with e | hx
      · rw [e]
        exact ⟨[], hpa⟩
      · obtain ⟨_, q, _, rest, h3, _⟩ := dfs_in F f p.1 (dep + 1) x hx
        refine ⟨stepOf q :: rest, ?_⟩
        rw [h3, hpa, List.append_assoc, List.singleton_append]
    refine ⟨fun p hp => ?_, (kids_sorted F.nd par).imp_of_mem fun {p q} hp hq h x hx y hy => ?_⟩
    · refine List.pairwise_cons.mpr ⟨fun y hy => ?_, dfs_sorted F f p.1 (dep + 1)⟩
      obtain ⟨_, q, _, rest, h3, _⟩ := dfs_in F f p.1 (dep + 1) y hy
      show plt (pa bk p.1) (pa bk y.2.1) = true
      rw [h3]
      have z := plt_pre (pa bk p.1) [] (stepOf q :: rest)
      rw [List.append_nil] at z
      rw [z]
      exact plt_nil _ _
    · obtain ⟨r1, e1⟩ := blk p hp x hx
      obtain ⟨r2, e2⟩ := blk q hq y hy
      rw [e1, e2, plt_pre]
      exact plt_cons (step_lt h.2 h.1) _ _
theorem dfs_grow : ∀ (f : Nat) (par : Str) (dep : Nat) (a : Nat × Str × Rec), a ∈ dfs f bk par dep → a ∈ dfs (f + 1) bk par dep
  | 0, _, _, _, h => by cases h
  | f + 1, par, dep, a, h => by
    rw [dfs, List.mem_flatMap] at h ⊢
    obtain ⟨p, hp, h⟩ := h
    refine ⟨p, hp, ?_⟩
    rcases List.mem_cons.mp h with e | h
    · exact List.mem_cons.mpr (.inl e)
    · exact List.mem_cons_of_mem _ (dfs_grow f p.1 (dep + 1) a h)
theorem dfs_more {f g : Nat} (h : f ≤ g) {par : Str} {dep : Nat} {a : Nat × Str × Rec} (ha : a ∈ dfs f bk par dep) : a ∈ dfs g bk par dep := by
  induction h with
  | refl => exact ha
  | step _ ih => exact dfs_grow _ _ _ _ ih
theorem dfs_child : ∀ (f : Nat) (par : Str) (dep : Nat) (a : Nat × Str × Rec) (c : Str × Rec), a ∈ dfs f bk par dep → c ∈ kids bk a.2.1 → ∃ d, (d, c) ∈ dfs (f + 1) bk par dep
  | 0, _, _, _, _, h, _ => by cases h
  | f + 1, par, dep, a, c, h, hc => by
    rw [dfs, List.mem_flatMap] at h
    obtain ⟨p, hp, h⟩ := h
    rcases List.mem_cons.mp h with e | h
    · rw [e] at hc
      refine ⟨dep + 1, ?_⟩
      rw [dfs, List.mem_flatMap]
      refine ⟨p, hp, List.mem_cons_of_mem _ ?_⟩
      rw [dfs, List.mem_flatMap]
      exact ⟨c, hc, List.mem_cons_self⟩
    · obtain ⟨d, hd⟩ := dfs_child f p.1 (dep + 1) a c h hc
      refine ⟨d, ?_⟩
      rw [dfs, List.mem_flatMap]
      exact ⟨p, hp, List.mem_cons_of_mem _ hd⟩
theorem dfs_all (F : Forest bk lvl) : ∀ (k : Nat) (p : Str × Rec), p ∈ bk → lvl p.1 = k → ∃ d, (d, p) ∈ dfs (k + 1) bk Str.empty 1 := by
  intro k
  induction k using Nat.strongRecOn with
  | _ k ih =>
    intro p hp hk
    rcases F.up p hp with e | ⟨q, hq, e1, _, e3⟩
    · refine ⟨1, ?_⟩
      rw [dfs, List.mem_flatMap]
      exact ⟨p, mem_kids.mpr ⟨hp, e⟩, List.mem_cons_self⟩
    · obtain ⟨d, hd⟩ := ih (lvl q.1) (by omega) q hq rfl
      obtain ⟨d', hd'⟩ := dfs_child _ _ _ _ p hd (mem_kids.mpr ⟨hp, e1.symm⟩)
      exact ⟨d', dfs_more (by omega) hd'⟩
/-- what law_lines sorts by -/
def encP (bk : Bk) (p : Str × Rec) : PyData := .tuple [pathD (pa bk p.1), .str p.1]
theorem alike_path : ∀ a b : List (Int × Str × Str), alikeAll (a.map stepD) (b.map stepD) = true
  | [], _ => by simp [alikeAll]
  | _ :: _, [] => by simp [alikeAll]
  | x :: a, y :: b => by
    rw [List.map_cons, List.map_cons, alikeAll, alike_step, alike_path a b]
    rfl
theorem alike_pathD (a b : List (Int × Str × Str)) : alike (pathD a) (pathD b) = true := by
  unfold pathD
  rw [alike]
  exact alike_path a b
theorem encP_lt {p q : Str × Rec} (h : plt (pa bk p.1) (pa bk q.1) = true) : dataLt (encP bk p) (encP bk q) = true ∧ dataLt (encP bk q) (encP bk p) = false := by
  have es : ∀ a b : Str, alike (.str a) (.str b) = true := fun a b => by simp [alike]
  have ne : ∀ a b : List (Int × Str × Str), plt a b = true → PyData.eqv (pathD a) (pathD b) = false ∧ PyData.eqv (pathD b) (pathD a) = false := fun a b hab => by
    constructor
    · cases e : PyData.eqv (pathD a) (pathD b) with
      | false => rfl
      | true =>
        have t := (toks_eqv _ _ (alike_pathD a b)).1 e
        unfold plt dataLt at hab
        rw [t, lex_irrefl] at hab
        cases hab
    · cases e : PyData.eqv (pathD b) (pathD a) with
      | false => rfl
      | true =>
        have t := (toks_eqv _ _ (alike_pathD b a)).1 e
        unfold plt dataLt at hab
        rw [t, lex_irrefl] at hab
        cases hab
  unfold encP
  rw [dataLt_pair (alike_pathD _ _) (es _ _), dataLt_pair (alike_pathD _ _) (es _ _), (ne _ _ h).1, (ne _ _ h).2, if_neg Bool.false_ne_true, if_neg Bool.false_ne_true]
  exact ⟨h, plt_asymm h⟩
/-- THE LAW IN PLAIN WORDS: the lines of a plain book, whatever the order of its records, are those sorted by the paths -/
theorem reading (F : Forest bk lvl) {pd : Bk} (pm : bk.Perm pd) {f : Nat} (hf : bk.length ≤ f) :
    dfs f pd Str.empty 1 = (bk.mergeSort (dataLe false (encP bk))).map fun p => ((pa bk p.1).length, p) := by
  have G := F.perm pm
  have hpa : ∀ n, pa pd n = pa bk n := fun n => (pa_perm F.nd pm n).symm
  have srt := dfs_sorted G f Str.empty 1
  have hdep : ∀ a ∈ dfs f pd Str.empty 1, a = ((pa bk a.2.1).length, a.2) := fun a ha => by
    obtain ⟨_, p, _, rest, h3, h4⟩ := dfs_in G f Str.empty 1 a ha
    rw [hpa, hpa, pa_top, List.nil_append] at h3
    have e : a.1 = (pa bk a.2.1).length := by
      rw [h3, h4, List.length_cons]
      omega
    rw [← e]
  have ed : dfs f pd Str.empty 1 = ((dfs f pd Str.empty 1).map (·.2)).map fun p => ((pa bk p.1).length, p) := by
    rw [List.map_map]
    have z : (dfs f pd Str.empty 1).map id = (dfs f pd Str.empty 1).map ((fun p : Str × Rec => ((pa bk p.1).length, p)) ∘ fun a => a.2) := List.map_congr_left fun a ha => hdep a ha
    rw [List.map_id] at z
    exact z
  rw [ed]
  congr 1
  have srt2 : ((dfs f pd Str.empty 1).map (·.2)).Pairwise fun p q => plt (pa bk p.1) (pa bk q.1) = true := by
    refine List.pairwise_map.mpr (srt.imp fun {a b} h => ?_)
    rw [hpa, hpa] at h
    exact h
  have nd1 : ((dfs f pd Str.empty 1).map (·.2)).Nodup := srt2.imp fun {a b} h e => by
    rw [e, plt_irrefl] at h
    cases h
  have nd2 : bk.Nodup := by
    have z := F.nd
    exact List.Pairwise.of_map (·.1) (fun _ _ hne e => hne (congrArg _ e)) z
  have pm2 : ((dfs f pd Str.empty 1).map (·.2)).Perm (bk.mergeSort (dataLe false (encP bk))) := by
    refine List.Perm.trans ?_ (List.mergeSort_perm _ _).symm
    refine (List.perm_ext_iff_of_nodup nd1 nd2).mpr fun p => ?_
    constructor
    · intro h
      obtain ⟨a, ha, e⟩ := List.mem_map.mp h
      rw [← e]
      exact pm.mem_iff.mpr (dfs_in G f Str.empty 1 a ha).1
    · intro h
      obtain ⟨d, hd⟩ := dfs_all G (lvl p.1) p (pm.mem_iff.mp h) rfl
      have hl := F.lt p h
      exact List.mem_map.mpr ⟨(d, p), dfs_more (by omega) hd, rfl⟩
  refine List.Perm.eq_of_pairwise (le := fun p q => dataLe false (encP bk) p q = true) (fun a b ha hb h1 h2 => ?_) (srt2.imp fun {a b} h => ?_) (sort_pairwise (le_total _) _) pm2
  · by_cases e : a = b
    · exact e
    · exfalso
      have hb' := pm2.mem_iff.mpr hb
      rw [le_eq] at h1 h2
      have tri : plt (pa bk a.1) (pa bk b.1) = true ∨ plt (pa bk b.1) (pa bk a.1) = true := by
        obtain ⟨i, hi, ei⟩ := List.mem_iff_getElem.mp ha
        obtain ⟨j, hj, ej⟩ := List.mem_iff_getElem.mp hb'
        have pw := List.pairwise_iff_getElem.mp srt2
        rcases Nat.lt_trichotomy i j with z | z | z
        · have q := pw i j hi hj z
          rw [ei, ej] at q
          exact .inl q
        · subst z
          exact absurd (ei.symm.trans ej) e
        · have q := pw j i hj hi z
          rw [ei, ej] at q
          exact .inr q
      rcases tri with z | z
      · have q := (encP_lt z).1
        rw [q] at h2
        cases h2
      · have q := (encP_lt z).1
        rw [q] at h1
        cases h1
  · rw [le_eq, (encP_lt h).2]
    rfl
end
end Lf

/-! rules of our own -/
namespace Lf
open PySem PySem.Spec PyProof.Rows L2
/-! ### pairs -/
theorem each_of_paired {α β : Type} {F : α → β → Prop} : ∀ {as : List α} {bs : List β}, Paired F as bs → PySem.W.EachIs F as bs
  | _, _, .nil => .nil
  | _, _, .cons h t => .cons h (each_of_paired t)
/-- the values behind data, by their V -/
theorem each_vals {β : Type} {G : V → β → Prop} : ∀ {xs : List V} {us : List Value} {bs : List β}, Paired G xs bs → Vals xs us → PySem.W.EachIs (fun v b => ∃ x, RelV x v ∧ G x b) us bs
  | _, _, _, .nil, .nil => .nil
  | _, _, _, .cons h t, .cons r q => .cons ⟨_, r, h⟩ (each_vals t q)
theorem vals_each {β : Type} {G : V → β → Prop} : ∀ {us : List Value} {bs : List β}, PySem.W.EachIs (fun v b => ∃ x, RelV x v ∧ G x b) us bs → ∃ xs, Vals xs us ∧ Paired G xs bs
  | _, _, .nil => ⟨[], .nil, .nil⟩
  | _, _, .cons ⟨x, r, h⟩ t => by
    obtain ⟨xs, q1, q2⟩ := vals_each t
    exact ⟨x :: xs, .cons r q1, .cons h q2⟩
section
variable {X : Cx}
/-! ### sorted(a list of data that compare place by place) -/
def rSortD (K : PySem.W.Frag) : List V → Hp → VK → Prop := fun vs H Q => ∃ (β : Type) (a : Addr) (xs : List V) (bs : List β) (enc : β → PyData), vs = [V.ref a] ∧ SqL K H a xs ∧ Paired (fun x b => Dp K H x (enc b)) xs bs ∧
  PySem.W.AllAlike (bs.map enc) ∧ PySem.W.Sortable (bs.map enc) ∧ bs.length ≤ 1000 ∧ (∀ b ∈ bs, (enc b).depth ≤ 20) ∧
  ∀ ys p, Paired (fun x b => Dp K H x (enc b)) ys (bs.mergeSort (PySem.W.dataLe false enc)) → H p = none → Q (.ref p) (upd H p (.lst ys))
theorem cr_sortD (hu : X.A.units + 64 < cLine) : CallR X (.builtin "sorted") (rSortD X.K) := by
  intro pins s σ H vs us Q I r h
  obtain ⟨β, a, xs, bs, enc, rfl, hs, hp, hal, hk, hl, hdp, q⟩ := h
  obtain ⟨its, rv, pl, _⟩ := I.list hs
  rw [Vals.ref1 r]
  have e := each_vals hp rv
  have er : PySem.W.EachIs (fun v b => ∃ as, Reads s.heap v (enc b) as) its bs := e.mono fun v b ⟨x, r, h⟩ => Dp.reads I (enc b) x v h r
  refine PySem.W.sorted_data pl.isList e er hal hk (Nat.le_of_lt (small1000 hl)) (fun b hb => ?_) fun out hlo ho => ?_
  · have := hdp b hb
    omega
  · obtain ⟨ep, he'⟩ := PyProof.Rows.sortedAll_at s.heap its out.toArray
    obtain ⟨ys, q1, q2⟩ := vals_each ho
    have hlen : ys.length ≤ sizeLine := by
      rw [q1.length, hlo]
      exact Nat.le_of_lt (small1000 hl)
    exact ⟨.ref _, upd H (s.heap.objs.size + 1) (.lst ys), I.laid (t' := s.toks) (fun _ _ => PyProof.Rows.sortedAll_old) (Nat.le_succ _) ⟨hlen, out, ep, q1, he'⟩, rfl, q ys _ q2 (I.hok.fresh (Nat.le_succ _))⟩
/-! ### C() where the class has no __init__ of its own -/
structure Mk0 (K : PySem.W.Frag) (C : Addr) : Prop where
  makes : PySem.W.makesIn K C = true
  init : PySem.W.findIn K (.ref C) "__init__" = some (some (.builtin "object.__init__"))
  kp : PySem.W.keepIn K (.ref C) = true
def tMk0 (C : Addr) : TE := fun _ H Q => ∀ x dx, H x = none → H dx = none → dx ≠ x → Q (.ref x) (upd (upd H dx (.own x)) x (.ins C dx []))
theorem pe_mk0 {C : Addr} {x : Str} {p pos : Pos} (M : Mk0 X.K C) (hg : Gl X x) (hm : X.mg x = some (.ref C)) (hdb : (x == ("__debug__" : Str)) = false := by decide) : PE X (.Call (.Name x p) [] [] pos) (tMk0 C) := by
  refine ⟨fun pins s σ H Q I h => ?_⟩
  refine wpAny_Call_Name_kw (ld_glob I hg hm ?_ hdb)
  refine PySem.W.callWith_K0 I.kIn M.kp ?_
  have hq := h (s.heap.objs.size + 1) s.heap.objs.size (I.hok.fresh (Nat.le_succ _)) (I.hok.fresh (Nat.le_refl _)) (Nat.ne_of_lt (Nat.lt_succ_self _))
  have I2 := Inv.made (C := C) I
  have Y := PySem.W.makes_of (M := model X.prog X.w) I.kIn M.makes
  refine wpAny_call (make_map0 I.kIn M.makes M.init (fun self => PySem.W.Looks.of_pure (PySem.W.oi_bind self)) ?_)
  have i1 : ((s.heap.push PySem.W.emptyDict).push (PySem.W.instObj C s.heap.objs.size)).get? (s.heap.objs.size + 1) = some (PySem.W.instObj C s.heap.objs.size) := by
    have z := Heap.get?_push_size (s.heap.push PySem.W.emptyDict) (o := PySem.W.instObj C s.heap.objs.size) rfl
    rwa [Heap.size_push] at z
  have t1 : PySem.W.Looks (model X.prog X.w) ((s.heap.push PySem.W.emptyDict).push (PySem.W.instObj C s.heap.objs.size)) (typeOf (.ref (s.heap.objs.size + 1))) (.ref C) := (PySem.W.Looks.ld i1).andThen .now
  have t2 : PySem.W.Looks (model X.prog X.w) ((s.heap.push PySem.W.emptyDict).push (PySem.W.instObj C s.heap.objs.size)) (isInstance (.ref (s.heap.objs.size + 1)) (.type "object")) true :=
    t1.andThen (Y.top.keeps fun b o e => Heap.get?_push_of_some _ (Heap.get?_push_of_some _ e))
  refine codeAny_call_builtin PySem.W.oi_plain PySem.W.entry_oi (@PySem.W.check_slot (model X.prog X.w) _ _ _ "object.__init__" "object" "__init__" (.ref (s.heap.objs.size + 1)) [] [] _ PySem.W.oi_kind PySem.W.oi_split t2 (PySem.W.oi_args (.ref (s.heap.objs.size + 1))) ?_)
  rw [PySem.W.oi_run]
  refine wpAny_pure (And.intro rfl ?_)
  exact ⟨V.ref (s.heap.objs.size + 1), _, I2, rfl, hq⟩
/-! ### 'a' * 60 -/
def sixty : Str := ⟨(List.replicate 60 ("a" : Str).cps).foldl (· ++ ·) #[]⟩
theorem sixty_ok : PyData.strOk sixty = true := by decide +kernel
theorem op_sixty : OpR X (binaryOp .Mult) (fun x y H Q => x = .str "a" ∧ y = .int 60 ∧ Q (.str sixty) H) := by
  intro pins s σ H x y v u Q I rx ry h
  obtain ⟨rfl, rfl, q⟩ := h
  obtain ⟨t, rfl⟩ := rx
  obtain ⟨t', rfl⟩ := ry
  refine PySem.P.mul_str (by decide) (fun _ _ => by decide +kernel) (fun _ _ => by decide +kernel) ?_
  rw [if_neg (by decide), if_neg (by decide +kernel)]
  exact ⟨by decide +kernel, ⟨.str sixty, H, I.tok _, ⟨_, rfl⟩, q⟩⟩
end
end Lf

/-! sets of texts that can be walked: the library's proofs for ints (HandS.Set, HandS.SetFor), turned to texts -/
namespace Lf
open PySem PySem.Spec PyProof.Rows L2
def keyS (e : Int × Value) : Str := match e.2 with | .str x _ => x | _ => Str.empty
def GoodS (w : World) (e : Int × Value) : Prop := ∃ k tk, e.2 = Value.str k tk ∧ e.1 = hashStr w k

/-- the set of ints at a: S its members, n their number; its table rises and can be walked -/
def SetS (w : World) (h : Heap) (a : Addr) (S : Str → Bool) (n : Nat) : Prop :=
  ∃ o es ep t, h.get? a = some o ∧ o.ExactSet ∧ o.data = .set es ep t ∧ (∀ e ∈ es.toList, GoodS w e) ∧ (es.toList.map keyS).Nodup ∧ (∀ k, S k = true ↔ k ∈ es.toList.map keyS) ∧
    es.size < scanBound ∧ t.fits es.size = true ∧ es.size = n ∧ Ris t.place.toList ∧ (w.params.followText "set-order" = true ∨ t.led = true)

section
variable {P : Program} {w : World} {h h' : Heap} {a : Addr} {S : Str → Bool} {n : Nat}

theorem SetS.at (R : SetS w h a S n) (k : ∀ o, h.get? a = some o → h'.get? a = some o) : SetS w h' a S n := by
  obtain ⟨o, es, ep, t, ho, r⟩ := R
  exact ⟨o, es, ep, t, k o ho, r⟩
theorem SetS.lt (R : SetS w h a S n) : a < h.objs.size := by
  obtain ⟨o, es, ep, t, ho, r⟩ := R
  exact Heap.lt_size ho
theorem SetS.congr {S' : Str → Bool} (R : SetS w h a S n) (e : ∀ k, S' k = S k) : SetS w h a S' n := by
  have q : S' = S := funext e
  rw [q]; exact R
theorem goodS_elems {l : List (Int × Value)} (g : ∀ e ∈ l, GoodS w e) : ElemsOf (strKind P w) l := fun e he => by
  obtain ⟨k, tk, h1, h2⟩ := g e he
  exact ⟨⟨k, by rw [h1]; exact strKind_is P w k tk, h2⟩, by rw [h1] <;> rfl⟩
theorem goodS_is {e : Int × Value} (g : GoodS w e) (k : Str) : (strKind P w).is k e.2 = true ↔ keyS e = k := by
  obtain ⟨k0, tk, h1, _⟩ := g
  unfold keyS
  rw [h1]
  show ((k0 == k) = true) ↔ k0 = k
  exact beq_iff_eq
theorem goodS_mem {l : List (Int × Value)} (g : ∀ e ∈ l, GoodS w e) (k : Str) : k ∈ l.map keyS ↔ ∃ e ∈ l, (strKind P w).is k e.2 = true := by
  rw [List.mem_map]
  constructor
  · rintro ⟨e, he, q⟩
    exact ⟨e, he, (goodS_is (g e he) k).2 q⟩
  · rintro ⟨e, he, q⟩
    exact ⟨e, he, (goodS_is (g e he) k).1 q⟩
theorem SetS.setOf (R : SetS w h a S n) : h.SetOf (strKind P w) a S n := by
  obtain ⟨o, es, ep, t, ho, hx, hd, g, nd, hm, hb, hf, hn, _⟩ := R
  exact ⟨o, es, ep, t, ho, hx, hd, goodS_elems g, fun k => (hm k).trans (goodS_mem g k), hb, hf, hn⟩
end

section
variable {P : Program} {w : World} {A : Around} {E : Value → Shared → Prop} {s : Shared} {a : Addr} {S : Str → Bool} {n : Nat}

/-! ### add -/
theorem store_at {h : Heap} {a : Addr} {o : Obj} {es es' : Array (Int × Value)} {ep : Nat} {t t' : SetTable} (ho : h.get? a = some o) (hd : o.data = .set es ep t) :
    (h.update a (Obj.putSet es' t')).get? a = some { o with data := .set es' (ep + 1) t' } := by
  have q := Heap.get?_update_self (Obj.putSet es' t') ho (by rw [putSet_of es' t' hd]; rfl)
  rw [putSet_of es' t' hd] at q
  exact q

theorem setS_add_tail {g : Bool → Sem Unit} (hg : ∀ (b : Bool) (s₁ : Shared) (Q' : Unit → Shared → Prop), Q' () s₁ → wpAny (model P w) A (g b) Q' E s₁)
    {o : Obj} {es : Array (Int × Value)} {ep : Nat} {t : SetTable} (ho : s.heap.get? a = some o) (hex : o.ExactSet) (hd : o.data = .set es ep t)
    {es1 : Array (Int × Value)} {t2 : SetTable} {S' : Str → Bool} (g1 : ∀ e ∈ es1.toList, GoodS w e) (nd1 : (es1.toList.map keyS).Nodup) (m1 : ∀ k, S' k = true ↔ k ∈ es1.toList.map keyS)
    (hb1 : es1.size < scanBound) (hf2 : t2.fits es1.size = true) (hr : Ris t2.place.toList) (hl : w.params.followText "set-order" = true ∨ t2.led = true) {wasDummy : Bool} {R : Option Bool → Shared → Prop}
    (hR : ∀ h', Heap.SameBut a s.heap h' → SetS w h' a S' es1.size → R (some true) { s with heap := h' }) :
    wpAny (model P w) A (do
        storeSet a es1 t2
        if (!wasDummy && t2.tooFull) = true then do
            g (relayAll t2 es1 (SetTable.grown es1.size)).2.2
            storeSet a (relayAll t2 es1 (SetTable.grown es1.size)).1 (relayAll t2 es1 (SetTable.grown es1.size)).2.1
            pure (some true)
          else pure (some true)) R E s := by
  refine wpAny_bind (wpAny_storeSet_of ho hd ?_ (fits_of_scanBound hb1))
  have ho1 := store_at (es' := es1) (t' := t2) ho hd
  have sb1 := Heap.SameBut.update s.heap a (Obj.putSet es1 t2)
  split
  · have pm := relayAll_perm t2 es1 (SetTable.grown es1.size)
    have hf3 := relayAll_fits t2 es1 (SetTable.grown es1.size)
    have hr3 := relayAll_ris t2 es1 (SetTable.grown es1.size)
    have hl3 := relayAll_led t2 es1 (SetTable.grown es1.size)
    generalize relayAll t2 es1 (SetTable.grown es1.size) = Z at pm hf3 hr3 hl3 ⊢
    obtain ⟨es2, t3, gave⟩ := Z
    dsimp only at pm hf3 hr3 hl3 ⊢
    have hsz : es2.size = es1.size := by rw [← Array.length_toList, pm.length_eq, Array.length_toList]
    have hb2 : es2.size < scanBound := by rw [hsz]; exact hb1
    refine wpAny_bind (hg _ _ _ ?_)
    refine wpAny_bind (wpAny_storeSet_of ho1 rfl ?_ (fits_of_scanBound hb2))
    have ho2 := store_at (es' := es2) (t' := t3) ho1 rfl
    refine wpAny_pure (hR _ (sb1.trans (Heap.SameBut.update _ a _)) ?_)
    exact ⟨_, es2, _, t3, ho2, hex, rfl, fun e he => g1 e (pm.mem_iff.mp he), (pm.map keyS).nodup_iff.mpr nd1, fun k => (m1 k).trans (pm.map keyS).mem_iff.symm, hb2, hf3, hsz, hr3,
      hl.imp id fun z => by rw [hl3]; exact z⟩
  · exact wpAny_pure (hR _ sb1 ⟨_, es1, _, t2, ho1, hex, rfl, g1, nd1, m1, hb1, hf2, rfl, hr, hl⟩)

theorem setS_add_hashed {k : Str} {tk : Tok} {Q : Bool → Shared → Prop} (R : SetS w s.heap a S n) (room : n + 1 < scanBound)
    (hQ : ∀ h', Heap.SameBut a s.heap h' → SetS w h' a (fun j => S j || decide (j = k)) (if S k = true then n else n + 1) → Q (!S k) { s with heap := h' }) :
    wpAny (model P w) A (setAddHashed a (.str k tk) ((strKind P w).hash k)) Q E s := by
  obtain ⟨o, es, ep, t, ho, hex, hd, g, nd, hm, hb, hf, hn, hr, hl⟩ := R
  have hkey : (strKind P w).is k (.str k tk) = true := strKind_is P w k tk
  have hsc : (Value.str k tk).scannable = true := rfl
  have hel : ElemsOf (strKind P w) es.toList := goodS_elems g
  unfold setAddHashed setAddHashedIn
  refine wpAny_holding (wpAny_bind (wpAny_setState_of ho hd hf ?_))
  dsimp only
  rw [byScan_of hsc hb hel]
  simp only [↓reduceIte]
  unfold setAddByScan
  refine wpAny_bind ?_
  refine wpAny_bind (wpAny_rule ?_)
  refine wpAny_bind (wpAny_setScan_of hkey ho hd hf hel ?_)
  cases hfi : List.findIdx? (fun e => (strKind P w).is k e.2) es.toList with
  | some j =>
    dsimp only
    obtain ⟨hj, pj, _⟩ := List.findIdx?_eq_some_iff_getElem.mp hfi
    have hSk : S k = true := (hm k).2 ((goodS_mem (P := P) (w := w) g k).2 ⟨es.toList[j], List.getElem_mem hj, pj⟩)
    refine wpAny_pure (wpAny_pure ?_)
    have q := hQ s.heap (Heap.SameBut.refl a s.heap) ⟨o, es, ep, t, ho, hex, hd, g, nd, fun i => by
      rw [Bool.or_eq_true, decide_eq_true_eq, ← hm i]
      exact ⟨fun z => z.elim id (fun e => e ▸ hSk), .inl⟩, hb, hf, by rw [if_pos hSk]; exact hn, hr, hl⟩
    rw [hSk] at q
    exact q
  | none =>
    dsimp only
    have hnk : k ∉ es.toList.map keyS := fun z => by
      obtain ⟨e, he, q⟩ := (goodS_mem (P := P) (w := w) g k).1 z
      have c := List.findIdx?_eq_none_iff.mp hfi e he
      rw [q] at c
      cases c
    have hSk : S k = false := by
      cases q : S k with
      | false => rfl
      | true => exact absurd ((hm k).1 q) hnk
    have hgw : ∀ (b : Bool) {s₁ : Shared} {Q' : Unit → Shared → Prop}, Q' () s₁ → wpAny (model P w) A (match b with | true => rule "set.scan.the-table-gave-way" | false => pure ()) Q' E s₁ :=
      fun b s₁ Q' q => by cases b <;> first | exact wpAny_pure q | exact wpAny_rule q
    have pm := layNew_perm t es ((strKind P w).hash k) (.str k tk)
    have hf1 := layNew_fits t es ((strKind P w).hash k) (.str k tk)
    have hr1 := layNew_ris t es ((strKind P w).hash k) (.str k tk) hr
    have hl1 := layNew_led t es ((strKind P w).hash k) (.str k tk)
    generalize layNew t es ((strKind P w).hash k) (.str k tk) = Z at pm hf1 hr1 hl1 ⊢
    obtain ⟨es1, t1, wasDummy, gave⟩ := Z
    dsimp only at pm hf1 hr1 hl1 ⊢
    rw [Array.toList_push] at pm
    have pc : es1.toList.Perm (((strKind P w).hash k, Value.str k tk) :: es.toList) := pm.trans (List.perm_append_singleton _ _)
    have pk : (es1.toList.map keyS).Perm (k :: es.toList.map keyS) := pc.map keyS
    have g1 : ∀ e ∈ es1.toList, GoodS w e := fun e he => by
      rcases List.mem_cons.mp (pc.mem_iff.mp he) with z | z
      · rw [z]; exact ⟨k, tk, rfl, rfl⟩
      · exact g e z
    have nd1 : (es1.toList.map keyS).Nodup := pk.nodup_iff.mpr (List.nodup_cons.mpr ⟨hnk, nd⟩)
    have m1 : ∀ i, (S i || decide (i = k)) = true ↔ i ∈ es1.toList.map keyS := fun i => by
      rw [Bool.or_eq_true, decide_eq_true_eq, hm i, pk.mem_iff, List.mem_cons]
      exact Or.comm
    have hsz : es1.size = n + 1 := by rw [← Array.length_toList, pc.length_eq, List.length_cons, Array.length_toList, hn]
    have hb1 : es1.size < scanBound := by rw [hsz]; exact room
    have hled : w.params.followText "set-order" = true ∨ t1.led = true := hl.imp id fun z => by rw [hl1]; exact z
    have fin : ∀ h', Heap.SameBut a s.heap h' → SetS w h' a (fun j => S j || decide (j = k)) es1.size → Q true { s with heap := h' } := fun h' sb r => by
      have q := hQ h' sb
      rw [hSk] at q
      rw [hsz] at r
      exact q r
    refine wpAny_bind (hgw _ ?_)
    split
    · refine wpAny_bind ?_
      rw [hashByValue_scannable 8 hsc]
      refine wpAny_pure ?_
      refine setS_add_tail ?_ ho hex hd g1 nd1 m1 hb1 ?_ ?_ ?_ ?_
      · intro b s₁ Q' q; cases b <;> first | exact wpAny_pure q | exact wpAny_rule q
      · first | (split <;> first | exact hf1 | exact SetTable.fits_plain_off hf1) | exact hf1
      · first | (split <;> exact hr1) | exact hr1
      · first | (split <;> exact hled) | exact hled
      · intro h' sb r; dsimp only; exact wpAny_pure (fin h' sb r)
    · refine wpAny_bind (wpAny_pure ?_)
      simp only [↓reduceIte]
      refine setS_add_tail ?_ ho hex hd g1 nd1 m1 hb1 hf1 hr1 hled ?_
      · intro b s₁ Q' q; cases b <;> first | exact wpAny_pure q | exact wpAny_rule q
      · intro h' sb r; dsimp only; exact wpAny_pure (fin h' sb r)

end
theorem setS_new_at {w : World} {h : Heap} {a : Addr} {ns : List Str} (ho : h.get? a = some { cls := .type "set", dict := none, data := .set #[] 0 (.fresh 0 0 (!w.params.followText "set-order")) }) : SetS w h a (fun j => decide (j ∈ ns.take 0)) 0 :=
  ⟨_, #[], 0, _, ho, ⟨rfl, rfl, rfl⟩, rfl, (fun e he => by simp at he), (by simp), (fun k => by simp), (by decide), (by rfl), rfl, List.Pairwise.nil, by
    show _ ∨ (!w.params.followText "set-order") = true
    cases w.params.followText "set-order"
    · exact .inr rfl
    · exact .inl rfl⟩
section
variable {P : Program} {w : World} {A : Around} {E : Value → Shared → Prop} {s : Shared}
theorem set_update_strs {I : Addr} {fp wr : List Addr} {G : Array GenState → Array GenState → Prop} {n : Nat} {Pv : Nat → Value → Prop} {St : Nat → Shared → Prop} {R : Result → Shared → Prop}
    (W : WalksS P w A.in1 I fp wr G n Pv St) (S : Addr) (hSf : S ∉ fp) (ns : List Str) (hn : n = ns.length) (hb : ns.length + 1 < scanBound) (hval : ∀ i v, Pv i v → ∃ k t, ns[i]? = some k ∧ v = .str k t) :
    ∀ (k i : Nat) (s : Shared), n - i = k → i ≤ n → St i s → (∃ c, c ≤ i ∧ SetS w s.heap S (fun j => decide (j ∈ ns.take i)) c) →
      (∀ s' c, Moved (S :: wr) G s s' → c ≤ n → SetS w s'.heap S (fun j => decide (j ∈ ns)) c → R (.ok (.ret .none)) s') →
      codeAny (model P w) A (.builtin "set.update.loop" ⟨[.ref S, .ref I], []⟩) R s := by
  have hSw : S ∉ wr := fun h => hSf (W.sub _ h)
  have hsub : ∀ b ∈ wr, b ∈ S :: wr := fun b hb => List.mem_cons_of_mem _ hb
  intro k
  induction k with
  | zero =>
    intro i s hk' hi hst ⟨c, hc, hS⟩ hR
    have hin : i = n := by omega
    subst hin
    refine codeAny_builtin F.entry_set_update_loop ?_
    rw [Around.under_plainId F.plain_set_update_loop _]
    show wpAny _ A.in1 (pyNext (.ref I) >>= _) _ _ s
    refine wpAny_bind (W.done s _ _ hst fun s' hm => ?_)
    show wpAny _ A.in1 (ret Value.none) _ _ s'
    have e : ns.take i = ns := List.take_of_length_le (by omega)
    rw [e] at hS
    exact wpAny_pure (hR s' c (hm.mono hsub) hc (hS.at fun o e => hm.heap S o hSw e))
  | succ k ih =>
    intro i s hk' hi hst ⟨c, hc, hS⟩ hR
    have hlt : i < n := by omega
    refine codeAny_builtin F.entry_set_update_loop ?_
    rw [Around.under_plainId F.plain_set_update_loop _]
    show wpAny _ A.in1 (pyNext (.ref I) >>= _) _ _ s
    refine wpAny_bind (W.item i s _ _ hlt hst fun v s' hP hst' hm => ?_)
    obtain ⟨z, t, hz, rfl⟩ := hval i v hP
    have hS' : SetS w s'.heap S (fun j => decide (j ∈ ns.take i)) c := hS.at fun o e => hm.heap S o hSw e
    show wpAny _ A.in1 (holding [Value.str z t] (setAdd S (.str z t)) >>= _) _ _ s'
    refine wpAny_bind (wpAny_holding ?_)
    unfold setAdd
    refine wpAny_holding ?_
    refine wpAny_bind ((strKind P w).pyHash (k := z) (strKind_is _ _ _ _) ?_)
    refine setS_add_hashed (s := { s' with toks := s'.toks + 1 }) hS' (by omega) fun h' hsb hS2 => ?_
    have hS3 : SetS w h' S (fun j => decide (j ∈ ns.take (i + 1))) (if decide (z ∈ ns.take i) = true then c else c + 1) := hS2.congr fun j => by
      rw [List.take_add_one, hz]
      simp [List.mem_append]
    have hc3 : (if decide (z ∈ ns.take i) = true then c else c + 1) ≤ i + 1 := by
      split <;> omega
    refine wpAny_pure ⟨plainId_quiet F.plain_set_update_loop _, ih (i + 1) _ (by omega) hlt (W.frame _ s' _ _ hst' (Nat.le_succ _) fun b hb o e => ?_) ⟨_, hc3, hS3⟩ fun s'' c2 hm'' hc'' hS'' => ?_⟩
    · rw [hsb.2 b (fun h : b = S => hSf (by rw [← h]; exact hb))]; exact e
    · refine hR s'' c2 (Moved.trans W.gtrans ((hm.mono hsub).then_heap (Nat.le_succ _) fun b o hb e => ?_) hm'') hc'' hS''
      rw [hsb.2 b (fun h : b = S => hb (by rw [h]; exact List.mem_cons_self))]; exact e
set_option maxRecDepth 100000 in
set_option maxHeartbeats 3200000 in
theorem call_set_listS {l : Addr} {items : Array Value} (ns : List Str) {Q : Value → Shared → Prop} (hh : A.handled = none) (hl : s.heap.IsList l items) (hit : StrsAre items.toList ns) (hb : ns.length + 1 < scanBound)
    (h : ∀ (h' : Heap) (tk c : Nat), SetS w h' s.heap.objs.size (fun j => decide (j ∈ ns)) c → c ≤ ns.length → (∀ b o, s.heap.get? b = some o → h'.get? b = some o) → Q (.ref s.heap.objs.size) { s with heap := h', toks := tk }) :
    wpAny (model P w) A (call (.type "set") [.ref l]) Q E s := by
  have hisz : items.size = ns.length := by
    have q := StrsAre.length hit
    rw [Array.length_toList] at q
    exact q
  obtain ⟨c, tl, hmro⟩ := F.called_set.mro
  have hmade := F.called_set.made
  have hsub := F.called_set.sub
  refine wpAny_call (codeAny_of_tree ?_)
  show wpAny _ _ (callAny (.type "set") _) _ _ _
  refine wpAny_pure ⟨Code.quiet_builtin _ (by decide +kernel), codeAny_builtin F.entry_type_call ?_⟩
  rw [Around.under_plain (weight_type_call_type "set" [.ref l] []) rfl]
  have h1 := F.called_set.notType
  have h2 := F.called_set.canCreate
  have hct := F.typeCall_set_1 (.ref l)
  repeat (any_goals (first | assumption | wp_step))

  refine codeAny_mono (code_set_led1 (.ref l) (E := E) (Q₁ := fun obj s₁ => obj = .ref s.heap.objs.size ∧ s₁ = { s with heap := s.heap.push { cls := .type "set", dict := none, data := .set #[] 0 (.fresh 0 0 (!w.params.followText "set-order")) } }) ⟨rfl, rfl⟩) fun r s₁ hr => ?_
  cases r with
  | error e => exact hr
  | ok fl =>
    cases fl with
    | ret obj =>
      obtain ⟨rfl, rfl⟩ := hr
      have hS : (s.heap.push { cls := .type "set", dict := none, data := .set #[] 0 (.fresh 0 0 (!w.params.followText "set-order")) }).get? s.heap.objs.size = some { cls := .type "set", dict := none, data := .set #[] 0 (.fresh 0 0 (!w.params.followText "set-order")) } := Heap.get?_push_size _ rfl
      have hT : Shared.TypeIs { s with heap := s.heap.push { cls := .type "set", dict := none, data := .set #[] 0 (.fresh 0 0 (!w.params.followText "set-order")) } } (.ref s.heap.objs.size) "set" := ⟨_, hS, rfl⟩
      have hli := F.called_set.init.lookup
      have hbi := F.called_set.init.bind (.ref s.heap.objs.size)
      repeat (any_goals (first | assumption | wp_step))

      refine codeAny_mono (codeAny_call_builtin (R := wants (fun r s₂ => r = .none ∧ ∃ h' tk c, s₂ = { s with heap := h', toks := tk } ∧ SetS w h' s.heap.objs.size (fun j => decide (j ∈ ns)) c ∧ c ≤ ns.length ∧
          (∀ b o, s.heap.get? b = some o → h'.get? b = some o)) E) F.called_set.init.plain F.entry_set_init (check_set_init_1 hT ?_)) fun r₂ s₂ hr₂ => ?_
      · obtain ⟨ol, hol, hcl, nl, hdl⟩ := hl
        obtain ⟨ocls, odict, odata, oslots⟩ := ol
        simp only at hcl hdl
        subst hcl; subst hdl
        have hol' : (s.heap.push { cls := .type "set", dict := none, data := .set #[] 0 (.fresh 0 0 (!w.params.followText "set-order")) }).get? l = some { cls := .type "list", dict := odict, data := .seq items nl, slots := oslots } := Heap.get?_push_of_some _ hol
        have hsls := F.sub_list_set
        have hslf := F.sub_list_frozenset
        have hne : (Value.type "list" == Value.type "dict") = false := by decide
        have hl1 : (s.heap.push { cls := .type "set", dict := none, data := .set #[] 0 (.fresh 0 0 (!w.params.followText "set-order")) }).IsList l items := ⟨_, hol', rfl, nl, rfl⟩
        unfold Builtin.«set.__init__» noKeywords Builtin.Frozenset.updateFrom
        generalize hPI : pyIter = PI
        wp_walk
        subst hPI

        refine wpAny_pyIter_list hl1 ?_
        refine wpAny_bind (wpAny_runValue ?_)
        have hlS : l < s.heap.objs.size := Heap.lt_size hol
        have hh3 : A.in1.in1.in1.handled = none := by simp [hh]
        have hz1 : (s.heap.push { cls := .type "set", dict := none, data := .set #[] 0 (.fresh 0 0 (!w.params.followText "set-order")) }).objs.size = s.heap.objs.size + 1 := Heap.size_push ..
        have hneI : l ≠ (s.heap.push { cls := .type "set", dict := none, data := .set #[] 0 (.fresh 0 0 (!w.params.followText "set-order")) }).objs.size := by
          rw [Heap.size_push]; exact Nat.ne_of_lt (Nat.lt_succ_of_lt hlS)
        have hSf : s.heap.objs.size ∉ [(s.heap.push { cls := .type "set", dict := none, data := .set #[] 0 (.fresh 0 0 (!w.params.followText "set-order")) }).objs.size, l] := by
          rw [Heap.size_push]; simp only [List.mem_cons, List.mem_singleton, List.not_mem_nil, or_false, not_or]
          exact ⟨Nat.ne_of_lt (Nat.lt_succ_self _), Nat.ne_of_gt hlS⟩
        have hval : ∀ (i : Nat) (v : Value), items[i]? = some v → ∃ k t, ns[i]? = some k ∧ v = .str k t := fun i v hv => by
          have hi : i < ns.length := by rw [← hisz]; exact (Array.getElem?_eq_some_iff.mp hv).1
          obtain ⟨t, e⟩ := SS.strs_at hit i v (by rw [Array.getElem?_toList]; exact hv)
          refine ⟨ns[i], t, List.getElem?_eq_getElem hi, ?_⟩
          rw [e, List.getD_eq_getElem?_getD, List.getElem?_eq_getElem hi] <;> rfl
        refine set_update_strs ((Walks.list hh3 _ l hneI items).toS) s.heap.objs.size
          hSf ns hisz hb hval (items.size - 0) 0 _ (by omega) (Nat.zero_le _)
          ⟨⟨_, Heap.get?_push_size _ rfl, rfl, rfl⟩, (hl1.push _)⟩ ?hS0 ?hR
        case hS0 =>
          have hget : ((s.heap.push { cls := .type "set", dict := none, data := .set #[] 0 (.fresh 0 0 (!w.params.followText "set-order")) }).push { cls := .type "list_iterator", data := .fields #[.ref l, .int 0 0] }).get? s.heap.objs.size
              = some { cls := .type "set", dict := none, data := .set #[] 0 (.fresh 0 0 (!w.params.followText "set-order")) } := Heap.get?_push_of_some _ hS
          exact ⟨0, Nat.le_refl 0, setS_new_at hget⟩
        case hR =>
          intro s' c' hm hc' hS'
          obtain ⟨h', g2, d', tk', os'⟩ := s'
          have eg : g2 = s.gens := hm.gens
          have ed : d' = s.drawn := hm.drawn
          have eo : os' = s.os := hm.os
          subst eg; subst ed; subst eo
          show wpAny _ _ _ _ _ _
          refine wpAny_pure ?_
          show wpAny _ _ (ret Value.none) _ _ _
          rw [hisz] at hc'
          refine wpAny_pure ⟨rfl, h', tk', c', rfl, hS', hc', fun b o e => ?_⟩
          have hb0 : b < s.heap.objs.size := Heap.lt_size e
          have hb1 : b ≠ s.heap.objs.size := Nat.ne_of_lt hb0
          have hb2 : b ≠ (s.heap.push { cls := .type "set", dict := none, data := .set #[] 0 (.fresh 0 0 (!w.params.followText "set-order")) }).objs.size := by
            rw [Heap.size_push]; exact Nat.ne_of_lt (Nat.lt_succ_of_lt hb0)
          exact hm.heap b o (by simp only [List.mem_cons, List.mem_singleton, List.not_mem_nil, or_false, not_or]; exact ⟨hb1, hb2⟩) (Heap.get?_push_of_some _ (Heap.get?_push_of_some _ e))

      · cases r₂ with
        | error e => exact hr₂
        | ok fl₂ =>
          cases fl₂ with
          | ret r =>
            obtain ⟨rfl, h', tk, c', rfl, hS', hc', hk'⟩ := hr₂
            repeat (any_goals (first | assumption | wp_step))
            exact h _ _ _ hS' hc' hk'
          | _ => exact hr₂.elim
    | _ => exact hr.elim

end

section
variable {P : Program} {w : World} {A : Around} {E : Value → Shared → Prop} {s : Shared} {a : Addr}
def txtOf : Value → Str
  | .str x _ => x
  | _ => Str.empty
theorem each_txt : ∀ vs : List Value, (∀ v ∈ vs, ∃ k tk, v = Value.str k tk) → PySem.W.EachIs (fun v b => ∃ t, v = Value.str b t) vs (vs.map txtOf)
  | [], _ => .nil
  | v :: vs, h => by
    obtain ⟨k, tk, rfl⟩ := h v List.mem_cons_self
    exact .cons ⟨tk, rfl⟩ (each_txt vs fun u hu => h u (List.mem_cons_of_mem _ hu))
theorem vals_txt : ∀ {vs : List Value} {bs : List Str}, PySem.W.EachIs (fun v b => ∃ t, v = Value.str b t) vs bs → Vals (bs.map V.str) vs
  | _, _, .nil => .nil
  | _, _, .cons ⟨t, e⟩ r => .cons ⟨t, e⟩ (vals_txt r)
/-- sorted(a set of texts) -/
theorem sorted_setS {S : Str → Bool} {n : Nat} {Q : Value → Shared → Prop} (R : SetS w s.heap a S n) (hh : A.handled = none) (h64 : n ≤ 1000) (hu : A.units + 64 < cLine)
    (hQ : ∀ s' p (out : List Value) (c : Nat) (ns : List Str), (∀ b o, s.heap.get? b = some o → s'.heap.get? b = some o) → s'.gens = s.gens → s'.os = s.os → s.heap.objs.size ≤ p →
      s'.heap.get? p = some (seqObj "list" out.toArray c) → Vals (ns.map V.str) out → ns.Nodup → (∀ k, k ∈ ns ↔ S k = true) → ns.length = n → Q (.ref p) s') :
    wpAny (model P w) A (call (.builtin "sorted") [.ref a]) Q E s := by
  obtain ⟨o, es, ep, t, ho, hex, hd, g, nd, hm, hb, hf, hn, hr, hl⟩ := R
  refine Calls.call_function_entry kind_sorted plain_sorted entry_sorted (args_sorted1 _) ?_
  unfold Builtin.«sorted»
  refine wpAny_bind (m := checkCount "sorted" 1 1 _) (wpAny_pure ?_)
  refine wpAny_bind (collect_set (A := A.in1) hh ⟨o, ho, hex.1, hd⟩ hf hb hr hl fun s1 vs k1 hz g1 o1 pm => ?_)
  have hvl : vs.length = n := by rw [pm.length_eq, List.length_map, Array.length_toList]; exact hn
  have hI : ∀ v ∈ vs, ∃ k tk, v = Value.str k tk := fun v hv => by
    obtain ⟨e, he, q⟩ := List.mem_map.mp (pm.mem_iff.mp hv)
    obtain ⟨k, tk, h1, _⟩ := g e he
    exact ⟨k, tk, by rw [← q]; exact h1⟩
  have ev := each_txt vs hI
  have pk : (vs.map txtOf).Perm (es.toList.map keyS) := by
    have q := pm.map txtOf
    rw [List.map_map] at q
    exact q
  have hline : vs.length ≤ sizeLine := by
    rw [hvl]
    exact Nat.le_of_lt (small1000 h64)
  refine wpAny_bind (wpAny_newList ?_ hline)
  have hoL : (s1.heap.push (seqObj "list" vs.toArray 0)).get? s1.heap.objs.size = some (seqObj "list" vs.toArray 0) := Heap.get?_push_size _ rfl
  have hal : PySem.W.AllAlike ((vs.map txtOf).map PyData.str) := PySem.W.AllAlike.of fun b b' => by simp [PySem.W.alike]
  have hk : PySem.W.Sortable ((vs.map txtOf).map PyData.str) := PySem.W.Sortable.others fun b => ⟨by simp, by simp⟩
  refine wpAny_bind (wpAny_holding (PySem.W.list_sort_data (n := 0) (bs := vs.map txtOf) (enc := PyData.str) (R := fun v b => ∃ t, v = Value.str b t) hoL ev
    (ev.mono fun v b ⟨t, e⟩ => ⟨[], by rw [e]; exact .str b t, by simp⟩) hal hk (by rw [List.length_map]; exact hline) (fun b _ => ?_) fun out hlo ho2 => ?_))
  · rw [PyData.depth]
    show A.units + 1 + 1 + 0 < cLine
    omega
  · obtain ⟨c, hc⟩ := sortedHeap_at (vs := vs) (out := out.toArray) hoL
    have pn : ((vs.map txtOf).mergeSort (PySem.W.dataLe false PyData.str)).Perm (es.toList.map keyS) := (List.mergeSort_perm _ _).trans pk
    refine wpAny_pure ⟨_, rfl, hQ _ s1.heap.objs.size out c _ (fun b u e => ?_) g1 o1 hz hc (vals_txt ho2) (pn.nodup_iff.mpr nd) (fun k => by rw [pn.mem_iff, ← hm k]) ?_⟩
    · have q := k1 b u e
      have hlt := Heap.lt_size q
      show (sortedHeap (s1.heap.push (seqObj "list" vs.toArray 0)) s1.heap.objs.size vs out.toArray).get? b = some u
      rw [sortedHeap_old (Nat.ne_of_lt hlt) (by rw [size_push']; exact Nat.lt_succ_of_lt hlt)]
      exact Heap.get?_push_of_some _ q
    · rw [List.length_mergeSort, List.length_map]
      exact hvl
end
/-! ### over the layer -/
def SetSO (w : World) (a : Addr) (S : Str → Bool) (n : Nat) : HO := .ext fun h => SetS w h a S n
section
variable {X : Cx}
theorem setSO_new {w : World} {P : Program} {H : Hp} {h : Heap} {a : Addr} {S : Str → Bool} {n : Nat} (R : SetS w h a S n) : ObjOk P w H h a (SetSO w a S n) := by
  have ⟨o, _, _, _, ho, _⟩ := R
  exact ⟨R, ⟨o, ho⟩, fun h1 h2 p k => SetS.at p k⟩
/-- set(a list of texts) -/
def rSetS (K : PySem.W.Frag) (w : World) : List V → Hp → VK → Prop := fun xs H Q => ∃ (l : Addr) (ns : List Str), xs = [V.ref l] ∧ SqL K H l (ns.map V.str) ∧ ns.length ≤ 1000 ∧
  ∀ a c, H a = none → c ≤ 1000 → Q (.ref a) (upd H a (SetSO w a (fun j => decide (j ∈ ns)) c))
theorem cr_setS (hc : X.calm = true) : CallR X (.type "set") (rSetS X.K X.w) := by
  intro pins s σ H vs us Q I r h
  obtain ⟨l, ns, rfl, hs, hz, q⟩ := h
  obtain ⟨its, rv, pl, _⟩ := I.list hs
  rw [Vals.ref1 r]
  refine call_set_listS ns (I.ok.hd hc) pl.isList (by rw [List.toList_toArray]; exact rv.strs) (Nat.lt_of_le_of_lt (Nat.succ_le_succ hz) (by decide)) fun h' tk c R hcl k => ?_
  have hn : H s.heap.objs.size = none := I.hok.fresh (Nat.le_refl _)
  exact ⟨.ref _, upd H s.heap.objs.size (SetSO X.w s.heap.objs.size (fun j => decide (j ∈ ns)) c), I.laid (t' := tk) k (Nat.le_refl _) (setSO_new R), rfl, q _ c hn (Nat.le_trans hcl hz)⟩
/-- sorted(such a set) -/
def rSortS (w : World) : List V → Hp → VK → Prop := fun vs H Q => ∃ (a : Addr) (S : Str → Bool) (n : Nat), vs = [V.ref a] ∧ H a = some (SetSO w a S n) ∧ n ≤ 1000 ∧
  ∀ (ns : List Str) (p : Addr), ns.Nodup → (∀ k, k ∈ ns ↔ S k = true) → ns.length = n → H p = none → Q (.ref p) (upd H p (.lst (ns.map V.str)))
theorem cr_sortS (hc : X.calm = true) (hu : X.A.units + 64 < cLine) : CallR X (.builtin "sorted") (rSortS X.w) := by
  intro pins s σ H vs us Q I r h
  obtain ⟨a, S, n, rfl, ha, h64, q⟩ := h
  have R : SetS X.w s.heap a S n := (I.hok a _ ha).1
  rw [Vals.ref1 r]
  refine sorted_setS R (I.ok.hd hc) h64 hu fun s' p out c ns k g o hp hg hv hnd hm hl => ?_
  have hlen : (ns.map V.str).length ≤ sizeLine := by
    rw [List.length_map, hl]
    exact Nat.le_of_lt (small1000 h64)
  have hn : H p = none := I.hok.fresh hp
  have J : Inv X pins σ (upd H p (.lst (ns.map V.str))) { s with heap := s'.heap, gens := s'.gens, drawn := s'.drawn, toks := s'.toks } :=
    I.call (ch := []) (Un.laid k hp hn) (I.hok.laid k hp ⟨hlen, out, c, hv, hg⟩) (by rw [g]; exact I.bare) (fun _ z => nomatch z)
  have e : s' = { s with heap := s'.heap, gens := s'.gens, drawn := s'.drawn, toks := s'.toks } := by
    cases s'
    cases s
    cases o
    rfl
  rw [e]
  exact ⟨.ref p, _, J, rfl, q ns p hnd hm hl hn⟩
end
end Lf

/-! heaps: records, books, lines; what stays -/
namespace Lf
open PySem PySem.Spec PyProof.Rows L2
/-! ### what stays -/
/-- all tuples are as they were -/
def TSt (H H' : Hp) : Prop := ∀ a xs, Rd H a (.tup xs) → Rd H' a (.tup xs)
theorem TSt.refl (H : Hp) : TSt H H := fun _ _ h => h
theorem TSt.trans {H H1 H2 : Hp} (a : TSt H H1) (b : TSt H1 H2) : TSt H H2 := fun p xs h => b p xs (a p xs h)
theorem TSt.same {H H' : Hp} (s : Same H H') : TSt H H' := fun a xs h => h.elim (fun e => .inl (s _ _ e)) fun ⟨o, e⟩ => .inr ⟨o, s _ _ e⟩
/-- all but the object at d is as it was -/
def KeepB (d : Addr) (H H' : Hp) : Prop := ∀ b o, b ≠ d → H b = some o → H' b = some o
theorem KeepB.refl (d : Addr) (H : Hp) : KeepB d H H := fun _ _ _ h => h
theorem KeepB.trans {d : Addr} {H H1 H2 : Hp} (a : KeepB d H H1) (b : KeepB d H1 H2) : KeepB d H H2 := fun p o n h => b p o n (a p o n h)
theorem KeepB.same {d : Addr} {H H' : Hp} (s : Same H H') : KeepB d H H' := fun b o _ h => s b o h
theorem KeepB.upd (d : Addr) (H : Hp) (o : HO) : KeepB d H (upd H d o) := fun b u n h => by rw [upd_ne n]; exact h
def noTup : HO → Bool
  | .tup _ => false
  | .frz _ _ => false
  | _ => true
theorem TSt.keep {d : Addr} {H H' : Hp} {o : HO} (k : KeepB d H H') (e : H d = some o) (n : noTup o = true) : TSt H H' := fun a xs h => by
  rcases h with h | ⟨ob, h⟩
  · have ne : a ≠ d := fun z => by
      rw [z, e] at h
      have h2 := Option.some.inj h
      rw [h2] at n
      cases n
    exact .inl (k _ _ ne h)
  · have ne : a ≠ d := fun z => by
      rw [z, e] at h
      have h2 := Option.some.inj h
      rw [h2] at n
      cases n
    exact .inr ⟨ob, k _ _ ne h⟩
theorem TSt.put {d : Addr} {H : Hp} {o u : HO} (e : H d = some o) (n : noTup o = true) : TSt H (upd H d u) := TSt.keep (KeepB.upd d H u) e n
theorem same_new {H : Hp} {p : Addr} {o : HO} (h : H p = none) : Same H (upd H p o) := fun b u q => by rw [upd_ne (ne_of_none q h)]; exact q
/-- a later store at an object that is new since H -/
theorem Same.put {H H1 : Hp} {p : Addr} {o : HO} (s : Same H H1) (h : H p = none) : Same H (upd H1 p o) := fun b u q => by rw [upd_ne (ne_of_none q h)]; exact s b u q
theorem Same.keep {H H1 H2 : Hp} {p : Addr} (s : Same H H1) (h : H p = none) (k : KeepB p H1 H2) : Same H H2 := fun b u q => k b u (ne_of_none q h) (s b u q)
theorem none_of_same {H H' : Hp} {p : Addr} (s : Same H H') (h : H' p = none) : H p = none := Same.free s h
/-- the lock: d read within, as it was behind -/
theorem same_lock {H H' : Hp} {d : Addr} {u : HO} {od : Obj} (e : H d = some u) (s : Same (upd H d (.frz od u)) H') : Same H (upd H' d u) := fun b o q => by
  by_cases z : b = d
  · rw [z] at q ⊢
    rw [upd_same, ← e]
    exact q
  · rw [upd_ne z]
    refine s b o ?_
    rw [upd_ne z]
    exact q
theorem tst_lock {H : Hp} {d : Addr} {u : HO} {od : Obj} (e : H d = some u) (n : noTup u = true) : TSt H (upd H d (.frz od u)) := TSt.put e n
theorem rd_of {H : Hp} {a : Addr} {u : HO} (h : H a = some u) : Rd H a u := .inl h
theorem rd_frz {H : Hp} {a : Addr} {u : HO} {o : Obj} (h : H a = some (.frz o u)) : Rd H a u := .inr ⟨o, h⟩
theorem rd_same {H H' : Hp} {a : Addr} {u : HO} (s : Same H H') (h : Rd H a u) : Rd H' a u := h.elim (fun e => .inl (s _ _ e)) fun ⟨o, e⟩ => .inr ⟨o, s _ _ e⟩
section
variable {K : PySem.W.Frag} {H H' : Hp}
theorem sqT_st {a : Addr} {xs : List V} (t : TSt H H') (h : SqT K H a xs) : SqT K H' a xs := by
  rcases h with h | h
  · exact .inl (t _ _ h)
  · exact .inr h
theorem sqT_of {a : Addr} {xs : List V} (h : H a = some (.tup xs)) : SqT K H a xs := .inl (.inl h)
theorem sqL_of {a : Addr} {xs : List V} (h : H a = some (.lst xs)) : SqL K H a xs := .inl (.inl h)
/-! ### contents -/
theorem dpAll_strs {xs : List V} : ∀ {r : List Str}, DpAll K H xs (r.map .str) → xs = r.map V.str
  | [], h => by cases h; rfl
  | x :: r, h => by
    rw [List.map_cons] at h
    cases h with
    | cons h1 h2 =>
      cases h1
      rw [dpAll_strs h2]
      rfl
theorem strs_dpAll : ∀ r : List Str, DpAll K H (r.map V.str) (r.map .str)
  | [] => .nil
  | x :: r => .cons (.str x) (strs_dpAll r)
theorem dp_row {v : V} {r : List Str} (h : Dp K H v (rowD r)) : ∃ a, v = .ref a ∧ SqT K H a (r.map V.str) := by
  unfold rowD at h
  cases h with
  | tup h1 h2 =>
    rw [dpAll_strs h2] at h1
    exact ⟨_, rfl, h1⟩
theorem row_dp {a : Addr} {r : List Str} (h : SqT K H a (r.map V.str)) : Dp K H (.ref a) (rowD r) := .tup h (strs_dpAll r)
theorem rows_st (t : TSt H H') : ∀ {xs : List V} {rows : List (List Str)}, DpAll K H xs (rows.map rowD) → DpAll K H' xs (rows.map rowD)
  | _, [], h => by cases h; exact .nil
  | _, r :: rows, h => by
    rw [List.map_cons] at h ⊢
    cases h with
    | cons h1 h2 =>
      obtain ⟨a, rfl, q⟩ := dp_row h1
      exact .cons (row_dp (sqT_st t q)) (rows_st t h2)
theorem con_st {v : V} {c : Con} (t : TSt H H') (h : Dp K H v c.d) : Dp K H' v c.d := by
  cases c with
  | txt s =>
    unfold Con.d at h ⊢
    cases h
    exact .str s
  | tab rows =>
    unfold Con.d at h ⊢
    cases h with
    | tup h1 h2 => exact .tup (sqT_st t h1) (rows_st t h2)
/-! ### records -/
def RecV (K : PySem.W.Frag) (H : Hp) (v : V) (r : Rec) : Prop := ∃ t c, v = .ref t ∧ SqT K H t [.str r.kind, .str r.par, .int r.rank, c] ∧ Dp K H c r.con.d
theorem recV_st {v : V} {r : Rec} (t : TSt H H') (h : RecV K H v r) : RecV K H' v r := by
  obtain ⟨a, c, e, h1, h2⟩ := h
  exact ⟨a, c, e, sqT_st t h1, con_st t h2⟩
theorem recV_dp {v : V} {r : Rec} (h : RecV K H v r) : Dp K H v r.d := by
  obtain ⟨a, c, rfl, h1, h2⟩ := h
  exact .tup h1 (.cons (.str _) (.cons (.str _) (.cons (.int _) (.cons h2 .nil))))
def OptV (K : PySem.W.Frag) (H : Hp) (v : V) : Option Rec → Prop
  | none => v = .non
  | some r => RecV K H v r
theorem optV_st {v : V} {o : Option Rec} (t : TSt H H') (h : OptV K H v o) : OptV K H' v o := by
  cases o with
  | none => exact h
  | some r => exact recV_st t h
theorem optV_dp {v : V} {o : Option Rec} (h : OptV K H v o) : Dp K H v (optD o) := by
  cases o with
  | none =>
    have e : v = .non := h
    rw [e]
    exact .non
  | some r => exact recV_dp h
/-! ### books -/
def Ent (K : PySem.W.Frag) (H : Hp) (kv : Key × V) (b : Str × Rec) : Prop := kv.1 = Sum.inr b.1 ∧ RecV K H kv.2 b.2
abbrev BkV (K : PySem.W.Frag) (H : Hp) (kvs : List (Key × V)) (bk : Bk) : Prop := Paired (Ent K H) kvs bk
theorem bkV_st {kvs : List (Key × V)} {bk : Bk} (t : TSt H H') (h : BkV K H kvs bk) : BkV K H' kvs bk := Paired.mapP h fun _ _ e => ⟨e.1, recV_st t e.2⟩
theorem bkV_len {kvs : List (Key × V)} {bk : Bk} (h : BkV K H kvs bk) : kvs.length = bk.length := Paired.length h
theorem bkV_keys {kvs : List (Key × V)} {bk : Bk} (h : BkV K H kvs bk) : kvs.map (·.1) = (bk.map (·.1)).map Sum.inr := by
  induction h with
  | nil => rfl
  | cons e _ ih => rw [List.map_cons, List.map_cons, List.map_cons, ih, e.1]
theorem paired_get {α β : Type} {F : α → β → Prop} : ∀ {as : List α} {bs : List β} {i : Nat} {a : α}, Paired F as bs → as[i]? = some a → ∃ b, bs[i]? = some b ∧ F a b
  | _, _, _, _, .nil, e => by simp at e
  | _, _, 0, _, .cons h _, e => by
    simp at e
    subst e
    exact ⟨_, rfl, h⟩
  | _, _, i + 1, a, .cons _ t, e => by
    obtain ⟨b, h1, h2⟩ := paired_get (i := i) (a := a) t (by simpa using e)
    exact ⟨b, by simpa using h1, h2⟩
theorem paired_get' {α β : Type} {F : α → β → Prop} : ∀ {as : List α} {bs : List β} {i : Nat} {b : β}, Paired F as bs → bs[i]? = some b → ∃ a, as[i]? = some a ∧ F a b
  | _, _, _, _, .nil, e => by simp at e
  | _, _, 0, _, .cons h _, e => by
    simp at e
    subst e
    exact ⟨_, rfl, h⟩
  | _, _, i + 1, b, .cons _ t, e => by
    obtain ⟨a, h1, h2⟩ := paired_get' (i := i) (b := b) t (by simpa using e)
    exact ⟨a, by simpa using h1, h2⟩
theorem paired_app {α β : Type} {F : α → β → Prop} : ∀ {as as' : List α} {bs bs' : List β}, Paired F as bs → Paired F as' bs' → Paired F (as ++ as') (bs ++ bs')
  | _, _, _, _, .nil, q => q
  | _, _, _, _, .cons h t, q => .cons h (paired_app t q)
theorem look_cons_pos {p : Str × Rec} {bk : Bk} {n : Str} (e : p.1 = n) : look (p :: bk) n = some p.2 := by
  unfold look
  rw [List.find?_cons, decide_eq_true e]
  rfl
theorem look_cons_neg {p : Str × Rec} {bk : Bk} {n : Str} (e : ¬ p.1 = n) : look (p :: bk) n = look bk n := by
  unfold look
  rw [List.find?_cons, decide_eq_false e]
/-- what a look-up gives -/
def LookV (K : PySem.W.Frag) (H : Hp) : Option V → Option Rec → Prop
  | none, none => True
  | some v, some r => RecV K H v r
  | _, _ => False
theorem bkV_look {kvs : List (Key × V)} {bk : Bk} (n : Str) (h : BkV K H kvs bk) : LookV K H (valV kvs (Sum.inr n)) (look bk n) := by
  induction h with
  | nil => exact True.intro
  | @cons kv b _ _ e _ ih =>
    by_cases z : b.1 = n
    · rw [look_cons_pos z, valV_pos (by rw [e.1, z])]
      exact e.2
    · rw [look_cons_neg z, valV_neg (by rw [e.1]; exact fun q => z (Sum.inr.inj q))]
      exact ih
theorem lookV_some {o : Option V} {r : Rec} (h : LookV K H o (some r)) : ∃ v, o = some v ∧ RecV K H v r := by
  cases o with
  | none => exact (show False from h).elim
  | some v => exact ⟨v, rfl, h⟩
theorem lookV_none {o : Option V} (h : LookV K H o none) : o = none := by
  cases o with
  | none => rfl
  | some v => exact (show False from h).elim
theorem lookV_is {o : Option V} {q : Option Rec} (h : LookV K H o q) : o.isSome = q.isSome := by
  cases o <;> cases q <;> first | rfl | exact (show False from h).elim
/-- in its place, or at the end -/
def putB (bk : Bk) (n : Str) (r : Rec) : Bk := if (bk.any fun p => decide (p.1 = n)) = true then bk.map (fun p => if p.1 = n then (p.1, r) else p) else bk ++ [(n, r)]
theorem bkV_any {kvs : List (Key × V)} {bk : Bk} (n : Str) (h : BkV K H kvs bk) : (kvs.any fun kv => decide (kv.1 = Sum.inr n)) = bk.any fun p => decide (p.1 = n) := by
  induction h with
  | nil => rfl
  | @cons kv b _ _ e _ ih =>
    rw [List.any_cons, List.any_cons, ih, e.1]
    congr 1
    exact decide_eq_decide.mpr ⟨fun q => Sum.inr.inj q, fun q => by rw [q]⟩
theorem bkV_map {kvs : List (Key × V)} {bk : Bk} {n : Str} {v : V} {r : Rec} (hv : RecV K H v r) (h : BkV K H kvs bk) : BkV K H (kvs.map fun kv => if kv.1 = Sum.inr n then (kv.1, v) else kv) (bk.map fun p => if p.1 = n then (p.1, r) else p) := by
  induction h with
  | nil => exact .nil
  | @cons kv b _ _ e _ ih =>
    rw [List.map_cons, List.map_cons]
    refine .cons ?_ ih
    by_cases z : b.1 = n
    · rw [if_pos z, if_pos (by rw [e.1, z])]
      exact ⟨e.1, hv⟩
    · rw [if_neg z, if_neg (by rw [e.1]; exact fun q => z (Sum.inr.inj q))]
      exact e
theorem bkV_put {kvs : List (Key × V)} {bk : Bk} {n : Str} {v : V} {r : Rec} (h : BkV K H kvs bk) (hv : RecV K H v r) : BkV K H (putK kvs (Sum.inr n) v) (putB bk n r) := by
  unfold putK putB
  rw [bkV_any n h]
  split
  · exact bkV_map hv h
  · exact paired_app h (.cons ⟨rfl, hv⟩ .nil)
theorem putB_new {bk : Bk} {n : Str} (r : Rec) (h : n ∉ bk.map (·.1)) : putB bk n r = bk ++ [(n, r)] := by
  unfold putB
  rw [if_neg]
  intro e
  obtain ⟨p, hp, q⟩ := List.any_eq_true.mp e
  exact h (List.mem_map.mpr ⟨p, hp, of_decide_eq_true q⟩)
theorem putB_keys (bk : Bk) (n : Str) (r : Rec) : (putB bk n r).map (·.1) = if n ∈ bk.map (·.1) then bk.map (·.1) else bk.map (·.1) ++ [n] := by
  by_cases h : n ∈ bk.map (·.1)
  · rw [if_pos h]
    unfold putB
    rw [if_pos]
    · rw [List.map_map]
      refine List.map_congr_left fun p _ => ?_
      show (if p.1 = n then (p.1, r) else p).1 = p.1
      split <;> rfl
    · obtain ⟨p, hp, q⟩ := List.mem_map.mp h
      exact List.any_eq_true.mpr ⟨p, hp, decide_eq_true q⟩
  · rw [if_neg h, putB_new r h, List.map_append]
    rfl
theorem putB_nd {bk : Bk} {n : Str} {r : Rec} (h : (bk.map (·.1)).Nodup) : ((putB bk n r).map (·.1)).Nodup := by
  rw [putB_keys]
  split
  · exact h
  · rename_i z
    exact nd_snoc h z
theorem putB_mem {bk : Bk} {n : Str} {r : Rec} {p : Str × Rec} (h : p ∈ putB bk n r) : p ∈ bk ∨ p = (n, r) := by
  unfold putB at h
  split at h
  · obtain ⟨q, hq, e⟩ := List.mem_map.mp h
    by_cases z : q.1 = n
    · rw [if_pos z, z] at e
      exact .inr e.symm
    · rw [if_neg z] at e
      rw [← e]
      exact .inl hq
  · rcases List.mem_append.mp h with h | h
    · exact .inl h
    · exact .inr (List.mem_singleton.mp h)
theorem putB_has (bk : Bk) (n : Str) (r : Rec) : n ∈ (putB bk n r).map (·.1) := by
  rw [putB_keys]
  split
  · assumption
  · exact List.mem_append_right _ (List.mem_singleton.mpr rfl)
theorem putB_old {bk : Bk} {n m : Str} (r : Rec) (h : m ∈ bk.map (·.1)) : m ∈ (putB bk n r).map (·.1) := by
  rw [putB_keys]
  split
  · exact h
  · exact List.mem_append_left _ h
theorem putB_len (bk : Bk) (n : Str) (r : Rec) : (putB bk n r).length ≤ bk.length + 1 := by
  have e := congrArg List.length (putB_keys bk n r)
  rw [List.length_map] at e
  rw [e]
  split
  · rw [List.length_map]
    exact Nat.le_succ _
  · rw [List.length_append, List.length_map]
    exact Nat.le_refl _
/-- a dict that may be written -/
def DKm (K : PySem.W.Frag) (H : Hp) (d : Addr) (bk : Bk) : Prop := ∃ kvs, H d = some (.dK kvs) ∧ BkV K H kvs bk
/-- a dict that may be read -/
def DKr (K : PySem.W.Frag) (H : Hp) (d : Addr) (bk : Bk) : Prop := ∃ kvs, Rd H d (.dK kvs) ∧ BkV K H kvs bk
theorem DKm.r {d : Addr} {bk : Bk} (h : DKm K H d bk) : DKr K H d bk := by
  obtain ⟨kvs, e, q⟩ := h
  exact ⟨kvs, .inl e, q⟩
theorem DKm.same {d : Addr} {bk : Bk} (h : DKm K H d bk) (s : Same H H') : DKm K H' d bk := by
  obtain ⟨kvs, e, q⟩ := h
  exact ⟨kvs, s _ _ e, bkV_st (TSt.same s) q⟩
theorem DKr.same {d : Addr} {bk : Bk} (h : DKr K H d bk) (s : Same H H') : DKr K H' d bk := by
  obtain ⟨kvs, e, q⟩ := h
  exact ⟨kvs, rd_same s e, bkV_st (TSt.same s) q⟩
theorem DKm.keep {d e : Addr} {bk : Bk} {o : HO} (h : DKm K H d bk) (k : KeepB e H H') (ne : d ≠ e) (ho : H e = some o) (n : noTup o = true) : DKm K H' d bk := by
  obtain ⟨kvs, e1, q⟩ := h
  exact ⟨kvs, k _ _ ne e1, bkV_st (TSt.keep k ho n) q⟩
theorem DKr.get {d : Addr} {bk : Bk} (h : DKr K H d bk) (n : Str) : ∃ o, DGet H d (.str n) o ∧ LookV K H o (look bk n) := by
  obtain ⟨kvs, e, q⟩ := h
  exact ⟨valV kvs (Sum.inr n), .inl ⟨kvs, Sum.inr n, e, rfl, rfl⟩, bkV_look n q⟩
theorem DKr.at_ {d : Addr} {bk : Bk} {n : Str} {r : Rec} (h : DKr K H d bk) (e : look bk n = some r) : ∃ v, DGet H d (.str n) (some v) ∧ RecV K H v r := by
  obtain ⟨o, h1, h2⟩ := h.get n
  rw [e] at h2
  obtain ⟨v, rfl, q⟩ := lookV_some h2
  exact ⟨v, h1, q⟩
theorem DKr.isD {d : Addr} {bk : Bk} (h : DKr K H d bk) : IsD H d := by
  obtain ⟨kvs, e, _⟩ := h
  exact .inl ⟨kvs, e⟩
/-! ### plain books -/
def PlA (C : Addr) (H : Hp) (p d : Addr) : Prop := ∃ dx, H p = some (.ins C dx [("records", .ref d)])
theorem PlA.same {C p d : Addr} (h : PlA C H p d) (s : Same H H') : PlA C H' p d := by
  obtain ⟨dx, e⟩ := h
  exact ⟨dx, s _ _ e⟩
/-! ### lines -/
def LineV (K : PySem.W.Frag) (H : Hp) (v : V) (q : Nat × Str × Rec) : Prop := ∃ t c, v = .ref t ∧ SqT K H t [.int (q.1 : Int), .str q.2.1, .str q.2.2.kind, .int q.2.2.rank, c] ∧ Dp K H c q.2.2.con.d
theorem lineV_st {v : V} {q : Nat × Str × Rec} (t : TSt H H') (h : LineV K H v q) : LineV K H' v q := by
  obtain ⟨a, c, e, h1, h2⟩ := h
  exact ⟨a, c, e, sqT_st t h1, con_st t h2⟩
theorem lines_st {xs : List V} {qs : List (Nat × Str × Rec)} (t : TSt H H') (h : Paired (LineV K H) xs qs) : Paired (LineV K H') xs qs := Paired.mapP h fun _ _ e => lineV_st t e
theorem lines_dp {xs : List V} {qs : List (Nat × Str × Rec)} (h : Paired (LineV K H) xs qs) : DpAll K H xs (qs.map lineD) := by
  induction h with
  | nil => exact .nil
  | cons e _ ih =>
    obtain ⟨a, c, rfl, h1, h2⟩ := e
    exact .cons (.tup h1 (.cons (.int _) (.cons (.str _) (.cons (.str _) (.cons (.int _) (.cons h2 .nil)))))) ih
end
end Lf

/-! the class of plain books: promises -/
namespace Lf
open PySem PySem.Spec PyProof.Rows L2
section
variable {P : Program} {w : World} {K : PySem.W.Frag} {mg : Str → Option Value} {base : Heap}
/-- the rule for a def of the text -/
theorem fnp_ok {x qual : Str} {st : Stmt} {f : Addr} {fd : FuncData} {N ps : List Str} {k : Nat} {sp : Sp} (F : FnP K x qual st f fd) (S : FnScope N ps (defScope st)) (len : ∀ vs H Q E, sp vs H Q E → vs.length = ps.length)
    (hbody : ∀ (cdv : Value) (A : Around) (outer : List Env) (s : Shared) (H : Hp) (vs : List V) (Q : VK) (E : XK), Room k (A.deeper (envOfC qual (defScope st) s.heap.objs.size f cdv)) → sp vs H Q E →
      ∃ t, PSs (cxOf CX0 P w K mg base N qual (defScope st) f cdv A outer s H E).nox (defBody st) t ∧ t { nx := fun _ H' => Q .non H', rt := Q } (start N vs) H) : FnOk P w K mg base CX0 (k + 1) f fd ps sp :=
  FunD.ok F S len fun cdv A outer s H vs Q E hr h => by
    obtain ⟨t, h1, h2⟩ := hbody cdv A outer s H vs Q E hr h
    exact ⟨t, h1.nox, h2⟩
end
/-- the one attribute -/
def flds (d : Addr) : List (Str × V) := [("records", .ref d)]
theorem flds_at (d : Addr) : (flds d).lookup ("records" : Str) = some (.ref d) := by
  unfold flds
  rw [List.lookup_cons_self]
theorem flds_no (d : Addr) {m : Str} (h : (m == ("records" : Str)) = false) : (flds d).lookup m = none := by
  unfold flds
  rw [List.lookup_cons, h]
  rfl
/-- what is known of the class -/
structure PlT (K : PySem.W.Frag) (C : Addr) : Prop where
  cl : Cls K C
  no : NoAttr K C "records"
def spPInit (C : Addr) : Sp := fun vs H Q _ => ∃ (p dx : Addr), vs = [.ref p] ∧ H p = some (.ins C dx []) ∧ ∀ (d : Addr) (H' : Hp), H d = none → PlA C H' p d → H' d = some (.dK []) → KeepB p H H' → Q .non H'
def spHas (K : PySem.W.Frag) (C : Addr) : Sp := fun vs H Q _ => ∃ (p d : Addr) (n : Str) (bk : Bk), vs = [.ref p, .str n] ∧ PlA C H p d ∧ DKr K H d bk ∧ Q (.bl (look bk n).isSome) H
def spState (K : PySem.W.Frag) (C : Addr) : Sp := fun vs H Q _ => ∃ (p d : Addr) (n : Str) (bk : Bk) (r : Rec), vs = [.ref p, .str n] ∧ PlA C H p d ∧ DKr K H d bk ∧ look bk n = some r ∧ ∀ v, RecV K H v r → Q v H
def spNames (K : PySem.W.Frag) (C : Addr) : Sp := fun vs H Q _ => ∃ (p d : Addr) (bk : Bk), vs = [.ref p] ∧ PlA C H p d ∧ DKr K H d bk ∧ bk.length ≤ 60 ∧ ∀ (ys : List Str) (l : Addr), ys.Perm (bk.map (·.1)) → H l = none → Q (.ref l) (upd H l (.lst (ys.map V.str)))
def spLay (K : PySem.W.Frag) (C : Addr) : Sp := fun vs H Q _ => ∃ (p d : Addr) (bk : Bk) (n : Str) (r : Rec) (c : V), vs = [.ref p, .str n, .str r.kind, .str r.par, .int r.rank, c] ∧ PlA C H p d ∧ DKm K H d bk ∧ bk.length ≤ 60 ∧ Dp K H c r.con.d ∧
  ∀ H', KeepB d H H' → DKm K H' d (putB bk n r) → Q .non H'
section
variable {P : Program} {w : World} {K : PySem.W.Frag} {mg : Str → Option Value} {base : Heap} {f C : Addr} {fd : FuncData}
theorem scPI : FnScope ["self"] ["self"] (defScope sPInit) := ⟨rfl, rfl, rfl, by decide +kernel, rfl, by decide +kernel, by decide +kernel⟩
theorem ok_pinit (F : FnP K "__init__" "Plain.__init__" sPInit f fd) (T : PlT K C) : FnOk P w K mg base CX0 1 f fd ["self"] (spPInit C) := by
  refine fnp_ok F scPI (fun vs H Q E h => ?_) (fun cdv A outer s H vs Q E hr h => ?_)
  · obtain ⟨p, dx, rfl, _⟩ := h
    rfl
  obtain ⟨p, dx, rfl, hp, k⟩ := h
  refine ⟨_, pss_one (ps_fld (pv 0) pe_dnewK rfl), ?_⟩
  intro d hd
  have npd : p ≠ d := ne_of_none hp hd
  refine ⟨_, rfl, p, C, dx, [], rfl, (by rw [upd_ne npd]; exact hp), T.cl, T.no, (by show 0 < 1000; decide), ?_⟩
  refine k d _ hd ⟨dx, upd_same⟩ (by rw [upd_ne npd.symm, upd_same]) fun b o hb e => ?_
  rw [upd_ne hb, upd_ne (ne_of_none e hd)]
  exact e
theorem scHas : FnScope ["self", "name"] ["self", "name"] (defScope sHas) := ⟨rfl, rfl, rfl, by decide +kernel, rfl, by decide +kernel, by decide +kernel⟩
theorem ok_has (F : FnP K "has" "Plain.has" sHas f fd) (T : PlT K C) : FnOk P w K mg base CX0 1 f fd ["self", "name"] (spHas K C) := by
  refine fnp_ok F scHas (fun vs H Q E h => ?_) (fun cdv A outer s H vs Q E hr h => ?_)
  · obtain ⟨p, d, n, bk, rfl, _⟩ := h
    rfl
  obtain ⟨p, d, n, bk, rfl, ⟨dx, hp⟩, hd, k⟩ := h
  have hu := hu_of hr
  refine ⟨_, pss_one (ps_ret (pe_cmp (pc_din hu (pv 1) (pe_fld (pv 0) rfl)) rfl)), ?_⟩
  obtain ⟨o, g, l⟩ := hd.get n
  refine ⟨_, rfl, _, rfl, p, C, dx, _, _, rfl, hp, T.cl, T.no, flds_at d, d, o, rfl, g, ?_⟩
  rw [lookV_is l]
  exact k
theorem scState : FnScope ["self", "name"] ["self", "name"] (defScope sState) := ⟨rfl, rfl, rfl, by decide +kernel, rfl, by decide +kernel, by decide +kernel⟩
theorem ok_state (F : FnP K "state" "Plain.state" sState f fd) (T : PlT K C) : FnOk P w K mg base CX0 1 f fd ["self", "name"] (spState K C) := by
  refine fnp_ok F scState (fun vs H Q E h => ?_) (fun cdv A outer s H vs Q E hr h => ?_)
  · obtain ⟨p, d, n, bk, r, rfl, _⟩ := h
    rfl
  obtain ⟨p, d, n, bk, r, rfl, ⟨dx, hp⟩, hd, hl, k⟩ := h
  have hu := hu_of hr
  refine ⟨_, pss_cons (ps_if (pt_cmp (pc_dnotin hu (pv 1) (pe_fld (pv 0) rfl))) (pss_one ps_never) pss_nil) (pss_one (ps_ret (pe_dget hu (pe_fld (pv 0) rfl) (pv 1) (fun _ _ => rfl)))), ?_⟩
  obtain ⟨v, g, l⟩ := hd.at_ hl
  refine ⟨_, rfl, _, rfl, p, C, dx, _, _, rfl, hp, T.cl, T.no, flds_at d, d, _, rfl, g, _, rfl, ?_⟩
  refine iteF ?_
  exact ⟨_, rfl, p, C, dx, _, _, rfl, hp, T.cl, T.no, flds_at d, _, rfl, d, v, rfl, g, k v l⟩
theorem scNames : FnScope ["self"] ["self"] (defScope sNames) := ⟨rfl, rfl, rfl, by decide +kernel, rfl, by decide +kernel, by decide +kernel⟩
theorem ok_names (F : FnP K "names" "Plain.names" sNames f fd) (T : PlT K C) (mS : mg "sorted" = none) : FnOk P w K mg base CX0 1 f fd ["self"] (spNames K C) := by
  refine fnp_ok F scNames (fun vs H Q E h => ?_) (fun cdv A outer s H vs Q E hr h => ?_)
  · obtain ⟨p, d, bk, rfl, _⟩ := h
    rfl
  obtain ⟨p, d, bk, rfl, ⟨dx, hp⟩, ⟨kvs, hd, hb⟩, hl, k⟩ := h
  refine ⟨_, pss_one (ps_ret (pe_callB (call_sortedD rfl) (by rfl) mS (by decide +kernel) (pa_cons (pe_fld (pv 0) rfl) pa_nil))), ?_⟩
  refine ⟨_, rfl, p, C, dx, _, _, rfl, hp, T.cl, T.no, flds_at d, d, kvs, bk.map (·.1), rfl, hd, bkV_keys hb, (by rw [List.length_map]; omega), fun ys l h1 _ h2 => ?_⟩
  exact k ys l h1 h2
theorem scLay : FnScope ["self", "name", "kind", "parent", "rank", "content"] ["self", "name", "kind", "parent", "rank", "content"] (defScope sLay) := ⟨rfl, rfl, rfl, by decide +kernel, rfl, by decide +kernel, by decide +kernel⟩
theorem ok_lay (F : FnP K "lay" "Plain.lay" sLay f fd) (T : PlT K C) : FnOk P w K mg base CX0 1 f fd ["self", "name", "kind", "parent", "rank", "content"] (spLay K C) := by
  refine fnp_ok F scLay (fun vs H Q E h => ?_) (fun cdv A outer s H vs Q E hr h => ?_)
  · obtain ⟨p, d, bk, n, r, c, rfl, _⟩ := h
    rfl
  obtain ⟨p, d, bk, n, r, c, rfl, ⟨dx, hp⟩, ⟨kvs, hd, hb⟩, hl, hc, k⟩ := h
  have hu := hu_of hr
  refine ⟨_, pss_one (ps_dput hu (pe_fld (pv 0) rfl) (pv 1) (pe_tup (pa_cons (pv 2) (pa_cons (pv 3) (pa_cons (pv 4) (pa_cons (pv 5) pa_nil))))) rfl), ?_⟩
  refine ⟨_, rfl, _, rfl, _, rfl, _, rfl, (by show 4 ≤ sizeLine; decide), fun t ht => ?_⟩
  have s1 : Same H (upd H t (.tup [.str r.kind, .str r.par, .int r.rank, c])) := same_new ht
  have hd1 := s1 _ _ hd
  have hz : kvs.length < sizeLine := by
    rw [bkV_len hb]
    exact small1000 (by omega)
  refine ⟨_, rfl, p, C, dx, _, _, rfl, s1 _ _ hp, T.cl, T.no, flds_at d, _, rfl, d, _, rfl, DPut.k (k := Sum.inr n) hd1 hz, ?_⟩
  have t2 : TSt (upd H t (.tup [.str r.kind, .str r.par, .int r.rank, c])) (upd (upd H t (.tup [.str r.kind, .str r.par, .int r.rank, c])) d (.dK (putK kvs (Sum.inr n) (.ref t)))) := TSt.put hd1 rfl
  refine k _ ((KeepB.same s1).trans (KeepB.upd d _ _)) ⟨_, upd_same, ?_⟩
  refine bkV_st t2 (bkV_put (bkV_st (TSt.same s1) hb) ?_)
  exact ⟨t, c, rfl, sqT_of upd_same, con_st (TSt.same s1) hc⟩
end
end Lf

/-! under, lines_under, lines -/
namespace Lf
open PySem PySem.Spec PyProof.Rows L2
/-- a pair (rank, name) as a tuple of the heap -/
def RkV (K : PySem.W.Frag) (H : Hp) (v : V) (b : Str × Rec) : Prop := ∃ t, v = .ref t ∧ SqT K H t [.int b.2.rank, .str b.1]
theorem rkV_dp {K : PySem.W.Frag} {H : Hp} {v : V} {b : Str × Rec} (h : RkV K H v b) : Dp K H v (rkD b) := by
  obtain ⟨t, rfl, q⟩ := h
  exact .tup q (.cons (.int _) (.cons (.str _) .nil))
theorem dp_rkV {K : PySem.W.Frag} {H : Hp} {v : V} {b : Str × Rec} (h : Dp K H v (rkD b)) : RkV K H v b := by
  unfold rkD at h
  cases h with
  | tup h1 h2 =>
    cases h2 with
    | cons a1 a2 =>
      cases a2 with
      | cons b1 b2 =>
        cases a1
        cases b1
        cases b2
        exact ⟨_, rfl, h1⟩
theorem rkV_st {K : PySem.W.Frag} {H H' : Hp} {v : V} {b : Str × Rec} (t : TSt H H') (h : RkV K H v b) : RkV K H' v b := by
  obtain ⟨a, e, q⟩ := h
  exact ⟨a, e, sqT_st t q⟩
theorem filter_take {α : Type} (f : α → Bool) {l : List α} {i : Nat} {x : α} (h : l[i]? = some x) : (l.take (i + 1)).filter f = (l.take i).filter f ++ (if f x = true then [x] else []) := by
  rw [List.take_add_one, h, List.filter_append]
  congr 1
  show [x].filter f = _
  rw [List.filter_cons, List.filter_nil]
/-- two ways to one rest -/
theorem ite_join {c A B R : Prop} [Decidable c] (h2 : ¬ c → R → B) (h1 : c → R → A) (r : R) : if c then A else B := by
  by_cases z : c
  · rw [if_pos z]
    exact h1 z r
  · rw [if_neg z]
    exact h2 z r
theorem take_full {α : Type} {l : List α} {n : Nat} (h : l.length ≤ n) : l.take n = l := List.take_of_length_le h
def spUnder (K : PySem.W.Frag) (C : Addr) : Sp := fun vs H Q _ => ∃ (p d : Addr) (par : Str) (bk : Bk), vs = [.ref p, .str par] ∧ PlA C H p d ∧ DKm K H d bk ∧ (bk.map (·.1)).Nodup ∧ bk.length ≤ 60 ∧ (par = Str.empty ∨ par ∈ bk.map (·.1)) ∧
  ∀ (l : Addr) (H' : Hp), Same H H' → H l = none → H' l = some (.lst ((kids bk par).map fun b => .str b.1)) → Q (.ref l) H'
section
variable {P : Program} {w : World} {K : PySem.W.Frag} {mg : Str → Option Value} {base : Heap} {f C : Addr} {fd : FuncData}
theorem scUnder : FnScope ["self", "parent", "ranked", "name", "rank"] ["self", "parent"] (defScope sUnder) := ⟨rfl, rfl, rfl, by decide +kernel, rfl, by decide +kernel, by decide +kernel⟩
theorem ok_under (F : FnP K "under" "Plain.under" sUnder f fd) (T : PlT K C) (mS : mg "sorted" = none) : FnOk P w K mg base CX0 1 f fd ["self", "parent"] (spUnder K C) := by
  refine fnp_ok F scUnder (fun vs H Q E h => ?_) (fun cdv A outer s H vs Q E hr h => ?_)
  · obtain ⟨p, d, par, bk, rfl, _⟩ := h
    rfl
  obtain ⟨p, d, par, bk, rfl, ⟨dx, hp⟩, ⟨kvs, hd, hb⟩, hnd, hl, hpar, k⟩ := h
  have hu := hu_of hr
  have nd := scUnder.nd
  refine ⟨_, pss_cons (ps_if (PW.pt (pw_and (pt_cmpR op_ne (pv 1) pe_str (nomark _)) (pw_and1 (pt_cmp (pc_dnotin hu (pv 1) (pe_fld (pv 0) rfl)))))) (pss_one ps_never) pss_nil)
     (pss_cons (ps_lock (ps_setLc (i := 2) (own := [("name", 3)]) (g := gName 3) (tt := tTest (tOp rEq (tOp (rIxT K) (tDGet (tFld K (tVar 0) "records") (tVar 3)) (tC (.int 1))) (tVar 1)))
        (te := tTup (tCons (tOp (rIxT K) (tDGet (tFld K (tVar 0) "records") (tVar 3)) (tC (.int 2))) (tCons (tVar 3) tNil))) rfl nd rfl rfl (sw_true rfl rfl rfl (by decide +kernel)) (pi_keys (pe_fld (pv 0) rfl))
        (blkOk_by (N := ["self", "parent", "ranked", "name", "rank"]) (sc := defScope sUnder) (by decide +kernel)) (fun _ _ _ _ _ => pg_name (i := 3) nd rfl (Or.inl rfl))
        (fun _ _ _ _ _ => pts_one (pt_cmpR op_eq (pe_ix ix_tup (pe_dget hu (pe_fld (pv 0) rfl) (pv 3) (fun _ _ => rfl)) pe_int (fun _ _ => rfl)) (pv 1) (nomark _)))
        (fun _ _ _ _ _ => pe_tup (pa_cons (pe_ix ix_tup (pe_dget hu (pe_fld (pv 0) rfl) (pv 3) (fun _ _ => rfl)) pe_int (fun _ _ => rfl)) (pa_cons (pv 3) pa_nil)))))
     (pss_one (ps_ret (pe_lc (own := [("rank", 4), ("name", 3)]) (g := gTup K 2 (gCons (gName 4) (gCons (gName 3) gNil))) (te := tVar 3) rfl nd (pi_list (pe_callB (cr_sortD hr.units) (by rfl) mS (by decide +kernel) (pa_cons (pv 2) pa_nil)))
        (blkOk_by (N := ["self", "parent", "ranked", "name", "rank"]) (sc := defScope sUnder) (by decide +kernel))
        (fun _ _ _ _ _ => pg_tup rfl (pgs_cons (pg_name (i := 4) nd rfl (Or.inl rfl)) (pgs_cons (pg_name (i := 3) nd rfl (Or.inl rfl)) pgs_nil)))
        (fun _ _ _ _ _ => pts_nil) (fun _ _ _ _ _ => pv 3))))), ?_⟩
  have hD : DKr K H d bk := ⟨kvs, .inl hd, hb⟩
  have npd : p ≠ d := ne_of hp hd (by intro z; cases z)
  refine ⟨_, rfl, rfl, _, rfl, ?_⟩
  refine ite_join (fun _ j => iteF j) (fun c j => ?_) ?_
  · -- the part is there
    have hin : par ∈ bk.map (·.1) := by
      rcases hpar with e | e
      · rw [e] at c
        exact absurd c (by decide)
      · exact e
    obtain ⟨o, g, l⟩ := hD.get par
    have ho : o.isSome = true := by
      rw [lookV_is l]
      cases q : look bk par with
      | none => exact absurd hin (look_none.mp q)
      | some r => rfl
    refine ⟨_, rfl, _, rfl, p, C, dx, _, _, rfl, hp, T.cl, T.no, flds_at d, d, o, rfl, g, _, rfl, ?_⟩
    rw [ho]
    exact iteF j
  -- ranked
  refine ⟨d, .dK kvs, hd, trivial, fun od => ?_⟩
  generalize hHL : upd H d (.frz od (.dK kvs)) = HL
  have eL : HL d = some (.frz od (.dK kvs)) := by rw [← hHL, upd_same]
  have pL : HL p = some (.ins C dx [("records", .ref d)]) := by rw [← hHL, upd_ne npd]; exact hp
  have tL : TSt H HL := by rw [← hHL]; exact tst_lock hd rfl
  refine ⟨_, rfl, p, C, dx, _, _, rfl, pL, T.cl, T.no, flds_at d, d, od, rfl, .inl ⟨kvs, eL, fun D nD => ?_⟩⟩
  refine lc_it (walk_keys (d := d) (o := od) (kvs := kvs)) (fun i H1 => Same HL H1 ∧ ∃ acc, H1 D = some (.lst acc) ∧ Paired (RkV K H1) acc ((bk.take i).filter fun b => decide (b.2.par = par))) ⟨same_new nD, [], upd_same, .nil⟩ (fun i H1 _ q => q.1 _ _ eL) (fun i x H1 H1' hi q y => ?_) (fun H1 q => ?_)
  · obtain ⟨s1, acc, eD, pr⟩ := q
    obtain ⟨rfl, kk, v, hkv, rfl⟩ := y
    obtain ⟨b, hbi, he, hr1⟩ := paired_get hb hkv
    have he1 : kk = Sum.inr b.1 := he
    subst he1
    have t1 : TSt H H1' := tL.trans (TSt.same s1)
    have hD1 : DKr K H1' d bk := ⟨kvs, .inr ⟨od, s1 _ _ eL⟩, bkV_st t1 hb⟩
    have hlk : look bk b.1 = some b.2 := look_of_mem hnd (List.mem_of_getElem? hbi)
    obtain ⟨v1, g1, t, c, rfl, hT, _⟩ := hD1.at_ hlk
    have p1 := s1 _ _ pL
    refine ⟨rfl, ?_⟩
    refine ⟨_, rfl, p, C, dx, _, _, rfl, p1, T.cl, T.no, flds_at d, _, rfl, d, _, rfl, g1, t, _, _, _, rfl, rfl, hT, atI_nat (j := 1) rfl, _, rfl, rfl, _, rfl, ?_⟩
    have acl : acc.length < sizeLine := by
      rw [Paired.length pr]
      refine small1000 (Nat.le_trans (List.length_filter_le _ _) ?_)
      rw [List.length_take]
      omega
    refine ite2 (fun c1 => ?_) (fun c1 => ?_)
    · have ep : b.2.par = par := V.str.inj (of_decide_eq_true c1)
      refine ⟨_, rfl, p, C, dx, _, _, rfl, p1, T.cl, T.no, flds_at d, _, rfl, d, _, rfl, g1, t, _, _, _, rfl, rfl, hT, atI_nat (j := 2) rfl, _, rfl, (by show 2 ≤ sizeLine; decide), fun z nz => ?_⟩
      have nDz : D ≠ z := ne_of_none eD nz
      have s2 : Same H1' (upd H1' z (.tup [.int b.2.rank, .str b.1])) := same_new nz
      refine ⟨acc, by rw [upd_ne nDz]; exact eD, acl, Same.put (s1.trans s2) nD, _, upd_same, ?_⟩
      have t2 : TSt (upd H1' z (.tup [.int b.2.rank, .str b.1])) (upd (upd H1' z (.tup [.int b.2.rank, .str b.1])) D (.lst (acc ++ [.ref z]))) := TSt.put (by rw [upd_ne nDz]; exact eD) rfl
      rw [filter_take _ hbi, if_pos (decide_eq_true ep)]
      refine paired_app (Paired.mapP pr fun _ _ h => rkV_st ((TSt.same s2).trans t2) h) (.cons ⟨z, rfl, sqT_st t2 (sqT_of upd_same)⟩ .nil)
    · have ep : ¬ b.2.par = par := fun e => c1 (decide_eq_true (congrArg V.str e))
      refine ⟨s1, acc, eD, ?_⟩
      rw [filter_take _ hbi, if_neg (fun z => ep (of_decide_eq_true z)), List.append_nil]
      exact pr
  · obtain ⟨s1, acc, eD, pr⟩ := q
    rw [bkV_len hb, take_full (Nat.le_refl _)] at pr
    refine ⟨s1 _ _ eL, ?_⟩
    have nd0 : H D = none := by
      by_cases z : D = d
      · rw [z, eL] at nD
        cases nD
      · rw [← hHL, upd_ne z] at nD
        exact nD
    have nDd : D ≠ d := fun z => by rw [z, eL] at nD; cases nD
    have sH : Same H (upd H1 d (.dK kvs)) := by
      rw [← hHL] at s1
      exact same_lock hd s1
    have t3 : TSt H1 (upd H1 d (.dK kvs)) := fun a xs h => by
      have ne : a ≠ d := fun z => by
        rw [z] at h
        rcases h with h | ⟨o, h⟩
        · rw [s1 _ _ eL] at h
          cases h
        · rw [s1 _ _ eL] at h
          cases h
      rcases h with h | ⟨o, h⟩
      · exact .inl (by rw [upd_ne ne]; exact h)
      · exact .inr ⟨o, by rw [upd_ne ne]; exact h⟩
    generalize hH2 : upd H1 d (.dK kvs) = H2 at sH t3
    have eD2 : H2 D = some (.lst acc) := by rw [← hH2, upd_ne nDd]; exact eD
    have pr2 : Paired (fun x b => Dp K H2 x (rkD b)) acc (bk.filter fun b => decide (b.2.par = par)) := Paired.mapP pr fun _ _ h => rkV_dp (rkV_st t3 h)
    have len : (bk.filter fun b => decide (b.2.par = par)).length ≤ 1000 := Nat.le_trans (List.length_filter_le _ _) (by omega)
    refine ⟨_, rfl, Str × Rec, D, acc, _, rkD, rfl, sqL_of eD2, pr2, PySem.W.AllAlike.of (fun a b => by simp [rkD, PySem.W.alike, PySem.W.alikeAll]), PySem.W.Sortable.tuples (fun b => ⟨_, _, rfl⟩), len,
      (fun b _ => by simp [rkD, PyData.depth, PyData.depthAll]), fun ys q pq nq => ?_⟩
    have sq : Same H2 (upd H2 q (.lst ys)) := same_new nq
    refine ⟨q, rfl, ⟨_, sqL_of upd_same⟩, fun D2 nD2 => ?_⟩
    generalize hH3 : upd H2 q (.lst ys) = H3 at sq nD2
    have eq3 : H3 q = some (.lst ys) := by rw [← hH3, upd_same]
    refine lc_list (K := K) (a := q) (xs := ys) (fun i H4 => Same H3 H4 ∧ H4 D2 = some (.lst (((kids bk par).take i).map fun b => .str b.1))) ⟨same_new nD2, upd_same⟩ (fun i H4 _ z => sqL_of (z.1 _ _ eq3)) (fun i x H4 hx z => ?_) (fun H4 z => ?_)
    · obtain ⟨s4, e4⟩ := z
      obtain ⟨b, hbk, hdp⟩ := paired_get pq hx
      obtain ⟨t, rfl, hT⟩ := dp_rkV hdp
      have hT4 : SqT K H4 t [.int b.2.rank, .str b.1] := sqT_st ((TSt.same sq).trans (TSt.same s4)) hT
      have hbk' : (kids bk par)[i]? = some b := hbk
      refine ⟨t, [.int b.2.rank, .str b.1], rfl, hT4, rfl, _, _, rfl, _, _, rfl, rfl, rfl, _, rfl, _, e4, ?_, Same.put s4 nD2, ?_⟩
      · rw [List.length_map, List.length_take]
        refine small1000 (Nat.le_trans (Nat.min_le_right _ _) ?_)
        unfold kids
        rw [List.length_mergeSort]
        exact len
      · rw [upd_same, List.take_add_one, hbk', List.map_append]
        rfl
    · obtain ⟨s4, e4⟩ := z
      have n2 : H D2 = none := none_of_same sH (none_of_same sq nD2)
      have el : ys.length = (kids bk par).length := Paired.length pq
      rw [el, take_full (Nat.le_refl _)] at e4
      exact k D2 H4 (sH.trans (sq.trans s4)) n2 e4
end
end Lf

/-! lines_under, lines -/
namespace Lf
open PySem PySem.Spec PyProof.Rows L2
theorem nodup_len {α : Type} [DecidableEq α] : ∀ (l m : List α), l.Nodup → (∀ x ∈ l, x ∈ m) → l.length ≤ m.length
  | [], _, _, _ => Nat.zero_le _
  | x :: l, m, nd, h => by
    obtain ⟨n1, n2⟩ := List.nodup_cons.mp nd
    have hx := h x List.mem_cons_self
    have ih := nodup_len l (m.erase x) n2 fun y hy => by
      refine (List.mem_erase_of_ne ?_).mpr (h y (List.mem_cons_of_mem _ hy))
      intro e
      rw [e] at hy
      exact n1 hy
    rw [List.length_erase_of_mem hx] at ih
    have hp : 0 < m.length := List.length_pos_of_mem hx
    rw [List.length_cons]
    omega
theorem dfs_len {bk : Bk} {lvl : Str → Nat} (F : Forest bk lvl) (f : Nat) (par : Str) (dep : Nat) : (dfs f bk par dep).length ≤ bk.length := by
  have srt := dfs_sorted F f par dep
  have srt2 : ((dfs f bk par dep).map (·.2)).Pairwise fun p q => plt (pa bk p.1) (pa bk q.1) = true := List.pairwise_map.mpr srt
  have nd1 : ((dfs f bk par dep).map (·.2)).Nodup := srt2.imp fun {a b} h e => by
    rw [e, plt_irrefl] at h
    cases h
  have z := nodup_len _ bk nd1 fun x hx => by
    obtain ⟨a, ha, e⟩ := List.mem_map.mp hx
    rw [← e]
    exact (dfs_in F f par dep a ha).1
  rw [List.length_map] at z
  exact z
/-- n calls are allowed -/
def spLinesU (K : PySem.W.Frag) (C : Addr) : Nat → Sp
  | 0 => fun _ _ _ _ => False
  | f + 1 => fun vs H Q _ => ∃ (p d : Addr) (par : Str) (dep : Nat) (bk : Bk) (lvl : Str → Nat), vs = [.ref p, .str par, .int (dep : Int)] ∧ PlA C H p d ∧ DKm K H d bk ∧ Forest bk lvl ∧ bk.length ≤ 60 ∧ (par = Str.empty ∨ par ∈ bk.map (·.1)) ∧
    (∀ b ∈ bk, b.2.par = par → bk.length ≤ lvl b.1 + f) ∧ ∀ (l : Addr) (H' : Hp) (xs : List V), Same H H' → H l = none → H' l = some (.lst xs) → Paired (LineV K H') xs (dfs (f + 1) bk par dep) → Q (.ref l) H'
def spLines (K : PySem.W.Frag) (C : Addr) : Sp := fun vs H Q _ => ∃ (p d : Addr) (bk : Bk) (lvl : Str → Nat), vs = [.ref p] ∧ PlA C H p d ∧ DKm K H d bk ∧ Forest bk lvl ∧ bk.length ≤ 10 ∧
  ∀ (l : Addr) (H' : Hp) (xs : List V), Same H H' → H l = none → H' l = some (.lst xs) → Paired (LineV K H') xs (dfs 11 bk Str.empty 1) → Q (.ref l) H'
section
variable {P : Program} {w : World} {K : PySem.W.Frag} {mg : Str → Option Value} {base : Heap} {f fU C : Addr} {fd fdU : FuncData}
theorem scLinesU : FnScope ["self", "parent", "depth", "found", "name", "kind", "above", "rank", "content"] ["self", "parent", "depth"] (defScope sLinesU) := ⟨rfl, rfl, rfl, by decide +kernel, rfl, by decide +kernel, by decide +kernel⟩
theorem ok_linesU_step {n : Nat} (F : FnP K "lines_under" "Plain.lines_under" sLinesU f fd) (T : PlT K C) (mU : Meth K C "under" fU) (GU : FnOk P w K mg base CX0 1 fU fdU ["self", "parent"] (spUnder K C)) (bU : Binds K fdU ["self", "parent"] [])
    (mL : Meth K C "lines_under" f) (G : FnOk P w K mg base CX0 (n + 1) f fd ["self", "parent", "depth"] (spLinesU K C n)) (bL : Binds K fd ["self", "parent", "depth"] []) : FnOk P w K mg base CX0 (n + 2) f fd ["self", "parent", "depth"] (spLinesU K C (n + 1)) := by
  refine fnp_ok F scLinesU (fun vs H Q E h => ?_) (fun cdv A outer s H vs Q E hr h => ?_)
  · obtain ⟨p, d, par, dep, bk, lvl, rfl, _⟩ := h
    rfl
  obtain ⟨p, d, par, dep, bk, lvl, rfl, hpl, hD, Fo, hl, hpar, hlv, k⟩ := h
  have hu := hu_of hr
  have nd := scLinesU.nd
  refine ⟨_, pss_cons (ps_set (i := 3) nd rfl (.inl rfl) (pe_lst pa_nil))
    (pss_cons (ps_for PassesOwn.never rfl (pi_list (pe_meth (pv 0) T.cl mU GU (hr.mono (by omega)) bU .nil pass0 (pa_cons (pv 1) pa_nil))) (pg_name (i := 4) nd rfl (.inl rfl))
      (pss_cons (ps_asg (pe_dget hu (pe_fld (pv 0) rfl) (pv 4) (fun _ _ => rfl)) (pg_tup rfl (pgs_cons (pg_name (i := 5) nd rfl (.inl rfl)) (pgs_cons (pg_name (i := 6) nd rfl (.inl rfl)) (pgs_cons (pg_name (i := 7) nd rfl (.inl rfl)) (pgs_cons (pg_name (i := 8) nd rfl (.inl rfl)) pgs_nil))))))
      (pss_cons (ps_expr (pe_bm PySem.F.plainAttrs_list PySem.F.slot_list_append PySem.F.type_list_append mt_append (pv 3) (pa_cons (pe_tup (pa_cons (pv 2) (pa_cons (pv 4) (pa_cons (pv 5) (pa_cons (pv 7) (pa_cons (pv 8) pa_nil)))))) pa_nil)))
      (pss_one (ps_expr (pe_bm PySem.F.plainAttrs_list PySem.F.slot_list_extend PySem.F.type_list_extend mt_extend (pv 3) (pa_cons (pe_meth (pv 0) T.cl mL G hr bL .nil pass0 (pa_cons (pv 4) (pa_cons (pe_op op_add (pv 2) pe_int) pa_nil))) pa_nil)))))))
    (pss_one (ps_ret (pv 3)))), ?_⟩
  obtain ⟨dx, hp⟩ := id hpl
  refine ⟨Nat.zero_le _, fun o no => ?_⟩
  have s1 : Same H (upd H o (.lst [])) := same_new no
  have e1 : (upd H o (.lst [])) o = some (.lst []) := upd_same
  generalize upd H o (.lst []) = H1 at s1 e1
  refine ⟨_, rfl, p, dx, _, rfl, s1 _ _ hp, flds_no d (by decide +kernel), _, rfl, p, d, par, bk, rfl, PlA.same hpl s1, hD.same s1, Fo.nd, hl, hpar, fun l H2 s2 nl el => ?_⟩
  refine ⟨l, rfl, ⟨_, sqL_of el⟩, ?_⟩
  have nol : o ≠ l := ne_of_none e1 nl
  refine for_list (K := K) (a := l) (xs := (kids bk par).map fun b => .str b.1)
    (fun i σ H3 => ∃ y4 y5 y6 y7 y8 acc, σ = [some (.ref p), some (.str par), some (.int (dep : Int)), some (.ref o), y4, y5, y6, y7, y8] ∧ Same H H3 ∧ H3 l = some (.lst ((kids bk par).map fun b => .str b.1)) ∧ H3 o = some (.lst acc) ∧
      Paired (LineV K H3) acc (((kids bk par).take i).flatMap fun b => (dep, b) :: dfs n bk b.1 (dep + 1)))
    ⟨none, none, none, none, none, [], rfl, s1.trans s2, el, s2 _ _ e1, .nil⟩ (fun i σ H3 _ h => ?_) (fun i x σ H3 hx h => ?_) (fun σ H3 h => ?_)
  · obtain ⟨_, _, _, _, _, _, _, _, h4, _⟩ := h
    exact sqL_of h4
  · obtain ⟨y4, y5, y6, y7, y8, acc, rfl, s3, el3, eo3, pr⟩ := h
    rw [List.getElem?_map] at hx
    obtain ⟨b, hb, rfl⟩ := Option.map_eq_some_iff.mp hx
    have hbm := mem_kids.mp (List.mem_of_getElem? hb)
    have hlk : look bk b.1 = some b.2 := look_of_mem Fo.nd hbm.1
    obtain ⟨v, g1, t, c, rfl, hT, hc⟩ := (hD.same s3).r.at_ hlk
    have hp3 := s3 _ _ hp
    -- the lists' lengths
    have split3 : (kids bk par) = (kids bk par).take i ++ b :: (kids bk par).drop (i + 1) := by
      obtain ⟨hi, eb⟩ := List.getElem?_eq_some_iff.mp hb
      have z := (List.take_append_drop i (kids bk par)).symm
      rw [List.drop_eq_getElem_cons hi, eb] at z
      exact z
    have total := dfs_len Fo (n + 1) par dep
    have et : (dfs (n + 1) bk par dep).length = (((kids bk par).take i).flatMap fun b => (dep, b) :: dfs n bk b.1 (dep + 1)).length + ((dfs n bk b.1 (dep + 1)).length + 1) + (((kids bk par).drop (i + 1)).flatMap fun b => (dep, b) :: dfs n bk b.1 (dep + 1)).length := by
      rw [dfs]
      conv => lhs; rw [split3]
      rw [List.flatMap_append, List.flatMap_cons, List.length_append, List.length_append, List.length_cons]
      omega
    have la := Paired.length pr
    refine ⟨_, rfl, p, C, dx, _, _, rfl, hp3, T.cl, T.no, flds_at d, _, rfl, d, _, rfl, g1, t, _, rfl, hT, rfl, _, _, rfl, _, _, rfl, _, _, rfl, _, _, rfl, rfl, ?_⟩
    refine ⟨_, rfl, .inl ⟨rfl, _, sqL_of eo3⟩, _, rfl, _, rfl, _, rfl, _, rfl, _, rfl, (by show 5 ≤ sizeLine; decide), fun z nz => ?_⟩
    have noz : o ≠ z := ne_of_none eo3 nz
    have nlz : l ≠ z := ne_of_none el3 nz
    refine ⟨o, _, _, rfl, rfl, by rw [upd_ne noz]; exact eo3, small1000 (by omega), ?_⟩
    have s4 : Same H3 (upd H3 z (.tup [.int (dep : Int), .str b.1, .str b.2.kind, .int b.2.rank, c])) := same_new nz
    have eo4 : (upd H3 z (.tup [.int (dep : Int), .str b.1, .str b.2.kind, .int b.2.rank, c])) o = some (.lst acc) := by rw [upd_ne noz]; exact eo3
    have ez4 : (upd H3 z (.tup [.int (dep : Int), .str b.1, .str b.2.kind, .int b.2.rank, c])) z = some (.tup [.int (dep : Int), .str b.1, .str b.2.kind, .int b.2.rank, c]) := upd_same
    generalize upd H3 z (.tup [.int (dep : Int), .str b.1, .str b.2.kind, .int b.2.rank, c]) = H4 at s4 eo4 ez4
    have t5 : TSt H4 (upd H4 o (.lst (acc ++ [.ref z]))) := TSt.put eo4 rfl
    have s5 : Same H (upd H4 o (.lst (acc ++ [.ref z]))) := Same.put (s3.trans s4) no
    have eo5 : (upd H4 o (.lst (acc ++ [.ref z]))) o = some (.lst (acc ++ [.ref z])) := upd_same
    have el5 : (upd H4 o (.lst (acc ++ [.ref z]))) l = some (.lst ((kids bk par).map fun b => .str b.1)) := by rw [upd_ne nol.symm]; exact s4 _ _ el3
    generalize upd H4 o (.lst (acc ++ [.ref z])) = H5 at t5 s5 eo5 el5
    have line5 : LineV K H5 (.ref z) (dep, b) := ⟨z, c, rfl, sqT_st t5 (sqT_of ez4), con_st ((TSt.same s4).trans t5) hc⟩
    have pr5 : Paired (LineV K H5) acc _ := lines_st ((TSt.same s4).trans t5) pr
    have hp5 := s5 _ _ hp
    refine ⟨_, rfl, .inl ⟨rfl, _, sqL_of eo5⟩, _, rfl, p, dx, _, rfl, hp5, flds_no d (by decide +kernel), _, rfl, _, rfl, _, _, rfl, rfl, ?_⟩
    cases n with
    | zero =>
      exfalso
      have z1 := hlv b hbm.1 hbm.2
      have z2 := Fo.lt b hbm.1
      omega
    | succ n' =>
      refine ⟨p, d, b.1, dep + 1, bk, lvl, rfl, PlA.same hpl s5, hD.same s5, Fo, hl, .inr (List.mem_map.mpr ⟨b, hbm.1, rfl⟩), fun b' hb' e' => ?_, fun l2 H6 xs s6 nl2 el2 pr6 => ?_⟩
      · have z1 := hlv b hbm.1 hbm.2
        rcases Fo.up b' hb' with z | ⟨q, hq, q1, _, q3⟩
        · rw [e'] at z
          exact absurd z (Fo.ne b hbm.1)
        · rw [q1, e'] at q3
          omega
      · have eo6 := s6 _ _ eo5
        have lx := Paired.length pr6
        refine ⟨o, l2, _, xs, rfl, rfl, eo6, el2, ?_, ?_⟩
        · refine Nat.le_of_lt (small1000 ?_)
          rw [List.length_append, List.length_singleton]
          omega
        · have t7 : TSt H6 (upd H6 o (.lst (acc ++ [.ref z] ++ xs))) := TSt.put eo6 rfl
          refine ⟨_, _, _, _, _, _, rfl, Same.put (s5.trans s6) no, ?_, upd_same, ?_⟩
          · rw [upd_ne nol.symm]
            exact s6 _ _ el5
          · rw [List.take_add_one, hb, List.flatMap_append]
            rw [List.append_assoc] at t7 ⊢
            refine paired_app (lines_st ((TSt.same s6).trans t7) pr5) ?_
            show Paired _ _ (List.flatMap _ [b])
            rw [List.flatMap_cons, List.flatMap_nil, List.append_nil]
            exact .cons (lineV_st ((TSt.same s6).trans t7) line5) (lines_st t7 pr6)
  · obtain ⟨y4, y5, y6, y7, y8, acc, rfl, s3, el3, eo3, pr⟩ := h
    rw [List.length_map, take_full (Nat.le_refl _)] at pr
    refine ⟨_, rfl, k o H3 acc s3 no eo3 ?_⟩
    rw [dfs]
    exact pr
theorem linesU_none : FnOk P w K mg base CX0 1 f fd ["self", "parent", "depth"] (spLinesU K C 0) := ⟨fun vs H Q E h => h.elim, fun A outer s H args us vs Q E _ _ _ _ h => h.elim⟩
theorem ok_linesU (F : FnP K "lines_under" "Plain.lines_under" sLinesU f fd) (T : PlT K C) (mU : Meth K C "under" fU) (GU : FnOk P w K mg base CX0 1 fU fdU ["self", "parent"] (spUnder K C)) (bU : Binds K fdU ["self", "parent"] [])
    (mL : Meth K C "lines_under" f) (bL : Binds K fd ["self", "parent", "depth"] []) : ∀ n, FnOk P w K mg base CX0 (n + 1) f fd ["self", "parent", "depth"] (spLinesU K C n)
  | 0 => linesU_none
  | n + 1 => ok_linesU_step F T mU GU bU mL (ok_linesU F T mU GU bU mL bL n) bL
theorem scLines : FnScope ["self"] ["self"] (defScope sLines) := ⟨rfl, rfl, rfl, by decide +kernel, rfl, by decide +kernel, by decide +kernel⟩
theorem ok_lines {fL : Addr} {fdL : FuncData} (F : FnP K "lines" "Plain.lines" sLines f fd) (T : PlT K C) (mL : Meth K C "lines_under" fL) (G : FnOk P w K mg base CX0 12 fL fdL ["self", "parent", "depth"] (spLinesU K C 11)) (bL : Binds K fdL ["self", "parent", "depth"] []) :
    FnOk P w K mg base CX0 13 f fd ["self"] (spLines K C) := by
  refine fnp_ok F scLines (fun vs H Q E h => ?_) (fun cdv A outer s H vs Q E hr h => ?_)
  · obtain ⟨p, d, bk, lvl, rfl, _⟩ := h
    rfl
  obtain ⟨p, d, bk, lvl, rfl, hpl, hD, Fo, hl, k⟩ := h
  obtain ⟨dx, hp⟩ := id hpl
  refine ⟨_, pss_one (ps_ret (pe_meth (pv 0) T.cl mL G hr bL .nil pass0 (pa_cons pe_str (pa_cons pe_int pa_nil)))), ?_⟩
  refine ⟨_, rfl, p, dx, _, rfl, hp, flds_no d (by decide +kernel), p, d, Str.empty, 1, bk, lvl, rfl, hpl, hD, Fo, by omega, .inl rfl, fun b _ _ => Nat.le_trans hl (Nat.le_add_left _ _), fun l H' xs s1 nl el pr => ?_⟩
  exact k l H' xs s1 nl el pr
end
end Lf

/-! kinds, states, settled -/
namespace Lf
open PySem PySem.Spec PyProof.Rows L2
def spWord : Sp := fun vs H Q _ => ∃ x : V, vs = [x] ∧ Q (.str "chapter") H
def spHolds : Sp := fun vs H Q _ => ∃ x : V, vs = [x] ∧ Q (.bl true) H
def spKow (cC : Addr) : Sp := fun vs H Q _ => vs = [.str "chapter"] ∧ ∀ (x dx : Addr) (H' : Hp), Same H H' → H' x = some (.ins cC dx []) → Q (.ref x) H'
def spStateIn (K : PySem.W.Frag) (C : Addr) : Sp := fun vs H Q _ => ∃ (p d : Addr) (n : Str) (bk : Bk), vs = [.ref p, .str n] ∧ PlA C H p d ∧ DKr K H d bk ∧ ∀ v, OptV K H v (look bk n) → Q v H
def okO (o : Option Rec) : Prop := ∀ r, o = some r → okR r = true
def pick (e o t : Option Rec) : Option Rec := if o = t ∨ t = e then o else t
def spSettled (K : PySem.W.Frag) : Sp := fun vs H Q _ => ∃ (a b c : V) (e o t : Option Rec), vs = [a, b, c] ∧ OptV K H a e ∧ OptV K H b o ∧ OptV K H c t ∧ okO e ∧ okO o ∧ okO t ∧ (o = t ∨ t = e ∨ o = e) ∧
  ∀ (z l : Addr) (v : V) (H' : Hp), Same H H' → H' z = some (.tup [v, .ref l]) → H' l = some (.lst []) → OptV K H' v (pick e o t) → Q (.ref z) H'
section
variable {P : Program} {w : World} {K : PySem.W.Frag} {mg : Str → Option Value} {base : Heap} {f fU C : Addr} {fd fdU : FuncData}
theorem scWord : FnScope ["self"] ["self"] (defScope sWord) := ⟨rfl, rfl, rfl, by decide +kernel, rfl, by decide +kernel, by decide +kernel⟩
theorem ok_word (F : FnP K "word" "Chapter.word" sWord f fd) : FnOk P w K mg base CX0 1 f fd ["self"] spWord := by
  refine fnp_ok F scWord (fun vs H Q E h => ?_) (fun cdv A outer s H vs Q E hr h => ?_)
  · obtain ⟨x, rfl, _⟩ := h
    rfl
  obtain ⟨x, rfl, k⟩ := h
  exact ⟨_, pss_one (ps_ret pe_str), k⟩
theorem scHolds : FnScope ["self"] ["self"] (defScope sHolds) := ⟨rfl, rfl, rfl, by decide +kernel, rfl, by decide +kernel, by decide +kernel⟩
theorem ok_holds (F : FnP K "holds" "Chapter.holds" sHolds f fd) : FnOk P w K mg base CX0 1 f fd ["self"] spHolds := by
  refine fnp_ok F scHolds (fun vs H Q E h => ?_) (fun cdv A outer s H vs Q E hr h => ?_)
  · obtain ⟨x, rfl, _⟩ := h
    rfl
  obtain ⟨x, rfl, k⟩ := h
  exact ⟨_, pss_one (ps_ret pe_bl), k⟩
theorem scKow : FnScope ["word", "kind"] ["word"] (defScope sKow) := ⟨rfl, rfl, rfl, by decide +kernel, rfl, by decide +kernel, by decide +kernel⟩
theorem ok_kow {cC cP cT fW : Addr} {fdW : FuncData} (F : FnP K "kind_of_word" "kind_of_word" sKow f fd) (clC : Cls K cC) (MC : Mk0 K cC) (MP : Mk0 K cP) (MT : Mk0 K cT) (gC : mg "Chapter" = some (.ref cC)) (gP : mg "Para" = some (.ref cP)) (gT : mg "Table" = some (.ref cT))
    (mW : Meth K cC "word" fW) (GW : FnOk P w K mg base CX0 1 fW fdW ["self"] spWord) (bW : Binds K fdW ["self"] []) : FnOk P w K mg base CX0 2 f fd ["word"] (spKow cC) := by
  refine fnp_ok F scKow (fun vs H Q E h => ?_) (fun cdv A outer s H vs Q E hr h => ?_)
  · obtain ⟨rfl, _⟩ := h
    rfl
  obtain ⟨rfl, k⟩ := h
  have nd := scKow.nd
  refine ⟨_, pss_cons (ps_for PassesOwn.never rfl (pi_list (pe_lst (pa_cons (pe_mk0 MC (by rfl) gC) (pa_cons (pe_mk0 MP (by rfl) gP) (pa_cons (pe_mk0 MT (by rfl) gT) pa_nil))))) (pg_name (i := 1) nd rfl (.inl rfl))
      (pss_one (ps_if (pt_cmpR op_eq (pe_meth0 (pv 1) clC mW GW hr bW .nil pass0) (pv 0) (nomark _)) (pss_one (ps_ret (pv 1))) pss_nil)))
    (pss_one (ps_ret pe_non)), ?_⟩
  have mk : ∀ (H : Hp) (x dx c : Addr), H x = none → H dx = none → Same H (upd (upd H dx (.own x)) x (.ins c dx [])) := fun H x dx c hx hd => Same.put (same_new hd) hx
  intro x1 d1 nx1 nd1 ne1
  have s1 := mk H x1 d1 cC nx1 nd1
  have e1 : (upd (upd H d1 (.own x1)) x1 (.ins cC d1 [])) x1 = some (.ins cC d1 []) := upd_same
  generalize upd (upd H d1 (.own x1)) x1 (.ins cC d1 []) = H1 at s1 e1
  intro x2 d2 nx2 nd2 ne2
  have s2 := mk H1 x2 d2 cP nx2 nd2
  generalize upd (upd H1 d2 (.own x2)) x2 (.ins cP d2 []) = H2 at s2
  intro x3 d3 nx3 nd3 ne3
  have s3 := mk H2 x3 d3 cT nx3 nd3
  generalize upd (upd H2 d3 (.own x3)) x3 (.ins cT d3 []) = H3 at s3
  refine ⟨(by show 3 ≤ sizeLine; decide), fun l nl => ?_⟩
  have s4 : Same H3 (upd H3 l (.lst [.ref x1, .ref x2, .ref x3])) := same_new nl
  have el : (upd H3 l (.lst [.ref x1, .ref x2, .ref x3])) l = some (.lst [.ref x1, .ref x2, .ref x3]) := upd_same
  generalize upd H3 l (.lst [.ref x1, .ref x2, .ref x3]) = H4 at s4 el
  have s14 : Same H1 H4 := s2.trans (s3.trans s4)
  refine ⟨l, rfl, ⟨_, sqL_of el⟩, ?_⟩
  refine for_list (K := K) (a := l) (xs := [.ref x1, .ref x2, .ref x3]) (fun i σ H5 => i = 0 ∧ σ = [some (.str "chapter"), none] ∧ H5 = H4) ⟨rfl, rfl, rfl⟩ (fun i σ H5 _ h => ?_) (fun i x σ H5 hx h => ?_) (fun σ H5 h => ?_)
  · obtain ⟨_, _, rfl⟩ := h
    exact sqL_of el
  · obtain ⟨rfl, rfl, rfl⟩ := h
    have ex : V.ref x1 = x := Option.some.inj hx
    subst ex
    refine ⟨_, rfl, x1, d1, [], rfl, s14 _ _ e1, rfl, _, rfl, _, rfl, rfl, _, rfl, ?_⟩
    refine ite2 (fun _ => ?_) (fun c => absurd (decide_eq_true rfl) c)
    exact ⟨_, rfl, k x1 d1 H5 (s1.trans s14) (s14 _ _ e1)⟩
  · obtain ⟨z, _⟩ := h
    cases z
theorem scStateIn : FnScope ["plain", "name"] ["plain", "name"] (defScope sStateIn) := ⟨rfl, rfl, rfl, by decide +kernel, rfl, by decide +kernel, by decide +kernel⟩
theorem ok_stateIn {fH fS : Addr} {fdH fdS : FuncData} (F : FnP K "state_in" "state_in" sStateIn f fd) (T : PlT K C) (mH : Meth K C "has" fH) (GH : FnOk P w K mg base CX0 1 fH fdH ["self", "name"] (spHas K C)) (bH : Binds K fdH ["self", "name"] [])
    (mS : Meth K C "state" fS) (GS : FnOk P w K mg base CX0 1 fS fdS ["self", "name"] (spState K C)) (bS : Binds K fdS ["self", "name"] []) : FnOk P w K mg base CX0 2 f fd ["plain", "name"] (spStateIn K C) := by
  refine fnp_ok F scStateIn (fun vs H Q E h => ?_) (fun cdv A outer s H vs Q E hr h => ?_)
  · obtain ⟨p, d, n, bk, rfl, _⟩ := h
    rfl
  obtain ⟨p, d, n, bk, rfl, hpl, hD, k⟩ := h
  obtain ⟨dx, hp⟩ := id hpl
  refine ⟨_, pss_cons (ps_if (pt_val (pe_meth (pv 0) T.cl mH GH hr bH .nil pass0 (pa_cons (pv 1) pa_nil))) (pss_one (ps_ret (pe_meth (pv 0) T.cl mS GS hr bS .nil pass0 (pa_cons (pv 1) pa_nil)))) pss_nil) (pss_one (ps_ret pe_non)), ?_⟩
  refine ⟨_, rfl, p, dx, _, rfl, hp, flds_no d (by decide +kernel), _, rfl, p, d, n, bk, rfl, hpl, hD, _, rfl, ?_⟩
  cases e : look bk n with
  | none =>
    rw [e] at k
    exact iteF (k .non rfl)
  | some r =>
    rw [e] at k
    refine iteT ?_
    exact ⟨_, rfl, p, dx, _, rfl, hp, flds_no d (by decide +kernel), _, rfl, p, d, n, bk, r, rfl, hpl, hD, e, fun v hv => k v hv⟩
theorem scSettled : FnScope ["elder", "one", "other"] ["elder", "one", "other"] (defScope sSettled) := ⟨rfl, rfl, rfl, by decide +kernel, rfl, by decide +kernel, by decide +kernel⟩
theorem ok_settled (F : FnP K "settled" "settled" sSettled f fd) : FnOk P w K mg base CX0 1 f fd ["elder", "one", "other"] (spSettled K) := by
  refine fnp_ok F scSettled (fun vs H Q E h => ?_) (fun cdv A outer s H vs Q E hr h => ?_)
  · obtain ⟨a, b, c, e, o, t, rfl, _⟩ := h
    rfl
  obtain ⟨a, b, c, e, o, t, rfl, ha, hb, hc, oe, oo, ot, hh, k⟩ := h
  refine ⟨_, pss_cons (ps_if (PW.pt (pw_or (pt_cmpR (op_eqD hr.units) (pv 1) (pv 2) (nomark _)) (pw_or1 (pt_cmpR (op_eqD hr.units) (pv 2) (pv 0) (nomark _))))) (pss_one (ps_ret (pe_tup (pa_cons (pv 1) (pa_cons (pe_lst pa_nil) pa_nil))))) pss_nil)
    (pss_cons (ps_if (pt_cmpR (op_eqD hr.units) (pv 1) (pv 0) (nomark _)) (pss_one (ps_ret (pe_tup (pa_cons (pv 2) (pa_cons (pe_lst pa_nil) pa_nil))))) pss_nil) pss_never), ?_⟩
  have fin : ∀ (v : V) (q : Option Rec), OptV K H v q → pick e o t = q → (0 ≤ sizeLine ∧ ∀ l, H l = none → 2 ≤ sizeLine ∧ ∀ z, (upd H l (.lst [])) z = none → Q (.ref z) (upd (upd H l (.lst [])) z (.tup [v, .ref l]))) := fun v q hv hq => by
    refine ⟨Nat.zero_le _, fun l nl => ⟨by decide, fun z nz => ?_⟩⟩
    have s1 : Same H (upd H l (.lst [])) := same_new nl
    have el : (upd H l (.lst [])) l = some (.lst []) := upd_same
    generalize upd H l (.lst []) = H1 at s1 el nz
    have s2 : Same H1 (upd H1 z (.tup [v, .ref l])) := same_new nz
    refine k z l v _ (s1.trans s2) upd_same (s2 _ _ el) ?_
    rw [hq]
    exact optV_st (TSt.same (s1.trans s2)) hv
  refine ⟨_, rfl, _, rfl, _, _, optV_dp hb, optV_dp hc, shaped_opt o oo, shaped_opt t ot, _, rfl, ?_⟩
  rw [eqv_opt o t oo]
  refine ite2 (fun z => ?_) (fun z => ?_)
  · have z1 : o = t := of_decide_eq_true z
    refine iteT ⟨_, rfl, fin b o hb ?_⟩
    unfold pick
    rw [if_pos (.inl z1)]
  · have z1 : ¬ o = t := fun q => z (decide_eq_true q)
    refine ⟨_, rfl, _, rfl, _, _, optV_dp hc, optV_dp ha, shaped_opt t ot, shaped_opt e oe, _, rfl, ?_⟩
    rw [eqv_opt t e ot]
    refine ite2 (fun y => ?_) (fun y => ?_)
    · have y1 : t = e := of_decide_eq_true y
      refine ⟨_, rfl, fin b o hb ?_⟩
      unfold pick
      rw [if_pos (.inr y1)]
    · have y1 : ¬ t = e := fun q => y (decide_eq_true q)
      have x1 : o = e := by
        rcases hh with q | q | q
        · exact absurd q z1
        · exact absurd q y1
        · exact q
      refine ⟨_, rfl, _, rfl, _, _, optV_dp hb, optV_dp ha, shaped_opt o oo, shaped_opt e oe, _, rfl, ?_⟩
      rw [eqv_opt o e oo, decide_eq_true x1]
      refine iteT ⟨_, rfl, fin c t hc ?_⟩
      unfold pick
      rw [if_neg]
      intro q
      rcases q with q | q
      · exact z1 q
      · exact y1 q
end
end Lf

/-! unheld, ringed, loosened, lay_beneath -/
namespace Lf
open PySem PySem.Spec PyProof.Rows L2
/-- n stands beneath par -/
inductive Reach (bk : Bk) : Str → Str → Prop
  | kid {par n : Str} {r : Rec} : (n, r) ∈ bk → r.par = par → Reach bk par n
  | deep {par c n : Str} {r : Rec} : (c, r) ∈ bk → r.par = par → Reach bk c n → Reach bk par n
theorem Reach.snoc {bk : Bk} {x p n : Str} {r : Rec} (h : Reach bk x p) (hn : (n, r) ∈ bk) (e : r.par = p) : Reach bk x n := by
  induction h with
  | kid h1 h2 => exact .deep h1 h2 (.kid hn e)
  | deep h1 h2 _ ih => exact .deep h1 h2 (ih e)
theorem reach_all {bk : Bk} {lvl : Str → Nat} (F : Forest bk lvl) : ∀ (k : Nat) (p : Str × Rec), p ∈ bk → lvl p.1 = k → Reach bk Str.empty p.1 := by
  intro k
  induction k using Nat.strongRecOn with
  | _ k ih =>
    intro p hp hk
    rcases F.up p hp with e | ⟨q, hq, e1, _, e3⟩
    · exact .kid (r := p.2) hp e
    · exact (ih (lvl q.1) (by omega) q hq rfl).snoc (r := p.2) hp e1.symm
theorem key_look {bk : Bk} (nd : (bk.map (·.1)).Nodup) {n : Str} (h : n ∈ bk.map (·.1)) : ∃ r, look bk n = some r ∧ (n, r) ∈ bk := by
  obtain ⟨p, hp, e⟩ := List.mem_map.mp h
  have e1 : p.1 = n := e
  refine ⟨p.2, ?_, ?_⟩
  · rw [← e1]
    exact look_of_mem nd hp
  · rw [← e1]
    exact hp
/-- a look at records that are a tree: a new empty list -/
def spNone (K : PySem.W.Frag) : Sp := fun vs H Q _ => ∃ (d : Addr) (bk : Bk) (lvl : Str → Nat), vs = [.ref d] ∧ DKm K H d bk ∧ Forest bk lvl ∧ bk.length ≤ 60 ∧ ∀ (l : Addr) (H' : Hp), Same H H' → H l = none → H' l = some (.lst []) → Q (.ref l) H'
/-- n calls are allowed -/
def spLayB (K : PySem.W.Frag) (C : Addr) : Nat → Sp
  | 0 => fun _ _ _ _ => False
  | f + 1 => fun vs H Q _ => ∃ (p d dr : Addr) (par : Str) (recs pd : Bk) (lvl : Str → Nat), vs = [.ref p, .ref dr, .str par] ∧ PlA C H p d ∧ DKm K H d pd ∧ DKm K H dr recs ∧ d ≠ dr ∧ Forest recs lvl ∧ recs.length ≤ 50 ∧ (pd.map (·.1)).Nodup ∧ (∀ x ∈ pd, x ∈ recs) ∧
    (∀ b ∈ recs, b.2.par = par → recs.length ≤ lvl b.1 + f) ∧
    ∀ (H' : Hp) (pd' : Bk), KeepB d H H' → DKm K H' d pd' → (pd'.map (·.1)).Nodup → (∀ x ∈ pd', x ∈ recs) → (∀ m ∈ pd.map (·.1), m ∈ pd'.map (·.1)) → (∀ m, Reach recs par m → m ∈ pd'.map (·.1)) → Q .non H'
section
variable {P : Program} {w : World} {K : PySem.W.Frag} {mg : Str → Option Value} {base : Heap} {f C : Addr} {fd : FuncData}
theorem scUnheld : FnScope ["records", "found", "name", "parent"] ["records"] (defScope sUnheld) := ⟨rfl, rfl, rfl, by decide +kernel, rfl, by decide +kernel, by decide +kernel⟩
theorem ok_unheld {cC fK fH : Addr} {fdK fdH : FuncData} (F : FnP K "unheld" "unheld" sUnheld f fd) (mS : mg "sorted" = none) (clC : Cls K cC) (GK : FnOk P w K mg base CX0 2 fK fdK ["word"] (spKow cC)) (gK : mg "kind_of_word" = some (.ref fK)) (kK : PySem.W.keepIn K (.ref fK) = true) (bK : Binds K fdK ["word"] [])
    (mH : Meth K cC "holds" fH) (GH : FnOk P w K mg base CX0 1 fH fdH ["self"] spHolds) (bH : Binds K fdH ["self"] []) : FnOk P w K mg base CX0 3 f fd ["records"] (spNone K) := by
  refine fnp_ok F scUnheld (fun vs H Q E h => ?_) (fun cdv A outer s H vs Q E hr h => ?_)
  · obtain ⟨d, bk, lvl, rfl, _⟩ := h
    rfl
  obtain ⟨d, bk, lvl, rfl, hD, Fo, hl, k⟩ := h
  have hu := hu_of hr
  have nd := scUnheld.nd
  refine ⟨_, pss_cons (ps_set (i := 1) nd rfl (.inl rfl) (pe_lst pa_nil))
    (pss_cons (ps_for PassesOwn.never rfl (pi_list (pe_callB (call_sortedD rfl) (by rfl) mS (by decide +kernel) (pa_cons (pv 0) pa_nil))) (pg_name (i := 2) nd rfl (.inl rfl))
      (pss_cons (ps_set (i := 3) nd rfl (.inl rfl) (pe_ix ix_tup (pe_dget hu (pv 0) (pv 2) (fun _ _ => rfl)) pe_int (fun _ _ => rfl)))
      (pss_one (ps_if (pt_cmpR op_ne (pv 3) pe_str (nomark _)) (pss_one (ps_if (PW.pt (pw_or (pt_cmp (pc_dnotin hu (pv 3) (pv 0))) (pw_or1 (pt_not (pt_val (pe_meth0
        (pe_call GK hr (by rfl) gK kK bK .nil pass0 (pa_cons (pe_ix ix_tup (pe_dget hu (pv 0) (pv 3) (fun _ _ => rfl)) pe_int (fun _ _ => rfl)) pa_nil)) clC mH GH (hr.mono (by decide)) bH .nil pass0)))))) (pss_one ps_never) pss_nil)) pss_nil))))
    (pss_one (ps_ret (pv 1)))), ?_⟩
  refine ⟨Nat.zero_le _, fun o no => ?_⟩
  have s1 : Same H (upd H o (.lst [])) := same_new no
  have e1 : (upd H o (.lst [])) o = some (.lst []) := upd_same
  generalize upd H o (.lst []) = H1 at s1 e1
  obtain ⟨kvs, hd1, hb1⟩ := hD.same s1
  refine ⟨_, rfl, d, kvs, bk.map (·.1), rfl, .inl hd1, bkV_keys hb1, (by rw [List.length_map]; omega), fun ys l pm _ nl => ?_⟩
  have s2 : Same H1 (upd H1 l (.lst (ys.map V.str))) := same_new nl
  have el : (upd H1 l (.lst (ys.map V.str))) l = some (.lst (ys.map V.str)) := upd_same
  generalize upd H1 l (.lst (ys.map V.str)) = H2 at s2 el
  refine ⟨l, rfl, ⟨_, sqL_of el⟩, ?_⟩
  refine for_list (K := K) (a := l) (xs := ys.map V.str) (fun i σ H3 => ∃ y2 y3, σ = [some (.ref d), some (.ref o), y2, y3] ∧ Same H H3 ∧ H3 l = some (.lst (ys.map V.str)) ∧ H3 o = some (.lst [])) ⟨none, none, rfl, s1.trans s2, el, s2 _ _ e1⟩ (fun i σ H3 _ h => ?_) (fun i x σ H3 hx h => ?_) (fun σ H3 h => ?_)
  · obtain ⟨_, _, _, _, h4, _⟩ := h
    exact sqL_of h4
  · obtain ⟨y2, y3, rfl, s3, el3, eo3⟩ := h
    rw [List.getElem?_map] at hx
    obtain ⟨n, hn, rfl⟩ := Option.map_eq_some_iff.mp hx
    obtain ⟨r, hlk, hmem⟩ := key_look Fo.nd (pm.mem_iff.mp (List.mem_of_getElem? hn))
    have hD3 := hD.same s3
    obtain ⟨v, g1, t, c, rfl, hT, _⟩ := hD3.r.at_ hlk
    refine ⟨_, rfl, _, rfl, d, _, rfl, g1, t, _, _, _, rfl, rfl, hT, atI_nat (j := 1) rfl, ?_⟩
    refine ⟨_, rfl, rfl, _, rfl, ?_⟩
    refine ite2 (fun z => ?_) (fun z => ?_)
    · rcases Fo.up (n, r) hmem with e | ⟨q, hq, q1, q2, _⟩
      · have e2 : r.par = Str.empty := e
        rw [e2] at z
        exact absurd z (by decide +kernel)
      · have q1' : q.1 = r.par := q1
        have hlq : look bk r.par = some q.2 := by
          rw [← q1']
          exact look_of_mem Fo.nd hq
        obtain ⟨v2, g2, t2, c2, rfl, hT2, _⟩ := hD3.r.at_ hlq
        refine ⟨_, rfl, _, rfl, d, _, rfl, g2, _, rfl, ?_⟩
        refine iteF ?_
        refine ⟨_, rfl, _, rfl, d, _, rfl, g2, t2, _, _, _, rfl, rfl, hT2, atI_nat (j := 0) rfl, (by rw [q2]; rfl), fun x dx H4 s4 ex => ?_⟩
        refine ⟨x, dx, [], rfl, ex, rfl, _, rfl, _, rfl, ?_⟩
        refine iteF ?_
        exact ⟨_, _, rfl, s3.trans s4, s4 _ _ el3, s4 _ _ eo3⟩
    · exact ⟨_, _, rfl, s3, el3, eo3⟩
  · obtain ⟨y2, y3, rfl, s3, el3, eo3⟩ := h
    exact ⟨_, rfl, k o H3 s3 no eo3⟩
theorem scRinged : FnScope ["records", "found", "name", "above", "steps"] ["records"] (defScope sRinged) := ⟨rfl, rfl, rfl, by decide +kernel, rfl, by decide +kernel, by decide +kernel⟩
theorem ok_ringed (F : FnP K "ringed" "ringed" sRinged f fd) (mS : mg "sorted" = none) (mL : mg "len" = none) : FnOk P w K mg base CX0 1 f fd ["records"] (spNone K) := by
  refine fnp_ok F scRinged (fun vs H Q E h => ?_) (fun cdv A outer s H vs Q E hr h => ?_)
  · obtain ⟨d, bk, lvl, rfl, _⟩ := h
    rfl
  obtain ⟨d, bk, lvl, rfl, hD, Fo, hl, k⟩ := h
  have hu := hu_of hr
  have nd := scRinged.nd
  refine ⟨_, pss_cons (ps_set (i := 1) nd rfl (.inl rfl) (pe_lst pa_nil))
    (pss_cons (ps_for PassesOwn.never rfl (pi_list (pe_callB (call_sortedD rfl) (by rfl) mS (by decide +kernel) (pa_cons (pv 0) pa_nil))) (pg_name (i := 2) nd rfl (.inl rfl))
      (pss_cons (ps_set (i := 3) nd rfl (.inl rfl) (pe_ix ix_tup (pe_dget hu (pv 0) (pv 2) (fun _ _ => rfl)) pe_int (fun _ _ => rfl)))
      (pss_cons (ps_set (i := 4) nd rfl (.inl rfl) pe_int)
      (pss_cons (ps_while PassesOwn.never (PW.pt (pw_and (pt_cmpR op_ne (pv 3) pe_str (nomark _)) (pw_and (pt_cmpR op_ne (pv 3) (pv 2) (nomark _)) (pw_and1 (pt_cmpR op_lt (pv 4) (pe_callB call_lenD (by rfl) mL PySem.boot_len (pa_cons (pv 0) pa_nil)) (nomark _))))))
        (pss_cons (ps_set (i := 3) nd rfl (.inl rfl) (pe_ix ix_tup (pe_dget hu (pv 0) (pv 3) (fun _ _ => rfl)) pe_int (fun _ _ => rfl))) (pss_one (ps_aug (i := 4) nd rfl (.inl rfl) pe_int ip_add))))
      (pss_one (ps_if (pt_cmpR op_eq (pv 3) (pv 2) (nomark _)) (pss_one ps_never) pss_nil))))))
    (pss_one (ps_ret (pv 1)))), ?_⟩
  refine ⟨Nat.zero_le _, fun o no => ?_⟩
  have s1 : Same H (upd H o (.lst [])) := same_new no
  have e1 : (upd H o (.lst [])) o = some (.lst []) := upd_same
  generalize upd H o (.lst []) = H1 at s1 e1
  obtain ⟨kvs, hd1, hb1⟩ := hD.same s1
  refine ⟨_, rfl, d, kvs, bk.map (·.1), rfl, .inl hd1, bkV_keys hb1, (by rw [List.length_map]; omega), fun ys l pm _ nl => ?_⟩
  have s2 : Same H1 (upd H1 l (.lst (ys.map V.str))) := same_new nl
  have el : (upd H1 l (.lst (ys.map V.str))) l = some (.lst (ys.map V.str)) := upd_same
  generalize upd H1 l (.lst (ys.map V.str)) = H2 at s2 el
  refine ⟨l, rfl, ⟨_, sqL_of el⟩, ?_⟩
  refine for_list (K := K) (a := l) (xs := ys.map V.str) (fun i σ H3 => ∃ y2 y3 y4, σ = [some (.ref d), some (.ref o), y2, y3, y4] ∧ Same H H3 ∧ H3 l = some (.lst (ys.map V.str)) ∧ H3 o = some (.lst [])) ⟨none, none, none, rfl, s1.trans s2, el, s2 _ _ e1⟩ (fun i σ H3 _ h => ?_) (fun i x σ H3 hx h => ?_) (fun σ H3 h => ?_)
  · obtain ⟨_, _, _, _, _, h4, _⟩ := h
    exact sqL_of h4
  · obtain ⟨y2, y3, y4, rfl, s3, el3, eo3⟩ := h
    rw [List.getElem?_map] at hx
    obtain ⟨n, hn, rfl⟩ := Option.map_eq_some_iff.mp hx
    obtain ⟨r, hlk, hmem⟩ := key_look Fo.nd (pm.mem_iff.mp (List.mem_of_getElem? hn))
    have hD3 := hD.same s3
    have hn0 : n ≠ Str.empty := Fo.ne (n, r) hmem
    obtain ⟨v, g1, t, c, rfl, hT, _⟩ := hD3.r.at_ hlk
    refine ⟨_, rfl, _, rfl, d, _, rfl, g1, t, _, _, _, rfl, rfl, hT, atI_nat (j := 1) rfl, ?_⟩
    -- the chain of the parents
    have out : ∀ (ab : Str) (st : Int), ab ≠ n → (tIfS (tTest (tOp rEq (tVar 3) (tVar 2))) tNever tNext)
        { nx := fun σ H' => ∃ y2 y3 y4, σ = [some (.ref d), some (.ref o), y2, y3, y4] ∧ Same H H' ∧ H' l = some (.lst (ys.map V.str)) ∧ H' o = some (.lst []), ct := fun σ H' => ∃ y2 y3 y4, σ = [some (.ref d), some (.ref o), y2, y3, y4] ∧ Same H H' ∧ H' l = some (.lst (ys.map V.str)) ∧ H' o = some (.lst []),
          bk := fun σ H' => Q (.ref o) H', rt := Q } [some (.ref d), some (.ref o), some (.str n), some (.str ab), some (.int st)] H3 := fun ab st ne => by
      refine ⟨_, rfl, _, rfl, rfl, _, rfl, ?_⟩
      refine ite2 (fun z => absurd (V.str.inj (of_decide_eq_true z)) ne) (fun z => ?_)
      exact ⟨_, _, _, rfl, s3, el3, eo3⟩
    refine ⟨fun m σ H' => H' = H3 ∧ ∃ (ab : Str) (st : Int), σ = [some (.ref d), some (.ref o), some (.str n), some (.str ab), some (.int st)] ∧ (ab = Str.empty ∨ ∃ q ∈ bk, q.1 = ab ∧ lvl ab < lvl n ∧ m = lvl ab + 1), ⟨lvl r.par + 1, rfl, r.par, 0, rfl, ?_⟩, fun m σ H' h => ?_⟩
    · rcases Fo.up (n, r) hmem with e | ⟨q, hq, q1, _, q3⟩
      · exact .inl e
      · have q1' : q.1 = r.par := q1
        exact .inr ⟨q, hq, q1', by rw [← q1']; exact q3, rfl⟩
    · obtain ⟨rfl, ab, st, rfl, hab⟩ := h
      refine ⟨_, rfl, rfl, _, rfl, ?_⟩
      refine ite2 (fun z => ?_) (fun z => ?_)
      · -- a part above
        rcases hab with e | ⟨q, hq, q1, q2, q3⟩
        · rw [e] at z
          exact absurd z (by decide +kernel)
        · have ne : ab ≠ n := fun e => by
            rw [e] at q2
            exact Nat.lt_irrefl _ q2
          have hlq : look bk ab = some q.2 := by
            rw [← q1]
            exact look_of_mem Fo.nd hq
          obtain ⟨kvs3, hd3, hb3⟩ := hD3
          refine ⟨_, rfl, _, rfl, rfl, _, rfl, ?_⟩
          refine ite2 (fun _ => ?_) (fun y => ?_)
          · refine ⟨_, rfl, _, rfl, d, kvs3, rfl, hd3, _, _, rfl, rfl, _, rfl, ?_⟩
            refine ite2 (fun _ => ?_) (fun _ => ?_)
            · have hD4 : DKm K H' d bk := ⟨kvs3, hd3, hb3⟩
              obtain ⟨v2, g2, t2, c2, rfl, hT2, _⟩ := hD4.r.at_ hlq
              refine ⟨fun σ' H'' => H'' = H' ∧ ∃ (ab' : Str) (st' : Int), σ' = [some (.ref d), some (.ref o), some (.str n), some (.str ab'), some (.int st')] ∧ (ab' = Str.empty ∨ ∃ q' ∈ bk, q'.1 = ab' ∧ lvl ab' < lvl ab), fun σ' H'' h' => ?_, ?_⟩
              · obtain ⟨rfl, ab', st', rfl, h'⟩ := h'
                rcases h' with e | ⟨q', hq', e1', e2'⟩
                · exact ⟨0, by rw [q3]; exact Nat.succ_pos _, rfl, ab', st', rfl, .inl e⟩
                · exact ⟨lvl ab' + 1, by rw [q3]; exact Nat.succ_lt_succ e2', rfl, ab', st', rfl, .inr ⟨q', hq', e1', Nat.lt_trans e2' q2, rfl⟩⟩
              · refine ⟨_, rfl, _, rfl, d, _, rfl, g2, t2, _, _, _, rfl, rfl, hT2, atI_nat (j := 1) rfl, ?_⟩
                refine ⟨_, rfl, _, _, rfl, rfl, rfl, q.2.par, st + 1, rfl, ?_⟩
                rcases Fo.up q hq with e | ⟨q', hq', e1', _, e3'⟩
                · exact .inl e
                · refine .inr ⟨q', hq', e1', ?_⟩
                  rw [← e1', ← q1]
                  exact e3'
            · exact out ab st ne
          · exact absurd (by rw [decide_eq_false (fun e => ne (V.str.inj e))]; rfl) y
      · -- the top
        refine iteF ?_
        rcases hab with e | ⟨q, hq, q1, q2, q3⟩
        · exact out ab st (by rw [e]; exact hn0.symm)
        · exact out ab st (fun e => by
            rw [e] at q2
            exact Nat.lt_irrefl _ q2)
  · obtain ⟨y2, y3, y4, rfl, s3, el3, eo3⟩ := h
    exact ⟨_, rfl, k o H3 s3 no eo3⟩
theorem scLoosened : FnScope ["records", "found", "name", "ring"] ["records"] (defScope sLoosened) := ⟨rfl, rfl, rfl, by decide +kernel, rfl, by decide +kernel, by decide +kernel⟩
theorem ok_loosened {fU fR : Addr} {fdU fdR : FuncData} (F : FnP K "loosened" "loosened" sLoosened f fd) (GU : FnOk P w K mg base CX0 3 fU fdU ["records"] (spNone K)) (gU : mg "unheld" = some (.ref fU)) (kU : PySem.W.keepIn K (.ref fU) = true) (bU : Binds K fdU ["records"] [])
    (GR : FnOk P w K mg base CX0 1 fR fdR ["records"] (spNone K)) (gR : mg "ringed" = some (.ref fR)) (kR : PySem.W.keepIn K (.ref fR) = true) (bR : Binds K fdR ["records"] []) : FnOk P w K mg base CX0 4 f fd ["records"] (spNone K) := by
  refine fnp_ok F scLoosened (fun vs H Q E h => ?_) (fun cdv A outer s H vs Q E hr h => ?_)
  · obtain ⟨d, bk, lvl, rfl, _⟩ := h
    rfl
  obtain ⟨d, bk, lvl, rfl, hD, Fo, hl, k⟩ := h
  have nd := scLoosened.nd
  refine ⟨_, pss_cons (ps_set (i := 1) nd rfl (.inl rfl) (pe_call GU hr (by rfl) gU kU bU .nil pass0 (pa_cons (pv 0) pa_nil)))
    (pss_cons (ps_for PassesOwn.never rfl (pi_list (pv 1)) (pg_name (i := 2) nd rfl (.inl rfl)) pss_never)
    (pss_cons (ps_set (i := 3) nd rfl (.inl rfl) (pe_call GR (hr.mono (by decide)) (by rfl) gR kR bR .nil pass0 (pa_cons (pv 0) pa_nil)))
    (pss_cons (ps_while PassesOwn.never (pt_cmpR (op_neD hr.units) (pv 3) (pe_lst pa_nil) (nomark _)) pss_never)
    (pss_one (ps_ret (pv 1)))))), ?_⟩
  refine ⟨_, rfl, d, bk, lvl, rfl, hD, Fo, hl, fun l H1 s1 nl el => ?_⟩
  refine ⟨_, rfl, l, rfl, ⟨_, sqL_of el⟩, ?_⟩
  refine for_list (K := K) (a := l) (xs := []) (fun i σ H3 => σ = [some (.ref d), some (.ref l), none, none] ∧ H3 = H1) ⟨rfl, rfl⟩ (fun i σ H3 _ h => ?_) (fun i x σ H3 hx h => ?_) (fun σ H3 h => ?_)
  · rw [h.2]
    exact sqL_of el
  · simp at hx
  · obtain ⟨rfl, rfl⟩ := h
    refine ⟨_, rfl, d, bk, lvl, rfl, hD.same s1, Fo, hl, fun l2 H2 s2 nl2 el2 => ?_⟩
    refine ⟨fun m σ H4 => m = 0 ∧ σ = [some (.ref d), some (.ref l), none, some (.ref l2)] ∧ H4 = H2, ⟨0, rfl, rfl, rfl⟩, fun m σ H4 h => ?_⟩
    obtain ⟨rfl, rfl, rfl⟩ := h
    refine ⟨_, rfl, Nat.zero_le _, fun z nz => ?_⟩
    have s3 : Same H4 (upd H4 z (.lst [])) := same_new nz
    refine ⟨.list [], .list [], .lst (sqL_of (s3 _ _ el2)) .nil, .lst (sqL_of upd_same) .nil, by decide, by decide, _, rfl, ?_⟩
    refine iteF ?_
    exact ⟨_, rfl, k l _ (s1.trans (s2.trans s3)) nl (s3 _ _ (s2 _ _ el))⟩
theorem scLayB : FnScope ["plain", "records", "parent", "name", "kind", "above", "rank", "content"] ["plain", "records", "parent"] (defScope sLayB) := ⟨rfl, rfl, rfl, by decide +kernel, rfl, by decide +kernel, by decide +kernel⟩
theorem ok_layB_step {n : Nat} {fL : Addr} {fdL : FuncData} (F : FnP K "lay_beneath" "lay_beneath" sLayB f fd) (T : PlT K C) (mS : mg "sorted" = none) (mL : Meth K C "lay" fL) (GL : FnOk P w K mg base CX0 1 fL fdL ["self", "name", "kind", "parent", "rank", "content"] (spLay K C))
    (bL : Binds K fdL ["self", "name", "kind", "parent", "rank", "content"] []) (G : FnOk P w K mg base CX0 (n + 1) f fd ["plain", "records", "parent"] (spLayB K C n)) (gB : mg "lay_beneath" = some (.ref f)) (bB : Binds K fd ["plain", "records", "parent"] []) :
    FnOk P w K mg base CX0 (n + 2) f fd ["plain", "records", "parent"] (spLayB K C (n + 1)) := by
  refine fnp_ok F scLayB (fun vs H Q E h => ?_) (fun cdv A outer s H vs Q E hr h => ?_)
  · obtain ⟨p, d, dr, par, recs, pd, lvl, rfl, _⟩ := h
    rfl
  obtain ⟨p, d, dr, par, recs, pd, lvl, rfl, hpl, hD, hR, ndr, Fo, hl, hnd, hsub, hlv, k⟩ := h
  have hu := hu_of hr
  have nd := scLayB.nd
  refine ⟨_, pss_one (ps_for PassesOwn.never rfl (pi_list (pe_callB (call_sortedD rfl) (by rfl) mS (by decide +kernel) (pa_cons (pv 1) pa_nil))) (pg_name (i := 3) nd rfl (.inl rfl))
    (pss_one (ps_if (pt_cmpR op_eq (pe_ix ix_tup (pe_dget hu (pv 1) (pv 3) (fun _ _ => rfl)) pe_int (fun _ _ => rfl)) (pv 2) (nomark _))
      (pss_cons (ps_asg (pe_dget hu (pv 1) (pv 3) (fun _ _ => rfl)) (pg_tup rfl (pgs_cons (pg_name (i := 4) nd rfl (.inl rfl)) (pgs_cons (pg_name (i := 5) nd rfl (.inl rfl)) (pgs_cons (pg_name (i := 6) nd rfl (.inl rfl)) (pgs_cons (pg_name (i := 7) nd rfl (.inl rfl)) pgs_nil))))))
      (pss_cons (ps_expr (pe_meth (pv 0) T.cl mL GL (hr.mono (by omega)) bL .nil pass0 (pa_cons (pv 3) (pa_cons (pv 4) (pa_cons (pv 5) (pa_cons (pv 6) (pa_cons (pv 7) pa_nil)))))))
      (pss_one (ps_expr (pe_call G hr (by rfl) gB F.kp bB .nil pass0 (pa_cons (pv 0) (pa_cons (pv 1) (pa_cons (pv 3) pa_nil)))))))) pss_nil))), ?_⟩
  obtain ⟨dx, hp⟩ := id hpl
  obtain ⟨kvr, er, hbr⟩ := id hR
  obtain ⟨kvd, ed, hbd⟩ := id hD
  refine ⟨_, rfl, dr, kvr, recs.map (·.1), rfl, .inl er, bkV_keys hbr, (by rw [List.length_map]; omega), fun ys l pm _ nl => ?_⟩
  have s1 : Same H (upd H l (.lst (ys.map V.str))) := same_new nl
  have el : (upd H l (.lst (ys.map V.str))) l = some (.lst (ys.map V.str)) := upd_same
  generalize upd H l (.lst (ys.map V.str)) = H1 at s1 el
  have nld : l ≠ d := (ne_of_none ed nl).symm
  have npd : p ≠ d := ne_of hp ed (by intro z; cases z)
  refine ⟨l, rfl, ⟨_, sqL_of el⟩, ?_⟩
  refine for_list (K := K) (a := l) (xs := ys.map V.str)
    (fun i σ H3 => ∃ y3 y4 y5 y6 y7 pd3, σ = [some (.ref p), some (.ref dr), some (.str par), y3, y4, y5, y6, y7] ∧ KeepB d H1 H3 ∧ DKm K H3 d pd3 ∧ (pd3.map (·.1)).Nodup ∧ (∀ x ∈ pd3, x ∈ recs) ∧ (∀ m ∈ pd.map (·.1), m ∈ pd3.map (·.1)) ∧
      ∀ (j : Nat) (c : Str) (r : Rec), j < i → ys[j]? = some c → (c, r) ∈ recs → r.par = par → c ∈ pd3.map (·.1) ∧ ∀ m, Reach recs c m → m ∈ pd3.map (·.1))
    ⟨none, none, none, none, none, pd, rfl, KeepB.refl _ _, hD.same s1, hnd, hsub, fun _ h => h, fun j _ _ hj => absurd hj (Nat.not_lt_zero _)⟩ (fun i σ H3 _ h => ?_) (fun i x σ H3 hx h => ?_) (fun σ H3 h => ?_)
  · obtain ⟨_, _, _, _, _, _, _, k3, _⟩ := h
    exact sqL_of (k3 _ _ nld el)
  · obtain ⟨y3, y4, y5, y6, y7, pd3, rfl, k3, hD3, hn3, hs3, ho3, hi3⟩ := h
    rw [List.getElem?_map] at hx
    obtain ⟨c, hc, rfl⟩ := Option.map_eq_some_iff.mp hx
    obtain ⟨r, hlk, hmem⟩ := key_look Fo.nd (pm.mem_iff.mp (List.mem_of_getElem? hc))
    have uniq : ∀ r', (c, r') ∈ recs → r' = r := fun r' h => by
      have z := look_of_mem Fo.nd h
      rw [hlk] at z
      exact (Option.some.inj z).symm
    have hR3 : DKm K H3 dr recs := (hR.same s1).keep k3 (fun z => ndr z.symm) (s1 _ _ ed) rfl
    obtain ⟨v, g1, t, cv, rfl, hT, hcv⟩ := hR3.r.at_ hlk
    have hp3 := k3 _ _ npd (s1 _ _ hp)
    refine ⟨_, rfl, _, rfl, dr, _, rfl, g1, t, _, _, _, rfl, rfl, hT, atI_nat (j := 1) rfl, _, rfl, rfl, _, rfl, ?_⟩
    refine ite2 (fun z => ?_) (fun z => ?_)
    · have ep : r.par = par := V.str.inj (of_decide_eq_true z)
      have len3 : pd3.length ≤ recs.length := nodup_len pd3 recs (List.Pairwise.of_map (·.1) (fun _ _ hne e => hne (congrArg _ e)) hn3) hs3
      refine ⟨_, rfl, _, rfl, dr, _, rfl, g1, t, _, rfl, hT, rfl, _, _, rfl, _, _, rfl, _, _, rfl, _, _, rfl, rfl, ?_⟩
      refine ⟨_, rfl, p, dx, _, rfl, hp3, flds_no d (by decide +kernel), _, rfl, _, rfl, _, rfl, _, rfl, _, rfl, p, d, pd3, c, r, cv, rfl, ⟨dx, hp3⟩, hD3, by omega, hcv, fun H4 k4 hD4 => ?_⟩
      have hn4 : ((putB pd3 c r).map (·.1)).Nodup := putB_nd hn3
      have hs4 : ∀ x ∈ putB pd3 c r, x ∈ recs := fun x hx => by
        rcases putB_mem hx with h | h
        · exact hs3 x h
        · rw [h]
          exact hmem
      obtain ⟨kv3, ed3, _⟩ := id hD3
      have k14 : KeepB d H1 H4 := k3.trans k4
      have hR4 : DKm K H4 dr recs := hR3.keep k4 (fun z => ndr z.symm) ed3 rfl
      refine ⟨_, rfl, _, rfl, _, rfl, ?_⟩
      cases n with
      | zero =>
        exfalso
        have z1 := hlv (c, r) hmem ep
        have z2 := Fo.lt (c, r) hmem
        omega
      | succ n' =>
        refine ⟨p, d, dr, c, recs, putB pd3 c r, lvl, rfl, ⟨dx, k4 _ _ npd hp3⟩, hD4, hR4, ndr, Fo, hl, hn4, hs4, fun b hb e => ?_, fun H5 pd5 k5 hD5 hn5 hs5 ho5 hr5 => ?_⟩
        · have z1 := hlv (c, r) hmem ep
          have z3 : lvl c < lvl b.1 := by
            rcases Fo.up b hb with z | ⟨q, hq, q1, _, q3⟩
            · rw [e] at z
              exact absurd z (Fo.ne (c, r) hmem)
            · rw [q1, e] at q3
              exact q3
          have z4 : recs.length ≤ lvl c + (n' + 1) := z1
          omega
        · refine ⟨_, _, _, _, _, pd5, rfl, k14.trans k5, hD5, hn5, hs5, fun m hm => ho5 m (putB_old r (ho3 m hm)), fun j c' r' hj hc' hm' e' => ?_⟩
          rcases Nat.lt_or_eq_of_le (Nat.le_of_lt_succ hj) with hlt | heq
          · obtain ⟨a1, a2⟩ := hi3 j c' r' hlt hc' hm' e'
            exact ⟨ho5 _ (putB_old r a1), fun m hm => ho5 _ (putB_old r (a2 m hm))⟩
          · rw [heq, hc] at hc'
            have ec : c = c' := Option.some.inj hc'
            subst ec
            exact ⟨ho5 _ (putB_has _ _ _), hr5⟩
    · have ep : ¬ r.par = par := fun e => z (decide_eq_true (congrArg V.str e))
      refine ⟨_, _, _, _, _, pd3, rfl, k3, hD3, hn3, hs3, ho3, fun j c' r' hj hc' hm' e' => ?_⟩
      rcases Nat.lt_or_eq_of_le (Nat.le_of_lt_succ hj) with hlt | heq
      · exact hi3 j c' r' hlt hc' hm' e'
      · rw [heq, hc] at hc'
        have ec : c = c' := Option.some.inj hc'
        subst ec
        rw [uniq r' hm'] at e'
        exact absurd e' ep
  · obtain ⟨y3, y4, y5, y6, y7, pd3, rfl, k3, hD3, hn3, hs3, ho3, hi3⟩ := h
    refine k H3 pd3 ((KeepB.same s1).trans k3) hD3 hn3 hs3 ho3 fun m hm => ?_
    have inY : ∀ (c : Str) (r : Rec), (c, r) ∈ recs → ∃ j : Nat, j < (ys.map V.str).length ∧ ys[j]? = some c := fun c r hc => by
      have z := pm.mem_iff.mpr (List.mem_map.mpr ⟨(c, r), hc, rfl⟩)
      obtain ⟨j, hj, e⟩ := List.mem_iff_getElem.mp z
      exact ⟨j, by rw [List.length_map]; exact hj, by rw [List.getElem?_eq_getElem hj, e]⟩
    cases hm with
    | kid h1 h2 =>
      obtain ⟨j, hj, e⟩ := inY _ _ h1
      exact (hi3 j _ _ hj e h1 h2).1
    | deep h1 h2 h3 =>
      obtain ⟨j, hj, e⟩ := inY _ _ h1
      exact (hi3 j _ _ hj e h1 h2).2 _ h3
theorem layB_none : FnOk P w K mg base CX0 1 f fd ["plain", "records", "parent"] (spLayB K C 0) := ⟨fun vs H Q E h => h.elim, fun A outer s H args us vs Q E _ _ _ _ h => h.elim⟩
theorem ok_layB {fL : Addr} {fdL : FuncData} (F : FnP K "lay_beneath" "lay_beneath" sLayB f fd) (T : PlT K C) (mS : mg "sorted" = none) (mL : Meth K C "lay" fL) (GL : FnOk P w K mg base CX0 1 fL fdL ["self", "name", "kind", "parent", "rank", "content"] (spLay K C))
    (bL : Binds K fdL ["self", "name", "kind", "parent", "rank", "content"] []) (gB : mg "lay_beneath" = some (.ref f)) (bB : Binds K fd ["plain", "records", "parent"] []) : ∀ n, FnOk P w K mg base CX0 (n + 1) f fd ["plain", "records", "parent"] (spLayB K C n)
  | 0 => layB_none
  | n + 1 => ok_layB_step F T mS mL GL bL (ok_layB F T mS mL GL bL gB bB n) gB bB
end
end Lf

/-! plain_join -/
namespace Lf
open PySem PySem.Spec PyProof.Rows L2
/-- the records found so far -/
def gat (g : Bk) (ns : List Str) : Bk := ns.filterMap fun n => (look g n).map fun r => (n, r)
theorem gat_snoc (g : Bk) (ns : List Str) (n : Str) : gat g (ns ++ [n]) = gat g ns ++ (match look g n with | none => [] | some r => [(n, r)]) := by
  unfold gat
  rw [List.filterMap_append]
  congr 1
  cases e : look g n with
  | none => simp [e]
  | some r => simp [e]
theorem gat_keys {g : Bk} {ns : List Str} {m : Str} (h : m ∈ (gat g ns).map (·.1)) : m ∈ ns := by
  obtain ⟨p, hp, e⟩ := List.mem_map.mp h
  unfold gat at hp
  obtain ⟨n, hn, q⟩ := List.mem_filterMap.mp hp
  cases z : look g n with
  | none => rw [z] at q; cases q
  | some r =>
    rw [z] at q
    have q2 : (n, r) = p := Option.some.inj q
    rw [← e, ← q2]
    exact hn
theorem gat_mem {g : Bk} {ns : List Str} {n : Str} {r : Rec} : (n, r) ∈ gat g ns ↔ n ∈ ns ∧ look g n = some r := by
  unfold gat
  rw [List.mem_filterMap]
  constructor
  · rintro ⟨m, hm, q⟩
    cases z : look g m with
    | none => rw [z] at q; cases q
    | some r' =>
      rw [z] at q
      have q2 : (m, r') = (n, r) := Option.some.inj q
      have q3 : m = n := congrArg Prod.fst q2
      have q4 : r' = r := congrArg Prod.snd q2
      subst q3 q4
      exact ⟨hm, z⟩
  · rintro ⟨hn, z⟩
    exact ⟨n, hn, by rw [z]; rfl⟩
theorem gat_nd {g : Bk} : ∀ {ns : List Str}, ns.Nodup → ((gat g ns).map (·.1)).Nodup
  | [], _ => List.nodup_nil
  | n :: ns, h => by
    obtain ⟨h1, h2⟩ := List.nodup_cons.mp h
    have ih := gat_nd (g := g) h2
    unfold gat at ih ⊢
    rw [List.filterMap_cons]
    cases z : look g n with
    | none => exact ih
    | some r =>
      show (((n, r) :: ns.filterMap _).map (·.1)).Nodup
      rw [List.map_cons, List.nodup_cons]
      exact ⟨fun m => h1 (gat_keys m), ih⟩
theorem gat_perm {g : Bk} {ns : List Str} (nd : (g.map (·.1)).Nodup) (hn : ns.Nodup) (h : ∀ n ∈ g.map (·.1), n ∈ ns) : g.Perm (gat g ns) := by
  have nd1 : g.Nodup := List.Pairwise.of_map (·.1) (fun _ _ hne e => hne (congrArg _ e)) nd
  have nd2 : (gat g ns).Nodup := List.Pairwise.of_map (·.1) (fun _ _ hne e => hne (congrArg _ e)) (gat_nd hn)
  refine (List.perm_ext_iff_of_nodup nd1 nd2).mpr fun p => ?_
  rw [show p = (p.1, p.2) from rfl, gat_mem]
  constructor
  · intro hp
    exact ⟨h _ (List.mem_map.mpr ⟨p, hp, rfl⟩), look_of_mem nd hp⟩
  · rintro ⟨_, z⟩
    exact look_mem z
theorem gat_len (g : Bk) (ns : List Str) : (gat g ns).length ≤ ns.length := List.length_filterMap_le _ _
theorem nodup_take {α : Type} {l : List α} (h : l.Nodup) {i : Nat} {x : α} (hx : l[i]? = some x) : x ∉ l.take i := by
  obtain ⟨hi, e⟩ := List.getElem?_eq_some_iff.mp hx
  intro m
  obtain ⟨j, hj, ej⟩ := List.mem_iff_getElem.mp m
  rw [List.length_take] at hj
  have hj2 : j < i := by omega
  rw [List.getElem_take] at ej
  have hp := List.pairwise_iff_getElem.mp h j i (by omega) hi hj2
  exact hp (ej.trans e.symm)
theorem same_new' {H : Hp} {p l : Addr} {o : HO} (h : H p = none) (_ : (upd H p o) l = none) : Same H (upd H p o) := same_new h
theorem upd_at {H : Hp} {l : Addr} (_ : H l = none) (o : HO) : (upd H l o) l = some o := upd_same
def spJoin (K : PySem.W.Frag) (C : Addr) : Sp := fun vs H Q _ => ∃ (pe po pt de dn dt : Addr) (e o t g : Bk) (lvl : Str → Nat), vs = [.ref pe, .ref po, .ref pt] ∧ PlA C H pe de ∧ PlA C H po dn ∧ PlA C H pt dt ∧ DKm K H de e ∧ DKm K H dn o ∧ DKm K H dt t ∧
  e.length ≤ 12 ∧ o.length ≤ 12 ∧ t.length ≤ 12 ∧ (∀ n, okO (look e n) ∧ okO (look o n) ∧ okO (look t n)) ∧ Forest g lvl ∧ g.length ≤ 10 ∧ (∀ n, look o n = look t n ∨ look t n = look e n ∨ look o n = look e n) ∧ (∀ n, look g n = pick (look e n) (look o n) (look t n)) ∧
  ∀ (z l p d : Addr) (pd : Bk) (H' : Hp), Same H H' → H' z = some (.tup [.ref p, .ref l]) → H' l = some (.lst []) → H p = none → H d = none → PlA C H' p d → DKm K H' d pd → g.Perm pd → Q (.ref z) H'
section
variable {P : Program} {w : World} {K : PySem.W.Frag} {mg : Str → Option Value} {base : Heap} {f C : Addr} {fd : FuncData}
theorem scJoin : FnScope ["elder", "one", "other", "records", "told", "name", "state", "words", "plain", "word"] ["elder", "one", "other"] (defScope sJoin) := ⟨rfl, rfl, rfl, by decide +kernel, rfl, by decide +kernel, by decide +kernel⟩
theorem ok_join {fN fSI fSe fLo fLB fI : Addr} {fdN fdSI fdSe fdLo fdLB fdI : FuncData} (F : FnP K "plain_join" "plain_join" sJoin f fd) (T : PlT K C) (gC : mg "Plain" = some (.ref C)) (MP : Mk K C fI) (GI : FnOk P w K mg base CX0 1 fI fdI ["self"] (spPInit C)) (bI : Binds K fdI ["self"] [])
    (mS : mg "sorted" = none) (mSet : mg "set" = none)
    (mN : Meth K C "names" fN) (GN : FnOk P w K mg base CX0 1 fN fdN ["self"] (spNames K C)) (bN : Binds K fdN ["self"] [])
    (GSI : FnOk P w K mg base CX0 2 fSI fdSI ["plain", "name"] (spStateIn K C)) (gSI : mg "state_in" = some (.ref fSI)) (kSI : PySem.W.keepIn K (.ref fSI) = true) (bSI : Binds K fdSI ["plain", "name"] [])
    (GSe : FnOk P w K mg base CX0 1 fSe fdSe ["elder", "one", "other"] (spSettled K)) (gSe : mg "settled" = some (.ref fSe)) (kSe : PySem.W.keepIn K (.ref fSe) = true) (bSe : Binds K fdSe ["elder", "one", "other"] [])
    (GLo : FnOk P w K mg base CX0 4 fLo fdLo ["records"] (spNone K)) (gLo : mg "loosened" = some (.ref fLo)) (kLo : PySem.W.keepIn K (.ref fLo) = true) (bLo : Binds K fdLo ["records"] [])
    (GLB : FnOk P w K mg base CX0 12 fLB fdLB ["plain", "records", "parent"] (spLayB K C 11)) (gLB : mg "lay_beneath" = some (.ref fLB)) (kLB : PySem.W.keepIn K (.ref fLB) = true) (bLB : Binds K fdLB ["plain", "records", "parent"] []) :
    FnOk P w K mg base CX0 13 f fd ["elder", "one", "other"] (spJoin K C) := by
  refine fnp_ok F scJoin (fun vs H Q E h => ?_) (fun cdv A outer s H vs Q E hr h => ?_)
  · obtain ⟨pe, po, pt, _, _, _, _, _, _, _, _, rfl, _⟩ := h
    rfl
  obtain ⟨pe, po, pt, de, dn, dt, e, o, t, g, lvl, rfl, he, ho, ht, hDe, hDo, hDt, le, lo, lt, oks, Fo, hl, hh, hg, k⟩ := h
  have hu := hu_of hr
  have nd := scJoin.nd
  refine ⟨_, pss_cons (ps_set (i := 3) nd rfl (.inl rfl) pe_dnewK)
    (pss_cons (ps_set (i := 4) nd rfl (.inl rfl) (pe_lst pa_nil))
    (pss_cons (ps_for PassesOwn.never rfl (pi_list (pe_callB (cr_sortS rfl hr.units) (by rfl) mS (by decide +kernel) (pa_cons (pe_callTy (cr_setS rfl) (by rfl) mSet (by decide +kernel) (pa_cons
          (pe_op op_cat (pe_op op_cat (pe_meth0 (pv 0) T.cl mN GN (hr.mono (by decide)) bN .nil pass0) (pe_meth0 (pv 1) T.cl mN GN (hr.mono (by decide)) bN .nil pass0)) (pe_meth0 (pv 2) T.cl mN GN (hr.mono (by decide)) bN .nil pass0)) pa_nil)) pa_nil)))
        (pg_name (i := 5) nd rfl (.inr rfl))
      (pss_cons (ps_asg (pe_call GSe (hr.mono (by decide)) (by rfl) gSe kSe bSe .nil pass0 (pa_cons (pe_call GSI (hr.mono (by decide)) (by rfl) gSI kSI bSI .nil pass0 (pa_cons (pv 0) (pa_cons (pv 5) pa_nil)))
          (pa_cons (pe_call GSI (hr.mono (by decide)) (by rfl) gSI kSI bSI .nil pass0 (pa_cons (pv 1) (pa_cons (pv 5) pa_nil))) (pa_cons (pe_call GSI (hr.mono (by decide)) (by rfl) gSI kSI bSI .nil pass0 (pa_cons (pv 2) (pa_cons (pv 5) pa_nil))) pa_nil))))
          (pg_tup rfl (pgs_cons (pg_name (i := 6) nd rfl (.inl rfl)) (pgs_cons (pg_name (i := 7) nd rfl (.inl rfl)) pgs_nil))))
      (Evl.pss_cut (ps_if (pt_cmpR op_notN (pv 6) pe_non (nomark _)) (pss_one (ps_dput hu (pv 3) (pv 5) (pv 6) rfl)) pss_nil)
      (pss_one (ps_expr (pe_bm PySem.F.plainAttrs_list PySem.F.slot_list_extend PySem.F.type_list_extend mt_extend (pv 4) (pa_cons (pe_lc (own := [("word", 9)]) (g := gName 9) (te := tTup (tCons (tVar 5) (tCons (tVar 9) tNil))) rfl nd (pi_list (pv 7))
          (blkOk_by (N := ["elder", "one", "other", "records", "told", "name", "state", "words", "plain", "word"]) (sc := defScope sJoin) (by decide +kernel)) (fun _ _ _ _ _ => pg_name (i := 9) nd rfl (Or.inl rfl)) (fun _ _ _ _ _ => pts_nil)
          (fun _ _ _ _ _ => pe_tup (pa_cons (pv 5) (pa_cons (pv 9) pa_nil)))) pa_nil)))))))
    (pss_cons (ps_expr (pe_bm PySem.F.plainAttrs_list PySem.F.slot_list_extend PySem.F.type_list_extend mt_extend (pv 4) (pa_cons (pe_lc (own := [("name", 5)]) (g := gName 5) (te := tTup (tCons (tVar 5) (tCons (tC (.str "loose")) tNil))) rfl nd
          (pi_list (pe_call GLo (hr.mono (by decide)) (by rfl) gLo kLo bLo .nil pass0 (pa_cons (pv 3) pa_nil)))
          (blkOk_by (N := ["elder", "one", "other", "records", "told", "name", "state", "words", "plain", "word"]) (sc := defScope sJoin) (by decide +kernel)) (fun _ _ _ _ _ => pg_name (i := 5) nd rfl (Or.inl rfl)) (fun _ _ _ _ _ => pts_nil)
          (fun _ _ _ _ _ => pe_tup (pa_cons (pv 5) (pa_cons pe_str pa_nil)))) pa_nil)))
    (pss_cons (ps_set (i := 8) nd rfl (.inl rfl) (pe_make0 MP GI (hr.mono (by decide)) (by rfl) gC bI .nil pass0))
    (pss_cons (ps_expr (pe_call GLB hr (by rfl) gLB kLB bLB .nil pass0 (pa_cons (pv 8) (pa_cons (pv 3) (pa_cons pe_str pa_nil)))))
    (pss_one (ps_ret (pe_tup (pa_cons (pv 8) (pa_cons (pe_callB cr_sortedS (by rfl) mS (by decide +kernel) (pa_cons (pv 4) pa_nil)) pa_nil)))))))))), ?_⟩
  obtain ⟨xe, ee⟩ := id he
  obtain ⟨xo, eo⟩ := id ho
  obtain ⟨xt, et⟩ := id ht
  -- records, told
  intro r nr
  have s1 : Same H (upd H r (.dK [])) := same_new nr
  have er1 : (upd H r (.dK [])) r = some (.dK []) := upd_same
  generalize upd H r (.dK []) = H1 at s1 er1
  refine ⟨Nat.zero_le _, fun td ntd => ?_⟩
  have s2 : Same H1 (upd H1 td (.lst [])) := same_new ntd
  have etd2 : (upd H1 td (.lst [])) td = some (.lst []) := upd_same
  generalize upd H1 td (.lst []) = H2 at s2 etd2
  have s02 := s1.trans s2
  have ntd0 : H td = none := none_of_same s1 ntd
  have nrt : r ≠ td := ne_of_none er1 ntd
  -- the names
  refine ⟨_, rfl, pe, xe, _, rfl, s02 _ _ ee, flds_no de (by decide +kernel), pe, de, e, rfl, PlA.same he s02, (hDe.same s02).r, by omega, fun y1 l1 pm1 nl1 => ?_⟩
  have s3 : Same H2 (upd H2 l1 (.lst (y1.map V.str))) := same_new nl1
  have el1 : (upd H2 l1 (.lst (y1.map V.str))) l1 = some (.lst (y1.map V.str)) := upd_same
  generalize upd H2 l1 (.lst (y1.map V.str)) = H3 at s3 el1
  have s03 := s02.trans s3
  refine ⟨_, rfl, po, xo, _, rfl, s03 _ _ eo, flds_no dn (by decide +kernel), po, dn, o, rfl, PlA.same ho s03, (hDo.same s03).r, by omega, fun y2 l2 pm2 nl2 => ?_⟩
  have s4 : Same H3 (upd H3 l2 (.lst (y2.map V.str))) := same_new nl2
  have el2 : (upd H3 l2 (.lst (y2.map V.str))) l2 = some (.lst (y2.map V.str)) := upd_same
  generalize upd H3 l2 (.lst (y2.map V.str)) = H4 at s4 el2
  have n1 : y1.length = e.length := by rw [pm1.length_eq, List.length_map]
  have n2 : y2.length = o.length := by rw [pm2.length_eq, List.length_map]
  refine ⟨l1, l2, _, _, rfl, rfl, s4 _ _ el1, el2, ?_, fun l4 nl4 => ?_⟩
  · rw [List.length_map, List.length_map]
    exact Nat.le_of_lt (small1000 (by omega))
  have s5 : Same H4 (upd H4 l4 (.lst (y1.map V.str ++ y2.map V.str))) := same_new nl4
  have el4 : (upd H4 l4 (.lst (y1.map V.str ++ y2.map V.str))) l4 = some (.lst (y1.map V.str ++ y2.map V.str)) := upd_same
  generalize upd H4 l4 (.lst (y1.map V.str ++ y2.map V.str)) = H5 at s5 el4
  have s05 := s03.trans (s4.trans s5)
  refine ⟨_, rfl, pt, xt, _, rfl, s05 _ _ et, flds_no dt (by decide +kernel), pt, dt, t, rfl, PlA.same ht s05, (hDt.same s05).r, by omega, fun y3 l3 pm3 nl3 => ?_⟩
  have n3 : y3.length = t.length := by rw [pm3.length_eq, List.length_map]
  have s6 : Same H5 (upd H5 l3 (.lst (y3.map V.str))) := same_new nl3
  have el3 : (upd H5 l3 (.lst (y3.map V.str))) l3 = some (.lst (y3.map V.str)) := upd_same
  generalize upd H5 l3 (.lst (y3.map V.str)) = H6 at s6 el3
  refine ⟨l4, l3, _, _, rfl, rfl, s6 _ _ el4, el3, ?_, fun l5 nl5 => ?_⟩
  · rw [List.length_append, List.length_map, List.length_map, List.length_map]
    exact Nat.le_of_lt (small1000 (by omega))
  have s7 : Same H6 (upd H6 l5 (.lst (y1.map V.str ++ y2.map V.str ++ y3.map V.str))) := same_new nl5
  have el5 : (upd H6 l5 (.lst (y1.map V.str ++ y2.map V.str ++ y3.map V.str))) l5 = some (.lst ((y1 ++ y2 ++ y3).map V.str)) := by rw [upd_same, List.map_append, List.map_append]
  generalize upd H6 l5 (.lst (y1.map V.str ++ y2.map V.str ++ y3.map V.str)) = H7 at s7 el5
  refine ⟨l5, y1 ++ y2 ++ y3, rfl, sqL_of el5, ?_, fun a c na hc => ?_⟩
  · rw [List.length_append, List.length_append]
    omega
  refine ⟨a, _, c, rfl, upd_same, hc, fun ys l ndy hys hly nl => ?_⟩
  have s8 := same_new' na nl
  have s9 := same_new (o := .lst (ys.map V.str)) nl
  have el := upd_at nl (.lst (ys.map V.str))
  have s29 := s3.trans (s4.trans (s5.trans (s6.trans (s7.trans (s8.trans s9)))))
  have s09 := s02.trans s29
  have etd9 := s29 _ _ etd2
  have er9 := s29 _ _ (s2 _ _ er1)
  have nl0 : H2 l = none := none_of_same (s3.trans (s4.trans (s5.trans (s6.trans (s7.trans s8))))) nl
  have nlt : l ≠ td := (ne_of_none etd2 nl0).symm
  have nlr : l ≠ r := (ne_of_none (s2 _ _ er1) nl0).symm
  have hlen : ys.length ≤ 40 := by
    have z := nodup_len ys (y1 ++ y2 ++ y3) ndy fun x hx => of_decide_eq_true ((hys x).mp hx)
    rw [List.length_append, List.length_append] at z
    omega
  have inY : ∀ n, (∃ q, look g n = some q) → n ∈ ys := fun n ⟨q, hq⟩ => by
    refine (hys n).mpr (decide_eq_true ?_)
    rw [hg n] at hq
    have key : ∀ (b : Bk) (y : List Str) (q : Rec), y.Perm (b.map (·.1)) → look b n = some q → n ∈ y := fun b y q pm hb => pm.mem_iff.mpr (List.mem_map.mpr ⟨(n, q), look_mem hb, rfl⟩)
    unfold pick at hq
    split at hq
    · exact List.mem_append_left _ (List.mem_append_right _ (key o y2 q pm2 hq))
    · exact List.mem_append_right _ (key t y3 q pm3 hq)
  clear hys hly
  refine ⟨l, rfl, ⟨_, sqL_of el⟩, ?_⟩
  refine for_list (K := K) (a := l) (xs := ys.map V.str)
    (fun i σ H3 => ∃ y5 y6 y7, σ = [some (.ref pe), some (.ref po), some (.ref pt), some (.ref r), some (.ref td), y5, y6, y7, none, none] ∧ Same H H3 ∧ H3 l = some (.lst (ys.map V.str)) ∧ H3 td = some (.lst []) ∧ DKm K H3 r (gat g (ys.take i)))
    ⟨none, none, none, rfl, s09, el, etd9, [], er9, .nil⟩ (fun i σ H3 _ h => ?_) (fun i x σ H3 hx h => ?_) (fun σ H3 h => ?_)
  · obtain ⟨_, _, _, _, _, h4, _⟩ := h
    exact sqL_of h4
  · obtain ⟨y5, y6, y7, rfl, sa, ela, etda, hDa⟩ := h
    rw [List.getElem?_map] at hx
    obtain ⟨n, hn, rfl⟩ := Option.map_eq_some_iff.mp hx
    obtain ⟨ok1, ok2, ok3⟩ := oks n
    refine ⟨_, rfl, _, rfl, pe, de, n, e, rfl, PlA.same he sa, (hDe.same sa).r, fun va hva => ?_⟩
    refine ⟨_, rfl, _, rfl, po, dn, n, o, rfl, PlA.same ho sa, (hDo.same sa).r, fun vb hvb => ?_⟩
    refine ⟨_, rfl, _, rfl, pt, dt, n, t, rfl, PlA.same ht sa, (hDt.same sa).r, fun vc hvc => ?_⟩
    refine ⟨va, vb, vc, _, _, _, rfl, hva, hvb, hvc, ok1, ok2, ok3, hh n, fun z wl v Hb sb ez ew hv => ?_⟩
    rw [← hg n] at hv
    refine ⟨z, [v, .ref wl], rfl, sqT_of ez, rfl, _, _, rfl, _, _, rfl, rfl, ?_⟩
    have take_next : ys.take (i + 1) = ys.take i ++ [n] := by
      rw [List.take_add_one, hn]
      rfl
    have hDb := hDa.same sb
    refine ⟨fun σ Hc => σ = [some (.ref pe), some (.ref po), some (.ref pt), some (.ref r), some (.ref td), some (.str n), some v, some (.ref wl), none, none] ∧ Same H Hc ∧ Hc l = some (.lst (ys.map V.str)) ∧ Hc td = some (.lst []) ∧ Hc wl = some (.lst []) ∧ DKm K Hc r (gat g (ys.take (i + 1))), ?_, fun σ Hc hm => ?_⟩
    · refine ⟨_, rfl, rfl, _, rfl, ?_⟩
      cases q : look g n with
      | none =>
        rw [q] at hv
        have ev : v = .non := hv
        rw [ev]
        refine ite2 (fun cc => absurd cc (by decide)) (fun _ => ?_)
        refine ⟨rfl, sa.trans sb, sb _ _ ela, sb _ _ etda, ew, ?_⟩
        rw [take_next, gat_snoc, q, List.append_nil]
        exact hDb
      | some rr =>
        rw [q] at hv
        obtain ⟨t0, c0, ev, _, _⟩ := id hv
        refine ite2 (fun _ => ?_) (fun cc => absurd (by rw [ev, decide_eq_false (show ¬ V.ref t0 = V.non from fun z => nomatch z)]; rfl) cc)
        obtain ⟨kv, ekv, hb⟩ := hDb
        have hz : kv.length < sizeLine := by
          rw [bkV_len hb]
          refine small1000 (Nat.le_trans (gat_len _ _) ?_)
          rw [List.length_take]
          omega
        have nrl : r ≠ l := nlr.symm
        have nrw : wl ≠ r := ne_of ew ekv (by intro z; cases z)
        refine ⟨_, rfl, _, rfl, _, rfl, r, _, rfl, DPut.k (k := Sum.inr n) ekv hz, ?_⟩
        have t1 : TSt Hb (upd Hb r (.dK (putK kv (Sum.inr n) v))) := TSt.put ekv rfl
        refine ⟨rfl, Same.put (sa.trans sb) nr, ?_, ?_, ?_, _, upd_same, ?_⟩
        · rw [upd_ne nlr]
          exact sb _ _ ela
        · rw [upd_ne nrt.symm]
          exact sb _ _ etda
        · rw [upd_ne nrw]
          exact ew
        · rw [take_next, gat_snoc, q]
          have hnew : n ∉ (gat g (ys.take i)).map (·.1) := fun m => nodup_take ndy hn (gat_keys m)
          have z := bkV_put (n := n) hb hv
          rw [putB_new rr hnew] at z
          exact bkV_st t1 z
    · obtain ⟨rfl, sc, elc, etdc, ewc, hDc⟩ := hm
      refine ⟨_, rfl, .inl ⟨rfl, _, sqL_of etdc⟩, _, rfl, wl, rfl, ⟨_, sqL_of ewc⟩, fun D nD => ?_⟩
      refine lc_list (K := K) (a := wl) (xs := []) (fun i H4 => Same Hc H4 ∧ H4 D = some (.lst [])) ⟨same_new nD, upd_same⟩ (fun i H4 _ zz => sqL_of (zz.1 _ _ ewc)) (fun i x H4 hx zz => by simp at hx) (fun H4 zz => ?_)
      obtain ⟨s4, e4⟩ := zz
      have etd4 := s4 _ _ etdc
      refine ⟨td, D, [], [], rfl, rfl, etd4, e4, Nat.zero_le _, ?_⟩
      obtain ⟨kv, ekv, hb⟩ := hDc.same s4
      refine ⟨_, _, _, rfl, Same.put (sc.trans s4) ntd0, ?_, upd_same, kv, ?_, bkV_st (TSt.put etd4 rfl) hb⟩
      · rw [upd_ne nlt]
        exact s4 _ _ elc
      · rw [upd_ne nrt]
        exact ekv
  · obtain ⟨y5, y6, y7, rfl, sa, ela, etda, hDa⟩ := h
    rw [List.length_map, take_full (Nat.le_refl _)] at hDa
    have pmg : g.Perm (gat g ys) := gat_perm Fo.nd ndy fun n hn => by
      obtain ⟨q, hq, _⟩ := key_look Fo.nd hn
      exact inY n ⟨q, hq⟩
    have FoR := Fo.perm pmg
    generalize gat g ys = recs at hDa pmg FoR
    have lrec : recs.length ≤ 10 := by
      rw [← pmg.length_eq]
      exact hl
    -- the loosened parts: none
    refine ⟨_, rfl, .inl ⟨rfl, _, sqL_of etda⟩, _, rfl, r, recs, lvl, rfl, hDa, FoR, by omega, fun wl Hb sb _ ew => ?_⟩
    refine ⟨wl, rfl, ⟨_, sqL_of ew⟩, fun D nD => ?_⟩
    refine lc_list (K := K) (a := wl) (xs := []) (fun i H4 => Same Hb H4 ∧ H4 D = some (.lst [])) ⟨same_new nD, upd_same⟩ (fun i H4 _ zz => sqL_of (zz.1 _ _ ew)) (fun i x H4 hx zz => by simp at hx) (fun H4 zz => ?_)
    obtain ⟨s4, e4⟩ := zz
    have s04 := sa.trans (sb.trans s4)
    have etd4 := s4 _ _ (sb _ _ etda)
    have hD4 : DKm K H4 r recs := (hDa.same sb).same s4
    refine ⟨td, D, [], [], rfl, rfl, etd4, e4, Nat.zero_le _, ?_⟩
    have sc : Same H (upd H4 td (.lst ([] ++ []))) := Same.put s04 ntd0
    have etdc : (upd H4 td (.lst ([] ++ []))) td = some (.lst []) := upd_same
    have hDc : DKm K (upd H4 td (.lst ([] ++ []))) r recs := by
      obtain ⟨kv, ekv, hb⟩ := hD4
      exact ⟨kv, by rw [upd_ne nrt]; exact ekv, bkV_st (TSt.put etd4 rfl) hb⟩
    generalize upd H4 td (.lst ([] ++ [])) = Hc at sc etdc hDc
    -- the plain book
    intro p dx np ndx nex
    have s5 : Same Hc (upd (upd Hc dx (.own p)) p (.ins C dx [])) := Same.put (same_new ndx) np
    have ep5 : (upd (upd Hc dx (.own p)) p (.ins C dx [])) p = some (.ins C dx []) := upd_same
    refine ⟨p, dx, rfl, upd_same, fun d H6 nd6 hpl6 ed6 k6 => ⟨rfl, ?_⟩⟩
    generalize upd (upd Hc dx (.own p)) p (.ins C dx []) = H5 at s5 ep5 nd6 k6
    have np0 : H p = none := none_of_same sc np
    have nd0 : H d = none := none_of_same sc (none_of_same s5 nd6)
    have s6 : Same Hc H6 := fun b u q => k6 b u (ne_of_none q np) (s5 _ _ q)
    have hD6 := hDc.same s6
    have ndr : d ≠ r := by
      obtain ⟨kv, ekv, _⟩ := hDc
      exact (ne_of_none (s5 _ _ ekv) nd6).symm
    have hDp : DKm K H6 d [] := ⟨[], ed6, .nil⟩
    have ntdd : td ≠ d := ne_of_none (s5 _ _ etdc) nd6
    refine ⟨_, rfl, _, rfl, p, d, r, Str.empty, recs, [], lvl, rfl, hpl6, hDp, hD6, ndr, FoR, by omega, List.nodup_nil, (fun _ h => nomatch h), fun b _ _ => Nat.le_trans lrec (Nat.le_add_left _ _), fun H7 pd k7 hD7 hn7 hs7 _ hr7 => ?_⟩
    have etd7 : H7 td = some (.lst []) := k7 _ _ ntdd (s6 _ _ etdc)
    have s07 : Same H H7 := Same.keep (sc.trans s6) nd0 k7
    have hpl7 : PlA C H7 p d := by
      obtain ⟨dx6, e6⟩ := hpl6
      exact ⟨dx6, k7 _ _ (ne_of e6 ed6 (by intro z; cases z)) e6⟩
    have pmd : recs.Perm pd := by
      have nd1 : recs.Nodup := List.Pairwise.of_map (·.1) (fun _ _ hne e => hne (congrArg _ e)) FoR.nd
      have nd2 : pd.Nodup := List.Pairwise.of_map (·.1) (fun _ _ hne e => hne (congrArg _ e)) hn7
      refine (List.perm_ext_iff_of_nodup nd1 nd2).mpr fun x => ⟨fun hx => ?_, hs7 x⟩
      obtain ⟨y, hy, ey⟩ := List.mem_map.mp (hr7 x.1 (reach_all FoR _ x hx rfl))
      have hy2 := hs7 y hy
      have z1 := look_of_mem FoR.nd (n := x.1) (r := x.2) hx
      have z2 := look_of_mem FoR.nd (n := y.1) (r := y.2) hy2
      have ey' : y.1 = x.1 := ey
      rw [ey', z1] at z2
      have z3 : x = y := Prod.ext ey'.symm (Option.some.inj z2)
      rw [z3]
      exact hy
    refine ⟨_, rfl, _, rfl, td, [], rfl, sqL_of etd7, by decide, fun zs q pmz _ nq => ⟨(by show 2 ≤ sizeLine; decide), fun z nz => ?_⟩⟩
    have ezs : zs = [] := pmz.eq_nil
    subst ezs
    have s8' : Same H7 (upd H7 q (.lst [])) := same_new nq
    have eq8 : (upd H7 q (.lst ([] : List V))) q = some (.lst []) := upd_same
    have s9' : Same (upd H7 q (.lst [])) (upd (upd H7 q (.lst [])) z (.tup [.ref p, .ref q])) := same_new nz
    have s89 := s8'.trans s9'
    exact k z q p d pd _ (s07.trans s89) upd_same (s9' _ _ eq8) np0 nd0 (PlA.same hpl7 s89) (hD7.same s89) (pmg.trans pmd)
end
end Lf

/-! the law's helpers on numbers, its order -/
namespace Lf
open PySem PySem.Spec PyProof.Rows L2
def mix1 (c k : Int) : Int := (c % 1000000007 + 7919 * k) * 48271 % 2147483647
def mix2 (a : Int) : Int := a * a % 2147483629
def mixF (c k : Int) : Int := mix2 (mix1 c k) * (mix2 (mix1 c k) + 3) % 2147483587 / 32
def spCellAt (K : PySem.W.Frag) : Sp := fun vs H Q _ => ∃ (a : Addr) (ns : List Int) (k : Int), vs = [.ref a, .int k] ∧ SqL K H a (ns.map V.int) ∧ 0 ≤ k ∧ k ≤ 1000 ∧ ∀ i : Int, Q (.int i) H
def spMix : Sp := fun vs H Q _ => ∃ (c k : Int), vs = [.int c, .int k] ∧ 0 ≤ k ∧ k ≤ 1000 ∧ Q (.int (mixF c k)) H
def spDraw : Sp := fun vs H Q _ => ∃ (c k : Int), vs = [.int c, .int k] ∧ 0 ≤ k ∧ k ≤ 1000 ∧ ∀ (i : Int) (H' : Hp), Same H H' → Q (.int i) H'
def spOrder (K : PySem.W.Frag) : Sp := fun vs H Q _ => ∃ (c : Int) (a : Addr) (ns : List Str), vs = [.int c, .ref a] ∧ SqL K H a (ns.map V.str) ∧ ns.length ≤ 8 ∧ ∀ (l : Addr) (os : List Str) (H' : Hp), Same H H' → H l = none → os.Perm ns → H' l = some (.lst (os.map V.str)) → Q (.ref l) H'
section
variable {P : Program} {w : World} {K : PySem.W.Frag} {mg : Str → Option Value} {base : Heap} {f : Addr} {fd : FuncData}
theorem scCellAt : FnScope ["_law_script", "_law_k"] ["_law_script", "_law_k"] (defScope sCellAt) := ⟨rfl, rfl, rfl, by decide +kernel, rfl, by decide +kernel, by decide +kernel⟩
theorem ok_cellAt (F : FnP K "_law_cell_at" "_law_cell_at" sCellAt f fd) (mL : mg "len" = none) : FnOk P w K mg base CX0 1 f fd ["_law_script", "_law_k"] (spCellAt K) := by
  refine fnp_ok F scCellAt (fun vs H Q E h => ?_) (fun cdv A outer s H vs Q E hr h => ?_)
  · obtain ⟨a, ns, k, rfl, _⟩ := h
    rfl
  obtain ⟨a, ns, k, rfl, hs, h0, h1, q⟩ := h
  refine ⟨_, pss_cons (ps_if (pt_cmpR op_lt (pv 1) (pe_callB call_len_seq (by rfl) mL PySem.boot_len (pa_cons (pv 0) pa_nil)) (nomark _)) (pss_one (ps_ret (pe_ix ix_list (pv 0) (pv 1) (fun _ _ => rfl)))) pss_nil) (pss_one (ps_ret (pe_op op_mul pe_int (pv 1)))), ?_⟩
  refine ⟨_, rfl, _, rfl, a, _, rfl, .inl hs, _, _, rfl, rfl, _, rfl, ite2 (fun z => ?_) (fun z => ?_)⟩
  · have z1 : k < (((ns.map V.int).length : Nat) : Int) := of_decide_eq_true z
    rw [List.length_map] at z1
    have hk : k.toNat < ns.length := by omega
    have ek : k = ((k.toNat : Nat) : Int) := by omega
    have g : atI (ns.map V.int) ((k.toNat : Nat) : Int) = some (.int ns[k.toNat]) := atI_nat (by rw [List.getElem?_map, List.getElem?_eq_getElem hk]; rfl)
    rw [← ek] at g
    exact ⟨_, rfl, _, rfl, a, _, _, _, rfl, rfl, hs, g, q _⟩
  · exact ⟨_, rfl, _, _, rfl, rfl, .inl ⟨by decide, by decide⟩, q _⟩
theorem scMix : FnScope ["_law_cell", "_law_k", "_law_number"] ["_law_cell", "_law_k"] (defScope sMix) := ⟨rfl, rfl, rfl, by decide +kernel, rfl, by decide +kernel, by decide +kernel⟩
theorem mix_bd1 (c k : Int) : 0 ≤ mix1 c k ∧ mix1 c k < 2147483647 := ⟨Int.emod_nonneg _ (by decide), Int.emod_lt_of_pos _ (by decide)⟩
theorem mix_bd2 (a : Int) : 0 ≤ mix2 a ∧ mix2 a < 2147483629 := ⟨Int.emod_nonneg _ (by decide), Int.emod_lt_of_pos _ (by decide)⟩
theorem ok_mix (F : FnP K "_law_mix" "_law_mix" sMix f fd) : FnOk P w K mg base CX0 1 f fd ["_law_cell", "_law_k"] spMix := by
  refine fnp_ok F scMix (fun vs H Q E h => ?_) (fun cdv A outer s H vs Q E hr h => ?_)
  · obtain ⟨c, k, rfl, _⟩ := h
    rfl
  obtain ⟨c, k, rfl, h0, h1, q⟩ := h
  have nd := scMix.nd
  refine ⟨_, pss_cons (ps_set (i := 2) nd rfl (.inl rfl) (pe_op op_mod (pe_op op_mul (pe_op op_add (pe_op op_mod (pv 0) pe_int) (pe_op op_mul pe_int (pv 1))) pe_int) pe_int))
    (pss_cons (ps_set (i := 2) nd rfl (.inl rfl) (pe_op op_mod (pe_op op_mul (pv 2) (pv 2)) pe_int))
    (pss_one (ps_ret (pe_op op_fdiv (pe_op op_mod (pe_op op_mul (pv 2) (pe_op op_add (pv 2) pe_int)) pe_int) pe_int)))), ?_⟩
  have b0 : 0 ≤ c % 1000000007 ∧ c % 1000000007 < 1000000007 := ⟨Int.emod_nonneg _ (by decide), Int.emod_lt_of_pos _ (by decide)⟩
  have b1 := mix_bd1 c k
  have b2 := mix_bd2 (mix1 c k)
  refine ⟨_, rfl, _, _, rfl, rfl, (by show (0 : Int) < 1000000007; decide), _, rfl, _, _, rfl, rfl, .inl ⟨by decide, by decide⟩, _, _, rfl, rfl, _, _, rfl, rfl, .inr ⟨by decide, by decide⟩, _, _, rfl, rfl, (by show (0 : Int) < 2147483647; decide), ?_⟩
  refine ⟨_, rfl, _, rfl, mix1 c k, mix1 c k, rfl, rfl, .inl ⟨by omega, by omega⟩, _, _, rfl, rfl, (by show (0 : Int) < 2147483629; decide), ?_⟩
  refine ⟨_, rfl, _, rfl, mix2 (mix1 c k), 3, rfl, rfl, mix2 (mix1 c k), _, rfl, rfl, .inl ⟨by omega, by omega⟩, _, _, rfl, rfl, (by show (0 : Int) < 2147483587; decide), _, _, rfl, rfl, ⟨by decide, by decide⟩, ?_⟩
  exact q
theorem scDraw : FnScope ["_law_cell", "_law_k"] ["_law_cell", "_law_k"] (defScope sDraw) := ⟨rfl, rfl, rfl, by decide +kernel, rfl, by decide +kernel, by decide +kernel⟩
theorem ok_draw {fM : Addr} {fdM : FuncData} (F : FnP K "_law_draw" "_law_draw" sDraw f fd) (GM : FnOk P w K mg base CX0 1 fM fdM ["_law_cell", "_law_k"] spMix) (gM : mg "_law_mix" = some (.ref fM)) (kM : PySem.W.keepIn K (.ref fM) = true) (bM : Binds K fdM ["_law_cell", "_law_k"] []) :
    FnOk P w K mg base CX0 2 f fd ["_law_cell", "_law_k"] spDraw := by
  refine fnp_ok F scDraw (fun vs H Q E h => ?_) (fun cdv A outer s H vs Q E hr h => ?_)
  · obtain ⟨c, k, rfl, _⟩ := h
    rfl
  obtain ⟨c, k, rfl, h0, h1, q⟩ := h
  refine ⟨_, pss_cons (ps_if (PW.pt (pw_and (pt_cmpR op_eq (pe_op op_mod (pv 0) pe_int) pe_int (nomark _)) (pw_and1 (pt_cmpR op_notIn_seq (pe_op op_shr (pe_op op_fdiv (pv 0) pe_int) (pe_op op_mul pe_int (pv 1))) (pe_tup (pa_cons pe_int (pa_cons (pe_un un_neg pe_int) pa_nil))) (by rfl)))))
      (pss_one (ps_ret (pe_op op_and (pe_op op_shr (pe_op op_fdiv (pv 0) pe_int) (pe_op op_mul pe_int (pv 1))) pe_int))) pss_nil)
    (pss_one (ps_ret (pe_call GM hr (by rfl) gM kM bM .nil pass0 (pa_cons (pe_op op_fdiv (pv 0) pe_int) (pa_cons (pv 1) pa_nil))))), ?_⟩
  have last : ∀ H', Same H H' → (tRet (tCall spMix [] E0 (tCons (tOp (rI CDiv fun i j => .int (i / j)) (tVar 0) (tC (.int 2))) (tCons (tVar 1) tNil)))) { nx := fun _ H' => Q .non H', rt := Q } [some (.int c), some (.int k)] H' := fun H' s1 =>
    ⟨_, rfl, _, _, rfl, rfl, ⟨by decide, by decide⟩, _, rfl, _, _, rfl, h0, h1, q _ H' s1⟩
  refine ⟨_, rfl, _, _, rfl, rfl, (by show (0 : Int) < 2; decide), rfl, _, rfl, ite2 (fun z => ?_) (fun z => ?_)⟩
  · refine ⟨_, rfl, _, _, rfl, rfl, ⟨by decide, by decide⟩, _, rfl, _, _, rfl, rfl, .inl ⟨by decide, by decide⟩, _, _, rfl, rfl, by omega, _, rfl, (by show 2 ≤ sizeLine; decide), fun t nt => ?_⟩
    have s1 := same_new (o := .tup [.int 0, .int (-1)]) nt
    refine ⟨t, _, rfl, .inr (sqT_of upd_same), rfl, rfl, _, rfl, ite2 (fun y => ?_) (fun y => ?_)⟩
    · exact ⟨_, rfl, _, _, rfl, rfl, ⟨by decide, by decide⟩, _, rfl, _, _, rfl, rfl, .inl ⟨by decide, by decide⟩, _, _, rfl, rfl, by omega, _, _, rfl, rfl, q _ _ s1⟩
    · exact last _ s1
  · exact iteF (last H (Same.refl H))
theorem scOrder : FnScope ["_law_cell", "_law_names_here", "_law_left", "_law_order_here", "_law_k"] ["_law_cell", "_law_names_here"] (defScope sOrder) := ⟨rfl, rfl, rfl, by decide +kernel, rfl, by decide +kernel, by decide +kernel⟩
theorem map_erase {α β : Type} (f : α → β) : ∀ (l : List α) (k : Nat), (l.map f).eraseIdx k = (l.eraseIdx k).map f
  | [], _ => rfl
  | _ :: _, 0 => rfl
  | x :: l, k + 1 => congrArg (f x :: ·) (map_erase f l k)
theorem ok_order {fD : Addr} {fdD : FuncData} (F : FnP K "_law_order" "_law_order" sOrder f fd) (mL : mg "len" = none) (mLi : mg "list" = none) (mR : mg "range" = none)
    (GD : FnOk P w K mg base CX0 2 fD fdD ["_law_cell", "_law_k"] spDraw) (gD : mg "_law_draw" = some (.ref fD)) (kD : PySem.W.keepIn K (.ref fD) = true) (bD : Binds K fdD ["_law_cell", "_law_k"] []) : FnOk P w K mg base CX0 3 f fd ["_law_cell", "_law_names_here"] (spOrder K) := by
  refine fnp_ok F scOrder (fun vs H Q E h => ?_) (fun cdv A outer s H vs Q E hr h => ?_)
  · obtain ⟨c, a, ns, rfl, _⟩ := h
    rfl
  obtain ⟨c, a, ns, rfl, hs, hl, q⟩ := h
  have nd := scOrder.nd
  refine ⟨_, pss_cons (ps_set (i := 2) nd rfl (.inl rfl) (pe_callTy call_list_of (by rfl) mLi (by decide +kernel) (pa_cons (pv 1) pa_nil)))
    (pss_cons (ps_set (i := 3) nd rfl (.inl rfl) (pe_lst pa_nil))
    (pss_cons (ps_for PassesOwn.never rfl (pi_range1 (by rfl) mR (pa_cons (pe_callB call_len_seq (by rfl) mL PySem.boot_len (pa_cons (pv 1) pa_nil)) pa_nil)) (pg_name (i := 4) nd rfl (.inl rfl))
      (pss_one (ps_expr (pe_bm PySem.F.plainAttrs_list PySem.F.slot_list_append PySem.F.type_list_append mt_append (pv 3) (pa_cons (pe_bm PySem.F.plainAttrs_list PySem.F.slot_list_pop PySem.F.type_list_pop mt_popAt (pv 2)
        (pa_cons (pe_op op_mod (pe_call GD hr (by rfl) gD kD bD .nil pass0 (pa_cons (pv 0) (pa_cons (pe_op op_add pe_int (pv 4)) pa_nil))) (pe_callB call_len_seq (by rfl) mL PySem.boot_len (pa_cons (pv 2) pa_nil))) pa_nil)) pa_nil)))))
    (pss_one (ps_ret (pv 3))))), ?_⟩
  refine ⟨_, rfl, a, _, rfl, .inl hs, fun l nl => ?_⟩
  have s1 : Same H (upd H l (.lst (ns.map V.str))) := same_new nl
  have el1 : (upd H l (.lst (ns.map V.str))) l = some (.lst (ns.map V.str)) := upd_same
  generalize upd H l (.lst (ns.map V.str)) = H1 at s1 el1
  refine ⟨Nat.zero_le _, fun o no => ?_⟩
  have s2 : Same H1 (upd H1 o (.lst [])) := same_new no
  have eo2 : (upd H1 o (.lst [])) o = some (.lst []) := upd_same
  generalize upd H1 o (.lst []) = H2 at s2 eo2
  have nlo : l ≠ o := ne_of_none el1 no
  have no0 : H o = none := none_of_same s1 no
  refine ⟨_, rfl, a, _, rfl, .inl ((s1.trans s2).seq hs), ((ns.length : Nat) : Int), (by rw [List.length_map]), by omega, by omega, ?_⟩
  refine for_range (lo := 0) (n := ns.length) (fun i σ H3 => ∃ y os ls, σ = [some (.int c), some (.ref a), some (.ref l), some (.ref o), y] ∧ Same H H3 ∧ H3 l = some (.lst (ls.map V.str)) ∧ H3 o = some (.lst (os.map V.str)) ∧ (os ++ ls).Perm ns ∧ ls.length + i = ns.length)
    ⟨none, [], ns, rfl, s1.trans s2, s2 _ _ el1, eo2, List.Perm.refl _, rfl⟩ (fun i σ H3 hi h => ?_) (fun σ H3 h => ?_)
  · obtain ⟨y, os, ls, rfl, s3, el3, eo3, pm, hn⟩ := h
    have hlp : 0 < ls.length := by omega
    refine ⟨_, rfl, .inl ⟨rfl, _, sqL_of eo3⟩, _, rfl, .inl ⟨rfl, _, sqL_of el3⟩, _, rfl, _, rfl, _, _, rfl, rfl, c, (40 + (0 + (i : Int))), rfl, by omega, by omega, fun d H4 s4 => ?_⟩
    have el4 := s4 _ _ el3
    have eo4 := s4 _ _ eo3
    refine ⟨_, rfl, l, _, rfl, .inl (sqL_of el4), d, ((ls.map V.str).length : Nat), rfl, rfl, (by rw [List.length_map]; omega), ?_⟩
    rw [List.length_map]
    have b1 : 0 ≤ d % ((ls.length : Nat) : Int) := Int.emod_nonneg _ (by omega)
    have b2 : d % ((ls.length : Nat) : Int) < ((ls.length : Nat) : Int) := Int.emod_lt_of_pos _ (by omega)
    obtain ⟨j, ej0⟩ : ∃ j, j = d % ((ls.length : Nat) : Int) := ⟨_, rfl⟩
    rw [← ej0] at b1 b2
    have hj : j.toNat < ls.length := by omega
    have ej : j = ((j.toNat : Nat) : Int) := by omega
    have gj : (ls.map V.str)[j.toNat]? = some (.str ls[j.toNat]) := by
      rw [List.getElem?_map, List.getElem?_eq_getElem hj]
      rfl
    have gI : atI (ls.map V.str) j = some (.str ls[j.toNat]) := at_of ej gj
    obtain ⟨k, k1, k2, _, k3, k4⟩ := atI_get gI
    have hk : k = j.toNat := by
      have z : ixN (ls.map V.str).length j = some j.toNat := by
        unfold ixN
        rw [if_pos b1, List.length_map, if_pos b2]
      have z2 := (ixN_seq z).1
      rw [z2] at k1
      exact (Option.some.inj k1).symm
    refine ⟨l, _, j, k, .str ls[j.toNat], rfl, (by rw [ej0]), el4, by omega, by omega, k1, k2, ?_⟩
    have s5 : Same H (upd H4 l (.lst ((ls.map V.str).eraseIdx k))) := Same.put (s3.trans s4) nl
    have el5 : (upd H4 l (.lst ((ls.map V.str).eraseIdx k))) l = some (.lst ((ls.eraseIdx k).map V.str)) := by
      rw [upd_same, map_erase]
    have eo5 : (upd H4 l (.lst ((ls.map V.str).eraseIdx k))) o = some (.lst (os.map V.str)) := by
      rw [upd_ne nlo.symm]
      exact eo4
    generalize upd H4 l (.lst ((ls.map V.str).eraseIdx k)) = H5 at s5 el5 eo5
    have lo : os.length + ls.length = ns.length := by
      have z := pm.length_eq
      rw [List.length_append] at z
      exact z
    refine ⟨o, _, _, rfl, rfl, eo5, small1000 (by rw [List.length_map]; omega), ?_⟩
    rw [hk] at el5
    refine ⟨_, os ++ [ls[j.toNat]], ls.eraseIdx j.toNat, rfl, Same.put s5 no0, ?_, ?_, ?_, ?_⟩
    · rw [upd_ne nlo]
      exact el5
    · rw [upd_same, List.map_append]
      rfl
    · refine List.Perm.trans ?_ pm
      rw [List.append_assoc]
      exact List.Perm.append_left os (erase_perm ls j.toNat _ (List.getElem?_eq_getElem hj))
    · rw [List.length_eraseIdx_of_lt hj]
      omega
  · obtain ⟨y, os, ls, rfl, s3, el3, eo3, pm, hn⟩ := h
    have hz : ls = [] := List.eq_nil_of_length_eq_zero (by omega)
    rw [hz, List.append_nil] at pm
    exact ⟨_, rfl, q o os H3 s3 no0 pm eo3⟩
end
end Lf

/-! contents -/
namespace Lf
open PySem PySem.Spec PyProof.Rows L2
/-- an item of a written list of texts -/
theorem item_of {ss : List Str} {j : Int} (h0 : 0 ≤ j) (h1 : j < (ss.length : Int)) : ∃ s, s ∈ ss ∧ ss[j.toNat]? = some s ∧ atI (ss.map V.str) j = some (.str s) := by
  have hj : j.toNat < ss.length := by omega
  refine ⟨ss[j.toNat], List.getElem_mem hj, List.getElem?_eq_getElem hj, at_of (j := j.toNat) (by omega) ?_⟩
  rw [List.getElem?_map, List.getElem?_eq_getElem hj]
  rfl
def texts6 : List Str := ["", "a", "b", " |~", sixty, "10"]
theorem texts6_ok : texts6.all PyData.strOk = true := by decide +kernel
def texts3 : List Str := ["", "x", "y/|"]
theorem texts3_ok : texts3.all PyData.strOk = true := by decide +kernel
def RowV (K : PySem.W.Frag) (H : Hp) (v : V) (r : List Str) : Prop := ∃ t, v = .ref t ∧ SqT K H t (r.map V.str)
theorem rowV_st {K : PySem.W.Frag} {H H' : Hp} {v : V} {r : List Str} (t : TSt H H') (h : RowV K H v r) : RowV K H' v r := by
  obtain ⟨a, e, q⟩ := h
  exact ⟨a, e, sqT_st t q⟩
theorem rowsV_dp {K : PySem.W.Frag} {H : Hp} {vs : List V} {rs : List (List Str)} (h : Paired (RowV K H) vs rs) : DpAll K H vs (rs.map rowD) := by
  induction h with
  | nil => exact .nil
  | cons e _ ih =>
    obtain ⟨a, rfl, q⟩ := e
    exact .cons (row_dp q) ih
def spContent (K : PySem.W.Frag) : Sp := fun vs H Q _ => ∃ (kind name : Str) (num : Int), vs = [.str kind, .str name, .int num] ∧ name.length ≤ 100 ∧ ∀ (v : V) (c : Con) (H' : Hp), Same H H' → Dp K H' v c.d → okC c = true → Q v H'
section
variable {P : Program} {w : World} {K : PySem.W.Frag} {mg : Str → Option Value} {base : Heap} {f : Addr} {fd : FuncData}
theorem scContent : FnScope ["_law_kind", "_law_name", "_law_number", "_law_shape", "_law_rows", "_law_row", "_law_row_cells", "_law_column"] ["_law_kind", "_law_name", "_law_number"] (defScope sContent) := ⟨rfl, rfl, rfl, by decide +kernel, rfl, by decide +kernel, by decide +kernel⟩
theorem ok_content (F : FnP K "_law_content" "_law_content" sContent f fd) (mL : mg "len" = none) (mI : mg "int" = none) (mR : mg "range" = none) (mT : mg "tuple" = none) : FnOk P w K mg base CX0 1 f fd ["_law_kind", "_law_name", "_law_number"] (spContent K) := by
  refine fnp_ok F scContent (fun vs H Q E h => ?_) (fun cdv A outer s H vs Q E hr h => ?_)
  · obtain ⟨kind, name, num, rfl, _⟩ := h
    rfl
  obtain ⟨kind, name, num, rfl, hn, q⟩ := h
  have nd := scContent.nd
  refine ⟨_, pss_cons (ps_if (pt_cmpR op_ne (pv 0) pe_str (nomark _)) (pss_one (ps_ret (pe_ix ix_list (pe_lst (pa_cons pe_str (pa_cons pe_str (pa_cons pe_str (pa_cons pe_str (pa_cons (pe_op op_sixty pe_str pe_int) (pa_cons pe_str pa_nil)))))))
      (pe_op op_mod (pv 2) pe_int) (fun _ _ => rfl)))) pss_nil)
    (pss_cons (ps_set (i := 3) nd rfl (.inl rfl) (pe_op op_add (pe_callB call_len_str (by rfl) mL PySem.boot_len (pa_cons (pv 1) pa_nil)) (pe_callTy call_int1 (by rfl) mI (by decide +kernel) (pa_cons (pe_cmpR op_eq (pe_op op_mod (pe_op op_fdiv (pv 2) pe_int) pe_int) pe_int (nomark _)) pa_nil))))
    (pss_cons (ps_set (i := 4) nd rfl (.inl rfl) (pe_lst pa_nil))
    (pss_cons (ps_for PassesOwn.never rfl (pi_range1 (by rfl) mR (pa_cons (pe_op op_add pe_int (pe_op op_mod (pv 3) pe_int)) pa_nil)) (pg_name (i := 5) nd rfl (.inl rfl))
      (pss_cons (ps_set (i := 6) nd rfl (.inl rfl) (pe_lst pa_nil))
      (pss_cons (ps_for PassesOwn.never rfl (pi_range1 (by rfl) mR (pa_cons (pe_op op_add pe_int (pe_op op_mod (pe_op op_fdiv (pv 3) pe_int) pe_int)) pa_nil)) (pg_name (i := 7) nd rfl (.inl rfl))
        (pss_one (ps_expr (pe_bm PySem.F.plainAttrs_list PySem.F.slot_list_append PySem.F.type_list_append mt_append (pv 6) (pa_cons (pe_ix ix_list (pe_lst (pa_cons pe_str (pa_cons pe_str (pa_cons pe_str pa_nil))))
          (pe_op op_mod (pe_op op_fdiv (pv 2) (pe_ix ix_list (pe_lst (pa_cons pe_int (pa_cons pe_int (pa_cons pe_int (pa_cons pe_int pa_nil))))) (pe_op op_add (pe_op op_mul pe_int (pv 5)) (pv 7)) (fun _ _ => rfl))) pe_int) (fun _ _ => rfl)) pa_nil)))))
      (pss_one (ps_expr (pe_bm PySem.F.plainAttrs_list PySem.F.slot_list_append PySem.F.type_list_append mt_append (pv 4) (pa_cons (pe_callTy call_tuple_of (by rfl) mT (by decide +kernel) (pa_cons (pv 6) pa_nil)) pa_nil)))))))
    (pss_one (ps_ret (pe_callTy call_tuple_of (by rfl) mT (by decide +kernel) (pa_cons (pv 4) pa_nil))))))), ?_⟩
  refine ⟨_, rfl, rfl, _, rfl, ite2 (fun _ => ?_) (fun _ => ?_)⟩
  · -- a text
    refine ⟨rfl, rfl, (by show 6 ≤ sizeLine; decide), fun l nl => ?_⟩
    have s1 := same_new (o := .lst (texts6.map V.str)) nl
    obtain ⟨s, hs, _, g⟩ := item_of (ss := texts6) (j := num % 6) (Int.emod_nonneg _ (by decide)) (Int.emod_lt_of_pos _ (by decide))
    refine ⟨_, rfl, _, _, rfl, rfl, (by show (0 : Int) < 6; decide), l, texts6.map V.str, _, _, rfl, rfl, sqL_of upd_same, g, ?_⟩
    exact q (.str s) (.txt s) _ s1 (.str s) (List.all_eq_true.mp texts6_ok s hs)
  · -- a table
    refine ⟨_, rfl, name, rfl, Nat.le_of_lt (small1000 (by omega)), _, rfl, _, _, rfl, rfl, ⟨by decide, by decide⟩, _, _, rfl, rfl, (by show (0 : Int) < 6; decide), rfl, .inr ⟨_, rfl, _, _, rfl, rfl, ?_⟩⟩
    obtain ⟨sh, esh⟩ : ∃ sh : Int, sh = (name.length : Int) + (if decide (V.int (num / 81 % 6) = V.int 5) = true then 1 else 0) := ⟨_, rfl⟩
    refine ⟨Nat.zero_le _, fun o no => ?_⟩
    have s1 : Same H (upd H o (.lst [])) := same_new no
    have eo1 : (upd H o (.lst [])) o = some (.lst []) := upd_same
    generalize upd H o (.lst []) = H1 at s1 eo1
    have a0 : 0 ≤ sh % 2 := Int.emod_nonneg _ (by decide)
    have a1 : sh % 2 < 2 := Int.emod_lt_of_pos _ (by decide)
    have c0 : 0 ≤ sh / 2 % 2 := Int.emod_nonneg _ (by decide)
    have c1 : sh / 2 % 2 < 2 := Int.emod_lt_of_pos _ (by decide)
    refine ⟨_, rfl, _, _, rfl, rfl, (by show (0 : Int) < 2; decide), _, _, rfl, rfl, 1 + sh % 2, (by rw [esh]), by omega, by omega, ?_⟩
    refine for_range (lo := 0) (n := (1 + sh % 2).toNat) (fun i σ H3 => ∃ y5 y6 y7 vs rs, σ = [some (.str kind), some (.str name), some (.int num), some (.int sh), some (.ref o), y5, y6, y7] ∧ Same H H3 ∧ H3 o = some (.lst vs) ∧ Paired (RowV K H3) vs rs ∧ vs.length = i ∧ ∀ r ∈ rs, r.all PyData.strOk = true)
      ⟨none, none, none, [], [], (by rw [esh]; rfl), s1, eo1, .nil, rfl, fun _ h => nomatch h⟩ (fun i σ H3 hi h => ?_) (fun σ H3 h => ?_)
    · obtain ⟨y5, y6, y7, vs, rs, rfl, s3, eo3, pr, hv, hok⟩ := h
      have hi2 : i < 2 := by omega
      refine ⟨Nat.zero_le _, fun p np => ?_⟩
      have s4 : Same H3 (upd H3 p (.lst [])) := same_new np
      have ep4 : (upd H3 p (.lst [])) p = some (.lst []) := upd_same
      generalize upd H3 p (.lst []) = H4 at s4 ep4
      have nop : o ≠ p := ne_of_none eo3 np
      have np0 : H p = none := none_of_same s3 np
      refine ⟨_, rfl, _, _, rfl, rfl, ⟨by decide, by decide⟩, _, _, rfl, rfl, (by show (0 : Int) < 2; decide), _, _, rfl, rfl, 1 + sh / 2 % 2, rfl, by omega, by omega, ?_⟩
      refine for_range (lo := 0) (n := (1 + sh / 2 % 2).toNat) (fun j σ H5 => ∃ y7 ss, σ = [some (.str kind), some (.str name), some (.int num), some (.int sh), some (.ref o), some (.int (0 + (i : Int))), some (.ref p), y7] ∧ Same H H5 ∧ H5 o = some (.lst vs) ∧ Paired (RowV K H5) vs rs ∧ H5 p = some (.lst (ss.map V.str)) ∧ ss.length = j ∧ ss.all PyData.strOk = true)
        ⟨y7, [], rfl, s3.trans s4, s4 _ _ eo3, Paired.mapP pr fun _ _ h => rowV_st (TSt.same s4) h, ep4, rfl, rfl⟩ (fun j σ H5 hj h => ?_) (fun σ H5 h => ?_)
      · obtain ⟨y7, ss, rfl, s5, eo5, pr5, ep5, hs5, ok5⟩ := h
        have hj2 : j < 2 := by omega
        refine ⟨_, rfl, .inl ⟨rfl, _, sqL_of ep5⟩, (by show 3 ≤ sizeLine; decide), fun l nl => ?_⟩
        have s6 : Same H5 (upd H5 l (.lst (texts3.map V.str))) := same_new nl
        have el6 : (upd H5 l (.lst (texts3.map V.str))) l = some (.lst (texts3.map V.str)) := upd_same
        show tOp _ _ _ _ (upd H5 l (.lst (texts3.map V.str))) _
        generalize upd H5 l (.lst (texts3.map V.str)) = H6 at s6 el6
        refine ⟨_, rfl, (by show 4 ≤ sizeLine; decide), fun m nm => ?_⟩
        have s7 : Same H6 (upd H6 m (.lst (([1, 3, 9, 27] : List Int).map V.int))) := same_new nm
        have em7 : (upd H6 m (.lst (([1, 3, 9, 27] : List Int).map V.int))) m = some (.lst (([1, 3, 9, 27] : List Int).map V.int)) := upd_same
        show tOp _ _ _ _ (upd H6 m (.lst (([1, 3, 9, 27] : List Int).map V.int))) _
        generalize upd H6 m (.lst (([1, 3, 9, 27] : List Int).map V.int)) = H7 at s7 em7
        have hd : ∃ d : Int, (0 < d ∧ d < 1073741824) ∧ atI (([1, 3, 9, 27] : List Int).map V.int) (2 * (0 + (i : Int)) + (0 + (j : Int))) = some (.int d) := by
          have hi3 : i = 0 ∨ i = 1 := by omega
          have hj3 : j = 0 ∨ j = 1 := by omega
          rcases hi3 with rfl | rfl <;> rcases hj3 with rfl | rfl
          · exact ⟨1, by decide, at_of (j := 0) (by decide) rfl⟩
          · exact ⟨3, by decide, at_of (j := 1) (by decide) rfl⟩
          · exact ⟨9, by decide, at_of (j := 2) (by decide) rfl⟩
          · exact ⟨27, by decide, at_of (j := 3) (by decide) rfl⟩
        obtain ⟨d, d1, gd⟩ := hd
        obtain ⟨x, hx, _, gx⟩ := item_of (ss := texts3) (j := num / d % 3) (Int.emod_nonneg _ (by decide)) (Int.emod_lt_of_pos _ (by decide))
        refine ⟨_, rfl, _, _, rfl, rfl, .inl ⟨by decide, by decide⟩, _, rfl, _, _, rfl, rfl, m, _, _, _, rfl, rfl, sqL_of em7, gd, _, _, rfl, rfl, d1, _, _, rfl, rfl, (by show (0 : Int) < 3; decide), l, _, _, _, rfl, rfl, sqL_of (s7 _ _ el6), gx, ?_⟩
        have s57 : Same H5 H7 := s6.trans s7
        have ep7 := s57 _ _ ep5
        refine ⟨p, _, _, rfl, rfl, ep7, small1000 (by rw [List.length_map]; omega), ?_⟩
        have t8 : TSt H7 (upd H7 p (.lst (ss.map V.str ++ [.str x]))) := TSt.put ep7 rfl
        refine ⟨_, ss ++ [x], rfl, Same.put (s5.trans s57) np0, ?_, Paired.mapP pr5 fun _ _ h => rowV_st ((TSt.same s57).trans t8) h, ?_, ?_, ?_⟩
        · rw [upd_ne nop]
          exact s57 _ _ eo5
        · rw [upd_same, List.map_append]
          rfl
        · rw [List.length_append, hs5]
          rfl
        · rw [List.all_append, ok5, List.all_cons, List.all_eq_true.mp texts3_ok x hx]
          rfl
      · obtain ⟨y7', ss, rfl, s5, eo5, pr5, ep5, hs5, ok5⟩ := h
        refine ⟨_, rfl, .inl ⟨rfl, _, sqL_of eo5⟩, _, rfl, p, _, rfl, .inl ⟨sqL_of ep5, fun t nt => ?_⟩⟩
        have s6 : Same H5 (upd H5 t (.tup (ss.map V.str))) := same_new nt
        have et6 : (upd H5 t (.tup (ss.map V.str))) t = some (.tup (ss.map V.str)) := upd_same
        generalize upd H5 t (.tup (ss.map V.str)) = H6 at s6 et6
        have eo6 := s6 _ _ eo5
        refine ⟨o, _, _, rfl, rfl, eo6, small1000 (by omega), ?_⟩
        have t7 : TSt H6 (upd H6 o (.lst (vs ++ [.ref t]))) := TSt.put eo6 rfl
        have no0 : H o = none := no
        refine ⟨_, _, _, vs ++ [.ref t], rs ++ [ss], rfl, Same.put (s5.trans s6) no0, upd_same, ?_, ?_, fun r hr => ?_⟩
        · refine paired_app (Paired.mapP pr5 fun _ _ h => rowV_st ((TSt.same s6).trans t7) h) (.cons ⟨t, rfl, sqT_st t7 (sqT_of et6)⟩ .nil)
        · rw [List.length_append, hv]
          rfl
        · rcases List.mem_append.mp hr with h | h
          · exact hok r h
          · rw [List.mem_singleton.mp h]
            exact ok5
    · obtain ⟨y5, y6, y7, vs, rs, rfl, s3, eo3, pr, hv, hok⟩ := h
      refine ⟨_, rfl, o, _, rfl, .inl ⟨sqL_of eo3, fun t nt => ?_⟩⟩
      have s4 : Same H3 (upd H3 t (.tup vs)) := same_new nt
      refine q (.ref t) (.tab rs) _ (s3.trans s4) ?_ ?_
      · unfold Con.d
        exact .tup (sqT_of upd_same) (rowsV_dp (Paired.mapP pr fun _ _ h => rowV_st (TSt.same s4) h))
      · exact List.all_eq_true.mpr hok
end
end Lf

/-! the names -/
namespace Lf
open PySem PySem.Spec PyProof.Rows L2
def sgS : Str := "abcdefghijklmnopqrstuvwxyz0123456789."
def sg : List Nat := sgS.cps.toList
theorem sg_len : sg.length = 37 := by decide +kernel
theorem sg_nd : sg.Nodup := by decide +kernel
theorem sg_ok : ∀ c ∈ sg, c < 0x110000 := by decide +kernel
def sgAt (i : Int) : Nat := sg.getD (i % 37).toNat 0
theorem sg_bd (i : Int) : (i % 37).toNat < sg.length := by
  rw [sg_len]
  have h0 : 0 ≤ i % 37 := Int.emod_nonneg _ (by decide)
  have h1 : i % 37 < 37 := Int.emod_lt_of_pos _ (by decide)
  omega
theorem sgAt_eq (i : Int) : sg[(i % 37).toNat]? = some (sgAt i) := by
  unfold sgAt
  rw [List.getD_eq_getElem?_getD, List.getElem?_eq_getElem (sg_bd i)]
  rfl
theorem sgAt_at (i : Int) : atI sg (i % 37) = some (sgAt i) := by
  have h0 : 0 ≤ i % 37 := Int.emod_nonneg _ (by decide)
  have z : atI sg (((i % 37).toNat : Nat) : Int) = some (sgAt i) := atI_nat (sgAt_eq i)
  rw [Int.toNat_of_nonneg h0] at z
  exact z
theorem sgAt_mem (i : Int) : sgAt i ∈ sg := List.mem_of_getElem? (sgAt_eq i)
theorem sgAt_inj {i j : Int} (h : sgAt i = sgAt j) : i % 37 = j % 37 := by
  have h0 : 0 ≤ i % 37 := Int.emod_nonneg _ (by decide)
  have h1 : 0 ≤ j % 37 := Int.emod_nonneg _ (by decide)
  have z : (i % 37).toNat = (j % 37).toNat := by
    refine nd_ix sg_nd (sgAt_eq i) ?_
    rw [h]
    exact sgAt_eq j
  omega
def sm : List Str := ["chapter", "para", "table", "top", "1", "10", "2", "a.", ".", "a", "b", "z9"]
theorem sm_len : sm.length = 12 := by decide +kernel
theorem sm_nd : sm.Nodup := by decide +kernel
def NameOk (n : Str) : Prop := n ≠ Str.empty ∧ PyData.strOk n = true ∧ n.length ≤ 12
instance (n : Str) : Decidable (NameOk n) := by unfold NameOk; exact inferInstance
theorem sm_ok : ∀ n ∈ sm, NameOk n := by decide +kernel
def smAt (i : Int) : Str := sm.getD (i % 12).toNat Str.empty
theorem sm_bd (i : Int) : (i % 12).toNat < sm.length := by
  rw [sm_len]
  have h0 : 0 ≤ i % 12 := Int.emod_nonneg _ (by decide)
  have h1 : i % 12 < 12 := Int.emod_lt_of_pos _ (by decide)
  omega
theorem smAt_eq (i : Int) : sm[(i % 12).toNat]? = some (smAt i) := by
  unfold smAt
  rw [List.getD_eq_getElem?_getD, List.getElem?_eq_getElem (sm_bd i)]
  rfl
theorem smAt_at (i : Int) : atI (sm.map V.str) (i % 12) = some (.str (smAt i)) := by
  have h0 : 0 ≤ i % 12 := Int.emod_nonneg _ (by decide)
  have z : atI (sm.map V.str) (((i % 12).toNat : Nat) : Int) = some (.str (smAt i)) := atI_nat (by rw [List.getElem?_map, smAt_eq]; rfl)
  rw [Int.toNat_of_nonneg h0] at z
  exact z
theorem smAt_inj {i j : Int} (h : smAt i = smAt j) : i % 12 = j % 12 := by
  have h0 : 0 ≤ i % 12 := Int.emod_nonneg _ (by decide)
  have h1 : 0 ≤ j % 12 := Int.emod_nonneg _ (by decide)
  have z : (i % 12).toNat = (j % 12).toNat := by
    refine nd_ix sm_nd (smAt_eq i) ?_
    rw [h]
    exact smAt_eq j
  omega
/-! texts of signs -/
def ch (c : Nat) : Str := ⟨#[c]⟩
abbrev one (c : Nat) : V := .str (ch c)
def txt (ds : List Nat) : Str := ⟨ds.toArray⟩
theorem joinL_nil : ∀ ds : List Nat, TL.joinL [] (ds.map fun c => [c]) = ds
  | [] => rfl
  | [_] => rfl
  | a :: b :: r => by
    have ih := joinL_nil (b :: r)
    show [a] ++ ([] ++ TL.joinL [] ((b :: r).map fun c => [c])) = a :: b :: r
    rw [ih]
    rfl
theorem join_txt (ds : List Nat) : Txt.join Str.empty (ds.map ch) = txt ds := by
  apply TL.ext_tl
  rw [TL.join_eq, TL.tl_join]
  show TL.joinL [] _ = ds.toArray.toList
  rw [List.map_map, List.toList_toArray]
  exact joinL_nil ds
theorem join_bd : ∀ ds : List Nat, ((ds.map ch).map (·.length)).sum = ds.length
  | [] => rfl
  | c :: ds => by
    have ih := join_bd ds
    rw [List.map_cons, List.map_cons, List.sum_cons, ih, List.length_cons]
    show 1 + ds.length = _
    omega
theorem txt_len (ds : List Nat) : (txt ds).length = ds.length := by
  show ds.toArray.size = _
  simp
theorem txt_ok {ds : List Nat} (h0 : ds ≠ []) (h1 : ∀ c ∈ ds, c ∈ sg) (h2 : ds.length ≤ 12) : NameOk (txt ds) := by
  refine ⟨fun e => ?_, ?_, by rw [txt_len]; exact h2⟩
  · have z := congrArg Str.length e
    rw [txt_len] at z
    exact h0 (List.eq_nil_of_length_eq_zero z)
  · show (ds.toArray.all fun c => decide (c < 0x110000)) = true
    rw [List.all_toArray]
    exact List.all_eq_true.mpr fun c hc => decide_eq_true (sg_ok c (h1 c hc))
theorem txt_inj {a b : List Nat} (h : txt a = txt b) : a = b := by
  have z := congrArg (fun x : Str => x.cps.toList) h
  simpa [txt] using z
/-! slices -/
theorem cut_to (xs : List V) (k : Nat) : cutV xs none (some (k : Int)) = xs.take k := by
  unfold cutV
  rw [show HT.sIx xs.length 0 none = 0 from HT.sIx_none _ _, show HT.sIx xs.length xs.length (some (k : Int)) = min k xs.length from HT.sIx_nat _ _ _, List.drop_zero, Nat.sub_zero]
  rcases Nat.le_total k xs.length with h | h
  · rw [Nat.min_eq_left h]
  · rw [Nat.min_eq_right h, List.take_of_length_le (Nat.le_refl _), List.take_of_length_le h]
def seg (cs : List Nat) (a b : Nat) : List Nat := (cs.drop (min a cs.length)).take (min b cs.length - min a cs.length)
theorem cut_seg (cs : List Nat) (a b : Nat) : cutV (cs.map one) (some (a : Int)) (some (b : Int)) = (seg cs a b).map one := by
  unfold cutV seg
  rw [show HT.sIx (cs.map one).length 0 (some (a : Int)) = min a (cs.map one).length from HT.sIx_nat _ _ _, show HT.sIx (cs.map one).length (cs.map one).length (some (b : Int)) = min b (cs.map one).length from HT.sIx_nat _ _ _, List.length_map, List.map_take, List.map_drop]
theorem seg_mem {cs : List Nat} {a b c : Nat} (h : c ∈ seg cs a b) : c ∈ cs := List.mem_of_mem_drop (List.mem_of_mem_take h)
theorem seg_len (cs : List Nat) (a b : Nat) : (seg cs a b).length ≤ cs.length - min a cs.length := by
  unfold seg
  rw [List.length_take, List.length_drop]
  omega
/-! the three kinds of names -/
def nameA (cs : List Nat) (m : Int) (k : Nat) : Str := txt (cs.take (1 + ((m + 5 * (k : Int)) % 12).toNat))
def nameB (m : Int) (k : Nat) : Str := smAt (m + (k : Int))
def codeC (cs : List Nat) (at_ long : Nat) (m : Int) (k : Nat) : List Nat := cs.take at_ ++ [sgAt (m + 5 * (k : Int))] ++ seg cs (at_ + 1) long
def nameC (cs : List Nat) (at_ long : Nat) (m : Int) (k : Nat) : Str := txt (codeC cs at_ long m k)
def NamesOk (ns : List Str) : Prop := ns.Nodup ∧ ns.length ≤ 8 ∧ ∀ n ∈ ns, NameOk n
theorem names_of {f : Nat → Str} {m : Nat} (hm : m ≤ 8) (h1 : ∀ i j : Nat, i < j → j < 8 → f i ≠ f j) (h2 : ∀ i, NameOk (f i)) : NamesOk ((List.range m).map f) := by
  refine ⟨?_, by rw [List.length_map, List.length_range]; exact hm, fun n hn => ?_⟩
  · unfold List.Nodup
    rw [List.pairwise_map]
    have z := List.pairwise_lt_range (n := m)
    exact z.imp_of_mem fun {a b} _ hb h => h1 a b h (Nat.lt_of_lt_of_le (List.mem_range.mp hb) hm)
  · obtain ⟨i, _, e⟩ := List.mem_map.mp hn
    rw [← e]
    exact h2 i
theorem namesA {cs : List Nat} (hc : cs.length = 12) (hm : ∀ c ∈ cs, c ∈ sg) (m : Int) {n : Nat} (hn : n ≤ 8) : NamesOk ((List.range n).map (nameA cs m)) := by
  refine names_of hn (fun i j hij hj e => ?_) fun i => ?_
  · have z := congrArg List.length (txt_inj e)
    rw [List.length_take, List.length_take, hc] at z
    omega
  · refine txt_ok ?_ (fun c h => hm c (List.mem_of_mem_take h)) (by rw [List.length_take]; omega)
    intro e
    have z := congrArg List.length e
    rw [List.length_take, hc, List.length_nil] at z
    omega
theorem namesB (m : Int) {n : Nat} (hn : n ≤ 8) : NamesOk ((List.range n).map (nameB m)) := by
  refine names_of hn (fun i j hij hj e => ?_) fun i => sm_ok _ (List.mem_of_getElem? (smAt_eq _))
  have z := smAt_inj e
  omega
theorem namesC {cs : List Nat} (hc : cs.length = 12) (hm : ∀ c ∈ cs, c ∈ sg) {a : Nat} (ha : a < 12) (long : Nat) (m : Int) {n : Nat} (hn : n ≤ 8) : NamesOk ((List.range n).map (nameC cs a long m)) := by
  have lt : (cs.take a).length = a := by
    rw [List.length_take]
    omega
  refine names_of hn (fun i j hij hj e => ?_) fun i => ?_
  · have z := congrArg (fun l => l[a]?) (txt_inj e)
    have g : ∀ k, (codeC cs a long m k)[a]? = some (sgAt (m + 5 * (k : Int))) := fun k => by
      unfold codeC
      rw [List.append_assoc, List.getElem?_append_right (Nat.le_of_eq lt), lt, Nat.sub_self]
      rfl
    have z2 : some (sgAt (m + 5 * (i : Int))) = some (sgAt (m + 5 * (j : Int))) := by
      rw [← g i, ← g j]
      exact z
    have z3 := sgAt_inj (Option.some.inj z2)
    omega
  · refine txt_ok ?_ (fun c h => ?_) ?_
    · intro e
      have z := congrArg List.length e
      unfold codeC at z
      rw [List.length_append, List.length_append, List.length_singleton, List.length_nil] at z
      omega
    · unfold codeC at h
      rcases List.mem_append.mp h with h | h
      · rcases List.mem_append.mp h with h | h
        · exact hm c (List.mem_of_mem_take h)
        · rw [List.mem_singleton.mp h]
          exact sgAt_mem _
      · exact hm c (seg_mem h)
    · unfold codeC
      have z := seg_len cs (a + 1) long
      rw [List.length_append, List.length_append, List.length_singleton, lt]
      omega
end Lf

/-! the names: the walk -/
namespace Lf
open PySem PySem.Spec PyProof.Rows L2
abbrev rJoin (K : PySem.W.Frag) : V → List V → Hp → VK → Prop := fun x xs H Q => ∃ a p, ∃ ys : List Str, x = .str a ∧ xs = [.ref p] ∧ (SqL K H p (ys.map V.str) ∨ SqT K H p (ys.map V.str)) ∧
  (ys.map (·.length)).sum + ys.length * a.length ≤ 16777216 ∧ Q (.str (Txt.join a ys)) H
def spLNames (K : PySem.W.Frag) : Sp := fun vs H Q _ => ∃ (c m : Int), vs = [.int c, .int m] ∧ 0 ≤ m ∧ m ≤ 8 ∧ ∀ (l : Addr) (ns : List Str) (H' : Hp), Same H H' → H l = none → NamesOk ns → H' l = some (.lst (ns.map V.str)) → Q (.ref l) H'
section
variable {P : Program} {w : World} {K : PySem.W.Frag} {mg : Str → Option Value} {base : Heap} {f : Addr} {fd : FuncData}
theorem scLNames : FnScope ["_law_cell", "_law_many", "_law_signs", "_law_some", "_law_number", "_law_base", "_law_k", "_law_at", "_law_long", "_law_found", "_law_other", "_law_j"] ["_law_cell", "_law_many"] (defScope sLNames) := ⟨rfl, rfl, rfl, by decide +kernel, rfl, by decide +kernel, by decide +kernel⟩
theorem ok_lnames {fM : Addr} {fdM : FuncData} (F : FnP K "_law_names" "_law_names" sLNames f fd) (mR : mg "range" = none) (GM : FnOk P w K mg base CX0 1 fM fdM ["_law_cell", "_law_k"] spMix) (gM : mg "_law_mix" = some (.ref fM)) (kM : PySem.W.keepIn K (.ref fM) = true) (bM : Binds K fdM ["_law_cell", "_law_k"] []) :
    FnOk P w K mg base CX0 2 f fd ["_law_cell", "_law_many"] (spLNames K) := by
  refine fnp_ok F scLNames (fun vs H Q E h => ?_) (fun cdv A outer s H vs Q E hr h => ?_)
  · obtain ⟨c, m, rfl, _⟩ := h
    rfl
  obtain ⟨c, m, rfl, h0, h1, q⟩ := h
  have nd := scLNames.nd
  refine ⟨_, pss_cons (ps_set (i := 2) nd rfl (.inr rfl) pe_str)
    (pss_cons (ps_set (i := 3) nd rfl (.inr rfl) (pe_lst (pa_cons pe_str (pa_cons pe_str (pa_cons pe_str (pa_cons pe_str (pa_cons pe_str (pa_cons pe_str (pa_cons pe_str (pa_cons pe_str (pa_cons pe_str (pa_cons pe_str (pa_cons pe_str (pa_cons pe_str pa_nil))))))))))))))
    (pss_cons (ps_set (i := 4) nd rfl (.inr rfl) (pe_op op_fdiv (pe_call GM hr (by rfl) gM kM bM .nil pass0 (pa_cons (pv 0) (pa_cons pe_int pa_nil))) pe_int))
    (pss_cons (ps_set (i := 5) nd rfl (.inr rfl) (pe_lc (own := [("_law_j", 11)]) (g := gName 11) rfl nd (pi_range1 (by rfl) mR (pa_cons pe_int pa_nil))
        (blkOk_by (N := ["_law_cell", "_law_many", "_law_signs", "_law_some", "_law_number", "_law_base", "_law_k", "_law_at", "_law_long", "_law_found", "_law_other", "_law_j"]) (sc := defScope sLNames) (by decide +kernel)) (fun _ _ _ _ _ => pg_name (i := 11) nd rfl (Or.inl rfl)) (fun _ _ _ _ _ => pts_nil)
        (fun _ _ _ _ _ => pe_ix ix_str (pv 2) (pe_op op_mod (pe_call GM hr (by rfl) gM kM bM .nil pass0 (pa_cons (pv 0) (pa_cons (pe_op op_add pe_int (pv 11)) pa_nil))) pe_int) (fun _ _ => rfl))))
    (pss_cons (ps_if (pt_cmpR op_eq (pe_op op_mod (pe_call GM hr (by rfl) gM kM bM .nil pass0 (pa_cons (pv 0) (pa_cons pe_int pa_nil))) pe_int) pe_int (nomark _)) (pss_one (ps_ret (pe_lc (own := [("_law_k", 6)]) (g := gName 6)
        (te := tM1 (rJoin K) (tC (.str "")) (tSl (rSlL K) (tVar 5) tNoPart (tPart _))) rfl nd (pi_range1 (by rfl) mR (pa_cons (pv 1) pa_nil))
        (blkOk_by (N := ["_law_cell", "_law_many", "_law_signs", "_law_some", "_law_number", "_law_base", "_law_k", "_law_at", "_law_long", "_law_found", "_law_other", "_law_j"]) (sc := defScope sLNames) (by decide +kernel)) (fun _ _ _ _ _ => pg_name (i := 6) nd rfl (Or.inl rfl)) (fun _ _ _ _ _ => pts_nil)
        (fun _ _ _ _ _ => pe_join pe_str (pe_slice sl_list (pv 5) po_none (po_some (pe_op op_add pe_int (pe_op op_mod (pe_op op_add (pv 4) (pe_op op_mul pe_int (pv 6))) pe_int)))))))) pss_nil)
    (pss_cons (ps_if (pt_cmpR op_eq (pe_op op_mod (pe_call GM hr (by rfl) gM kM bM .nil pass0 (pa_cons (pv 0) (pa_cons pe_int pa_nil))) pe_int) pe_int (nomark _)) (pss_one (ps_ret (pe_lc (own := [("_law_k", 6)]) (g := gName 6)
        (te := tOp (rIxL K) (tVar 3) _) rfl nd (pi_range1 (by rfl) mR (pa_cons (pv 1) pa_nil))
        (blkOk_by (N := ["_law_cell", "_law_many", "_law_signs", "_law_some", "_law_number", "_law_base", "_law_k", "_law_at", "_law_long", "_law_found", "_law_other", "_law_j"]) (sc := defScope sLNames) (by decide +kernel)) (fun _ _ _ _ _ => pg_name (i := 6) nd rfl (Or.inl rfl)) (fun _ _ _ _ _ => pts_nil)
        (fun _ _ _ _ _ => pe_ix ix_list (pv 3) (pe_op op_mod (pe_op op_add (pv 4) (pv 6)) pe_int) (fun _ _ => rfl))))) pss_nil)
    (pss_cons (ps_set (i := 7) nd rfl (.inl rfl) (pe_op op_mod (pv 4) pe_int))
    (pss_cons (ps_set (i := 8) nd rfl (.inl rfl) (pe_op op_add (pe_op op_add (pv 7) pe_int) (pe_op op_mod (pe_op op_fdiv (pv 4) pe_int) (pe_op op_sub pe_int (pv 7)))))
    (pss_cons (ps_set (i := 9) nd rfl (.inl rfl) (pe_lst pa_nil))
    (pss_cons (ps_for PassesOwn.never rfl (pi_range1 (by rfl) mR (pa_cons (pv 1) pa_nil)) (pg_name (i := 6) nd rfl (.inl rfl))
      (pss_cons (ps_set (i := 10) nd rfl (.inl rfl) (pe_ix ix_str (pv 2) (pe_op op_mod (pe_op op_add (pe_call GM hr (by rfl) gM kM bM .nil pass0 (pa_cons (pv 0) (pa_cons (pe_op op_add pe_int (pv 7)) pa_nil))) (pe_op op_mul pe_int (pv 6))) pe_int) (fun _ _ => rfl)))
      (pss_one (ps_expr (pe_bm PySem.F.plainAttrs_list PySem.F.slot_list_append PySem.F.type_list_append mt_append (pv 9) (pa_cons (pe_join pe_str
        (pe_op op_cat (pe_op op_cat (pe_slice sl_list (pv 5) po_none (po_some (pv 7))) (pe_lst (pa_cons (pv 10) pa_nil))) (pe_slice sl_list (pv 5) (po_some (pe_op op_add (pv 7) pe_int)) (po_some (pv 8))))) pa_nil))))))
    (pss_one (ps_ret (pv 9)))))))))))), ?_⟩
  refine ⟨(by show 12 ≤ sizeLine; decide), fun l nl => ?_⟩
  have s1 : Same H (upd H l (.lst (sm.map V.str))) := same_new nl
  have el1 : (upd H l (.lst (sm.map V.str))) l = some (.lst (sm.map V.str)) := upd_same
  refine ⟨_, rfl, c, 40, rfl, by decide, by decide, _, _, rfl, rfl, ⟨by decide, by decide⟩, 12, rfl, by decide, by decide, fun D nD => ?_⟩
  refine lc_range (lo := 0) (n := 12) (fun i H4 => Same (upd H l (.lst (sm.map V.str))) H4 ∧ ∃ cs : List Nat, H4 D = some (.lst (cs.map one)) ∧ cs.length = i ∧ ∀ c ∈ cs, c ∈ sg)
    ⟨same_new nD, [], upd_same, rfl, fun _ h => nomatch h⟩ (fun i H4 hi h => ?_) (fun H4 h => ?_)
  · obtain ⟨s4, cs, eD, hc, hm⟩ := h
    refine ⟨rfl, _, rfl, _, rfl, _, rfl, _, _, rfl, rfl, c, (41 + (0 + (i : Int))), rfl, by omega, by omega, _, _, rfl, rfl, (by show (0 : Int) < 37; decide), _, _, sgAt (mixF c (41 + (0 + (i : Int)))), rfl, rfl, (by show sgS.length ≤ sizeLine; decide +kernel), sgAt_at _, _, eD, small1000 (by rw [List.length_map]; omega), ?_⟩
    refine ⟨Same.put s4 nD, cs ++ [sgAt (mixF c (41 + (0 + (i : Int))))], ?_, by rw [List.length_append, hc]; rfl, fun x hx => ?_⟩
    · rw [upd_same, List.map_append]
      rfl
    · rcases List.mem_append.mp hx with hx | hx
      · exact hm x hx
      · rw [List.mem_singleton.mp hx]
        exact sgAt_mem _
  obtain ⟨s4, cs, eD, hc, hm⟩ := h
  have nlD : l ≠ D := ne_of_none el1 nD
  have el4 := s4 _ _ el1
  have s04 : Same H H4 := s1.trans s4
  obtain ⟨M, eM⟩ : ∃ M : Int, M = mixF c 40 / 3 := ⟨_, rfl⟩
  have hmn : m = ((m.toNat : Nat) : Int) := by omega
  have hm8 : m.toNat ≤ 8 := by omega
  refine ⟨_, rfl, c, 40, rfl, by decide, by decide, _, _, rfl, rfl, (by show (0 : Int) < 3; decide), rfl, _, rfl, ite2 (fun _ => ?_) (fun _ => ?_)⟩
  · refine ⟨_, rfl, m, rfl, by omega, by omega, fun D2 nD2 => ?_⟩
    refine lc_range (lo := 0) (n := m.toNat) (fun i H5 => Same H4 H5 ∧ H5 D2 = some (.lst (((List.range i).map (nameA cs M)).map V.str)))
      ⟨same_new nD2, upd_same⟩ (fun i H5 hi h => ?_) (fun H5 h => ?_)
    · obtain ⟨s5, e5⟩ := h
      have eD5 := s5 _ _ eD
      have hz0 : 0 ≤ (M + 5 * (i : Int)) % 12 := Int.emod_nonneg _ (by decide)
      have hz1 : (M + 5 * (i : Int)) % 12 < 12 := Int.emod_lt_of_pos _ (by decide)
      obtain ⟨k, ek⟩ : ∃ k : Nat, k = 1 + ((M + 5 * (i : Int)) % 12).toNat := ⟨_, rfl⟩
      have ez : 1 + (M + 5 * (0 + (i : Int))) % 12 = (k : Int) := by
        rw [Int.zero_add]
        omega
      refine ⟨rfl, ⟨_, rfl⟩, _, rfl, _, rfl, _, rfl, _, _, rfl, rfl, .inl ⟨by decide, by decide⟩, _, _, rfl, rfl, _, _, rfl, rfl, (by show (0 : Int) < 12; decide), _, _, rfl, rfl, (1 + (M + 5 * (0 + (i : Int))) % 12), (by rw [eM]), D, _, rfl, sqL_of eD5, fun p np => ?_⟩
      rw [ez, cut_to, ← List.map_take]
      have s6 : Same H5 (upd H5 p (.lst ((cs.take k).map one))) := same_new np
      have e6 : (upd H5 p (.lst ((cs.take k).map one))) p = some (.lst (((cs.take k).map ch).map V.str)) := by
        rw [upd_same, List.map_map]
        rfl
      refine ⟨_, p, (cs.take k).map ch, rfl, rfl, .inl (sqL_of e6), ?_, ?_⟩
      · rw [join_bd, List.length_map, List.length_take]
        show _ + _ * 0 ≤ _
        omega
      refine ⟨_, s6 _ _ e5, small1000 (by rw [List.length_map, List.length_map, List.length_range]; omega), Same.put (s5.trans s6) nD2, ?_⟩
      rw [upd_same, List.range_succ, List.map_append, List.map_append]
      have ej : Txt.join "" ((cs.take k).map ch) = nameA cs M i := by
        rw [show nameA cs M i = txt (cs.take k) by rw [ek]; rfl]
        exact join_txt _
      show some (HO.lst (_ ++ [V.str (Txt.join _ _)])) = some (HO.lst (_ ++ [V.str (nameA cs M i)]))
      rw [← ej]
    · obtain ⟨s5, e5⟩ := h
      exact q D2 _ H5 (s04.trans s5) (none_of_same s04 nD2) (namesA hc hm M hm8) e5
  refine ⟨_, rfl, c, 40, rfl, by decide, by decide, _, _, rfl, rfl, (by show (0 : Int) < 3; decide), rfl, _, rfl, ite2 (fun _ => ?_) (fun _ => ?_)⟩
  · refine ⟨_, rfl, m, rfl, by omega, by omega, fun D2 nD2 => ?_⟩
    refine lc_range (lo := 0) (n := m.toNat) (fun i H5 => Same H4 H5 ∧ H5 D2 = some (.lst (((List.range i).map (nameB M)).map V.str)))
      ⟨same_new nD2, upd_same⟩ (fun i H5 hi h => ?_) (fun H5 h => ?_)
    · obtain ⟨s5, e5⟩ := h
      have el5 := s5 _ _ el4
      refine ⟨rfl, _, rfl, _, rfl, _, rfl, _, _, rfl, rfl, _, _, rfl, rfl, (by show (0 : Int) < 12; decide), l, _, _, _, rfl, rfl, sqL_of el5, smAt_at _, _, e5, small1000 (by rw [List.length_map, List.length_map, List.length_range]; omega), Same.put s5 nD2, ?_⟩
      rw [upd_same, List.range_succ, List.map_append, List.map_append, ← eM, Int.zero_add]
      rfl
    · obtain ⟨s5, e5⟩ := h
      exact q D2 _ H5 (s04.trans s5) (none_of_same s04 nD2) (namesB M hm8) e5
  -- the third kind
  have ha0 : 0 ≤ M % 12 := Int.emod_nonneg _ (by decide)
  have ha1 : M % 12 < 12 := Int.emod_lt_of_pos _ (by decide)
  obtain ⟨a, ea⟩ : ∃ a : Nat, a = (M % 12).toNat := ⟨_, rfl⟩
  have ea2 : M % 12 = (a : Int) := by omega
  have ha : a < 12 := by omega
  have hb0 : 0 ≤ M / 12 % (12 - (a : Int)) := Int.emod_nonneg _ (by omega)
  have hb1 : M / 12 % (12 - (a : Int)) < 12 - (a : Int) := Int.emod_lt_of_pos _ (by omega)
  obtain ⟨b, eb⟩ : ∃ b : Nat, b = ((a : Int) + 1 + M / 12 % (12 - (a : Int))).toNat := ⟨_, rfl⟩
  have eb2 : (a : Int) + 1 + M / 12 % (12 - (a : Int)) = (b : Int) := by omega
  obtain ⟨Z, eZ⟩ : ∃ Z : Int, Z = mixF c (41 + (a : Int)) := ⟨_, rfl⟩
  refine ⟨_, rfl, _, _, rfl, rfl, (by show (0 : Int) < 12; decide), _, rfl, _, _, rfl, rfl, _, rfl, _, _, rfl, rfl, ⟨by decide, by decide⟩, _, rfl, _, _, rfl, rfl, _, _, rfl, rfl, (by rw [← eM, ea2]; omega), _, _, rfl, rfl, Nat.zero_le _, fun o no => ?_⟩
  have so : Same H4 (upd H4 o (.lst [])) := same_new no
  have eo : (upd H4 o (.lst [])) o = some (.lst []) := upd_same
  rw [← eM, ea2]
  generalize upd H4 o (.lst []) = H5 at so eo
  have no0 : H o = none := none_of_same s04 no
  refine ⟨_, rfl, m, rfl, by omega, by omega, ?_⟩
  refine for_range (lo := 0) (n := m.toNat) (fun i σ H6 => ∃ y6 y10 y11, σ = [some (.int c), some (.int m), some (.str sgS), some (.ref l), some (.int M), some (.ref D), y6, some (.int a), some (.int b), some (.ref o), y10, y11] ∧ Same H4 H6 ∧ H6 o = some (.lst (((List.range i).map (nameC cs a b Z)).map V.str)))
    ⟨none, none, none, (by rw [← eb2, ← ea2, eM]; rfl), so, eo⟩ (fun i σ H6 hi h => ?_) (fun σ H6 h => ?_)
  · obtain ⟨y6, y10, y11, rfl, s6, e6⟩ := h
    have eD6 : H6 D = _ := s6 _ _ eD
    refine ⟨_, rfl, _, rfl, _, rfl, _, _, rfl, rfl, c, 41 + (a : Int), rfl, by omega, by omega, _, rfl, _, _, rfl, rfl, .inl ⟨by decide, by decide⟩, _, _, rfl, rfl, _, _, rfl, rfl, (by show (0 : Int) < 37; decide), _, _, sgAt (mixF c (41 + (a : Int)) + 5 * (0 + (i : Int))), rfl, rfl, (by show sgS.length ≤ sizeLine; decide +kernel), sgAt_at _, ?_⟩
    rw [← eZ, Int.zero_add]
    refine ⟨_, rfl, .inl ⟨rfl, _, sqL_of e6⟩, ⟨_, rfl⟩, _, rfl, _, rfl, (a : Int), rfl, D, _, rfl, sqL_of eD6, fun p1 np1 => ?_⟩
    rw [cut_to, ← List.map_take]
    have t1 : Same H6 (upd H6 p1 (.lst ((cs.take a).map one))) := same_new np1
    have f1 : (upd H6 p1 (.lst ((cs.take a).map one))) p1 = some (.lst ((cs.take a).map one)) := upd_same
    generalize upd H6 p1 (.lst ((cs.take a).map one)) = G1 at t1 f1
    refine ⟨_, rfl, (by show 1 ≤ sizeLine; decide), fun p2 np2 => ?_⟩
    have t2 : Same G1 (upd G1 p2 (.lst [one (sgAt (Z + 5 * (i : Int)))])) := same_new np2
    have f2 : (upd G1 p2 (.lst [one (sgAt (Z + 5 * (i : Int)))])) p2 = some (.lst [one (sgAt (Z + 5 * (i : Int)))]) := upd_same
    refine ⟨_, _, _, _, rfl, rfl, t2 _ _ f1, f2, Nat.le_of_lt (small1000 (by rw [List.length_map, List.length_take]; show _ + 1 ≤ _; omega)), fun p3 np3 => ?_⟩
    have t3 := same_new (o := .lst ((cs.take a).map one ++ [one (sgAt (Z + 5 * (i : Int)))])) np3
    have t13 := t1.trans (t2.trans t3)
    refine ⟨_, rfl, _, rfl, _, _, rfl, rfl, (((a + 1 : Nat)) : Int), rfl, _, rfl, (b : Int), rfl, D, _, rfl, sqL_of (t13 _ _ eD6), fun p4 np4 => ?_⟩
    rw [cut_seg]
    have t4 := same_new (o := .lst ((seg cs (a + 1) b).map one)) np4
    refine ⟨_, _, _, _, rfl, rfl, t4 _ _ upd_same, upd_same, Nat.le_of_lt (small1000 (by
      have z := seg_len cs (a + 1) b
      rw [List.length_append, List.length_map, List.length_take, List.length_map]
      show _ + 1 + _ ≤ _
      omega)), fun p5 np5 => ?_⟩
    have t5 := same_new (o := .lst (((cs.take a).map one ++ [one (sgAt (Z + 5 * (i : Int)))]) ++ (seg cs (a + 1) b).map one)) np5
    have t15 := t13.trans (t4.trans t5)
    have ex : ((cs.take a).map one ++ [one (sgAt (Z + 5 * (i : Int)))]) ++ (seg cs (a + 1) b).map one = (((codeC cs a b Z i)).map ch).map V.str := by
      unfold codeC
      rw [List.map_map, List.map_append, List.map_append]
      rfl
    refine ⟨_, p5, (codeC cs a b Z i).map ch, rfl, rfl, .inl (sqL_of (by rw [← ex]; exact upd_same)), ?_, ?_⟩
    · have z := seg_len cs (a + 1) b
      rw [join_bd, List.length_map]
      unfold codeC
      rw [List.length_append, List.length_append, List.length_take]
      show _ + 1 + _ + _ * 0 ≤ _
      omega
    refine ⟨o, _, _, rfl, rfl, t15 _ _ e6, small1000 (by rw [List.length_map, List.length_map, List.length_range]; omega), _, _, _, rfl, Same.put (s6.trans t15) no, ?_⟩
    rw [upd_same, List.range_succ, List.map_append, List.map_append]
    show some (HO.lst (_ ++ [V.str (Txt.join _ _)])) = some (HO.lst (_ ++ [V.str (nameC cs a b Z i)]))
    rw [show nameC cs a b Z i = Txt.join Str.empty ((codeC cs a b Z i).map ch) from (join_txt _).symm]
    rfl
  · obtain ⟨y6, y10, y11, rfl, s6, e6⟩ := h
    exact ⟨_, rfl, q o _ H6 (s04.trans s6) no0 (namesC hc hm ha b Z hm8) e6⟩
end
end Lf

/-! a new record -/
namespace Lf
open PySem PySem.Spec PyProof.Rows L2
def ParOk (bk : Bk) (r : Rec) : Prop := r.par = Str.empty ∨ ∃ q ∈ bk, q.1 = r.par ∧ q.2.kind = ("chapter" : Str)
def spRecord (K : PySem.W.Frag) : Sp := fun vs H Q _ => ∃ (d kl : Addr) (bk : Bk) (n : Str) (c k : Int) (kinds : List Str), vs = [.ref d, .str n, .int c, .int k, .ref kl] ∧ DKm K H d bk ∧ (bk.map (·.1)).Nodup ∧ bk.length ≤ 60 ∧ (∀ q ∈ bk, PyData.strOk q.1 = true) ∧
  SqL K H kl (kinds.map V.str) ∧ kinds.length = 4 ∧ (∀ x ∈ kinds, PyData.strOk x = true) ∧ n.length ≤ 100 ∧ 0 ≤ k ∧ k ≤ 100 ∧ ∀ (v : V) (r : Rec) (H' : Hp), Same H H' → RecV K H' v r → okR r = true → ParOk bk r → Q v H'
section
variable {P : Program} {w : World} {K : PySem.W.Frag} {mg : Str → Option Value} {base : Heap} {f : Addr} {fd : FuncData}
theorem scRecord : FnScope ["_law_records", "_law_name", "_law_cell", "_law_k", "_law_kinds", "_law_number", "_law_kind", "_law_parents", "_law_parent", "_law_rank", "_law_one"] ["_law_records", "_law_name", "_law_cell", "_law_k", "_law_kinds"] (defScope sRecord) := ⟨rfl, rfl, rfl, by decide +kernel, rfl, by decide +kernel, by decide +kernel⟩
theorem ok_record {fD fC : Addr} {fdD fdC : FuncData} (F : FnP K "_law_record" "_law_record" sRecord f fd) (mL : mg "len" = none)
    (GD : FnOk P w K mg base CX0 2 fD fdD ["_law_cell", "_law_k"] spDraw) (gD : mg "_law_draw" = some (.ref fD)) (kD : PySem.W.keepIn K (.ref fD) = true) (bD : Binds K fdD ["_law_cell", "_law_k"] [])
    (GC : FnOk P w K mg base CX0 1 fC fdC ["_law_kind", "_law_name", "_law_number"] (spContent K)) (gC : mg "_law_content" = some (.ref fC)) (kC : PySem.W.keepIn K (.ref fC) = true) (bC : Binds K fdC ["_law_kind", "_law_name", "_law_number"] []) :
    FnOk P w K mg base CX0 3 f fd ["_law_records", "_law_name", "_law_cell", "_law_k", "_law_kinds"] (spRecord K) := by
  refine fnp_ok F scRecord (fun vs H Q E h => ?_) (fun cdv A outer s H vs Q E hr h => ?_)
  · obtain ⟨d, kl, bk, n, c, k, kinds, rfl, _⟩ := h
    rfl
  obtain ⟨d, kl, bk, n, c, k, kinds, rfl, ⟨kvs, hd, hb⟩, hnd, hbl, hbo, hk, hk4, hko, hn, h0, h1, q⟩ := h
  have hu := hu_of hr
  have nd := scRecord.nd
  refine ⟨_, pss_cons (ps_set (i := 5) nd rfl (.inl rfl) (pe_call GD hr (by rfl) gD kD bD .nil pass0 (pa_cons (pv 2) (pa_cons (pe_op op_add (pe_op op_mul pe_int (pv 3)) pe_int) pa_nil))))
    (pss_cons (ps_set (i := 6) nd rfl (.inl rfl) (pe_ix ix_list (pv 4) (pe_op op_mod (pv 5) pe_int) (fun _ _ => rfl)))
    (pss_cons (ps_set (i := 7) nd rfl (.inl rfl) (pe_op op_cat (pe_lst (pa_cons pe_str pa_nil)) (pe_lock (pe_lc (own := [("_law_one", 10)]) (g := gName 10)
        (tt := tTest (tOp rEq (tOp (rIxT K) (tDGet (tVar 0) (tVar 10)) (tC (.int 0))) (tC (.str "chapter")))) (te := tVar 10) rfl nd (pi_keys (pv 0))
        (blkOk_by (N := ["_law_records", "_law_name", "_law_cell", "_law_k", "_law_kinds", "_law_number", "_law_kind", "_law_parents", "_law_parent", "_law_rank", "_law_one"]) (sc := defScope sRecord) (by decide +kernel)) (fun _ _ _ _ _ => pg_name (i := 10) nd rfl (Or.inl rfl))
        (fun _ _ _ _ _ => pts_one (pt_cmpR op_eq (pe_ix ix_tup (pe_dget hu (pv 0) (pv 10) (fun _ _ => rfl)) pe_int (fun _ _ => rfl)) pe_str (nomark _)))
        (fun _ _ _ _ _ => pv 10)))))
    (pss_cons (ps_set (i := 8) nd rfl (.inl rfl) (pe_ix ix_list (pv 7) (pe_op op_mod (pe_op op_fdiv (pv 5) pe_int) (pe_callB call_len_seq (by rfl) mL PySem.boot_len (pa_cons (pv 7) pa_nil))) (fun _ _ => rfl)))
    (pss_cons (ps_set (i := 9) nd rfl (.inl rfl) (pe_ix ix_list (pe_lst (pa_cons pe_int (pa_cons pe_int (pa_cons (pe_op op_mod (pe_op op_fdiv (pv 5) pe_int) pe_int) (pa_cons (pe_op op_pow pe_int pe_int) pa_nil)))))
        (pe_op op_mod (pe_op op_fdiv (pv 5) pe_int) pe_int) (fun _ _ => rfl)))
    (pss_one (ps_ret (pe_tup (pa_cons (pv 6) (pa_cons (pv 8) (pa_cons (pv 9) (pa_cons (pe_call GC (hr.mono (by decide)) (by rfl) gC kC bC .nil pass0 (pa_cons (pv 6) (pa_cons (pv 1) (pa_cons
        (pe_call GD hr (by rfl) gD kD bD .nil pass0 (pa_cons (pv 2) (pa_cons (pe_op op_add (pe_op op_mul pe_int (pv 3)) pe_int) pa_nil))) pa_nil)))) pa_nil))))))))))), ?_⟩
  refine ⟨_, rfl, _, rfl, _, _, rfl, rfl, .inl ⟨by decide, by decide⟩, _, _, rfl, rfl, c, 4 * k + 1, rfl, by omega, by omega, fun num H1 s1 => ?_⟩
  obtain ⟨kd, hkd, _, gkd⟩ := item_of (ss := kinds) (j := num % 4) (Int.emod_nonneg _ (by decide)) (by rw [hk4]; exact Int.emod_lt_of_pos _ (by decide))
  refine ⟨_, rfl, _, rfl, _, _, rfl, rfl, (by show (0 : Int) < 4; decide), kl, _, _, _, rfl, rfl, s1.seq hk, gkd, ?_⟩
  refine ⟨(by show 1 ≤ sizeLine; decide), fun l nl => ?_⟩
  have s2 : Same H1 (upd H1 l (.lst [.str ""])) := same_new nl
  have el2 : (upd H1 l (.lst [.str ""])) l = some (.lst [.str ""]) := upd_same
  obtain ⟨H2, e2⟩ : ∃ x, x = upd H1 l (.lst [.str ""]) := ⟨_, rfl⟩
  rw [← e2] at s2 el2
  have s02 := s1.trans s2
  have hd2 := s02 _ _ hd
  refine ⟨d, .dK kvs, (by rw [← e2]; exact hd2), trivial, fun od => ?_⟩
  rw [← e2]
  generalize hHL : upd H2 d (.frz od (.dK kvs)) = HL
  have eL : HL d = some (.frz od (.dK kvs)) := by rw [← hHL, upd_same]
  have tL : TSt H2 HL := by rw [← hHL]; exact tst_lock hd2 rfl
  refine ⟨_, rfl, d, od, rfl, .inl ⟨kvs, eL, fun D nD => ?_⟩⟩
  refine lc_it (walk_keys (d := d) (o := od) (kvs := kvs)) (fun i H1 => Same HL H1 ∧ ∃ acc : List Str, H1 D = some (.lst (acc.map V.str)) ∧ acc.length ≤ i ∧ ∀ x ∈ acc, ∃ q ∈ bk, q.1 = x ∧ q.2.kind = ("chapter" : Str)) ⟨same_new nD, [], upd_same, Nat.le_refl _, fun _ h => nomatch h⟩ (fun i H1 _ q => q.1 _ _ eL) (fun i x H1 H1' hi q y => ?_) (fun H1 q => ?_)
  · obtain ⟨s3, acc, eD, al, ac⟩ := q
    obtain ⟨rfl, kk, v, hkv, rfl⟩ := y
    obtain ⟨b, hbi, he, hr1⟩ := paired_get hb hkv
    have he1 : kk = Sum.inr b.1 := he
    subst he1
    have t1 : TSt H H1' := (TSt.same s02).trans (tL.trans (TSt.same s3))
    have hD1 : DKr K H1' d bk := ⟨kvs, .inr ⟨od, s3 _ _ eL⟩, bkV_st t1 hb⟩
    have hlk : look bk b.1 = some b.2 := look_of_mem hnd (List.mem_of_getElem? hbi)
    obtain ⟨v1, g1, t, cc, rfl, hT, _⟩ := hD1.at_ hlk
    have hi2 : i < bk.length := by
      have z := List.getElem?_eq_some_iff.mp hbi
      exact z.1
    refine ⟨rfl, _, rfl, _, rfl, d, _, rfl, g1, t, _, _, _, rfl, rfl, hT, atI_nat (j := 0) rfl, rfl, _, rfl, ?_⟩
    refine ite2 (fun c1 => ?_) (fun c1 => ?_)
    · have ep : b.2.kind = ("chapter" : Str) := V.str.inj (of_decide_eq_true c1)
      refine ⟨_, rfl, _, eD, small1000 (by rw [List.length_map]; omega), Same.put s3 nD, acc ++ [b.1], ?_, ?_, fun x hx => ?_⟩
      · rw [upd_same, List.map_append]
        rfl
      · rw [List.length_append]
        show _ + 1 ≤ _
        omega
      · rcases List.mem_append.mp hx with hx | hx
        · exact ac x hx
        · rw [List.mem_singleton.mp hx]
          exact ⟨b, List.mem_of_getElem? hbi, rfl, ep⟩
    · exact ⟨s3, acc, eD, Nat.le_succ_of_le al, ac⟩
  obtain ⟨s3, acc, eD, al, ac⟩ := q
  rw [bkV_len hb] at al
  refine ⟨s3 _ _ eL, ?_⟩
  have nDd : D ≠ d := fun z => by rw [z, eL] at nD; cases nD
  have nD2 : H2 D = none := by
    rw [← hHL, upd_ne nDd] at nD
    exact nD
  have sH : Same H2 (upd H1 d (.dK kvs)) := by
    rw [← hHL] at s3
    exact same_lock hd2 s3
  have eD3 : (upd H1 d (.dK kvs)) D = some (.lst (acc.map V.str)) := by rw [upd_ne nDd]; exact eD
  generalize upd H1 d (.dK kvs) = H3 at sH eD3
  have el3 := sH _ _ el2
  refine ⟨_, _, _, _, rfl, rfl, el3, eD3, Nat.le_of_lt (small1000 (by rw [List.length_map]; show 1 + _ ≤ _; omega)), fun p np => ?_⟩
  have s4 : Same H3 (upd H3 p (.lst ((Str.empty :: acc).map V.str))) := same_new np
  have ep4 : (upd H3 p (.lst ((Str.empty :: acc).map V.str))) p = some (.lst ((Str.empty :: acc).map V.str)) := upd_same
  obtain ⟨H4, e4⟩ : ∃ x, x = upd H3 p (.lst ((Str.empty :: acc).map V.str)) := ⟨_, rfl⟩
  rw [← e4] at s4 ep4
  have fin : ∀ H5, H5 = H4 → H5 = upd H3 p (.lst ([.str ""] ++ acc.map V.str)) := fun H5 e => e.trans e4
  rw [← fin H4 rfl]
  have s04 := s02.trans (sH.trans s4)
  have lp : ((Str.empty :: acc).map V.str).length = acc.length + 1 := by rw [List.length_map, List.length_cons]
  obtain ⟨L, eLn⟩ : ∃ L : Nat, L = acc.length + 1 := ⟨_, rfl⟩
  have b0 : 0 ≤ num / 4 % (L : Int) := Int.emod_nonneg _ (by omega)
  have b1 : num / 4 % (L : Int) < (L : Int) := Int.emod_lt_of_pos _ (by omega)
  obtain ⟨par, hpar, _, gpar⟩ := item_of (ss := Str.empty :: acc) (j := num / 4 % (L : Int)) b0 (by rw [List.length_cons, ← eLn]; exact b1)
  refine ⟨_, rfl, _, rfl, _, _, rfl, rfl, ⟨by decide, by decide⟩, _, rfl, p, _, rfl, .inl (sqL_of ep4), num / 4, (L : Int), rfl, (by rw [lp, eLn]), by omega, p, _, _, _, rfl, rfl, sqL_of ep4, gpar, ?_⟩
  have c0 : 0 ≤ num / 16 % 4 := Int.emod_nonneg _ (by decide)
  have c1 : num / 16 % 4 < 4 := Int.emod_lt_of_pos _ (by decide)
  obtain ⟨rk, grk⟩ : ∃ rk : Int, atI [V.int 0, V.int 1, V.int (num / 64 % 10), V.int (10 ^ 9)] (num / 16 % 4) = some (.int rk) := by
    obtain ⟨j, ej⟩ : ∃ j, j = num / 16 % 4 := ⟨_, rfl⟩
    rw [← ej] at c0 c1 ⊢
    have hj : j = 0 ∨ j = 1 ∨ j = 2 ∨ j = 3 := by omega
    rcases hj with rfl | rfl | rfl | rfl
    · exact ⟨0, at_of (j := 0) rfl rfl⟩
    · exact ⟨1, at_of (j := 1) rfl rfl⟩
    · exact ⟨_, at_of (j := 2) rfl rfl⟩
    · exact ⟨_, at_of (j := 3) rfl rfl⟩
  refine ⟨_, rfl, _, _, rfl, rfl, ⟨by decide, by decide⟩, _, _, rfl, rfl, (by show (0 : Int) < 10; decide), _, _, rfl, rfl, ⟨by decide, by decide, by decide⟩, (by show 4 ≤ sizeLine; decide), fun m nm => ?_⟩
  have s5 := same_new (o := .lst [V.int 0, V.int 1, V.int (num / 64 % 10), V.int (10 ^ 9)]) nm
  refine ⟨_, rfl, _, _, rfl, rfl, ⟨by decide, by decide⟩, _, _, rfl, rfl, (by show (0 : Int) < 4; decide), m, _, _, _, rfl, rfl, sqL_of upd_same, grk, ?_⟩
  refine ⟨_, rfl, _, rfl, _, rfl, _, rfl, _, rfl, _, rfl, _, rfl, _, _, rfl, rfl, .inl ⟨by decide, by decide⟩, _, _, rfl, rfl, c, 4 * k + 2, rfl, by omega, by omega, fun n2 H6 s6 => ?_⟩
  refine ⟨kd, n, n2, rfl, hn, fun v cc H7 s7 dp ok => ⟨(by show 4 ≤ sizeLine; decide), fun t nt => ?_⟩⟩
  have s8 := same_new (o := .tup [V.str kd, V.str par, V.int rk, v]) nt
  refine q (.ref t) ⟨kd, par, rk, cc⟩ _ (s04.trans (s5.trans (s6.trans (s7.trans s8)))) ⟨t, v, rfl, sqT_of upd_same, con_st (TSt.same s8) dp⟩ ?_ ?_
  · unfold okR
    have z : PyData.strOk par = true := by
      rcases List.mem_cons.mp hpar with z | z
      · rw [z]
        decide +kernel
      · obtain ⟨b, hb, e, _⟩ := ac _ z
        rw [← e]
        exact hbo b hb
    show (PyData.strOk kd && (PyData.strOk par && okC cc)) = true
    rw [hko _ hkd, z, ok]
    rfl
  · rcases List.mem_cons.mp hpar with z | z
    · exact .inl z
    · exact .inr (ac _ z)
end
end Lf

/-! one side -/
namespace Lf
open PySem PySem.Spec PyProof.Rows L2
def spSide (K : PySem.W.Frag) : Sp := fun vs H Q _ => ∃ (c : Int) (nl e kl : Addr) (ns : List Str) (eb : Bk) (elv : Str → Nat) (kinds : List Str), vs = [.int c, .ref nl, .ref e, .ref kl] ∧ SqL K H nl (ns.map V.str) ∧ NamesOk ns ∧ DKm K H e eb ∧ Forest eb elv ∧
  SqL K H kl (kinds.map V.str) ∧ kinds.length = 4 ∧ (∀ x ∈ kinds, PyData.strOk x = true) ∧ ∀ (d : Addr) (bk : Bk) (lvl : Str → Nat) (H' : Hp), Same H H' → H d = none → DKm K H' d bk → Forest bk lvl → bk.length ≤ 8 → Q (.ref d) H'
theorem dkm_put {K : PySem.W.Frag} {H : Hp} {d : Addr} {bk : Bk} {n : Str} {v : V} {r : Rec} (h : DKm K H d bk) (hv : RecV K H v r) (hn : n ∉ bk.map (·.1)) (hl : bk.length ≤ 60) :
    ∃ kvs, H d = some (.dK kvs) ∧ kvs.length < sizeLine ∧ DKm K (upd H d (.dK (putK kvs (Sum.inr n) v))) d (bk ++ [(n, r)]) := by
  obtain ⟨kvs, e, b⟩ := h
  refine ⟨kvs, e, small1000 (by rw [bkV_len b]; omega), _, upd_same, ?_⟩
  rw [← putB_new r hn]
  exact bkV_st (TSt.put e rfl) (bkV_put b hv)
section
variable {P : Program} {w : World} {K : PySem.W.Frag} {mg : Str → Option Value} {base : Heap} {f : Addr} {fd : FuncData}
theorem scSide : FnScope ["_law_cell", "_law_names_here", "_law_elder", "_law_kinds", "_law_records", "_law_name", "_law_k", "_law_way", "_law_record_here", "_law_held", "_law_content_here"] ["_law_cell", "_law_names_here", "_law_elder", "_law_kinds"] (defScope sSide) := ⟨rfl, rfl, rfl, by decide +kernel, rfl, by decide +kernel, by decide +kernel⟩
theorem ok_side {fD fC fO fR : Addr} {fdD fdC fdO fdR : FuncData} (F : FnP K "_law_side" "_law_side" sSide f fd)
    (GD : FnOk P w K mg base CX0 2 fD fdD ["_law_cell", "_law_k"] spDraw) (gD : mg "_law_draw" = some (.ref fD)) (kD : PySem.W.keepIn K (.ref fD) = true) (bD : Binds K fdD ["_law_cell", "_law_k"] [])
    (GC : FnOk P w K mg base CX0 1 fC fdC ["_law_kind", "_law_name", "_law_number"] (spContent K)) (gC : mg "_law_content" = some (.ref fC)) (kC : PySem.W.keepIn K (.ref fC) = true) (bC : Binds K fdC ["_law_kind", "_law_name", "_law_number"] [])
    (GO : FnOk P w K mg base CX0 3 fO fdO ["_law_cell", "_law_names_here"] (spOrder K)) (gO : mg "_law_order" = some (.ref fO)) (kO : PySem.W.keepIn K (.ref fO) = true) (bO : Binds K fdO ["_law_cell", "_law_names_here"] [])
    (GR : FnOk P w K mg base CX0 3 fR fdR ["_law_records", "_law_name", "_law_cell", "_law_k", "_law_kinds"] (spRecord K)) (gR : mg "_law_record" = some (.ref fR)) (kR : PySem.W.keepIn K (.ref fR) = true) (bR : Binds K fdR ["_law_records", "_law_name", "_law_cell", "_law_k", "_law_kinds"] []) :
    FnOk P w K mg base CX0 4 f fd ["_law_cell", "_law_names_here", "_law_elder", "_law_kinds"] (spSide K) := by
  refine fnp_ok F scSide (fun vs H Q E h => ?_) (fun cdv A outer s H vs Q E hr h => ?_)
  · obtain ⟨c, nl, e, kl, ns, eb, elv, kinds, rfl, _⟩ := h
    rfl
  obtain ⟨c, nl, e, kl, ns, eb, elv, kinds, rfl, hns, hno, he, eF, hk, hk4, hko, q⟩ := h
  have hu := hu_of hr
  have nd := scSide.nd
  refine ⟨_, pss_cons (ps_set (i := 4) nd rfl (.inl rfl) pe_dnewK)
      (pss_cons (ps_for PassesOwn.never rfl (pi_list (pe_call GO hr (by rfl) gO kO bO .nil pass0 (pa_cons (pv 0) (pa_cons (pv 1) pa_nil)))) (pg_name (i := 5) nd rfl (.inl rfl)) (pss_cons (ps_set (i := 6) nd rfl (.inl rfl) (pe_bm PySem.F.plainAttrs_list PySem.F.slot_list_index PySem.F.type_list_index mt_index (pv 1) (pa_cons (pv 5) pa_nil)))
      (pss_cons (ps_set (i := 7) nd rfl (.inl rfl) (pe_op op_mod (pe_call GD (hr.mono (by decide)) (by rfl) gD kD bD .nil pass0 (pa_cons (pv 0) (pa_cons (pe_op op_add (pe_op op_mul pe_int (pv 6)) pe_int) pa_nil))) pe_int))
      (pss_cons (ps_set (i := 8) nd rfl (.inl rfl) (pe_dget2 hu (pv 2) (pv 5) (pe_tup (pa_cons pe_str (pa_cons pe_str (pa_cons pe_int (pa_cons pe_str pa_nil))))) ⟨rfl, rfl, rfl, rfl⟩))
      (Evl.pss_cut (ps_set (i := 9) nd rfl (.inl rfl) (pe_and (pe_cmp (pc_din hu (pv 5) (pv 2)) rfl) (pe_one (pe_or (pe_cmpR op_eq (pe_ix ix_tup (pv 8) pe_int (fun _ _ => rfl)) pe_str (nomark _)) (pe_one (pe_cmpR op_eq (pe_ix ix_tup (pe_dget2 hu (pv 4) (pe_ix ix_tup (pv 8) pe_int (fun _ _ => rfl)) (pe_tup (pa_cons pe_str (pa_cons pe_str pa_nil))) ⟨rfl, rfl, rfl, rfl⟩) pe_int (fun _ _ => rfl)) pe_str (nomark _)))))))
      (pss_one (ps_if (PW.pt (pw_and (pt_val (pv 9)) (pw_and1 (pt_cmpR op_lt (pv 7) pe_int (nomark _))))) (pss_one (ps_dput hu (pv 4) (pv 5) (pv 8) rfl)) (pss_one (ps_if (PW.pt (pw_and (pt_val (pv 9)) (pw_and1 (pt_cmpR op_eq (pv 7) pe_int (nomark _))))) (pss_one (ps_dput hu (pv 4) (pv 5) (pe_tup (pa_cons (pe_ix ix_tup (pv 8) pe_int (fun _ _ => rfl)) (pa_cons (pe_ix ix_tup (pv 8) pe_int (fun _ _ => rfl)) (pa_cons (pe_op op_add (pe_op op_fdiv (pe_ix ix_tup (pv 8) pe_int (fun _ _ => rfl)) pe_int) pe_int) (pa_cons (pe_ix ix_tup (pv 8) pe_int (fun _ _ => rfl)) pa_nil))))) rfl)) (pss_one (ps_if (PW.pt (pw_and (pt_val (pv 9)) (pw_and1 (pt_cmpR op_eq (pv 7) pe_int (nomark _))))) (pss_cons (ps_set (i := 10) nd rfl (.inl rfl) (pe_call GC (hr.mono (by decide)) (by rfl) gC kC bC .nil pass0 (pa_cons (pe_ix ix_tup (pv 8) pe_int (fun _ _ => rfl)) (pa_cons (pv 5) (pa_cons (pe_call GD (hr.mono (by decide)) (by rfl) gD kD bD .nil pass0 (pa_cons (pv 0) (pa_cons (pe_op op_add (pe_op op_mul pe_int (pv 6)) pe_int) pa_nil))) pa_nil)))))
      (pss_one (ps_dput hu (pv 4) (pv 5) (pe_tup (pa_cons (pe_ix ix_tup (pv 8) pe_int (fun _ _ => rfl)) (pa_cons (pe_ix ix_tup (pv 8) pe_int (fun _ _ => rfl)) (pa_cons (pe_ix ix_tup (pv 8) pe_int (fun _ _ => rfl)) (pa_cons (pv 10) pa_nil))))) rfl))) (pss_one (ps_if (pt_cmpR op_lt (pv 7) pe_int (nomark _)) (pss_one (ps_dput hu (pv 4) (pv 5) (pe_call GR hr (by rfl) gR kR bR .nil pass0 (pa_cons (pv 4) (pa_cons (pv 5) (pa_cons (pv 0) (pa_cons (pv 6) (pa_cons (pv 3) pa_nil)))))) rfl)) pss_nil)))))))))))))
      (pss_one (ps_ret (pv 4)))), ?_⟩
  intro d ndd
  have s1 : Same H (upd H d (.dK [])) := same_new ndd
  have ed1 : (upd H d (.dK [])) d = some (.dK []) := upd_same
  obtain ⟨H1, e1⟩ : ∃ x, x = upd H d (.dK []) := ⟨_, rfl⟩
  rw [← e1] at s1 ed1
  refine ⟨_, rfl, _, rfl, c, nl, ns, rfl, (by rw [← e1]; exact s1.seq hns), hno.2.1, fun o os H2 s2 no2 pm eo2 => ?_⟩
  rw [← e1] at s2 no2
  have s02 := s1.trans s2
  have no0 : H o = none := none_of_same s1 no2
  refine ⟨_, rfl, ⟨_, sqL_of eo2⟩, ?_⟩
  have ond : os.Nodup := pm.nodup_iff.mpr hno.1
  refine for_list (K := K) (a := o) (xs := os.map V.str) (fun i σ H3 => ∃ y5 y6 y7 y8 y9 y10 bk lvl, σ = [some (.int c), some (.ref nl), some (.ref e), some (.ref kl), some (.ref d), y5, y6, y7, y8, y9, y10] ∧ Same H H3 ∧ H3 o = some (.lst (os.map V.str)) ∧ DKm K H3 d bk ∧ Forest bk lvl ∧ (∀ p ∈ bk, p.1 ∈ os.take i) ∧ bk.length ≤ i)
    ⟨none, none, none, none, none, none, [], _, rfl, s02, eo2, ⟨[], s2 _ _ ed1, .nil⟩, Forest.nil, fun _ h => (nomatch h), Nat.le_refl _⟩ (fun i σ H3 _ h => ?_) (fun i x σ H3 hx h => ?_) (fun σ H3 h => ?_)
  · obtain ⟨_, _, _, _, _, _, _, _, _, _, eo, _⟩ := h
    exact sqL_of eo
  · obtain ⟨y5, y6, y7, y8, y9, y10, bk, lvl, rfl, s3, eo3, hd3, bF, bt, bl⟩ := h
    rw [List.getElem?_map] at hx
    obtain ⟨n, hn, rfl⟩ : ∃ n, os[i]? = some n ∧ V.str n = x := by
      cases z : os[i]? with
      | none => rw [z] at hx; cases hx
      | some n => rw [z] at hx; exact ⟨n, rfl, Option.some.inj hx⟩
    have hin : n ∈ ns := pm.mem_iff.mp (List.mem_of_getElem? hn)
    obtain ⟨j, hj⟩ := List.getElem?_of_mem hin
    have hj8 : j < 8 := Nat.lt_of_lt_of_le (List.getElem?_eq_some_iff.mp hj).1 hno.2.1
    have hi8 : i < 8 := by
      have z := (List.getElem?_eq_some_iff.mp hn).1
      rw [pm.length_eq] at z
      exact Nat.lt_of_lt_of_le z hno.2.1
    obtain ⟨nne, nok, nl12⟩ := hno.2.2 n hin
    have nnew : n ∉ bk.map (·.1) := fun h => by
      obtain ⟨p, hp, e⟩ := List.mem_map.mp h
      have z := bt p hp
      rw [e] at z
      obtain ⟨m, hm⟩ := List.getElem?_of_mem z
      have mi : m < i := by
        have z := (List.getElem?_eq_some_iff.mp hm).1
        rw [List.length_take] at z
        omega
      rw [List.getElem?_take, if_pos mi] at hm
      have := nd_ix ond hm hn
      omega
    have hns3 := s3.seq hns
    have take1 : os.take (i + 1) = os.take i ++ [n] := by rw [List.take_add_one, hn]; rfl
    -- how a turn ends
    have fin : ∀ (v : V) (r : Rec) (H' : Hp), Same H H' → H' o = some (.lst (os.map V.str)) → DKm K H' d bk → RecV K H' v r → okR r = true → ParOk bk r →
        ∃ kvs, H' d = some (.dK kvs) ∧ kvs.length < sizeLine ∧ (∀ y5 y6 y7 y8 y9 y10, ∃ z5 z6 z7 z8 z9 z10 bk' lvl', [some (V.int c), some (.ref nl), some (.ref e), some (.ref kl), some (.ref d), y5, y6, y7, y8, y9, y10] = [some (V.int c), some (.ref nl), some (.ref e), some (.ref kl), some (.ref d), z5, z6, z7, z8, z9, z10] ∧
          Same H (upd H' d (.dK (putK kvs (Sum.inr n) v))) ∧ (upd H' d (.dK (putK kvs (Sum.inr n) v))) o = some (.lst (os.map V.str)) ∧ DKm K (upd H' d (.dK (putK kvs (Sum.inr n) v))) d bk' ∧ Forest bk' lvl' ∧ (∀ p ∈ bk', p.1 ∈ os.take (i + 1)) ∧ bk'.length ≤ i + 1) := by
      intro v r H' s' o' d' hv hr hp
      obtain ⟨kvs, ek, lk, dk⟩ := dkm_put d' hv nnew (by omega)
      refine ⟨kvs, ek, lk, fun y5 y6 y7 y8 y9 y10 => ⟨y5, y6, y7, y8, y9, y10, bk ++ [(n, r)], _, rfl, Same.put s' ndd, ?_, dk, bF.snoc nnew nne nok hr hp, fun p hp => ?_, ?_⟩⟩
      · have ne : o ≠ d := fun z => by
          rw [z, ek] at o'
          cases o'
        rw [upd_ne ne]
        exact o'
      · rw [take1]
        rcases List.mem_append.mp hp with h | h
        · exact List.mem_append_left _ (bt p h)
        · rw [List.mem_singleton.mp h]
          exact List.mem_append_right _ (List.mem_singleton.mpr rfl)
      · rw [List.length_append]
        show _ + 1 ≤ _
        omega
    have nofin : ∀ y5 y6 y7 y8 y9 y10 H', Same H H' → H' o = some (.lst (os.map V.str)) → DKm K H' d bk → ∃ z5 z6 z7 z8 z9 z10 bk' lvl', [some (V.int c), some (.ref nl), some (.ref e), some (.ref kl), some (.ref d), y5, y6, y7, y8, y9, y10] = [some (V.int c), some (.ref nl), some (.ref e), some (.ref kl), some (.ref d), z5, z6, z7, z8, z9, z10] ∧
          Same H H' ∧ H' o = some (.lst (os.map V.str)) ∧ DKm K H' d bk' ∧ Forest bk' lvl' ∧ (∀ p ∈ bk', p.1 ∈ os.take (i + 1)) ∧ bk'.length ≤ i + 1 := fun y5 y6 y7 y8 y9 y10 H' s' o' d' =>
      ⟨y5, y6, y7, y8, y9, y10, bk, lvl, rfl, s', o', d', bF, fun p hp => by rw [take1]; exact List.mem_append_left _ (bt p hp), Nat.le_succ_of_le bl⟩
    refine ⟨_, rfl, .inl ⟨rfl, _, hns3⟩, _, rfl, nl, ns.map V.str, .str n, j, .str n, rfl, rfl, hns3, rfl, List.all_eq_true.mpr (fun x hx => by obtain ⟨y, _, rfl⟩ := List.mem_map.mp hx; rfl), (by rw [List.getElem?_map, hj]; rfl), (by show (n == n) = true; exact beq_self_eq_true n), (fun m z' hm hz => by
      rw [List.getElem?_map] at hz
      cases ez : ns[m]? with
      | none => rw [ez] at hz; cases hz
      | some x =>
        rw [ez] at hz
        have e2 : z' = V.str x := (Option.some.inj hz).symm
        rw [e2]
        show (x == n) = false
        refine beq_eq_false_iff_ne.mpr fun e3 => ?_
        rw [e3] at ez
        have := nd_ix hno.1 ez hj
        omega), ?_⟩
    refine ⟨_, rfl, _, rfl, _, _, rfl, rfl, .inl ⟨by decide, by decide⟩, _, _, rfl, rfl, c, 4 * (j : Int) + 3, rfl, by omega, by omega, fun wy H4 s4 => ⟨_, _, rfl, rfl, (by show (0 : Int) < 8; decide), ?_⟩⟩
    obtain ⟨way, ew⟩ : ∃ x, x = wy % 8 := ⟨_, rfl⟩
    have s34 := s3.trans s4
    have he4 : DKr K H4 e eb := (he.same s34).r
    refine ⟨_, rfl, e, rfl, he4.isD, _, rfl, (by show 4 ≤ sizeLine; decide), fun t nt => ?_⟩
    have s5 := same_new (o := .tup [V.str "", .str "none", .int 0, .str ""]) nt
    obtain ⟨H5, e5⟩ : ∃ x, x = upd H4 t (.tup [V.str "", .str "none", .int 0, .str ""]) := ⟨_, rfl⟩
    rw [← e5] at s5
    have s35 := s34.trans s5
    obtain ⟨ov, gv, lv⟩ := (he.same s35).r.get n
    refine ⟨ov, (by rw [← e5]; exact gv), ?_⟩
    have hd5 := hd3.same (s4.trans s5)
    have eo5 := (s4.trans s5) _ _ eo3
    refine ⟨fun σ H' => ∃ hb : Bool, σ = [some (.int c), some (.ref nl), some (.ref e), some (.ref kl), some (.ref d), some (.str n), some (.int (j : Int)), some (.int way), some (ov.getD (.ref t)), some (.bl hb), y10] ∧ Same H H' ∧ H' o = some (.lst (os.map V.str)) ∧ DKm K H' d bk ∧
      (hb = true → ∃ r, RecV K H' (ov.getD (.ref t)) r ∧ okR r = true ∧ ParOk bk r), ?_, fun σ H6 h => ?_⟩
    · subst e5
      subst ew
      refine ⟨_, rfl, _, rfl, e, ov, rfl, gv, _, rfl, ?_⟩
      cases ov with
      | none => exact iteF ⟨false, rfl, s35, eo5, hd5, fun h => (nomatch h)⟩
      | some v =>
        cases hr : look eb n with
        | none =>
          rw [hr] at lv
          exact (show False from lv).elim
        | some r =>
          rw [hr] at lv
          have hv : RecV K _ v r := lv
          have hok : okR r = true := (eF.ok _ (look_mem hr)).2
          obtain ⟨tt, cc, rfl, hT, hC⟩ := id hv
          refine ⟨_, rfl, tt, _, _, _, rfl, rfl, hT, atI_nat (j := 1) rfl, rfl, _, rfl, ite2 (fun z => ?_) (fun z => ?_)⟩
          · exact ⟨true, rfl, s35, eo5, hd5, fun _ => ⟨r, hv, hok, .inl (V.str.inj (of_decide_eq_true z))⟩⟩
          · refine ⟨_, rfl, d, rfl, hd5.r.isD, _, rfl, tt, _, _, _, rfl, rfl, hT, atI_nat (j := 1) rfl, (by show 2 ≤ sizeLine; decide), fun t2 nt2 => ?_⟩
            have s6 := same_new (o := .tup [V.str "", V.str ""]) nt2
            obtain ⟨o2, g2, l2⟩ := (hd5.same s6).r.get r.par
            refine ⟨o2, g2, ?_⟩
            have hend : ∀ b : Bool, (b = true → ParOk bk r) → ∃ hb : Bool, [some (V.int c), some (.ref nl), some (.ref e), some (.ref kl), some (.ref d), some (.str n), some (.int (j : Int)), some (.int (wy % 8)), some ((some (V.ref tt)).getD (.ref t)), some (.bl b), y10] = [some (V.int c), some (.ref nl), some (.ref e), some (.ref kl), some (.ref d), some (.str n), some (.int (j : Int)), some (.int (wy % 8)), some ((some (V.ref tt)).getD (.ref t)), some (.bl hb), y10] ∧ Same H (upd (upd H4 t (.tup [V.str "", .str "none", .int 0, .str ""])) t2 (.tup [V.str "", V.str ""])) ∧ (upd (upd H4 t (.tup [V.str "", .str "none", .int 0, .str ""])) t2 (.tup [V.str "", V.str ""])) o = some (.lst (os.map V.str)) ∧ DKm K (upd (upd H4 t (.tup [V.str "", .str "none", .int 0, .str ""])) t2 (.tup [V.str "", V.str ""])) d bk ∧
                (hb = true → ∃ r, RecV K (upd (upd H4 t (.tup [V.str "", .str "none", .int 0, .str ""])) t2 (.tup [V.str "", V.str ""])) ((some (V.ref tt)).getD (.ref t)) r ∧ okR r = true ∧ ParOk bk r) := fun b hb => ⟨b, rfl, s35.trans s6, s6 _ _ eo5, hd5.same s6, fun h => ⟨r, recV_st (TSt.same s6) hv, hok, hb h⟩⟩
            cases o2 with
            | none => exact ⟨t2, _, _, _, rfl, rfl, sqT_of upd_same, atI_nat (j := 0) rfl, rfl, hend false fun h => (nomatch h)⟩
            | some v2 =>
              cases hr2 : look bk r.par with
              | none =>
                rw [hr2] at l2
                exact (show False from l2).elim
              | some r2 =>
                rw [hr2] at l2
                obtain ⟨t3, c3, rfl, hT3, _⟩ := (show RecV K _ v2 r2 from l2)
                exact ⟨t3, _, _, _, rfl, rfl, hT3, atI_nat (j := 0) rfl, rfl, hend _ fun h => .inr ⟨_, look_mem hr2, rfl, V.str.inj (of_decide_eq_true h)⟩⟩
    · obtain ⟨hb, rfl, s6, eo6, hd6, hr6⟩ := h
      cases hb with
      | false =>
        refine ⟨_, rfl, _, rfl, iteF (iteF ⟨_, rfl, _, rfl, iteF (iteF ⟨_, rfl, _, rfl, iteF (iteF ?_)⟩)⟩)⟩
        refine ⟨_, rfl, _, _, rfl, rfl, _, rfl, ite2 (fun z => ?_) (fun z => nofin _ _ _ _ _ _ H6 s6 eo6 hd6)⟩
        refine ⟨_, rfl, _, rfl, _, rfl, _, rfl, _, rfl, d, kl, bk, n, c, (j : Int), kinds, rfl, hd6, bF.nd, by omega, fun p hp => (bF.ok p hp).1, s6.seq hk, hk4, hko, by omega, by omega, by omega, fun v r H7 s7 hv hr hp => ?_⟩
        obtain ⟨kvs, ek, lk, pk⟩ := fin v r H7 (s6.trans s7) (s7 _ _ eo6) (hd6.same s7) hv hr hp
        exact ⟨_, rfl, _, rfl, d, _, rfl, DPut.k (k := Sum.inr n) ek lk, pk _ _ _ _ _ _⟩
      | true =>
        obtain ⟨r, hv, hok, hp⟩ := hr6 rfl
        obtain ⟨tt, cc, ett, hT, hC⟩ := id hv
        rw [ett] at hv ⊢
        have okd : PyData.strOk r.kind = true ∧ PyData.strOk r.par = true ∧ okC r.con = true := by
          unfold okR at hok
          rw [Bool.and_eq_true, Bool.and_eq_true] at hok
          exact hok
        have ok3 : ∀ (rk : Int) (cn : Con), okC cn = true → okR ⟨r.kind, r.par, rk, cn⟩ = true := fun rk cn h => by
          unfold okR
          show (PyData.strOk r.kind && (PyData.strOk r.par && okC cn)) = true
          rw [okd.1, okd.2.1, h]
          rfl
        refine ⟨_, rfl, _, rfl, ⟨_, rfl, _, _, rfl, rfl, _, rfl, ite2 (fun z => ?_) (fun z => ?_)⟩⟩
        · obtain ⟨kvs, ek, lk, pk⟩ := fin _ r H6 s6 eo6 hd6 hv hok hp
          exact ⟨_, rfl, _, rfl, _, rfl, d, _, rfl, DPut.k (k := Sum.inr n) ek lk, pk _ _ _ _ _ _⟩
        refine ⟨_, rfl, _, rfl, ⟨_, rfl, rfl, _, rfl, ite2 (fun z => ?_) (fun z => ?_)⟩⟩
        · refine ⟨_, rfl, tt, _, _, _, rfl, rfl, hT, atI_nat (j := 0) rfl, _, rfl, tt, _, _, _, rfl, rfl, hT, atI_nat (j := 1) rfl, _, rfl, tt, _, _, _, rfl, rfl, hT, atI_nat (j := 2) rfl, _, _, rfl, rfl, ⟨by decide, by decide⟩, _, _, rfl, rfl, _, rfl, tt, _, _, _, rfl, rfl, hT, atI_nat (j := 3) rfl, (by show 4 ≤ sizeLine; decide), fun t7 n7 => ?_⟩
          have s7 := same_new (o := .tup [V.str r.kind, V.str r.par, V.int (r.rank / 2 + 1), cc]) n7
          obtain ⟨kvs, ek, lk, pk⟩ := fin (.ref t7) ⟨r.kind, r.par, r.rank / 2 + 1, r.con⟩ _ (s6.trans s7) (s7 _ _ eo6) (hd6.same s7) ⟨t7, cc, rfl, sqT_of upd_same, con_st (TSt.same s7) hC⟩ (ok3 _ _ okd.2.2) hp
          exact ⟨_, rfl, _, rfl, d, _, rfl, DPut.k (k := Sum.inr n) ek lk, pk _ _ _ _ _ _⟩
        refine ⟨_, rfl, _, rfl, ⟨_, rfl, rfl, _, rfl, ite2 (fun z => ?_) (fun z => ?_)⟩⟩
        · refine ⟨_, rfl, tt, _, _, _, rfl, rfl, hT, atI_nat (j := 0) rfl, _, rfl, _, rfl, _, rfl, _, _, rfl, rfl, .inl ⟨by decide, by decide⟩, _, _, rfl, rfl, c, 4 * (j : Int) + 2, rfl, by omega, by omega, fun n2 H7 s7 => ?_⟩
          refine ⟨r.kind, n, n2, rfl, by omega, fun v cn H8 s8 hdp hcn => ?_⟩
          have s78 := s7.trans s8
          have hT7 := sqT_st (TSt.same s78) hT
          refine ⟨_, rfl, tt, _, _, _, rfl, rfl, hT7, atI_nat (j := 0) rfl, _, rfl, tt, _, _, _, rfl, rfl, hT7, atI_nat (j := 1) rfl, _, rfl, tt, _, _, _, rfl, rfl, hT7, atI_nat (j := 2) rfl, _, rfl, (by show 4 ≤ sizeLine; decide), fun t9 n9 => ?_⟩
          have s9 := same_new (o := .tup [V.str r.kind, V.str r.par, V.int r.rank, v]) n9
          have s79 := s78.trans s9
          obtain ⟨kvs, ek, lk, pk⟩ := fin (.ref t9) ⟨r.kind, r.par, r.rank, cn⟩ _ (s6.trans s79) (s79 _ _ eo6) (hd6.same s79) ⟨t9, v, rfl, sqT_of upd_same, con_st (TSt.same s9) hdp⟩ (ok3 _ _ hcn) hp
          exact ⟨_, rfl, _, rfl, d, _, rfl, DPut.k (k := Sum.inr n) ek lk, pk _ _ _ _ _ _⟩
        refine ⟨_, rfl, _, _, rfl, rfl, _, rfl, ite2 (fun z => ?_) (fun z => nofin _ _ _ _ _ _ H6 s6 eo6 hd6)⟩
        refine ⟨_, rfl, _, rfl, _, rfl, _, rfl, _, rfl, d, kl, bk, n, c, (j : Int), kinds, rfl, hd6, bF.nd, by omega, fun p hp => (bF.ok p hp).1, s6.seq hk, hk4, hko, by omega, by omega, by omega, fun v r H7 s7 hv hr hp => ?_⟩
        obtain ⟨kvs, ek, lk, pk⟩ := fin v r H7 (s6.trans s7) (s7 _ _ eo6) (hd6.same s7) hv hr hp
        exact ⟨_, rfl, _, rfl, d, _, rfl, DPut.k (k := Sum.inr n) ek lk, pk _ _ _ _ _ _⟩
  · obtain ⟨_, _, _, _, _, _, bk, lvl, rfl, s3, eo3, hd3, bF, bt, bl⟩ := h
    refine ⟨_, rfl, q d bk lvl H3 s3 ndd hd3 bF (Nat.le_trans bl ?_)⟩
    rw [List.length_map, pm.length_eq]
    exact hno.2.1
end
end Lf

/-! the way to a part -/
namespace Lf
open PySem PySem.Spec PyProof.Rows L2
def StepV (K : PySem.W.Frag) (H : Hp) (v : V) (s : Int × Str × Str) : Prop := ∃ t, v = .ref t ∧ SqT K H t [.int s.1, .str s.2.1, .str s.2.2]
theorem stepV_st {K : PySem.W.Frag} {H H' : Hp} {v : V} {s : Int × Str × Str} (t : TSt H H') (h : StepV K H v s) : StepV K H' v s := by
  obtain ⟨a, e, q⟩ := h
  exact ⟨a, e, sqT_st t q⟩
theorem stepsV_dp {K : PySem.W.Frag} {H : Hp} {xs : List V} {p : List (Int × Str × Str)} (h : Paired (StepV K H) xs p) : DpAll K H xs (p.map stepD) := by
  induction h with
  | nil => exact .nil
  | cons e _ ih =>
    obtain ⟨a, rfl, q⟩ := e
    exact .cons (.tup q (.cons (.int _) (.cons (.str _) (.cons (.str _) .nil)))) ih
def PathV (K : PySem.W.Frag) (H : Hp) (v : V) (p : List (Int × Str × Str)) : Prop := ∃ t xs, v = .ref t ∧ SqT K H t xs ∧ Paired (StepV K H) xs p
theorem pathV_st {K : PySem.W.Frag} {H H' : Hp} {v : V} {p : List (Int × Str × Str)} (t : TSt H H') (h : PathV K H v p) : PathV K H' v p := by
  obtain ⟨a, xs, e, q, r⟩ := h
  exact ⟨a, xs, e, sqT_st t q, Paired.mapP r fun _ _ h => stepV_st t h⟩
theorem pathV_dp {K : PySem.W.Frag} {H : Hp} {v : V} {p : List (Int × Str × Str)} (h : PathV K H v p) : Dp K H v (pathD p) := by
  obtain ⟨a, xs, rfl, q, r⟩ := h
  exact .tup q (stepsV_dp r)
def spPath (K : PySem.W.Frag) : Sp := fun vs H Q _ => ∃ (d : Addr) (n : Str) (bk : Bk) (lvl : Str → Nat), vs = [.ref d, .str n] ∧ DKr K H d bk ∧ Forest bk lvl ∧ bk.length ≤ 60 ∧ n ∈ bk.map (·.1) ∧
  ∀ (v : V) (H' : Hp), Same H H' → PathV K H' v (pa bk n) → Q v H'
def lvOf (lvl : Str → Nat) (σ : L2.St) : Nat := match σ[1]? with
  | some (some (V.str c)) => if c = Str.empty then 0 else lvl c + 1
  | _ => 0
theorem pathOf_len : ∀ (f : Nat) (bk : Bk) (n : Str), (pathOf f bk n).length ≤ f
  | 0, _, _ => Nat.le_refl _
  | f + 1, bk, n => by
    rw [pathOf]
    split
    · exact Nat.zero_le _
    · split
      · exact Nat.zero_le _
      · rename_i r _
        have ih := pathOf_len f bk r.par
        rw [List.length_append]
        show _ + 1 ≤ _
        omega
section
variable {P : Program} {w : World} {K : PySem.W.Frag} {mg : Str → Option Value} {base : Heap} {f : Addr} {fd : FuncData}
theorem scPath : FnScope ["_law_records", "_law_name", "_law_path_here", "_law_kind", "_law_parent", "_law_rank", "_law_content_here"] ["_law_records", "_law_name"] (defScope sPath) := ⟨rfl, rfl, rfl, by decide +kernel, rfl, by decide +kernel, by decide +kernel⟩
theorem ok_path (F : FnP K "_law_path" "_law_path" sPath f fd) (mT : mg "tuple" = none) : FnOk P w K mg base CX0 1 f fd ["_law_records", "_law_name"] (spPath K) := by
  refine fnp_ok F scPath (fun vs H Q E h => ?_) (fun cdv A outer s H vs Q E hr h => ?_)
  · obtain ⟨d, n, bk, lvl, rfl, _⟩ := h
    rfl
  obtain ⟨d, n, bk, lvl, rfl, hd, bF, hbl, hn, q⟩ := h
  have hu := hu_of hr
  have nd := scPath.nd
  refine ⟨_, pss_cons (ps_set (i := 2) nd rfl (.inl rfl) (pe_lst pa_nil))
      (pss_cons (ps_while PassesOwn.never (pt_cmpR op_ne (pv 1) pe_str (nomark _)) (pss_cons (ps_asg (pe_dget hu (pv 0) (pv 1) (fun _ _ => rfl)) (pg_tup rfl (pgs_cons (pg_name (i := 3) nd rfl (.inl rfl)) (pgs_cons (pg_name (i := 4) nd rfl (.inl rfl)) (pgs_cons (pg_name (i := 5) nd rfl (.inl rfl)) (pgs_cons (pg_name (i := 6) nd rfl (.inl rfl)) pgs_nil))))))
      (pss_cons (ps_expr (pe_bm PySem.F.plainAttrs_list PySem.F.slot_list_insert PySem.F.type_list_insert mt_insert (pv 2) (pa_cons pe_int (pa_cons (pe_tup (pa_cons (pv 5) (pa_cons (pv 1) (pa_cons (pv 3) pa_nil)))) pa_nil))))
      (pss_one (ps_set (i := 1) nd rfl (.inl rfl) (pv 4))))))
      (pss_one (ps_ret (pe_callTy call_tuple_of (by rfl) mT (by decide +kernel) (pa_cons (pv 2) pa_nil))))), ?_⟩
  refine ⟨Nat.zero_le _, fun l nl => ?_⟩
  have s1 : Same H (upd H l (.lst [])) := same_new nl
  have el1 : (upd H l (.lst [])) l = some (.lst []) := upd_same
  generalize upd H l (.lst []) = H1 at s1 el1
  refine while_by (fun σ H1 => ∃ cur xs sfx y3 y4 y5 y6, σ = [some (.ref d), some (.str cur), some (.ref l), y3, y4, y5, y6] ∧ Same H H1 ∧ H1 l = some (.lst xs) ∧ Paired (StepV K H1) xs sfx ∧ pa bk n = pa bk cur ++ sfx ∧ (cur = Str.empty ∨ cur ∈ bk.map (·.1)))
    (fun σ _ => lvOf lvl σ) ⟨n, [], [], none, none, none, none, rfl, s1, el1, .nil, (List.append_nil _).symm, .inr hn⟩ (fun σ H2 h => ?_) (fun σ H Q Q' i h => ?_)
  · obtain ⟨cur, xs, sfx, y3, y4, y5, y6, rfl, s2, el2, pr, ep, hc⟩ := h
    refine ⟨_, rfl, rfl, _, rfl, ite2 (fun z => ?_) (fun z => ?_)⟩
    · have hin : cur ∈ bk.map (·.1) := by
        rcases hc with e | e
        · rw [e] at z
          exact absurd z (by decide +kernel)
        · exact e
      obtain ⟨b, hb, rfl⟩ := List.mem_map.mp hin
      have hl : look bk b.1 = some b.2 := look_of_mem bF.nd hb
      obtain ⟨v, g, t, c, rfl, hT, _⟩ := (hd.same s2).at_ hl
      refine ⟨_, rfl, _, rfl, d, _, rfl, g, t, _, rfl, hT, rfl, _, _, rfl, _, _, rfl, _, _, rfl, _, _, rfl, rfl, ?_⟩
      have hlen : xs.length ≤ 60 := by
        rw [Paired.length pr]
        have z1 := congrArg List.length ep
        rw [List.length_append] at z1
        have z2 := pathOf_len bk.length bk n
        have z3 : (pa bk n).length ≤ bk.length := z2
        omega
      refine ⟨_, rfl, .inl ⟨rfl, _, sqL_of el2⟩, _, rfl, _, rfl, _, rfl, (by show 3 ≤ sizeLine; decide), fun t2 nt2 => ?_⟩
      have s3 := same_new (o := .tup [V.int b.2.rank, V.str b.1, V.str b.2.kind]) nt2
      have f3 := upd_same (H := H2) (a := t2) (o := HO.tup [V.int b.2.rank, V.str b.1, V.str b.2.kind])
      refine ⟨l, xs, 0, .ref t2, rfl, rfl, s3 _ _ el2, small1000 (by omega), by decide, by decide, ?_⟩
      have t4 : TSt (upd H2 t2 (.tup [V.int b.2.rank, V.str b.1, V.str b.2.kind])) (upd (upd H2 t2 (.tup [V.int b.2.rank, V.str b.1, V.str b.2.kind])) l (.lst (.ref t2 :: xs))) := TSt.put (s3 _ _ el2) rfl
      refine ⟨_, rfl, ⟨b.2.par, .ref t2 :: xs, stepOf b :: sfx, _, _, _, _, rfl, Same.put (s2.trans s3) (none_of_same (Same.refl _) nl), upd_same, ?_, ?_, ?_⟩, ?_⟩
      · exact .cons ⟨t2, rfl, sqT_st t4 (sqT_of f3)⟩ (Paired.mapP pr fun _ _ h => stepV_st ((TSt.same s3).trans t4) h)
      · rw [ep, pa_step bF hb, List.append_assoc]
        rfl
      · rcases bF.up b hb with h | ⟨p, hp, e, _⟩
        · exact .inl h
        · exact .inr (List.mem_map.mpr ⟨p, hp, e⟩)
      · show (if b.2.par = Str.empty then 0 else lvl b.2.par + 1) < (if b.1 = Str.empty then 0 else lvl b.1 + 1)
        rw [if_neg (bF.ne b hb)]
        rcases bF.up b hb with h | ⟨p, hp, e, _, hlt⟩
        · rw [if_pos h]
          omega
        · split
          · omega
          · rw [← e]
            omega
    · have ec : cur = Str.empty := by
        cases Decidable.em (cur = Str.empty) with
        | inl h => exact h
        | inr h => exact absurd (by rw [decide_eq_false (show ¬ (V.str cur = V.str "") from fun e => h (V.str.inj e))]; rfl) z
      rw [ec, pa_top, List.nil_append] at ep
      refine ⟨_, rfl, l, _, rfl, .inl ⟨sqL_of el2, fun t nt => ?_⟩⟩
      have s3 := same_new (o := .tup xs) nt
      refine q (.ref t) _ (s2.trans s3) ⟨t, xs, rfl, sqT_of upd_same, ?_⟩
      rw [ep]
      exact Paired.mapP pr fun _ _ h => stepV_st (TSt.same s3) h
  · obtain ⟨x, e, y, k, e2, q2⟩ := h
    exact ⟨x, e, y, k, e2, i _ _ q2⟩
end
end Lf

/-! the lines of the records -/
namespace Lf
open PySem PySem.Spec PyProof.Rows L2
abbrev rLen (K : PySem.W.Frag) : List V → Hp → VK → Prop := fun xs H Q => ∃ p ys, xs = [.ref p] ∧ (SqL K H p ys ∨ SqT K H p ys) ∧ Q (.int ys.length) H
def lawLines (bk : Bk) : List (Nat × Str × Rec) := (bk.mergeSort (PySem.W.dataLe false (encP bk))).map fun p => ((pa bk p.1).length, p)
def spLLines (K : PySem.W.Frag) : Sp := fun vs H Q _ => ∃ (d : Addr) (bk : Bk) (lvl : Str → Nat), vs = [.ref d] ∧ DKm K H d bk ∧ Forest bk lvl ∧ bk.length ≤ 60 ∧
  ∀ (l : Addr) (xs : List V) (H' : Hp), Same H H' → H l = none → H' l = some (.lst xs) → Paired (LineV K H') xs (lawLines bk) → Q (.ref l) H'
theorem unlock {H H1 : Hp} {d : Addr} {u : HO} {od : Obj} (e : H d = some u) (n : noTup u = true) (s : Same (upd H d (.frz od u)) H1) : Same H (upd H1 d u) ∧ TSt H1 (upd H1 d u) := by
  refine ⟨same_lock e s, fun a xs h => ?_⟩
  have eL : (upd H d (.frz od u)) d = some (.frz od u) := upd_same
  have ne : a ≠ d := fun z => by
    rw [z] at h
    rcases h with h | ⟨o, h⟩
    · rw [s _ _ eL] at h
      cases h
    · rw [s _ _ eL] at h
      have h2 := Option.some.inj h
      injection h2 with _ h3
      rw [h3] at n
      cases n
  rcases h with h | ⟨o, h⟩
  · exact .inl (by rw [upd_ne ne]; exact h)
  · exact .inr ⟨o, by rw [upd_ne ne]; exact h⟩
def PairV (K : PySem.W.Frag) (H : Hp) (bk : Bk) (v : V) (b : Str × Rec) : Prop := ∃ t x, v = .ref t ∧ SqT K H t [x, .str b.1] ∧ PathV K H x (pa bk b.1)
theorem pairV_st {K : PySem.W.Frag} {H H' : Hp} {bk : Bk} {v : V} {b : Str × Rec} (t : TSt H H') (h : PairV K H bk v b) : PairV K H' bk v b := by
  obtain ⟨a, x, e, q, r⟩ := h
  exact ⟨a, x, e, sqT_st t q, pathV_st t r⟩
theorem pairV_dp {K : PySem.W.Frag} {H : Hp} {bk : Bk} {v : V} {b : Str × Rec} (h : PairV K H bk v b) : Dp K H v (encP bk b) := by
  obtain ⟨a, x, rfl, q, r⟩ := h
  exact .tup q (.cons (pathV_dp r) (.cons (.str _) .nil))
theorem dp_len {K : PySem.W.Frag} {H : Hp} : ∀ {xs : List V} {ds : List PyData}, DpAll K H xs ds → xs.length = ds.length
  | _, _, .nil => rfl
  | _, _, .cons _ h => congrArg (· + 1) (dp_len h)
theorem dp_pair {K : PySem.W.Frag} {H : Hp} {bk : Bk} {v : V} {b : Str × Rec} (h : Dp K H v (encP bk b)) : ∃ t t1 zs, v = .ref t ∧ SqT K H t [.ref t1, .str b.1] ∧ SqT K H t1 zs ∧ zs.length = (pa bk b.1).length := by
  unfold encP at h
  cases h with
  | tup h1 h2 =>
    cases h2 with
    | cons a r =>
      cases r with
      | cons a2 r2 =>
        cases r2
        cases a2
        unfold pathD at a
        cases a with
        | tup q1 q2 => exact ⟨_, _, _, rfl, h1, q1, by rw [dp_len q2, List.length_map]⟩
theorem depth_steps : ∀ p : List (Int × Str × Str), PyData.depthAll (p.map stepD) ≤ 5
  | [] => by simp [PyData.depthAll]
  | s :: p => by
    have ih := depth_steps p
    simp only [List.map_cons, stepD, PyData.depthAll, PyData.depth] at ih ⊢
    omega
theorem depth_encP (bk : Bk) (b : Str × Rec) : (encP bk b).depth ≤ 20 := by
  have z := depth_steps (pa bk b.1)
  simp only [encP, pathD, PyData.depthAll, PyData.depth]
  omega
section
variable {P : Program} {w : World} {K : PySem.W.Frag} {mg : Str → Option Value} {base : Heap} {f : Addr} {fd : FuncData}
theorem scLLines : FnScope ["_law_records", "_law_some", "_law_name", "_law_path_here"] ["_law_records"] (defScope sLLines) := ⟨rfl, rfl, rfl, by decide +kernel, rfl, by decide +kernel, by decide +kernel⟩
theorem ok_llines {fP : Addr} {fdP : FuncData} (F : FnP K "_law_lines" "_law_lines" sLLines f fd) (mL : mg "len" = none) (mS : mg "sorted" = none)
    (GP : FnOk P w K mg base CX0 1 fP fdP ["_law_records", "_law_name"] (spPath K)) (gP : mg "_law_path" = some (.ref fP)) (kP : PySem.W.keepIn K (.ref fP) = true) (bP : Binds K fdP ["_law_records", "_law_name"] []) :
    FnOk P w K mg base CX0 2 f fd ["_law_records"] (spLLines K) := by
  refine fnp_ok F scLLines (fun vs H Q E h => ?_) (fun cdv A outer s H vs Q E hr h => ?_)
  · obtain ⟨d, bk, lvl, rfl, _⟩ := h
    rfl
  obtain ⟨d, bk, lvl, rfl, ⟨kvs, hd, hb⟩, bF, hbl, q⟩ := h
  have hu := hu_of hr
  have nd := scLLines.nd
  refine ⟨_, pss_cons (ps_set (i := 1) nd rfl (.inl rfl) (pe_callB (cr_sortD hr.units) (by rfl) mS (by decide +kernel) (pa_cons (pe_lock (pe_lc (own := [("_law_name", 2)]) (g := gName 2) (te := tTup (tCons (tCall (spPath K) [] E0 (tCons (tVar 0) (tCons (tVar 2) tNil))) (tCons (tVar 2) tNil))) rfl nd (pi_keys (pv 0)) (blkOk_by (N := ["_law_records", "_law_some", "_law_name", "_law_path_here"]) (sc := defScope sLLines) (by decide +kernel)) (fun _ _ _ _ _ => pg_name (i := 2) nd rfl (Or.inl rfl)) (fun _ _ _ _ _ => pts_nil) (fun _ _ _ _ _ => pe_tup (pa_cons (pe_call GP hr (by rfl) gP kP bP .nil pass0 (pa_cons (pv 0) (pa_cons (pv 2) pa_nil))) (pa_cons (pv 2) pa_nil))))) pa_nil)))
      (pss_one (ps_ret (pe_lc (own := [("_law_path_here", 3), ("_law_name", 2)]) (g := gTup K 2 (gCons (gName 3) (gCons (gName 2) gNil))) (te := tTup (tCons (tCB (rLen K) (tCons (tVar 3) tNil)) (tCons (tVar 2) (tCons (tOp (rIxT K) (tDGet (tVar 0) (tVar 2)) (tC (.int 0))) (tCons (tOp (rIxT K) (tDGet (tVar 0) (tVar 2)) (tC (.int 2))) (tCons (tOp (rIxT K) (tDGet (tVar 0) (tVar 2)) (tC (.int 3))) tNil)))))) rfl nd (pi_list (pv 1)) (blkOk_by (N := ["_law_records", "_law_some", "_law_name", "_law_path_here"]) (sc := defScope sLLines) (by decide +kernel)) (fun _ _ _ _ _ => pg_tup rfl (pgs_cons (pg_name (i := 3) nd rfl (Or.inl rfl)) (pgs_cons (pg_name (i := 2) nd rfl (Or.inl rfl)) pgs_nil))) (fun _ _ _ _ _ => pts_nil) (fun _ _ _ _ _ => pe_tup (pa_cons (pe_callB call_len_seq (by rfl) mL PySem.boot_len (pa_cons (pv 3) pa_nil)) (pa_cons (pv 2) (pa_cons (pe_ix ix_tup (pe_dget hu (pv 0) (pv 2) (fun _ _ => rfl)) pe_int (fun _ _ => rfl)) (pa_cons (pe_ix ix_tup (pe_dget hu (pv 0) (pv 2) (fun _ _ => rfl)) pe_int (fun _ _ => rfl)) (pa_cons (pe_ix ix_tup (pe_dget hu (pv 0) (pv 2) (fun _ _ => rfl)) pe_int (fun _ _ => rfl)) pa_nil))))))))), ?_⟩
  refine ⟨d, .dK kvs, hd, trivial, fun od => ?_⟩
  generalize hHL : upd H d (.frz od (.dK kvs)) = HL
  have eL : HL d = some (.frz od (.dK kvs)) := by rw [← hHL, upd_same]
  have tL : TSt H HL := by rw [← hHL]; exact tst_lock hd rfl
  refine ⟨_, rfl, d, od, rfl, .inl ⟨kvs, eL, fun D nD => ?_⟩⟩
  refine lc_it (walk_keys (d := d) (o := od) (kvs := kvs)) (fun i H1 => Same HL H1 ∧ ∃ acc : List V, H1 D = some (.lst acc) ∧ Paired (PairV K H1 bk) acc (bk.take i)) ⟨same_new nD, [], upd_same, .nil⟩ (fun i H1 _ q => q.1 _ _ eL) (fun i x H1 H1' hi q y => ?_) (fun H1 q => ?_)
  · obtain ⟨s3, acc, eD, pr⟩ := q
    obtain ⟨rfl, kk, v, hkv, rfl⟩ := y
    obtain ⟨b, hbi, he, hr1⟩ := paired_get hb hkv
    have he1 : kk = Sum.inr b.1 := he
    subst he1
    have t1 : TSt H H1' := tL.trans (TSt.same s3)
    have hD1 : DKr K H1' d bk := ⟨kvs, .inr ⟨od, s3 _ _ eL⟩, bkV_st t1 hb⟩
    refine ⟨rfl, _, rfl, _, rfl, d, b.1, bk, lvl, rfl, hD1, bF, hbl, List.mem_map.mpr ⟨b, List.mem_of_getElem? hbi, rfl⟩, fun pv1 H2 s2 hpv => ⟨_, rfl, (by show 2 ≤ sizeLine; decide), fun z nz => ?_⟩⟩
    have s4 := same_new (o := .tup [pv1, V.str b.1]) nz
    have s24 := s2.trans s4
    have e4 := s24 _ _ eD
    refine ⟨acc, e4, small1000 (by rw [Paired.length pr, List.length_take]; omega), Same.put (s3.trans s24) nD, _, upd_same, ?_⟩
    have t5 : TSt (upd H2 z (.tup [pv1, V.str b.1])) (upd (upd H2 z (.tup [pv1, V.str b.1])) D (.lst (acc ++ [.ref z]))) := TSt.put e4 rfl
    rw [List.take_add_one, hbi]
    exact paired_app (Paired.mapP pr fun _ _ h => pairV_st ((TSt.same s24).trans t5) h) (.cons ⟨z, pv1, rfl, sqT_st t5 (sqT_of upd_same), pathV_st ((TSt.same s4).trans t5) hpv⟩ .nil)
  obtain ⟨s3, acc, eD, pr⟩ := q
  rw [bkV_len hb, take_full (Nat.le_refl _)] at pr
  refine ⟨s3 _ _ eL, ?_⟩
  have nDd : D ≠ d := fun z => by rw [z, eL] at nD; cases nD
  have nD2 : H D = none := by
    rw [← hHL, upd_ne nDd] at nD
    exact nD
  rw [← hHL] at s3
  obtain ⟨sH, t3⟩ := unlock hd rfl s3
  have eD3 : (upd H1 d (.dK kvs)) D = some (.lst acc) := by rw [upd_ne nDd]; exact eD
  have pr3 : Paired (fun x b => Dp K (upd H1 d (.dK kvs)) x (encP bk b)) acc bk := Paired.mapP pr fun _ _ h => pairV_dp (pairV_st t3 h)
  generalize upd H1 d (.dK kvs) = H3 at sH eD3 pr3
  refine ⟨Str × Rec, D, acc, bk, encP bk, rfl, sqL_of eD3, pr3, PySem.W.AllAlike.of (fun a b => by simp [encP, PySem.W.alike, PySem.W.alikeAll, alike_pathD]), PySem.W.Sortable.tuples (fun b => ⟨_, _, rfl⟩), by omega, fun b _ => depth_encP bk b, fun ys p pq np => ?_⟩
  have s4 : Same H3 (upd H3 p (.lst ys)) := same_new np
  have e4 : (upd H3 p (.lst ys)) p = some (.lst ys) := upd_same
  generalize upd H3 p (.lst ys) = H4 at s4 e4
  have s04 := sH.trans s4
  refine ⟨_, rfl, p, rfl, ⟨_, sqL_of e4⟩, fun D2 nD2 => ?_⟩
  have hdr : ∀ H5, Same H4 H5 → DKr K H5 d bk := fun H5 s5 => (DKm.r ⟨kvs, hd, hb⟩).same (s04.trans s5)
  refine lc_list (K := K) (a := p) (xs := ys) (fun i H5 => Same H4 H5 ∧ ∃ acc : List V, H5 D2 = some (.lst acc) ∧ Paired (LineV K H5) acc ((lawLines bk).take i)) ⟨same_new nD2, [], upd_same, .nil⟩ (fun i H5 _ z => sqL_of (z.1 _ _ e4)) (fun i x H5 hx z => ?_) (fun H5 z => ?_)
  · obtain ⟨s5, acc2, e5, pr5⟩ := z
    obtain ⟨b, hbk, hdp⟩ := paired_get pq hx
    obtain ⟨t, t1, zs, rfl, hT, hT1, hzl⟩ := dp_pair hdp
    have t45 := (TSt.same s4).trans (TSt.same s5)
    have hbm : b ∈ bk := List.mem_mergeSort.mp (List.mem_of_getElem? hbk)
    obtain ⟨v1, g1, tt, cc, rfl, hT5, hC5⟩ := (hdr _ s5).at_ (look_of_mem bF.nd hbm)
    refine ⟨t, _, rfl, sqT_st t45 hT, rfl, _, _, rfl, _, _, rfl, rfl, rfl, ?_⟩
    refine ⟨_, rfl, t1, zs, rfl, .inr (sqT_st t45 hT1), _, rfl, _, rfl, _, rfl, d, _, rfl, g1, tt, _, _, _, rfl, rfl, hT5, atI_nat (j := 0) rfl, _, rfl, _, rfl, d, _, rfl, g1, tt, _, _, _, rfl, rfl, hT5, atI_nat (j := 2) rfl, _, rfl, _, rfl, d, _, rfl, g1, tt, _, _, _, rfl, rfl, hT5, atI_nat (j := 3) rfl, (by show 5 ≤ sizeLine; decide), fun z nz => ?_⟩
    rw [hzl]
    have s6 := same_new (o := .tup [V.int ((pa bk b.1).length : Nat), V.str b.1, V.str b.2.kind, V.int b.2.rank, cc]) nz
    have e6 := s6 _ _ e5
    refine ⟨acc2, e6, small1000 ?_, Same.put (s5.trans s6) nD2, _, upd_same, ?_⟩
    · rw [Paired.length pr5, List.length_take]
      unfold lawLines
      rw [List.length_map, List.length_mergeSort]
      omega
    have t7 := TSt.put (u := .lst (acc2 ++ [V.ref z])) e6 rfl
    have el : (lawLines bk)[i]? = some ((pa bk b.1).length, b) := by
      unfold lawLines
      rw [List.getElem?_map, hbk]
      rfl
    rw [List.take_add_one, el]
    exact paired_app (lines_st ((TSt.same s6).trans t7) pr5) (.cons ⟨z, cc, rfl, sqT_st t7 (sqT_of upd_same), con_st ((TSt.same s6).trans t7) hC5⟩ .nil)
  · obtain ⟨s5, acc2, e5, pr5⟩ := z
    have ey : ys.length = (lawLines bk).length := by
      unfold lawLines
      rw [List.length_map]
      exact Paired.length pq
    rw [ey, take_full (Nat.le_refl _)] at pr5
    exact q D2 acc2 H5 (s04.trans s5) (none_of_same s04 nD2) e5 pr5
end
end Lf

/-! records as a plain book -/
namespace Lf
open PySem PySem.Spec PyProof.Rows L2
def spLPlain (K : PySem.W.Frag) (C : Addr) : Sp := fun vs H Q _ => ∃ (d : Addr) (bk : Bk), vs = [.ref d] ∧ DKm K H d bk ∧ (bk.map (·.1)).Nodup ∧ bk.length ≤ 12 ∧
  ∀ (p dp : Addr) (H' : Hp), Same H H' → H p = none → H dp = none → PlA C H' p dp → DKm K H' dp bk → Q (.ref p) H'
theorem unlockK {H H0 H1 : Hp} {d dp : Addr} {u : HO} {od : Obj} (s : Same H H0) (e : H d = some u) (n : noTup u = true) (hp : H dp = none) (k : KeepB dp (upd H0 d (.frz od u)) H1) : Same H (upd H1 d u) ∧ TSt H1 (upd H1 d u) := by
  have eL : H1 d = some (.frz od u) := k d _ (ne_of_none e hp) upd_same
  refine ⟨fun b o q => ?_, fun a xs h => ?_⟩
  · by_cases z : b = d
    · rw [z] at q ⊢
      rw [upd_same, ← e]
      exact q
    · rw [upd_ne z]
      refine k b o (ne_of_none q hp) ?_
      rw [upd_ne z]
      exact s b o q
  · have ne : a ≠ d := fun z => by
      rw [z] at h
      rcases h with h | ⟨o, h⟩
      · rw [eL] at h
        cases h
      · rw [eL] at h
        have h2 := Option.some.inj h
        injection h2 with _ h3
        rw [h3] at n
        cases n
    rcases h with h | ⟨o, h⟩
    · exact .inl (by rw [upd_ne ne]; exact h)
    · exact .inr ⟨o, by rw [upd_ne ne]; exact h⟩
section
variable {P : Program} {w : World} {K : PySem.W.Frag} {mg : Str → Option Value} {base : Heap} {f C : Addr} {fd : FuncData}
theorem scLPlain : FnScope ["_law_records", "_law_plain_here", "_law_name", "_law_record_here"] ["_law_records"] (defScope sLPlain) := ⟨rfl, rfl, rfl, by decide +kernel, rfl, by decide +kernel, by decide +kernel⟩
theorem ok_lplain {fI fL : Addr} {fdI fdL : FuncData} (F : FnP K "_law_plain" "_law_plain" sLPlain f fd) (T : PlT K C) (gC : mg "Plain" = some (.ref C)) (MP : Mk K C fI) (GI : FnOk P w K mg base CX0 1 fI fdI ["self"] (spPInit C)) (bI : Binds K fdI ["self"] [])
    (mL : Meth K C "lay" fL) (GL : FnOk P w K mg base CX0 1 fL fdL ["self", "name", "kind", "parent", "rank", "content"] (spLay K C)) (bL : Binds K fdL ["self", "name", "kind", "parent", "rank", "content"] []) :
    FnOk P w K mg base CX0 3 f fd ["_law_records"] (spLPlain K C) := by
  refine fnp_ok F scLPlain (fun vs H Q E h => ?_) (fun cdv A outer s H vs Q E hr h => ?_)
  · obtain ⟨d, bk, rfl, _⟩ := h
    rfl
  obtain ⟨d, bk, rfl, ⟨kvs, hd, hb⟩, hnd, hbl, q⟩ := h
  have hu := hu_of hr
  have nd := scLPlain.nd
  refine ⟨_, pss_cons (ps_set (i := 1) nd rfl (.inl rfl) (pe_make0 MP GI (hr.mono (by decide)) (by rfl) gC bI .nil pass0))
      (pss_cons (ps_lock (ps_for PassesOwn.never rfl (pi_items (pv 0)) (pg_tup rfl (pgs_cons (pg_name (i := 2) nd rfl (.inl rfl)) (pgs_cons (pg_name (i := 3) nd rfl (.inl rfl)) pgs_nil))) (pss_one (ps_expr (pe_meth (pv 1) T.cl mL GL (hr.mono (by decide)) bL .nil pass0 (pa_cons (pv 2) (pa_cons (pe_ix ix_tup (pv 3) pe_int (fun _ _ => rfl)) (pa_cons (pe_ix ix_tup (pv 3) pe_int (fun _ _ => rfl)) (pa_cons (pe_ix ix_tup (pv 3) pe_int (fun _ _ => rfl)) (pa_cons (pe_ix ix_tup (pv 3) pe_int (fun _ _ => rfl)) pa_nil))))))))))
      (pss_one (ps_ret (pv 1)))), ?_⟩
  intro p dx np ndx nex
  have s5 : Same H (upd (upd H dx (.own p)) p (.ins C dx [])) := Same.put (same_new ndx) np
  have ep5 : (upd (upd H dx (.own p)) p (.ins C dx [])) p = some (.ins C dx []) := upd_same
  refine ⟨p, dx, rfl, upd_same, fun dp H6 nd6 hpl6 ed6 k6 => ⟨rfl, ?_⟩⟩
  generalize upd (upd H dx (.own p)) p (.ins C dx []) = H5 at s5 ep5 nd6 k6
  have ndp : H dp = none := none_of_same s5 nd6
  have s6 : Same H H6 := fun b u q => k6 b u (ne_of_none q np) (s5 _ _ q)
  have hd6 := s6 _ _ hd
  have npd : p ≠ d := fun z => by rw [z, hd] at np; cases np
  have ndpd : dp ≠ d := fun z => by rw [z, hd] at ndp; cases ndp
  have npdp : p ≠ dp := fun z => by
    obtain ⟨dx6, e6⟩ := hpl6
    rw [z, ed6] at e6
    cases e6
  refine ⟨d, .dK kvs, hd6, trivial, fun od => ?_⟩
  have tL : TSt H6 (upd H6 d (.frz od (.dK kvs))) := tst_lock hd6 rfl
  refine ⟨_, rfl, d, od, kvs, rfl, upd_same, ?_⟩
  have hplL : PlA C (upd H6 d (.frz od (.dK kvs))) p dp := by
    obtain ⟨dx6, e6⟩ := hpl6
    exact ⟨dx6, by rw [upd_ne npd]; exact e6⟩
  have edL : (upd H6 d (.frz od (.dK kvs))) dp = some (.dK []) := by rw [upd_ne ndpd]; exact ed6
  refine for_it (walk_items (d := d) (o := od) (kvs := kvs)) (fun i σ H7 => ∃ y2 y3, σ = [some (.ref d), some (.ref p), y2, y3] ∧ KeepB dp (upd H6 d (.frz od (.dK kvs))) H7 ∧ PlA C H7 p dp ∧ DKm K H7 dp (bk.take i))
    ⟨none, none, rfl, KeepB.refl _ _, hplL, ⟨[], edL, .nil⟩⟩ (fun i σ H7 _ h => ?_) (fun i x σ H7 H8 hi h y => ?_) (fun σ H7 h => ?_)
  · obtain ⟨_, _, _, k7, _⟩ := h
    exact k7 _ _ ndpd.symm upd_same
  · obtain ⟨y2, y3, rfl, k7, hp7, hD7⟩ := h
    obtain ⟨t, a, v, rfl, nt, rfl, ea, ev⟩ := y
    obtain ⟨kv, hkv⟩ : ∃ kv, kvs[i]? = some kv := ⟨kvs[i], List.getElem?_eq_getElem hi⟩
    obtain ⟨b, hbi, he, hr1⟩ := paired_get hb hkv
    have e1 : a = .str b.1 := by
      have ea : (kvs[i]?).map (fun kv => kV kv.1) = some a := ea
      rw [hkv] at ea
      have z : kV kv.1 = a := Option.some.inj ea
      rw [← z, he]
      rfl
    have e2 : v = kv.2 := by
      have ev : (kvs[i]?).map Prod.snd = some v := ev
      rw [hkv] at ev
      exact (Option.some.inj ev).symm
    subst e1
    subst e2
    have s8 : Same H7 (upd H7 t (.tup [V.str b.1, kv.2])) := same_new nt
    have t8 : TSt H (upd H7 t (.tup [V.str b.1, kv.2])) := ((TSt.same s6).trans tL).trans ((TSt.keep k7 edL rfl).trans (TSt.same s8))
    have e8 : (upd H7 t (.tup [V.str b.1, kv.2])) t = some (.tup [V.str b.1, kv.2]) := upd_same
    obtain ⟨tt, cc, ett, hT, hC⟩ := recV_st t8 hr1
    rw [ett] at e8 s8 hT hC ⊢
    have hp8 := hp7.same s8
    have hD8 := hD7.same s8
    obtain ⟨dx8, ex8⟩ := id hp8
    refine ⟨t, _, rfl, sqT_of e8, rfl, _, _, rfl, _, _, rfl, rfl, ?_⟩
    refine ⟨_, rfl, p, dx8, _, rfl, ex8, flds_no dp (by decide +kernel), _, rfl, _, rfl, tt, _, _, _, rfl, rfl, hT, atI_nat (j := 0) rfl, _, rfl, tt, _, _, _, rfl, rfl, hT, atI_nat (j := 1) rfl, _, rfl, tt, _, _, _, rfl, rfl, hT, atI_nat (j := 2) rfl, _, rfl, tt, _, _, _, rfl, rfl, hT, atI_nat (j := 3) rfl, ?_⟩
    refine ⟨p, dp, bk.take i, b.1, b.2, cc, rfl, hp8, hD8, ?_, hC, fun H9 k9 hD9 => ?_⟩
    · rw [List.length_take]
      omega
    · refine ⟨_, _, rfl, k7.trans ((KeepB.same s8).trans k9), ⟨dx8, k9 _ _ npdp ex8⟩, ?_⟩
      have nin : b.1 ∉ (bk.take i).map (·.1) := fun z => by
        obtain ⟨c, hc, ec⟩ := List.mem_map.mp z
        obtain ⟨j, hj⟩ := List.getElem?_of_mem hc
        have ji : j < i := by
          have z := (List.getElem?_eq_some_iff.mp hj).1
          rw [List.length_take] at z
          omega
        rw [List.getElem?_take, if_pos ji] at hj
        have z1 : (bk.map (·.1))[j]? = some b.1 := by rw [List.getElem?_map, hj, ← ec]; rfl
        have z2 : (bk.map (·.1))[i]? = some b.1 := by rw [List.getElem?_map, hbi]; rfl
        have := nd_ix hnd z1 z2
        omega
      rw [putB_new b.2 nin] at hD9
      rw [List.take_add_one, hbi]
      exact hD9
  · obtain ⟨y2, y3, rfl, k7, hp7, hD7⟩ := h
    rw [bkV_len hb, take_full (Nat.le_refl _)] at hD7
    refine ⟨k7 _ _ ndpd.symm upd_same, ?_⟩
    obtain ⟨sU, tU⟩ := unlockK s6 hd rfl ndp k7
    refine ⟨_, rfl, q p dp _ sU np ndp ?_ ?_⟩
    · obtain ⟨dx7, e7⟩ := hp7
      exact ⟨dx7, by rw [upd_ne npd]; exact e7⟩
    · obtain ⟨kv, ekv, hbb⟩ := hD7
      exact ⟨kv, by rw [upd_ne ndpd]; exact ekv, bkV_st tU hbb⟩
end
end Lf

/-! one joining is looked at -/
namespace Lf
open PySem PySem.Spec PyProof.Rows L2
theorem shaped_lines {bk : Bk} {lvl : Str → Nat} (F : Forest bk lvl) : SeqAt.shaped (.list ((lawLines bk).map lineD)) = true := by
  have ok : ∀ q ∈ lawLines bk, PyData.strOk q.2.1 = true ∧ okR q.2.2 = true := fun q hq => by
    unfold lawLines at hq
    obtain ⟨p, hp, rfl⟩ := List.mem_map.mp hq
    exact F.ok p (List.mem_mergeSort.mp hp)
  generalize lawLines bk = qs at ok
  have h1 : PyData.canLayAll0 (qs.map lineD) = true := by
    refine canLay_all lineD (fun q => PyData.strOk q.2.1 && okR q.2.2) (fun q h => ?_) qs (List.all_eq_true.mpr fun q hq => by rw [(ok q hq).1, (ok q hq).2]; rfl)
    rw [Bool.and_eq_true] at h
    have h2 := h.2
    unfold okR at h2
    simp only [Bool.and_eq_true] at h2
    simp only [lineD, PyData.canLay0, PyData.canLayAll0, h.1, h2.1, canLay_con _ h2.2.2, Bool.and_true, Bool.true_and]
  have h3 : PyData.depthAll (qs.map lineD) ≤ 5 := by
    refine depth_all lineD 5 (fun q => ?_) qs
    have z := depth_con q.2.2.con
    simp only [lineD, PyData.depth, PyData.depthAll]
    omega
  unfold SeqAt.shaped
  rw [PyData.canLay0, h1, PyData.depth]
  simp only [Bool.true_and, decide_eq_true_eq]
  omega
def Src (K : PySem.W.Frag) (C : Addr) (H : Hp) (p dp a : Addr) (bk : Bk) : Prop := PlA C H p dp ∧ DKm K H dp bk ∧ DKm K H a bk
theorem Src.keep {K : PySem.W.Frag} {C : Addr} {H H' : Hp} {p dp a d : Addr} {bk : Bk} {o : HO} (h : Src K C H p dp a bk) (k : KeepB d H H') (ho : H d = some o) (n : noTup o = true) (n1 : p ≠ d) (n2 : dp ≠ d) (n3 : a ≠ d) : Src K C H' p dp a bk := by
  obtain ⟨⟨dx, e⟩, h2, h3⟩ := h
  exact ⟨⟨dx, k _ _ n1 e⟩, h2.keep k n2 ho n, h3.keep k n3 ho n⟩
theorem Src.same {K : PySem.W.Frag} {C : Addr} {H H' : Hp} {p dp a : Addr} {bk : Bk} (h : Src K C H p dp a bk) (s : Same H H') : Src K C H' p dp a bk := ⟨h.1.same s, h.2.1.same s, h.2.2.same s⟩
def spComes (K : PySem.W.Frag) : Sp := fun vs H Q _ => ∃ (e o t due : Addr) (eb ob tb gb : Bk) (el ol tl gl : Str → Nat) (xs : List V), vs = [.ref e, .ref o, .ref t, .ref due] ∧ DKm K H e eb ∧ DKm K H o ob ∧ DKm K H t tb ∧ Forest eb el ∧ Forest ob ol ∧ Forest tb tl ∧ Forest gb gl ∧
  eb.length ≤ 8 ∧ ob.length ≤ 8 ∧ tb.length ≤ 8 ∧ gb.length ≤ 8 ∧ (∀ n, look ob n = look tb n ∨ look tb n = look eb n ∨ look ob n = look eb n) ∧ (∀ n, look gb n = pick (look eb n) (look ob n) (look tb n)) ∧
  SqL K H due xs ∧ Paired (LineV K H) xs (lawLines gb) ∧ ∀ H', Same H H' → Q (.bl true) H'
theorem okO_of {bk : Bk} {lvl : Str → Nat} (F : Forest bk lvl) (n : Str) : okO (look bk n) := fun r h => (F.ok _ (look_mem h)).2
section
variable {P : Program} {w : World} {K : PySem.W.Frag} {mg : Str → Option Value} {base : Heap} {f C : Addr} {fd : FuncData}
theorem scComes : FnScope ["_law_elder", "_law_one", "_law_other", "_law_due", "_law_three", "_law_plain_here", "_law_told", "_law_name", "_law_some", "_law_records"] ["_law_elder", "_law_one", "_law_other", "_law_due"] (defScope sComes) := ⟨rfl, rfl, rfl, by decide +kernel, rfl, by decide +kernel, by decide +kernel⟩
theorem ok_comes {fP fJ fLn fN fL fLL : Addr} {fdP fdJ fdLn fdN fdL fdLL : FuncData} (F : FnP K "_law_comes" "_law_comes" sComes f fd) (T : PlT K C) (mZ : mg "zip" = none)
    (GP : FnOk P w K mg base CX0 3 fP fdP ["_law_records"] (spLPlain K C)) (gP : mg "_law_plain" = some (.ref fP)) (kP : PySem.W.keepIn K (.ref fP) = true) (bP : Binds K fdP ["_law_records"] [])
    (GJ : FnOk P w K mg base CX0 13 fJ fdJ ["elder", "one", "other"] (spJoin K C)) (gJ : mg "plain_join" = some (.ref fJ)) (kJ : PySem.W.keepIn K (.ref fJ) = true) (bJ : Binds K fdJ ["elder", "one", "other"] [])
    (GLL : FnOk P w K mg base CX0 2 fLL fdLL ["_law_records"] (spLLines K)) (gLL : mg "_law_lines" = some (.ref fLL)) (kLL : PySem.W.keepIn K (.ref fLL) = true) (bLL : Binds K fdLL ["_law_records"] [])
    (mLn : Meth K C "lines" fLn) (GLn : FnOk P w K mg base CX0 13 fLn fdLn ["self"] (spLines K C)) (bLn : Binds K fdLn ["self"] [])
    (mN : Meth K C "names" fN) (GN : FnOk P w K mg base CX0 1 fN fdN ["self"] (spNames K C)) (bN : Binds K fdN ["self"] [])
    (mL : Meth K C "lay" fL) (GL : FnOk P w K mg base CX0 1 fL fdL ["self", "name", "kind", "parent", "rank", "content"] (spLay K C)) (bL : Binds K fdL ["self", "name", "kind", "parent", "rank", "content"] []) :
    FnOk P w K mg base CX0 14 f fd ["_law_elder", "_law_one", "_law_other", "_law_due"] (spComes K) := by
  refine fnp_ok F scComes (fun vs H Q E h => ?_) (fun cdv A outer s H vs Q E hr h => ?_)
  · obtain ⟨e, o, t, due, _, _, _, _, _, _, _, _, _, rfl, _⟩ := h
    rfl
  obtain ⟨e, o, t, due, eb, ob, tb, gb, el, ol, tl, gl, xs, rfl, hE, hO, hT, Fe, Fo, Ft, Fg, le, lo, lt, lg, hp1, hp2, hdue, hxs, q⟩ := h
  have nd := scComes.nd
  refine ⟨_, pss_cons (ps_set (i := 4) nd rfl (.inl rfl) (pe_lst (pa_cons (pe_call GP (hr.mono (by decide)) (by rfl) gP kP bP .nil pass0 (pa_cons (pv 0) pa_nil)) (pa_cons (pe_call GP (hr.mono (by decide)) (by rfl) gP kP bP .nil pass0 (pa_cons (pv 1) pa_nil)) (pa_cons (pe_call GP (hr.mono (by decide)) (by rfl) gP kP bP .nil pass0 (pa_cons (pv 2) pa_nil)) pa_nil)))))
      (pss_cons (ps_asg (pe_call GJ hr (by rfl) gJ kJ bJ .nil pass0 (pa_cons (pe_ix ix_list (pv 4) pe_int (fun _ _ => rfl)) (pa_cons (pe_ix ix_list (pv 4) pe_int (fun _ _ => rfl)) (pa_cons (pe_ix ix_list (pv 4) pe_int (fun _ _ => rfl)) pa_nil)))) (pg_tup rfl (pgs_cons (pg_name (i := 5) nd rfl (.inl rfl)) (pgs_cons (pg_name (i := 6) nd rfl (.inl rfl)) pgs_nil))))
      (pss_cons (ps_if (PW.pt (pw_or (pt_cmpR (op_neD hr.units) (pv 6) (pe_lst pa_nil) (nomark _)) (pw_or1 (pt_cmpR (op_neD hr.units) (pe_meth0 (pv 5) T.cl mLn GLn hr bLn .nil pass0) (pv 3) (nomark _))))) pss_never pss_nil)
      (pss_cons (ps_for PassesOwn.never rfl (pi_list (pe_meth0 (pv 5) T.cl mN GN (hr.mono (by decide)) bN .nil pass0)) (pg_name (i := 7) nd rfl (.inl rfl)) (pss_one (ps_expr (pe_meth (pv 5) T.cl mL GL (hr.mono (by decide)) bL .nil pass0 (pa_cons (pv 7) (pa_cons pe_str (pa_cons pe_str (pa_cons pe_int (pa_cons pe_str pa_nil)))))))))
      (pss_cons (ps_for PassesOwn.never rfl (pi_zip (by rfl) mZ (pa_cons (pv 4) (pa_cons (pe_lst (pa_cons (pv 0) (pa_cons (pv 1) (pa_cons (pv 2) pa_nil)))) pa_nil))) (pg_tup rfl (pgs_cons (pg_name (i := 8) nd rfl (.inl rfl)) (pgs_cons (pg_name (i := 9) nd rfl (.inl rfl)) pgs_nil))) (pss_one (ps_if (pt_cmpR (op_neD hr.units) (pe_meth0 (pv 8) T.cl mLn GLn hr bLn .nil pass0) (pe_call GLL (hr.mono (by decide)) (by rfl) gLL kLL bLL .nil pass0 (pa_cons (pv 9) pa_nil)) (nomark _)) pss_never pss_nil)))
      (pss_one (ps_ret pe_bl)))))), ?_⟩
  -- the three plain books
  refine ⟨_, rfl, e, eb, rfl, hE, Fe.nd, by omega, fun pe de H1 s1 npe nde pE1 dE1 => ⟨_, rfl, o, ob, rfl, hO.same s1, Fo.nd, by omega, fun po dO H2 s2 npo ndo pO2 dO2 => ⟨_, rfl, t, tb, rfl, hT.same (s1.trans s2), Ft.nd, by omega, fun pt dT H3 s3 npt ndt pT3 dT3 => ⟨(by show 3 ≤ sizeLine; decide), fun l nl => ?_⟩⟩⟩⟩
  have s4 := same_new (o := .lst [V.ref pe, V.ref po, V.ref pt]) nl
  have el4 : (upd H3 l (.lst [V.ref pe, V.ref po, V.ref pt])) l = some (.lst [V.ref pe, V.ref po, V.ref pt]) := upd_same
  obtain ⟨H4, e4⟩ : ∃ x, x = upd H3 l (.lst [V.ref pe, V.ref po, V.ref pt]) := ⟨_, rfl⟩
  rw [← e4] at s4 el4
  have s04 := s1.trans (s2.trans (s3.trans s4))
  have S1 : Src K C H4 pe de e eb := ⟨pE1.same (s2.trans (s3.trans s4)), dE1.same (s2.trans (s3.trans s4)), hE.same s04⟩
  have S2 : Src K C H4 po dO o ob := ⟨pO2.same (s3.trans s4), dO2.same (s3.trans s4), hO.same s04⟩
  have S3 : Src K C H4 pt dT t tb := ⟨pT3.same s4, dT3.same s4, hT.same s04⟩
  have hdue4 := s04.seq hdue
  have hxs4 := lines_st (TSt.same s04) hxs
  -- the joining
  refine ⟨_, rfl, l, _, _, _, rfl, rfl, (by rw [← e4]; exact sqL_of el4), atI_nat (j := 0) rfl, _, rfl, l, _, _, _, rfl, rfl, (by rw [← e4]; exact sqL_of el4), atI_nat (j := 1) rfl, _, rfl, l, _, _, _, rfl, rfl, (by rw [← e4]; exact sqL_of el4), atI_nat (j := 2) rfl, ?_⟩
  rw [← e4]
  refine ⟨pe, po, pt, de, dO, dT, eb, ob, tb, gb, gl, rfl, S1.1, S2.1, S3.1, S1.2.1, S2.2.1, S3.2.1, by omega, by omega, by omega, fun n => ⟨okO_of Fe n, okO_of Fo n, okO_of Ft n⟩, Fg, by omega, hp1, hp2, fun z tl' p d pd H5 s5 ez etl np ndd plj dkj pm => ?_⟩
  have neD : ∀ {b : Addr} {u : HO}, H4 b = some u → b ≠ d := fun h => ne_of_none h ndd
  refine ⟨z, _, rfl, sqT_of ez, rfl, _, _, rfl, _, _, rfl, rfl, ?_⟩
  have Fpd := Fg.perm pm
  have lpd : pd.length ≤ 8 := by rw [← pm.length_eq]; exact lg
  have shg := shaped_lines Fg
  -- no clash, the lines
  refine ⟨_, rfl, Nat.zero_le _, fun z2 nz2 => ?_⟩
  have s6 : Same H5 (upd H5 z2 (.lst [])) := same_new nz2
  have ez6 : (upd H5 z2 (.lst [])) z2 = some (.lst []) := upd_same
  refine ⟨.list [], .list [], .lst (sqL_of (s6 _ _ etl)) .nil, .lst (sqL_of ez6) .nil, by decide, by decide, _, rfl, ?_⟩
  refine iteF ?_
  generalize upd H5 z2 (.lst []) = H6 at s6 ez6
  have plj6 := plj.same s6
  have dkj6 := dkj.same s6
  obtain ⟨dx6, ex6⟩ := id plj6
  refine ⟨_, rfl, p, dx6, _, rfl, ex6, flds_no d (by decide +kernel), p, d, pd, gl, rfl, plj6, dkj6, Fpd, by omega, fun l2 H7 xs2 s7 nl2 el2 pr2 => ?_⟩
  rw [reading Fg pm (by omega)] at pr2
  have pr2' : Paired (LineV K H7) xs2 (lawLines gb) := pr2
  have s47 := s5.trans (s6.trans s7)
  refine ⟨_, rfl, .list ((lawLines gb).map lineD), .list ((lawLines gb).map lineD), .lst (sqL_of el2) (lines_dp pr2'), .lst (s47.seq hdue4) (lines_dp (lines_st (TSt.same s47) hxs4)), shg, shg, _, rfl, ?_⟩
  rw [SeqAt.eqv_refl _ (SeqAt.canLay_of_shaped shg)]
  refine iteF ?_
  -- the joined book is overwritten
  have plj7 := plj6.same s7
  have dkj7 := dkj6.same s7
  obtain ⟨dx7, ex7⟩ := id plj7
  refine ⟨_, rfl, p, dx7, _, rfl, ex7, flds_no d (by decide +kernel), p, d, pd, rfl, plj7, dkj7.r, by omega, fun ys m3 pm3 nm3 => ?_⟩
  have s8 : Same H7 (upd H7 m3 (.lst (ys.map V.str))) := same_new nm3
  have em8 : (upd H7 m3 (.lst (ys.map V.str))) m3 = some (.lst (ys.map V.str)) := upd_same
  generalize upd H7 m3 (.lst (ys.map V.str)) = H8 at s8 em8
  have dkj8 := dkj7.same s8
  have ly : ys.length ≤ 8 := by rw [pm3.length_eq, List.length_map]; exact lpd
  obtain ⟨kv8, ekv8, _⟩ := id dkj8
  have npd : p ≠ d := fun z => by
    rw [z] at ex7
    obtain ⟨kv7, ekv7, _⟩ := dkj7
    rw [ekv7] at ex7
    cases ex7
  have nm3d : m3 ≠ d := fun z => by rw [z, ekv8] at em8; cases em8
  refine ⟨m3, rfl, ⟨_, sqL_of em8⟩, ?_⟩
  refine for_list (K := K) (a := m3) (xs := ys.map V.str) (fun i σ H9 => ∃ y7, σ = [some (.ref e), some (.ref o), some (.ref t), some (.ref due), some (.ref l), some (.ref p), some (.ref tl'), y7, none, none] ∧ KeepB d H8 H9 ∧ PlA C H9 p d ∧ ∃ bk', DKm K H9 d bk' ∧ bk'.length ≤ 8 + i)
    ⟨none, rfl, KeepB.refl _ _, plj7.same s8, pd, dkj8, lpd⟩ (fun i σ H9 _ h => ?_) (fun i x σ H9 hx h => ?_) (fun σ H9 h => ?_)
  · obtain ⟨_, _, k9, _⟩ := h
    exact sqL_of (k9 _ _ nm3d em8)
  · obtain ⟨y7, rfl, k9, pl9, bk', dk9, lb⟩ := h
    have hi : i < ys.length := by
      have z := (List.getElem?_eq_some_iff.mp hx).1
      rw [List.length_map] at z
      exact z
    rw [List.getElem?_map] at hx
    obtain ⟨n, hn, rfl⟩ : ∃ n, ys[i]? = some n ∧ V.str n = x := by
      cases z : ys[i]? with
      | none => rw [z] at hx; cases hx
      | some n => rw [z] at hx; exact ⟨n, rfl, Option.some.inj hx⟩
    obtain ⟨dx9, ex9⟩ := id pl9
    refine ⟨_, rfl, p, dx9, _, rfl, ex9, flds_no d (by decide +kernel), _, rfl, p, d, bk', n, ⟨"para", "", 3, .txt "gone"⟩, .str "gone", rfl, pl9, dk9, by omega, .str _, fun H10 k10 d10 => ?_⟩
    refine ⟨_, rfl, k9.trans k10, ⟨dx9, k10 _ _ npd ex9⟩, _, d10, ?_⟩
    have z := putB_len bk' n ⟨"para", "", 3, .txt "gone"⟩
    omega
  -- what was handed in
  obtain ⟨y7, rfl, k9, pl9, bk', dk9, lb⟩ := h
  refine ⟨_, rfl, _, rfl, _, rfl, _, rfl, (by show 3 ≤ sizeLine; decide), fun m nm => ?_⟩
  have s12 : Same H9 (upd H9 m (.lst [V.ref e, V.ref o, V.ref t])) := same_new nm
  have em12 : (upd H9 m (.lst [V.ref e, V.ref o, V.ref t])) m = some (.lst [V.ref e, V.ref o, V.ref t]) := upd_same
  generalize upd H9 m (.lst [V.ref e, V.ref o, V.ref t]) = H12 at s12 em12
  have k4 : KeepB d H4 H12 := (KeepB.same s47).trans ((KeepB.same s8).trans (k9.trans (KeepB.same s12)))
  have k5 : KeepB d H8 H12 := k9.trans (KeepB.same s12)
  have s48 := s47.trans s8
  have srcs : ∀ {pp dp aa : Addr} {bk : Bk}, Src K C H4 pp dp aa bk → Src K C H12 pp dp aa bk := fun S => by
    obtain ⟨⟨dxx, e1⟩, ⟨kv1, e2, b2⟩, ⟨kv3, e3, b3⟩⟩ := id S
    exact (S.same s48).keep k5 ekv8 rfl (neD e1) (neD e2) (neD e3)
  have el12 : H12 l = some (.lst [V.ref pe, V.ref po, V.ref pt]) := k4 _ _ (neD el4) el4
  have s012 : Same H H12 := Same.keep s04 (none_of_same s04 ndd) k4
  refine ⟨l, m, _, _, rfl, sqL_of el12, sqL_of em12, ?_⟩
  refine RZ.for_zipL (K := K) (a := l) (b := m) (xs := [V.ref pe, V.ref po, V.ref pt]) (ys := [V.ref e, V.ref o, V.ref t]) rfl (fun i σ H13 => ∃ y8 y9, σ = [some (.ref e), some (.ref o), some (.ref t), some (.ref due), some (.ref l), some (.ref p), some (.ref tl'), y7, y8, y9] ∧ Same H12 H13)
    ⟨none, none, rfl, Same.refl _⟩ (fun i σ H13 h => ?_) (fun i x y T' σ H13 hx hy h nT => ?_) (fun σ H13 h => ?_)
  · obtain ⟨_, _, _, s13⟩ := h
    exact ⟨sqL_of (s13 _ _ el12), sqL_of (s13 _ _ em12)⟩
  · obtain ⟨y8, y9, rfl, s13⟩ := h
    obtain ⟨pp, dp, aa, bk, lv, rfl, rfl, src, FF, len⟩ : ∃ pp dp aa bk lv, x = .ref pp ∧ y = .ref aa ∧ Src K C H12 pp dp aa bk ∧ Forest bk lv ∧ bk.length ≤ 8 := by
      match i, hx, hy with
      | 0, hx, hy => exact ⟨pe, de, e, eb, el, (Option.some.inj hx).symm, (Option.some.inj hy).symm, srcs S1, Fe, le⟩
      | 1, hx, hy => exact ⟨po, dO, o, ob, ol, (Option.some.inj hx).symm, (Option.some.inj hy).symm, srcs S2, Fo, lo⟩
      | 2, hx, hy => exact ⟨pt, dT, t, tb, tl, (Option.some.inj hx).symm, (Option.some.inj hy).symm, srcs S3, Ft, lt⟩
      | i + 3, hx, hy => simp at hx
    have s14 : Same H13 (upd H13 T' (.tup [V.ref pp, V.ref aa])) := same_new nT
    have e14 : (upd H13 T' (.tup [V.ref pp, V.ref aa])) T' = some (.tup [V.ref pp, V.ref aa]) := upd_same
    generalize upd H13 T' (.tup [V.ref pp, V.ref aa]) = H14 at s14 e14
    obtain ⟨pl14, dk14, a14⟩ := src.same (s13.trans s14)
    obtain ⟨dx14, ex14⟩ := id pl14
    have shb := shaped_lines FF
    refine ⟨T', _, rfl, sqT_of e14, rfl, _, _, rfl, _, _, rfl, rfl, ?_⟩
    refine ⟨_, rfl, pp, dx14, _, rfl, ex14, flds_no dp (by decide +kernel), pp, dp, bk, lv, rfl, pl14, dk14, FF, by omega, fun l1 H15 xs1 s15 nl1 el1 pr1 => ?_⟩
    rw [reading FF (List.Perm.refl _) (by omega)] at pr1
    have pr1' : Paired (LineV K H15) xs1 (lawLines bk) := pr1
    refine ⟨_, rfl, aa, bk, lv, rfl, a14.same s15, FF, by omega, fun l3 xs3 H16 s16 nl3 el3 pr3 => ?_⟩
    refine ⟨.list ((lawLines bk).map lineD), .list ((lawLines bk).map lineD), .lst (sqL_of (s16 _ _ el1)) (lines_dp (lines_st (TSt.same s16) pr1')), .lst (sqL_of el3) (lines_dp pr3), shb, shb, _, rfl, ?_⟩
    rw [SeqAt.eqv_refl _ (SeqAt.canLay_of_shaped shb)]
    exact iteF ⟨_, _, rfl, s13.trans (s14.trans (s15.trans s16))⟩
  · obtain ⟨y8, y9, rfl, s13⟩ := h
    exact q H13 (s012.trans s13)
end
end Lf

/-! the law -/
namespace Lf
open PySem PySem.Spec PyProof.Rows L2
theorem rg62 : ∀ j : Fin 63, Builtin.Range.small 2 ((j.val : Nat) : Int) 2 = true ∧ 0 ≤ Builtin.Range.rangeSize 2 ((j.val : Nat) : Int) 2 ∧ Builtin.Range.rangeSize 2 ((j.val : Nat) : Int) 2 ≤ 30 := by decide +kernel
theorem rgc {J : Int} (h0 : 0 ≤ J) (h1 : J ≤ 62) : RgC 2 J 2 (Builtin.Range.rangeSize 2 J 2).toNat ∧ (Builtin.Range.rangeSize 2 J 2).toNat ≤ 30 := by
  have z := rg62 ⟨J.toNat, by omega⟩
  have e : ((J.toNat : Nat) : Int) = J := Int.toNat_of_nonneg h0
  simp only [e] at z
  exact ⟨⟨by decide, by decide, z.1, (Int.toNat_of_nonneg z.2.1).symm⟩, by omega⟩
theorem pick_lr (e o : Option Rec) : o = pick e o e := by
  unfold pick
  rw [if_pos (.inr rfl)]
theorem pick_rl (e t : Option Rec) : t = pick e e t := by
  unfold pick
  split
  · rename_i h
    rcases h with h | h
    · exact h.symm
    · exact h
  · rfl
theorem pick_oo (e o : Option Rec) : o = pick e o o := by
  unfold pick
  rw [if_pos (.inl rfl)]
def spLaw (K : PySem.W.Frag) : Sp := fun vs H Q _ => ∃ (a : Addr) (ns : List Int), vs = [.ref a] ∧ SqL K H a (ns.map V.int) ∧ ns.length ≤ 1000 ∧ ∀ H', Q (.bl true) H'
def kd1 : List Str := ["chapter", "para", "chapter", "table"]
def kd2 : List Str := ["chapter", "chapter", "chapter", "chapter"]
def kd3 : List Str := ["table", "chapter", "table", "para"]
theorem kd1_ok : ∀ x ∈ kd1, PyData.strOk x = true := by decide +kernel
theorem kd2_ok : ∀ x ∈ kd2, PyData.strOk x = true := by decide +kernel
theorem kd3_ok : ∀ x ∈ kd3, PyData.strOk x = true := by decide +kernel
section
variable {P : Program} {w : World} {K : PySem.W.Frag} {mg : Str → Option Value} {base : Heap} {f : Addr} {fd : FuncData}
theorem scLaw : FnScope ["_law_script", "_law_names_here", "_law_kinds", "_law_k", "_law_some", "_law_elder", "_law_one", "_law_lines_here"] ["_law_script"] (defScope sLaw) := ⟨rfl, rfl, rfl, by decide +kernel, rfl, by decide +kernel, by decide +kernel⟩
theorem ok_law {fCA fN fS fLL fCo : Addr} {fdCA fdN fdS fdLL fdCo : FuncData} (F : FnP K "law" "law" sLaw f fd) (mR : mg "range" = none) (mMi : mg "min" = none) (mMa : mg "max" = none) (mL : mg "len" = none)
    (GCA : FnOk P w K mg base CX0 1 fCA fdCA ["_law_script", "_law_k"] (spCellAt K)) (gCA : mg "_law_cell_at" = some (.ref fCA)) (kCA : PySem.W.keepIn K (.ref fCA) = true) (bCA : Binds K fdCA ["_law_script", "_law_k"] [])
    (GN : FnOk P w K mg base CX0 2 fN fdN ["_law_cell", "_law_many"] (spLNames K)) (gN : mg "_law_names" = some (.ref fN)) (kN : PySem.W.keepIn K (.ref fN) = true) (bN : Binds K fdN ["_law_cell", "_law_many"] [])
    (GS : FnOk P w K mg base CX0 4 fS fdS ["_law_cell", "_law_names_here", "_law_elder", "_law_kinds"] (spSide K)) (gS : mg "_law_side" = some (.ref fS)) (kS : PySem.W.keepIn K (.ref fS) = true) (bS : Binds K fdS ["_law_cell", "_law_names_here", "_law_elder", "_law_kinds"] [])
    (GLL : FnOk P w K mg base CX0 2 fLL fdLL ["_law_records"] (spLLines K)) (gLL : mg "_law_lines" = some (.ref fLL)) (kLL : PySem.W.keepIn K (.ref fLL) = true) (bLL : Binds K fdLL ["_law_records"] [])
    (GCo : FnOk P w K mg base CX0 14 fCo fdCo ["_law_elder", "_law_one", "_law_other", "_law_due"] (spComes K)) (gCo : mg "_law_comes" = some (.ref fCo)) (kCo : PySem.W.keepIn K (.ref fCo) = true) (bCo : Binds K fdCo ["_law_elder", "_law_one", "_law_other", "_law_due"] []) :
    FnOk P w K mg base CX0 15 f fd ["_law_script"] (spLaw K) := by
  refine fnp_ok F scLaw (fun vs H Q E h => ?_) (fun cdv A outer s H vs Q E hr h => ?_)
  · obtain ⟨a, ns, rfl, _⟩ := h
    rfl
  obtain ⟨a, ns, rfl, hs, hl, q⟩ := h
  have nd := scLaw.nd
  refine ⟨_, pss_cons (ps_set (i := 1) nd rfl (.inl rfl) (pe_call GN (hr.mono (by decide)) (by rfl) gN kN bN .nil pass0 (pa_cons (pe_call GCA (hr.mono (by decide)) (by rfl) gCA kCA bCA .nil pass0 (pa_cons (pv 0) (pa_cons pe_int pa_nil))) (pa_cons (pe_op op_mod (pe_op op_fdiv (pe_call GCA (hr.mono (by decide)) (by rfl) gCA kCA bCA .nil pass0 (pa_cons (pv 0) (pa_cons pe_int pa_nil))) pe_int) pe_int) pa_nil))))
      (pss_cons (ps_set (i := 2) nd rfl (.inl rfl) (pe_lst (pa_cons (pe_lst (pa_cons pe_str (pa_cons pe_str (pa_cons pe_str (pa_cons pe_str pa_nil))))) (pa_cons (pe_op op_rep (pe_lst (pa_cons pe_str pa_nil)) pe_int) (pa_cons (pe_lst (pa_cons pe_str (pa_cons pe_str (pa_cons pe_str (pa_cons pe_str pa_nil))))) pa_nil)))))
      (pss_cons (ps_for PassesOwn.never rfl (pi_range3 rfl mR (pa_cons pe_int (pa_cons (pe_callB (call_max2 rfl) (by rfl) mMa (by decide +kernel) (pa_cons pe_int (pa_cons (pe_callB (call_min2 rfl) (by rfl) mMi (by decide +kernel) (pa_cons (pe_callB call_len_seq (by rfl) mL PySem.boot_len (pa_cons (pv 0) pa_nil)) (pa_cons pe_int pa_nil))) pa_nil))) (pa_cons pe_int pa_nil)))) (pg_name (i := 3) nd rfl (.inl rfl)) (pss_cons (ps_set (i := 4) nd rfl (.inl rfl) (pe_ix ix_list (pv 2) (pe_op op_mod (pe_op op_fdiv (pe_call GCA (hr.mono (by decide)) (by rfl) gCA kCA bCA .nil pass0 (pa_cons (pv 0) (pa_cons pe_int pa_nil))) (pv 3)) pe_int) (fun _ _ => rfl)))
      (pss_cons (ps_set (i := 5) nd rfl (.inl rfl) (pe_call GS (hr.mono (by decide)) (by rfl) gS kS bS .nil pass0 (pa_cons (pe_call GCA (hr.mono (by decide)) (by rfl) gCA kCA bCA .nil pass0 (pa_cons (pv 0) (pa_cons (pv 3) pa_nil))) (pa_cons (pv 1) (pa_cons pe_dnewK (pa_cons (pv 4) pa_nil))))))
      (pss_cons (ps_set (i := 6) nd rfl (.inl rfl) (pe_call GS (hr.mono (by decide)) (by rfl) gS kS bS .nil pass0 (pa_cons (pe_call GCA (hr.mono (by decide)) (by rfl) gCA kCA bCA .nil pass0 (pa_cons (pv 0) (pa_cons (pe_op op_add (pv 3) pe_int) pa_nil))) (pa_cons (pv 1) (pa_cons (pv 5) (pa_cons (pv 4) pa_nil))))))
      (pss_cons (ps_set (i := 7) nd rfl (.inl rfl) (pe_call GLL (hr.mono (by decide)) (by rfl) gLL kLL bLL .nil pass0 (pa_cons (pv 6) pa_nil)))
      (pss_cons (ps_if (PW.pt (pw_or (pt_not (pt_val (pe_call GCo hr (by rfl) gCo kCo bCo .nil pass0 (pa_cons (pv 5) (pa_cons (pv 6) (pa_cons (pv 5) (pa_cons (pv 7) pa_nil))))))) (pw_or1 (pt_not (pt_val (pe_call GCo hr (by rfl) gCo kCo bCo .nil pass0 (pa_cons (pv 5) (pa_cons (pv 5) (pa_cons (pv 6) (pa_cons (pv 7) pa_nil)))))))))) pss_never pss_nil)
      (pss_one (ps_if (PW.pt (pw_or (pt_not (pt_val (pe_call GCo hr (by rfl) gCo kCo bCo .nil pass0 (pa_cons (pv 5) (pa_cons (pv 6) (pa_cons (pv 6) (pa_cons (pv 7) pa_nil))))))) (pw_or1 (pt_not (pt_val (pe_call GCo hr (by rfl) gCo kCo bCo .nil pass0 (pa_cons (pv 5) (pa_cons (pv 5) (pa_cons (pv 5) (pa_cons (pe_call GLL (hr.mono (by decide)) (by rfl) gLL kLL bLL .nil pass0 (pa_cons (pv 5) pa_nil)) pa_nil)))))))))) pss_never pss_nil))))))))
      (pss_one (ps_ret pe_bl)))), ?_⟩
  refine ⟨_, rfl, a, ns, 0, rfl, hs, by decide, by decide, fun c0 => ⟨_, rfl, a, ns, 0, rfl, hs, by decide, by decide, fun c1 => ⟨_, _, rfl, rfl, ⟨by decide, by decide⟩, _, _, rfl, rfl, (by show (0 : Int) < 9; decide), c0, c1 / 7 % 9, rfl, Int.emod_nonneg _ (by decide), ?_, fun nl nms H1 s1 nnl nok enl => ?_⟩⟩⟩
  · have := Int.emod_lt_of_pos (c1 / 7) (show (0 : Int) < 9 by decide)
    omega
  refine ⟨(by show 4 ≤ sizeLine; decide), fun k1 n1 => ⟨(by show 1 ≤ sizeLine; decide), fun k0 n0 => ⟨_, _, _, rfl, rfl, upd_same, by decide, by decide, (by show 1 * 4 ≤ sizeLine; decide), fun k2 n2 => ⟨(by show 4 ≤ sizeLine; decide), fun k3 n3 => ⟨(by show 3 ≤ sizeLine; decide), fun kl nkl => ?_⟩⟩⟩⟩⟩
  obtain ⟨J, eJ⟩ : ∃ J : Int, J = (if (if (62 : Int) < ((ns.map V.int).length : Nat) then (62 : Int) else ((ns.map V.int).length : Nat)) > 4 then (if (62 : Int) < ((ns.map V.int).length : Nat) then (62 : Int) else ((ns.map V.int).length : Nat)) else 4) := ⟨_, rfl⟩
  have hJ0 : 0 ≤ J := by
    rw [eJ]
    split <;> omega
  have hJ1 : J ≤ 62 := by
    rw [eJ]
    split
    · split <;> omega
    · omega
  obtain ⟨rg, rl⟩ := rgc hJ0 hJ1
  refine ⟨_, rfl, a, _, rfl, .inl (((((same_new n1).trans (same_new n0)).trans (same_new n2)).trans ((same_new n3).trans (same_new nkl))).seq (s1.seq hs)), _, _, rfl, _, _, rfl, 2, J, 2, _, (by rw [eJ]), rg, ?_⟩
  refine for_rangeC (lo := 2) (c := 2) (n := (Builtin.Range.rangeSize 2 J 2).toNat) (fun i σ H3 => ∃ y3 y4 y5 y6 y7, σ = [some (.ref a), some (.ref nl), some (.ref kl), y3, y4, y5, y6, y7] ∧ Same H1 H3 ∧ H3 k1 = some (.lst (kd1.map V.str)) ∧ H3 k2 = some (.lst (kd2.map V.str)) ∧ H3 k3 = some (.lst (kd3.map V.str)) ∧ H3 kl = some (.lst [V.ref k1, V.ref k2, V.ref k3]))
    ⟨none, none, none, none, none, rfl, ((((same_new n1).trans (same_new n0)).trans (same_new n2)).trans ((same_new n3).trans (same_new nkl))), ((((same_new n0).trans (same_new n2)).trans ((same_new n3).trans (same_new nkl))) _ _ upd_same), (((same_new n3).trans (same_new nkl)) _ _ upd_same), ((same_new nkl) _ _ upd_same), upd_same⟩ (fun i σ H3 hi h => ?_) (fun σ H3 h => ?_)
  · obtain ⟨y3, y4, y5, y6, y7, rfl, s3, e1, e2, e3, el⟩ := h
    have hs3 := (s1.trans s3).seq hs
    have hn3 : SqL K H3 nl (nms.map V.str) := sqL_of (s3 _ _ enl)
    obtain ⟨k, ek⟩ : ∃ k : Int, k = 2 + (i : Nat) * 2 := ⟨_, rfl⟩
    have k0' : 0 < k := by omega
    have k1' : k ≤ 62 := by omega
    refine ⟨_, rfl, _, rfl, a, ns, 1, rfl, hs3, by decide, by decide, fun ck => ⟨_, rfl, _, _, rfl, rfl, ⟨by omega, by omega⟩, _, _, rfl, rfl, (by show (0 : Int) < 3; decide), ?_⟩⟩
    obtain ⟨kr, kinds, gk, hkr, h4, hok⟩ : ∃ (kr : Addr) (kinds : List Str), atI [V.ref k1, V.ref k2, V.ref k3] (ck / k % 3) = some (V.ref kr) ∧ SqL K H3 kr (kinds.map V.str) ∧ kinds.length = 4 ∧ ∀ x ∈ kinds, PyData.strOk x = true := by
      have b0 : 0 ≤ ck / k % 3 := Int.emod_nonneg _ (by decide)
      have b1 : ck / k % 3 < 3 := Int.emod_lt_of_pos _ (by decide)
      obtain ⟨j, ej⟩ : ∃ j, j = ck / k % 3 := ⟨_, rfl⟩
      rw [← ej] at b0 b1 ⊢
      have hj : j = 0 ∨ j = 1 ∨ j = 2 := by omega
      rcases hj with rfl | rfl | rfl
      · exact ⟨k1, kd1, at_of (j := 0) rfl rfl, sqL_of e1, rfl, kd1_ok⟩
      · exact ⟨k2, kd2, at_of (j := 1) rfl rfl, sqL_of e2, rfl, kd2_ok⟩
      · exact ⟨k3, kd3, at_of (j := 2) rfl rfl, sqL_of e3, rfl, kd3_ok⟩
    rw [ek] at gk
    refine ⟨kl, _, _, _, rfl, rfl, sqL_of el, gk, ?_⟩
    refine ⟨_, rfl, _, rfl, a, ns, 2 + (i : Nat) * 2, rfl, hs3, by omega, by omega, fun ce => ⟨_, rfl, fun d0 nd0 => ⟨_, rfl, ce, nl, d0, kr, nms, [], fun _ => 0, kinds, rfl, (same_new nd0).seq hn3, nok, ⟨[], upd_same, .nil⟩, Forest.nil, (same_new nd0).seq hkr, h4, hok, fun de eb ev H4 s4' _ hE FE le => ?_⟩⟩⟩
    have s4 : Same H3 H4 := (same_new nd0).trans s4'
    refine ⟨_, rfl, _, rfl, _, _, rfl, rfl, a, ns, 2 + (i : Nat) * 2 + 1, rfl, s4.seq hs3, by omega, by omega, fun co => ⟨_, rfl, _, rfl, _, rfl, co, nl, de, kr, nms, eb, ev, kinds, rfl, s4.seq hn3, nok, hE, FE, s4.seq hkr, h4, hok, fun do' ob ov H5 s5 _ hO FO lo => ?_⟩⟩
    have hE5 := hE.same s5
    refine ⟨_, rfl, do', ob, ov, rfl, hO, FO, by omega, fun ll xs H6 s6 _ el6 pr6 => ?_⟩
    have hE6 := hE5.same s6
    have hO6 := hO.same s6
    refine ⟨_, rfl, _, rfl, _, rfl, _, rfl, de, do', de, ll, eb, ob, eb, ob, ev, ov, ev, ov, xs, rfl, hE6, hO6, hE6, FE, FO, FE, FO, le, lo, le, lo, fun n => .inr (.inl rfl), fun n => pick_lr _ _, sqL_of el6, pr6, fun H7 s7 => ⟨true, rfl, iteF ?_⟩⟩
    refine ⟨_, rfl, _, rfl, _, rfl, _, rfl, de, de, do', ll, eb, eb, ob, ob, ev, ev, ov, ov, xs, rfl, hE6.same s7, hE6.same s7, hO6.same s7, FE, FE, FO, FO, le, le, lo, lo, fun n => .inr (.inr rfl), fun n => pick_rl _ _, sqL_of (s7 _ _ el6), lines_st (TSt.same s7) pr6, fun H8 s8 => ⟨true, rfl, iteF ?_⟩⟩
    have s78 := s7.trans s8
    refine ⟨_, rfl, _, rfl, _, rfl, _, rfl, de, do', do', ll, eb, ob, ob, ob, ev, ov, ov, ov, xs, rfl, hE6.same s78, hO6.same s78, hO6.same s78, FE, FO, FO, FO, le, lo, lo, lo, fun n => .inl rfl, fun n => pick_oo _ _, sqL_of (s78 _ _ el6), lines_st (TSt.same s78) pr6, fun H9 s9 => ⟨true, rfl, iteF ?_⟩⟩
    have s79 := s78.trans s9
    have hE9 := hE6.same s79
    refine ⟨_, rfl, _, rfl, _, rfl, _, rfl, de, eb, ev, rfl, hE9, FE, by omega, fun l2 xs2 H10 s10 _ el10 pr10 => ?_⟩
    have hE10 := hE9.same s10
    refine ⟨de, de, de, l2, eb, eb, eb, eb, ev, ev, ev, ev, xs2, rfl, hE10, hE10, hE10, FE, FE, FE, FE, le, le, le, le, fun n => .inl rfl, fun n => pick_oo _ _, sqL_of el10, pr10, fun H11 s11 => ⟨true, rfl, iteF ?_⟩⟩
    have sf : Same H3 H11 := s4.trans (s5.trans (s6.trans (s79.trans (s10.trans s11))))
    exact ⟨_, _, _, _, _, rfl, s3.trans sf, sf _ _ e1, sf _ _ e2, sf _ _ e3, sf _ _ el⟩
  · exact q H3
end
end Lf

/-! the head: what the top leaves, by one run -/
namespace Lf
open PySem PySem.Spec PyProof.Rows L2
def gd (x : Str) (st : Stmt) : He.DefD := ⟨(x, none), x, x, defArgs st, defBody st, defScope st, [], []⟩
def md (c m q : Str) (st : Stmt) : He.DefD := ⟨(c, some m), m, q, defArgs st, defBody st, defScope st, [], []⟩
def fn : List He.DefD := [md "Plain" "__init__" "Plain.__init__" sPInit, md "Plain" "has" "Plain.has" sHas, md "Plain" "state" "Plain.state" sState, md "Plain" "names" "Plain.names" sNames,
  md "Plain" "under" "Plain.under" sUnder, md "Plain" "lines_under" "Plain.lines_under" sLinesU, md "Plain" "lines" "Plain.lines" sLines, md "Plain" "lay" "Plain.lay" sLay,
  md "Chapter" "word" "Chapter.word" sWord, md "Chapter" "holds" "Chapter.holds" sHolds, gd "kind_of_word" sKow, gd "state_in" sStateIn, gd "settled" sSettled, gd "unheld" sUnheld, gd "ringed" sRinged,
  gd "loosened" sLoosened, gd "lay_beneath" sLayB, gd "plain_join" sJoin, gd "_law_cell_at" sCellAt, gd "_law_mix" sMix, gd "_law_draw" sDraw, gd "_law_names" sLNames, gd "_law_content" sContent,
  gd "_law_order" sOrder, gd "_law_record" sRecord, gd "_law_side" sSide, gd "_law_path" sPath, gd "_law_lines" sLLines, gd "_law_plain" sLPlain, gd "_law_comes" sComes, gd "law" sLaw]
def fa : List He.Fa := [.glo "Plain", .glo "Chapter", .glo "Para", .glo "Table", .glo "kind_of_word", .glo "state_in", .glo "settled", .glo "unheld", .glo "ringed", .glo "loosened", .glo "lay_beneath", .glo "plain_join",
  .glo "_law_cell_at", .glo "_law_mix", .glo "_law_draw", .glo "_law_names", .glo "_law_content", .glo "_law_order", .glo "_law_record", .glo "_law_side", .glo "_law_path", .glo "_law_lines", .glo "_law_plain",
  .glo "_law_comes", .glo "law", .free "sorted", .free "set", .free "len", .free "range", .free "min", .free "max", .free "tuple", .free "list", .free "zip", .free "int", .cls "Plain", .cls "Chapter", .noat "Plain" "records",
  .meth "Plain" "has", .meth "Plain" "state", .meth "Plain" "names", .meth "Plain" "under", .meth "Plain" "lines_under", .meth "Plain" "lines", .meth "Plain" "lay", .meth "Chapter" "word", .meth "Chapter" "holds", .mkr "Plain"]
/-- a class that is made by object's own __init__ -/
def mk0 (K : PySem.W.Frag) (x : Str) : Bool := PySem.W.makesIn K (He.ga K x) && (He.eqO (PySem.W.findIn K (.ref (He.ga K x)) "__init__") (some (some (.builtin "object.__init__"))) && PySem.W.keepIn K (.ref (He.ga K x)))
def mk3 (K : PySem.W.Frag) : Bool := mk0 K "Chapter" && (mk0 K "Para" && mk0 K "Table")
def obK (K : PySem.W.Frag) : He.AlD × Bool := (He.obsD fa fn K, mk3 K)
def obX (n : Nat) (g : Addr → Option Obj) : He.AlD × Bool := obK (He.frG g (He.asD g n))
def SaysK (K : PySem.W.Frag) : Prop := He.SaysD fa fn K ∧ mk3 K = true
def hk : PySem.W.Hook where
  α := He.AlD × Bool
  obs := fun s => obX 4 s.heap.get?
  val := fun _ => (He.valD fn, true)
  says := fun _ h => ∃ K : PySem.W.Frag, K.In h ∧ SaysK K
  of := fun _ _ e => ⟨_, He.frG_in, congrArg Prod.fst e, congrArg Prod.snd e⟩
  keeps := fun _ _ _ ⟨K, hK, c⟩ k => ⟨K, PySem.W.Frag.In.keeps hK k, c⟩
def ob (s : PySem.W.SharedT) : He.AlD × Bool := obX 4 (HandSHeadRun.getT s)
theorem ob_eq (s : PySem.W.SharedT) : ob s = hk.obs s.abs := by
  have e : HandSHeadRun.getT s = s.abs.heap.get? := funext fun a => HandSHeadRun.getT_eq s a
  show obX 4 (HandSHeadRun.getT s) = obX 4 s.abs.heap.get?
  rw [e]
abbrev R : PySem.W.OpenRow := PySem.W.OpenLaw.row PySem.Challenge.rw_manyleaf_k71_one_side
abbrev loose1 : List Str := ["_wall", "LeafError", "EditError", "NoPart", "Plain", "Kind", "Chapter", "Para", "cell_shown", "Table", "kind_of_word", "state_in", "rank_of_state", "settled_place", "settled_records", "settled", "unheld"]
abbrev loose2 : List Str := ["ringed", "to_the_top", "loosened", "lay_beneath", "plain_join", "_law_cell_at", "_law_mix", "_law_draw", "_law_names", "_law_content", "_law_order", "_law_record", "_law_side", "_law_path", "_law_lines", "_law_plain", "_law_comes"]
abbrev loose : List Str := loose1 ++ loose2
theorem run (w : World) : HandSHeadRun.RunEq R (PySem.W.view R.prog [39]) hk ob 6000 loose w := by
  intro os
  kernel_rfl
end Lf

/-! the head's facts, put to the walk; the statement -/
namespace Lf
open PySem PySem.Spec PyProof.Rows L2
theorem mk0_ok {K : PySem.W.Frag} {x : Str} (h : mk0 K x = true) : Mk0 K (He.ga K x) := by
  unfold mk0 at h
  rw [Bool.and_eq_true, Bool.and_eq_true] at h
  exact ⟨h.1, He.eqO_ok h.2.1, h.2.2⟩
theorem mk3_ok {K : PySem.W.Frag} (h : mk3 K = true) : Mk0 K (He.ga K "Chapter") ∧ Mk0 K (He.ga K "Para") ∧ Mk0 K (He.ga K "Table") := by
  unfold mk3 at h
  rw [Bool.and_eq_true, Bool.and_eq_true] at h
  exact ⟨mk0_ok h.1, mk0_ok h.2.1, mk0_ok h.2.2⟩
theorem facts {P : Program} {w : World} {K : PySem.W.Frag} {h : Heap} {mg : Str → Option Value} {f : Addr} (X : K.In h) (G : h.Ns mainGlobals mg) (hfa : mg ("law" : Str) = some (.ref f)) (c : SaysK K) :
    ∃ fd : FuncData, (∀ (s : Shared) (v : Value), BindsTo s fd ⟨[v], []⟩ [("_law_script", v)]) ∧ ∀ base : Heap, K.In base → base.Ns mainGlobals mg → FnOk P w K mg base CX0 15 f fd ["_law_script"] (spLaw K) := by
  obtain ⟨fd0, F0⟩ : ∃ fd, FnP K "__init__" "Plain.__init__" sPInit (He.ma K (He.ga K "Plain") "__init__") fd := c.1.def_ 0 (d := md "Plain" "__init__" "Plain.__init__" sPInit) rfl
  have b0 : Binds K fd0 ["self"] [] := FunD.bindsN (ps := ["self"]) F0 fun _ _ _ _ _ _ us hl => match us, hl with | [_], _ => rfl
  obtain ⟨fd1, F1⟩ : ∃ fd, FnP K "has" "Plain.has" sHas (He.ma K (He.ga K "Plain") "has") fd := c.1.def_ 1 (d := md "Plain" "has" "Plain.has" sHas) rfl
  have b1 : Binds K fd1 ["self", "name"] [] := FunD.bindsN (ps := ["self", "name"]) F1 fun _ _ _ _ _ _ us hl => match us, hl with | [_, _], _ => rfl
  obtain ⟨fd2, F2⟩ : ∃ fd, FnP K "state" "Plain.state" sState (He.ma K (He.ga K "Plain") "state") fd := c.1.def_ 2 (d := md "Plain" "state" "Plain.state" sState) rfl
  have b2 : Binds K fd2 ["self", "name"] [] := FunD.bindsN (ps := ["self", "name"]) F2 fun _ _ _ _ _ _ us hl => match us, hl with | [_, _], _ => rfl
  obtain ⟨fd3, F3⟩ : ∃ fd, FnP K "names" "Plain.names" sNames (He.ma K (He.ga K "Plain") "names") fd := c.1.def_ 3 (d := md "Plain" "names" "Plain.names" sNames) rfl
  have b3 : Binds K fd3 ["self"] [] := FunD.bindsN (ps := ["self"]) F3 fun _ _ _ _ _ _ us hl => match us, hl with | [_], _ => rfl
  obtain ⟨fd4, F4⟩ : ∃ fd, FnP K "under" "Plain.under" sUnder (He.ma K (He.ga K "Plain") "under") fd := c.1.def_ 4 (d := md "Plain" "under" "Plain.under" sUnder) rfl
  have b4 : Binds K fd4 ["self", "parent"] [] := FunD.bindsN (ps := ["self", "parent"]) F4 fun _ _ _ _ _ _ us hl => match us, hl with | [_, _], _ => rfl
  obtain ⟨fd5, F5⟩ : ∃ fd, FnP K "lines_under" "Plain.lines_under" sLinesU (He.ma K (He.ga K "Plain") "lines_under") fd := c.1.def_ 5 (d := md "Plain" "lines_under" "Plain.lines_under" sLinesU) rfl
  have b5 : Binds K fd5 ["self", "parent", "depth"] [] := FunD.bindsN (ps := ["self", "parent", "depth"]) F5 fun _ _ _ _ _ _ us hl => match us, hl with | [_, _, _], _ => rfl
  obtain ⟨fd6, F6⟩ : ∃ fd, FnP K "lines" "Plain.lines" sLines (He.ma K (He.ga K "Plain") "lines") fd := c.1.def_ 6 (d := md "Plain" "lines" "Plain.lines" sLines) rfl
  have b6 : Binds K fd6 ["self"] [] := FunD.bindsN (ps := ["self"]) F6 fun _ _ _ _ _ _ us hl => match us, hl with | [_], _ => rfl
  obtain ⟨fd7, F7⟩ : ∃ fd, FnP K "lay" "Plain.lay" sLay (He.ma K (He.ga K "Plain") "lay") fd := c.1.def_ 7 (d := md "Plain" "lay" "Plain.lay" sLay) rfl
  have b7 : Binds K fd7 ["self", "name", "kind", "parent", "rank", "content"] [] := FunD.bindsN (ps := ["self", "name", "kind", "parent", "rank", "content"]) F7 fun _ _ _ _ _ _ us hl => match us, hl with | [_, _, _, _, _, _], _ => rfl
  obtain ⟨fd8, F8⟩ : ∃ fd, FnP K "word" "Chapter.word" sWord (He.ma K (He.ga K "Chapter") "word") fd := c.1.def_ 8 (d := md "Chapter" "word" "Chapter.word" sWord) rfl
  have b8 : Binds K fd8 ["self"] [] := FunD.bindsN (ps := ["self"]) F8 fun _ _ _ _ _ _ us hl => match us, hl with | [_], _ => rfl
  obtain ⟨fd9, F9⟩ : ∃ fd, FnP K "holds" "Chapter.holds" sHolds (He.ma K (He.ga K "Chapter") "holds") fd := c.1.def_ 9 (d := md "Chapter" "holds" "Chapter.holds" sHolds) rfl
  have b9 : Binds K fd9 ["self"] [] := FunD.bindsN (ps := ["self"]) F9 fun _ _ _ _ _ _ us hl => match us, hl with | [_], _ => rfl
  obtain ⟨fd10, F10⟩ : ∃ fd, FnP K "kind_of_word" "kind_of_word" sKow (He.ga K "kind_of_word") fd := c.1.def_ 10 (d := gd "kind_of_word" sKow) rfl
  have b10 : Binds K fd10 ["word"] [] := FunD.bindsN (ps := ["word"]) F10 fun _ _ _ _ _ _ us hl => match us, hl with | [_], _ => rfl
  obtain ⟨fd11, F11⟩ : ∃ fd, FnP K "state_in" "state_in" sStateIn (He.ga K "state_in") fd := c.1.def_ 11 (d := gd "state_in" sStateIn) rfl
  have b11 : Binds K fd11 ["plain", "name"] [] := FunD.bindsN (ps := ["plain", "name"]) F11 fun _ _ _ _ _ _ us hl => match us, hl with | [_, _], _ => rfl
  obtain ⟨fd12, F12⟩ : ∃ fd, FnP K "settled" "settled" sSettled (He.ga K "settled") fd := c.1.def_ 12 (d := gd "settled" sSettled) rfl
  have b12 : Binds K fd12 ["elder", "one", "other"] [] := FunD.bindsN (ps := ["elder", "one", "other"]) F12 fun _ _ _ _ _ _ us hl => match us, hl with | [_, _, _], _ => rfl
  obtain ⟨fd13, F13⟩ : ∃ fd, FnP K "unheld" "unheld" sUnheld (He.ga K "unheld") fd := c.1.def_ 13 (d := gd "unheld" sUnheld) rfl
  have b13 : Binds K fd13 ["records"] [] := FunD.bindsN (ps := ["records"]) F13 fun _ _ _ _ _ _ us hl => match us, hl with | [_], _ => rfl
  obtain ⟨fd14, F14⟩ : ∃ fd, FnP K "ringed" "ringed" sRinged (He.ga K "ringed") fd := c.1.def_ 14 (d := gd "ringed" sRinged) rfl
  have b14 : Binds K fd14 ["records"] [] := FunD.bindsN (ps := ["records"]) F14 fun _ _ _ _ _ _ us hl => match us, hl with | [_], _ => rfl
  obtain ⟨fd15, F15⟩ : ∃ fd, FnP K "loosened" "loosened" sLoosened (He.ga K "loosened") fd := c.1.def_ 15 (d := gd "loosened" sLoosened) rfl
  have b15 : Binds K fd15 ["records"] [] := FunD.bindsN (ps := ["records"]) F15 fun _ _ _ _ _ _ us hl => match us, hl with | [_], _ => rfl
  obtain ⟨fd16, F16⟩ : ∃ fd, FnP K "lay_beneath" "lay_beneath" sLayB (He.ga K "lay_beneath") fd := c.1.def_ 16 (d := gd "lay_beneath" sLayB) rfl
  have b16 : Binds K fd16 ["plain", "records", "parent"] [] := FunD.bindsN (ps := ["plain", "records", "parent"]) F16 fun _ _ _ _ _ _ us hl => match us, hl with | [_, _, _], _ => rfl
  obtain ⟨fd17, F17⟩ : ∃ fd, FnP K "plain_join" "plain_join" sJoin (He.ga K "plain_join") fd := c.1.def_ 17 (d := gd "plain_join" sJoin) rfl
  have b17 : Binds K fd17 ["elder", "one", "other"] [] := FunD.bindsN (ps := ["elder", "one", "other"]) F17 fun _ _ _ _ _ _ us hl => match us, hl with | [_, _, _], _ => rfl
  obtain ⟨fd18, F18⟩ : ∃ fd, FnP K "_law_cell_at" "_law_cell_at" sCellAt (He.ga K "_law_cell_at") fd := c.1.def_ 18 (d := gd "_law_cell_at" sCellAt) rfl
  have b18 : Binds K fd18 ["_law_script", "_law_k"] [] := FunD.bindsN (ps := ["_law_script", "_law_k"]) F18 fun _ _ _ _ _ _ us hl => match us, hl with | [_, _], _ => rfl
  obtain ⟨fd19, F19⟩ : ∃ fd, FnP K "_law_mix" "_law_mix" sMix (He.ga K "_law_mix") fd := c.1.def_ 19 (d := gd "_law_mix" sMix) rfl
  have b19 : Binds K fd19 ["_law_cell", "_law_k"] [] := FunD.bindsN (ps := ["_law_cell", "_law_k"]) F19 fun _ _ _ _ _ _ us hl => match us, hl with | [_, _], _ => rfl
  obtain ⟨fd20, F20⟩ : ∃ fd, FnP K "_law_draw" "_law_draw" sDraw (He.ga K "_law_draw") fd := c.1.def_ 20 (d := gd "_law_draw" sDraw) rfl
  have b20 : Binds K fd20 ["_law_cell", "_law_k"] [] := FunD.bindsN (ps := ["_law_cell", "_law_k"]) F20 fun _ _ _ _ _ _ us hl => match us, hl with | [_, _], _ => rfl
  obtain ⟨fd21, F21⟩ : ∃ fd, FnP K "_law_names" "_law_names" sLNames (He.ga K "_law_names") fd := c.1.def_ 21 (d := gd "_law_names" sLNames) rfl
  have b21 : Binds K fd21 ["_law_cell", "_law_many"] [] := FunD.bindsN (ps := ["_law_cell", "_law_many"]) F21 fun _ _ _ _ _ _ us hl => match us, hl with | [_, _], _ => rfl
  obtain ⟨fd22, F22⟩ : ∃ fd, FnP K "_law_content" "_law_content" sContent (He.ga K "_law_content") fd := c.1.def_ 22 (d := gd "_law_content" sContent) rfl
  have b22 : Binds K fd22 ["_law_kind", "_law_name", "_law_number"] [] := FunD.bindsN (ps := ["_law_kind", "_law_name", "_law_number"]) F22 fun _ _ _ _ _ _ us hl => match us, hl with | [_, _, _], _ => rfl
  obtain ⟨fd23, F23⟩ : ∃ fd, FnP K "_law_order" "_law_order" sOrder (He.ga K "_law_order") fd := c.1.def_ 23 (d := gd "_law_order" sOrder) rfl
  have b23 : Binds K fd23 ["_law_cell", "_law_names_here"] [] := FunD.bindsN (ps := ["_law_cell", "_law_names_here"]) F23 fun _ _ _ _ _ _ us hl => match us, hl with | [_, _], _ => rfl
  obtain ⟨fd24, F24⟩ : ∃ fd, FnP K "_law_record" "_law_record" sRecord (He.ga K "_law_record") fd := c.1.def_ 24 (d := gd "_law_record" sRecord) rfl
  have b24 : Binds K fd24 ["_law_records", "_law_name", "_law_cell", "_law_k", "_law_kinds"] [] := FunD.bindsN (ps := ["_law_records", "_law_name", "_law_cell", "_law_k", "_law_kinds"]) F24 fun _ _ _ _ _ _ us hl => match us, hl with | [_, _, _, _, _], _ => rfl
  obtain ⟨fd25, F25⟩ : ∃ fd, FnP K "_law_side" "_law_side" sSide (He.ga K "_law_side") fd := c.1.def_ 25 (d := gd "_law_side" sSide) rfl
  have b25 : Binds K fd25 ["_law_cell", "_law_names_here", "_law_elder", "_law_kinds"] [] := FunD.bindsN (ps := ["_law_cell", "_law_names_here", "_law_elder", "_law_kinds"]) F25 fun _ _ _ _ _ _ us hl => match us, hl with | [_, _, _, _], _ => rfl
  obtain ⟨fd26, F26⟩ : ∃ fd, FnP K "_law_path" "_law_path" sPath (He.ga K "_law_path") fd := c.1.def_ 26 (d := gd "_law_path" sPath) rfl
  have b26 : Binds K fd26 ["_law_records", "_law_name"] [] := FunD.bindsN (ps := ["_law_records", "_law_name"]) F26 fun _ _ _ _ _ _ us hl => match us, hl with | [_, _], _ => rfl
  obtain ⟨fd27, F27⟩ : ∃ fd, FnP K "_law_lines" "_law_lines" sLLines (He.ga K "_law_lines") fd := c.1.def_ 27 (d := gd "_law_lines" sLLines) rfl
  have b27 : Binds K fd27 ["_law_records"] [] := FunD.bindsN (ps := ["_law_records"]) F27 fun _ _ _ _ _ _ us hl => match us, hl with | [_], _ => rfl
  obtain ⟨fd28, F28⟩ : ∃ fd, FnP K "_law_plain" "_law_plain" sLPlain (He.ga K "_law_plain") fd := c.1.def_ 28 (d := gd "_law_plain" sLPlain) rfl
  have b28 : Binds K fd28 ["_law_records"] [] := FunD.bindsN (ps := ["_law_records"]) F28 fun _ _ _ _ _ _ us hl => match us, hl with | [_], _ => rfl
  obtain ⟨fd29, F29⟩ : ∃ fd, FnP K "_law_comes" "_law_comes" sComes (He.ga K "_law_comes") fd := c.1.def_ 29 (d := gd "_law_comes" sComes) rfl
  have b29 : Binds K fd29 ["_law_elder", "_law_one", "_law_other", "_law_due"] [] := FunD.bindsN (ps := ["_law_elder", "_law_one", "_law_other", "_law_due"]) F29 fun _ _ _ _ _ _ us hl => match us, hl with | [_, _, _, _], _ => rfl
  obtain ⟨fd30, F30⟩ : ∃ fd, FnP K "law" "law" sLaw (He.ga K "law") fd := c.1.def_ 30 (d := gd "law" sLaw) rfl
  have b30 : Binds K fd30 ["_law_script"] [] := FunD.bindsN (ps := ["_law_script"]) F30 fun _ _ _ _ _ _ us hl => match us, hl with | [_], _ => rfl
  have g_Plain : mg "Plain" = some (.ref (He.ga K "Plain")) := He.glo_ok X G (c.1.fact 0 (f := .glo "Plain") rfl)
  have g_Chapter : mg "Chapter" = some (.ref (He.ga K "Chapter")) := He.glo_ok X G (c.1.fact 1 (f := .glo "Chapter") rfl)
  have g_Para : mg "Para" = some (.ref (He.ga K "Para")) := He.glo_ok X G (c.1.fact 2 (f := .glo "Para") rfl)
  have g_Table : mg "Table" = some (.ref (He.ga K "Table")) := He.glo_ok X G (c.1.fact 3 (f := .glo "Table") rfl)
  have g_kind_of_word : mg "kind_of_word" = some (.ref (He.ga K "kind_of_word")) := He.glo_ok X G (c.1.fact 4 (f := .glo "kind_of_word") rfl)
  have g_state_in : mg "state_in" = some (.ref (He.ga K "state_in")) := He.glo_ok X G (c.1.fact 5 (f := .glo "state_in") rfl)
  have g_settled : mg "settled" = some (.ref (He.ga K "settled")) := He.glo_ok X G (c.1.fact 6 (f := .glo "settled") rfl)
  have g_unheld : mg "unheld" = some (.ref (He.ga K "unheld")) := He.glo_ok X G (c.1.fact 7 (f := .glo "unheld") rfl)
  have g_ringed : mg "ringed" = some (.ref (He.ga K "ringed")) := He.glo_ok X G (c.1.fact 8 (f := .glo "ringed") rfl)
  have g_loosened : mg "loosened" = some (.ref (He.ga K "loosened")) := He.glo_ok X G (c.1.fact 9 (f := .glo "loosened") rfl)
  have g_lay_beneath : mg "lay_beneath" = some (.ref (He.ga K "lay_beneath")) := He.glo_ok X G (c.1.fact 10 (f := .glo "lay_beneath") rfl)
  have g_plain_join : mg "plain_join" = some (.ref (He.ga K "plain_join")) := He.glo_ok X G (c.1.fact 11 (f := .glo "plain_join") rfl)
  have g__law_cell_at : mg "_law_cell_at" = some (.ref (He.ga K "_law_cell_at")) := He.glo_ok X G (c.1.fact 12 (f := .glo "_law_cell_at") rfl)
  have g__law_mix : mg "_law_mix" = some (.ref (He.ga K "_law_mix")) := He.glo_ok X G (c.1.fact 13 (f := .glo "_law_mix") rfl)
  have g__law_draw : mg "_law_draw" = some (.ref (He.ga K "_law_draw")) := He.glo_ok X G (c.1.fact 14 (f := .glo "_law_draw") rfl)
  have g__law_names : mg "_law_names" = some (.ref (He.ga K "_law_names")) := He.glo_ok X G (c.1.fact 15 (f := .glo "_law_names") rfl)
  have g__law_content : mg "_law_content" = some (.ref (He.ga K "_law_content")) := He.glo_ok X G (c.1.fact 16 (f := .glo "_law_content") rfl)
  have g__law_order : mg "_law_order" = some (.ref (He.ga K "_law_order")) := He.glo_ok X G (c.1.fact 17 (f := .glo "_law_order") rfl)
  have g__law_record : mg "_law_record" = some (.ref (He.ga K "_law_record")) := He.glo_ok X G (c.1.fact 18 (f := .glo "_law_record") rfl)
  have g__law_side : mg "_law_side" = some (.ref (He.ga K "_law_side")) := He.glo_ok X G (c.1.fact 19 (f := .glo "_law_side") rfl)
  have g__law_path : mg "_law_path" = some (.ref (He.ga K "_law_path")) := He.glo_ok X G (c.1.fact 20 (f := .glo "_law_path") rfl)
  have g__law_lines : mg "_law_lines" = some (.ref (He.ga K "_law_lines")) := He.glo_ok X G (c.1.fact 21 (f := .glo "_law_lines") rfl)
  have g__law_plain : mg "_law_plain" = some (.ref (He.ga K "_law_plain")) := He.glo_ok X G (c.1.fact 22 (f := .glo "_law_plain") rfl)
  have g__law_comes : mg "_law_comes" = some (.ref (He.ga K "_law_comes")) := He.glo_ok X G (c.1.fact 23 (f := .glo "_law_comes") rfl)
  have g_law : mg "law" = some (.ref (He.ga K "law")) := He.glo_ok X G (c.1.fact 24 (f := .glo "law") rfl)
  have mS : mg "sorted" = none := He.free_ok X G (c.1.fact 25 (f := .free "sorted") rfl)
  have mSet : mg "set" = none := He.free_ok X G (c.1.fact 26 (f := .free "set") rfl)
  have mL : mg "len" = none := He.free_ok X G (c.1.fact 27 (f := .free "len") rfl)
  have mR : mg "range" = none := He.free_ok X G (c.1.fact 28 (f := .free "range") rfl)
  have mMi : mg "min" = none := He.free_ok X G (c.1.fact 29 (f := .free "min") rfl)
  have mMa : mg "max" = none := He.free_ok X G (c.1.fact 30 (f := .free "max") rfl)
  have mT : mg "tuple" = none := He.free_ok X G (c.1.fact 31 (f := .free "tuple") rfl)
  have mLi : mg "list" = none := He.free_ok X G (c.1.fact 32 (f := .free "list") rfl)
  have mZ : mg "zip" = none := He.free_ok X G (c.1.fact 33 (f := .free "zip") rfl)
  have mI : mg "int" = none := He.free_ok X G (c.1.fact 34 (f := .free "int") rfl)
  have clP : Cls K (He.ga K "Plain") := He.cls_ok (c.1.fact 35 (f := .cls "Plain") rfl)
  have clC : Cls K (He.ga K "Chapter") := He.cls_ok (c.1.fact 36 (f := .cls "Chapter") rfl)
  have T : PlT K (He.ga K "Plain") := ⟨clP, He.noat_ok (c.1.fact 37 (f := .noat "Plain" "records") rfl)⟩
  have meHas : Meth K (He.ga K "Plain") "has" (He.ma K (He.ga K "Plain") "has") := He.meth_ok (c.1.fact 38 (f := .meth "Plain" "has") rfl)
  have meState : Meth K (He.ga K "Plain") "state" (He.ma K (He.ga K "Plain") "state") := He.meth_ok (c.1.fact 39 (f := .meth "Plain" "state") rfl)
  have meNames : Meth K (He.ga K "Plain") "names" (He.ma K (He.ga K "Plain") "names") := He.meth_ok (c.1.fact 40 (f := .meth "Plain" "names") rfl)
  have meUnder : Meth K (He.ga K "Plain") "under" (He.ma K (He.ga K "Plain") "under") := He.meth_ok (c.1.fact 41 (f := .meth "Plain" "under") rfl)
  have meLinesU : Meth K (He.ga K "Plain") "lines_under" (He.ma K (He.ga K "Plain") "lines_under") := He.meth_ok (c.1.fact 42 (f := .meth "Plain" "lines_under") rfl)
  have meLines : Meth K (He.ga K "Plain") "lines" (He.ma K (He.ga K "Plain") "lines") := He.meth_ok (c.1.fact 43 (f := .meth "Plain" "lines") rfl)
  have meLay : Meth K (He.ga K "Plain") "lay" (He.ma K (He.ga K "Plain") "lay") := He.meth_ok (c.1.fact 44 (f := .meth "Plain" "lay") rfl)
  have meWord : Meth K (He.ga K "Chapter") "word" (He.ma K (He.ga K "Chapter") "word") := He.meth_ok (c.1.fact 45 (f := .meth "Chapter" "word") rfl)
  have meHolds : Meth K (He.ga K "Chapter") "holds" (He.ma K (He.ga K "Chapter") "holds") := He.meth_ok (c.1.fact 46 (f := .meth "Chapter" "holds") rfl)
  have MP : Mk K (He.ga K "Plain") (He.ma K (He.ga K "Plain") "__init__") := He.mkr_ok (c.1.fact 47 (f := .mkr "Plain") rfl)
  obtain ⟨mk1, mk2, mk3⟩ := mk3_ok c.2
  have e := hfa.symm.trans g_law
  cases e
  have b := FunD.bindsA (ps := ["_law_script"]) F30 fun _ _ _ _ _ _ us hl => match us, hl with | [_], _ => rfl
  refine ⟨fd30, fun s v => b s [v] rfl, fun base _ _ => ?_⟩
  have G0 : FnOk P w K mg base CX0 1 (He.ma K (He.ga K "Plain") "__init__") fd0 ["self"] (spPInit (He.ga K "Plain")) := ok_pinit F0 T
  have G1 : FnOk P w K mg base CX0 1 (He.ma K (He.ga K "Plain") "has") fd1 ["self", "name"] (spHas K (He.ga K "Plain")) := ok_has F1 T
  have G2 : FnOk P w K mg base CX0 1 (He.ma K (He.ga K "Plain") "state") fd2 ["self", "name"] (spState K (He.ga K "Plain")) := ok_state F2 T
  have G3 : FnOk P w K mg base CX0 1 (He.ma K (He.ga K "Plain") "names") fd3 ["self"] (spNames K (He.ga K "Plain")) := ok_names F3 T mS
  have G4 : FnOk P w K mg base CX0 1 (He.ma K (He.ga K "Plain") "under") fd4 ["self", "parent"] (spUnder K (He.ga K "Plain")) := ok_under F4 T mS
  have G5 : FnOk P w K mg base CX0 12 (He.ma K (He.ga K "Plain") "lines_under") fd5 ["self", "parent", "depth"] (spLinesU K (He.ga K "Plain") 11) := ok_linesU F5 T meUnder G4 b4 meLinesU b5 11
  have G6 : FnOk P w K mg base CX0 13 (He.ma K (He.ga K "Plain") "lines") fd6 ["self"] (spLines K (He.ga K "Plain")) := ok_lines F6 T meLinesU G5 b5
  have G7 : FnOk P w K mg base CX0 1 (He.ma K (He.ga K "Plain") "lay") fd7 ["self", "name", "kind", "parent", "rank", "content"] (spLay K (He.ga K "Plain")) := ok_lay F7 T
  have G8 : FnOk P w K mg base CX0 1 (He.ma K (He.ga K "Chapter") "word") fd8 ["self"] (spWord) := ok_word F8
  have G9 : FnOk P w K mg base CX0 1 (He.ma K (He.ga K "Chapter") "holds") fd9 ["self"] (spHolds) := ok_holds F9
  have G10 : FnOk P w K mg base CX0 2 (He.ga K "kind_of_word") fd10 ["word"] (spKow (He.ga K "Chapter")) := ok_kow F10 clC mk1 mk2 mk3 g_Chapter g_Para g_Table meWord G8 b8
  have G11 : FnOk P w K mg base CX0 2 (He.ga K "state_in") fd11 ["plain", "name"] (spStateIn K (He.ga K "Plain")) := ok_stateIn F11 T meHas G1 b1 meState G2 b2
  have G12 : FnOk P w K mg base CX0 1 (He.ga K "settled") fd12 ["elder", "one", "other"] (spSettled K) := ok_settled F12
  have G13 : FnOk P w K mg base CX0 3 (He.ga K "unheld") fd13 ["records"] (spNone K) := ok_unheld F13 mS clC G10 g_kind_of_word F10.kp b10 meHolds G9 b9
  have G14 : FnOk P w K mg base CX0 1 (He.ga K "ringed") fd14 ["records"] (spNone K) := ok_ringed F14 mS mL
  have G15 : FnOk P w K mg base CX0 4 (He.ga K "loosened") fd15 ["records"] (spNone K) := ok_loosened F15 G13 g_unheld F13.kp b13 G14 g_ringed F14.kp b14
  have G16 : FnOk P w K mg base CX0 12 (He.ga K "lay_beneath") fd16 ["plain", "records", "parent"] (spLayB K (He.ga K "Plain") 11) := ok_layB F16 T mS meLay G7 b7 g_lay_beneath b16 11
  have G17 : FnOk P w K mg base CX0 13 (He.ga K "plain_join") fd17 ["elder", "one", "other"] (spJoin K (He.ga K "Plain")) := ok_join F17 T g_Plain MP G0 b0 mS mSet meNames G3 b3 G11 g_state_in F11.kp b11 G12 g_settled F12.kp b12 G15 g_loosened F15.kp b15 G16 g_lay_beneath F16.kp b16
  have G18 : FnOk P w K mg base CX0 1 (He.ga K "_law_cell_at") fd18 ["_law_script", "_law_k"] (spCellAt K) := ok_cellAt F18 mL
  have G19 : FnOk P w K mg base CX0 1 (He.ga K "_law_mix") fd19 ["_law_cell", "_law_k"] (spMix) := ok_mix F19
  have G20 : FnOk P w K mg base CX0 2 (He.ga K "_law_draw") fd20 ["_law_cell", "_law_k"] (spDraw) := ok_draw F20 G19 g__law_mix F19.kp b19
  have G21 : FnOk P w K mg base CX0 2 (He.ga K "_law_names") fd21 ["_law_cell", "_law_many"] (spLNames K) := ok_lnames F21 mR G19 g__law_mix F19.kp b19
  have G22 : FnOk P w K mg base CX0 1 (He.ga K "_law_content") fd22 ["_law_kind", "_law_name", "_law_number"] (spContent K) := ok_content F22 mL mI mR mT
  have G23 : FnOk P w K mg base CX0 3 (He.ga K "_law_order") fd23 ["_law_cell", "_law_names_here"] (spOrder K) := ok_order F23 mL mLi mR G20 g__law_draw F20.kp b20
  have G24 : FnOk P w K mg base CX0 3 (He.ga K "_law_record") fd24 ["_law_records", "_law_name", "_law_cell", "_law_k", "_law_kinds"] (spRecord K) := ok_record F24 mL G20 g__law_draw F20.kp b20 G22 g__law_content F22.kp b22
  have G25 : FnOk P w K mg base CX0 4 (He.ga K "_law_side") fd25 ["_law_cell", "_law_names_here", "_law_elder", "_law_kinds"] (spSide K) := ok_side F25 G20 g__law_draw F20.kp b20 G22 g__law_content F22.kp b22 G23 g__law_order F23.kp b23 G24 g__law_record F24.kp b24
  have G26 : FnOk P w K mg base CX0 1 (He.ga K "_law_path") fd26 ["_law_records", "_law_name"] (spPath K) := ok_path F26 mT
  have G27 : FnOk P w K mg base CX0 2 (He.ga K "_law_lines") fd27 ["_law_records"] (spLLines K) := ok_llines F27 mL mS G26 g__law_path F26.kp b26
  have G28 : FnOk P w K mg base CX0 3 (He.ga K "_law_plain") fd28 ["_law_records"] (spLPlain K (He.ga K "Plain")) := ok_lplain F28 T g_Plain MP G0 b0 meLay G7 b7
  have G29 : FnOk P w K mg base CX0 14 (He.ga K "_law_comes") fd29 ["_law_elder", "_law_one", "_law_other", "_law_due"] (spComes K) := ok_comes F29 T mZ G28 g__law_plain F28.kp b28 G17 g_plain_join F17.kp b17 G27 g__law_lines F27.kp b27 meLines G6 b6 meNames G3 b3 meLay G7 b7
  have G30 : FnOk P w K mg base CX0 15 (He.ga K "law") fd30 ["_law_script"] (spLaw K) := ok_law F30 mR mMi mMa mL G18 g__law_cell_at F18.kp b18 G21 g__law_names F21.kp b21 G25 g__law_side F25.kp b25 G27 g__law_lines F27.kp b27 G29 g__law_comes F29.kp b29
  exact G30
end Lf
open PySem PySem.W PySem.Calls PyProof.Rows
theorem PySem.Challenge.cw_manyleaf_k71_one_side_holds : PySem.Challenge.rw_manyleaf_k71_one_side.Holds := by
  w_on; o_law
  refine HandSHeadRun.head_any (r := OpenLaw.row PySem.Challenge.rw_manyleaf_k71_one_side) (q := view (OpenLaw.row PySem.Challenge.rw_manyleaf_k71_one_side).prog [39]) (H := Lf.hk) (ob := Lf.ob) (M := 6000) (loose := Lf.loose) (d := HandSHeadRun.topDef (OpenLaw.row PySem.Challenge.rw_manyleaf_k71_one_side).prog 39) (kwd := []) Lf.ob_eq
    (by kernel_rfl) (fun s => by kernel_rfl) Lf.run (by kernel_rfl) (by kernel_rfl) (by kernel_rfl) (by rfl) (by first | assumption | decide +kernel) (by decide +kernel) ⟨rfl, rfl, rfl, rfl, rfl, by decide +kernel⟩ ?hw ?hc
  case hw => w_witness2
  case hc =>
    refine L2.walk_ofE (l := PySem.Challenge.rw_manyleaf_k71_one_side) (n := 63) (k := 15) (x := "_law_script") (CX := L2.CX0) rfl (by decide) (by kernel_rfl) ⟨rfl, by decide, by decide⟩ ?F (fun _ _ _ _ z => z)
    intro w mg fa h Y G hmg0
    obtain ⟨K, KX, c⟩ := Y
    have hmg : mg ("law" : PySem.Str) = some (.ref fa) := by
      have e : (HandSHeadRun.topDef (OpenLaw.row PySem.Challenge.rw_manyleaf_k71_one_side).prog 39).name = ("law" : PySem.Str) := by kernel_rfl
      rw [← e]
      exact hmg0
    obtain ⟨fd, hb, hF⟩ := Lf.facts (P := (PySem.Challenge.rw_manyleaf_k71_one_side).prog) (w := w) KX G hmg c
    exact ⟨K, fd, Lf.spLaw K, KX, hb, fun H a ns hl _ hS => ⟨a, ns, rfl, hS, Nat.le_trans hl (by decide), fun _ => rfl⟩, hF⟩

