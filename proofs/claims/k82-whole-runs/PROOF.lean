import PyProof.Rows.All
import Wide.All
import OpenK.AllK
import Wide.FinOn
import HandS.ForMost
import HandS.Zip
import HandS.Conv
import HandS.Style
import HandS.TupAny
import HandS.TupMul
import HandS.SortRule
import HandS.SortInts
import HandS.IsInst
import HandS.Deep
import HandS.Wide
import HandS.Lambda
import KE.GoesEnum
import KE.GoesMore
import KE.DataMinMax
import HandS.More
import KE.KUnpackStar
import PySem.Challenge.RW_readskew_k82_whole_runs_shown_or_blamed
import KE.KStateDown
import KE.KNestM
import HandS.Head0
import HandS.Head1
import HandS.Head2
import HandS.HeadEnd
import HandS.HeadHook1
import HandS.HeadHook2
import HandS.DictComp
import HandS.FStrTup
import HandS.EndBits
import HandS.EndTab
set_option Elab.async false
set_option linter.all false
section
set_option maxRecDepth 100000
/-! DL: a layer of pure data over HandS. -/
namespace DL
open PySem PySem.Spec PyProof.Rows L2

/-- pure data -/
inductive D where
  | non | bl (b : Bool) | int (i : Int) | str (x : Str)
  | tup (xs : List D) | lst (xs : List D) | dct (kvs : List (Int × D))
  | mu (xs : List D) | md (kvs : List (Int × D))
  | pot | scr (ns : List Int) | lam (k : Nat) (n : Int) | ty (n : String)

/-- the heap without some addresses -/
def hid (H : Hp) (m : List Addr) : Hp := fun a => if a ∈ m then none else H a
theorem hid_of {H : Hp} {m : List Addr} {a : Addr} {o : HO} (h : hid H m a = some o) : H a = some o ∧ a ∉ m := by
  unfold hid at h
  by_cases e : a ∈ m
  · rw [if_pos e] at h; cases h
  · rw [if_neg e] at h; exact ⟨h, e⟩
theorem hid_in {H : Hp} {m : List Addr} {a : Addr} {o : HO} (h : H a = some o) (e : a ∉ m) : hid H m a = some o := by
  unfold hid; rw [if_neg e]; exact h
/-- what stands stays, but for tables -/
def Ex (G G' : Hp) : Prop := ∀ a o, G a = some o → (∀ ps, o ≠ .tbl ps) → G' a = some o
theorem Ex.refl (G : Hp) : Ex G G := fun _ _ h _ => h
theorem Ex.trans {G G1 G2 : Hp} (a : Ex G G1) (b : Ex G1 G2) : Ex G G2 := fun x o h n => b x o (a x o h n) n
/-- all that stands stays -/
def Nw (H H' : Hp) : Prop := ∀ a o, H a = some o → H' a = some o
theorem Nw.refl (H : Hp) : Nw H H := fun _ _ h => h
theorem Nw.trans {H H1 H2 : Hp} (a : Nw H H1) (b : Nw H1 H2) : Nw H H2 := fun x o h => b x o (a x o h)
theorem Nw.upd {H : Hp} {p : Addr} {o : HO} (h : H p = none) : Nw H (upd H p o) := fun a u e => by
  rw [upd_ne (ne_of_none e h)]; exact e
/-- .. but for the pot and tables -/
def Fr (q : Option Addr) (H H' : Hp) : Prop := ∀ a o, H a = some o → q ≠ some a → (∀ ps, o ≠ .tbl ps) → H' a = some o
theorem Fr.refl (q : Option Addr) (H : Hp) : Fr q H H := fun _ _ h _ _ => h
theorem Fr.trans {q : Option Addr} {H H1 H2 : Hp} (a : Fr q H H1) (b : Fr q H1 H2) : Fr q H H2 := fun x o h n t => b x o (a x o h n t) n t
theorem Nw.fr {q : Option Addr} {H H' : Hp} (n : Nw H H') : Fr q H H' := fun a o h _ _ => n a o h
theorem Fr.ex {q : Option Addr} {H H' : Hp} {m : List Addr} (f : Fr q H H') (hq : ∀ p, q = some p → p ∈ m) : Ex (hid H m) (hid H' m) := fun a o h n => by
  obtain ⟨h1, h2⟩ := hid_of h
  exact hid_in (f a o h1 (fun e => h2 (hq a e)) n) h2
theorem Nw.ex {H H' : Hp} {m : List Addr} (f : Nw H H') : Ex (hid H m) (hid H' m) := fun a o h _ => by
  obtain ⟨h1, h2⟩ := hid_of h
  exact hid_in (f a o h1) h2
theorem Ex.less {H : Hp} {m m' : List Addr} (h : ∀ a ∈ m', a ∈ m) : Ex (hid H m) (hid H m') := fun a o e _ => by
  obtain ⟨h1, h2⟩ := hid_of e
  exact hid_in h1 fun z => h2 (h a z)

section
variable {K : PySem.W.Frag} {q : Option Addr} {G G' : Hp}
theorem rd_ex {a : Addr} {u : HO} (e : Ex G G') (nu : ∀ ps, u ≠ .tbl ps) (h : Rd G a u) : Rd G' a u := by
  rcases h with h | ⟨o, h⟩
  · exact .inl (e a _ h nu)
  · exact .inr ⟨o, e a _ h (fun ps z => by cases z)⟩
theorem sql_ex {a : Addr} {xs : List V} (e : Ex G G') (h : SqL K G a xs) : SqL K G' a xs := by
  rcases h with h | h
  · exact .inl (rd_ex e (fun ps z => by cases z) h)
  · exact .inr h
theorem sqt_ex {a : Addr} {xs : List V} (e : Ex G G') (h : SqT K G a xs) : SqT K G' a xs := by
  rcases h with h | h
  · exact .inl (rd_ex e (fun ps z => by cases z) h)
  · exact .inr h
theorem sql_un {H : Hp} {m : List Addr} {a : Addr} {xs : List V} (h : SqL K (hid H m) a xs) : SqL K H a xs := by
  rcases h with (h | ⟨o, h⟩) | h
  · exact .inl (.inl (hid_of h).1)
  · exact .inl (.inr ⟨o, (hid_of h).1⟩)
  · exact .inr h
theorem sqt_un {H : Hp} {m : List Addr} {a : Addr} {xs : List V} (h : SqT K (hid H m) a xs) : SqT K H a xs := by
  rcases h with (h | ⟨o, h⟩) | h
  · exact .inl (.inl (hid_of h).1)
  · exact .inl (.inr ⟨o, (hid_of h).1⟩)
  · exact .inr h
end

/-! a lambda of one int that compares it with an int that it captured -/
abbrev lamArgs (p : Pos) : Arguments := { posonlyargs := [], args := [{ arg := "one", annotation := none, pos := p }], vararg := none, kwonlyargs := [], kw_defaults := [], kwarg := none, defaults := [] }
abbrev lamBody (op : CmpOp) (p1 p2 p3 : Pos) : Expr := .Compare (.Name "one" p1) [op] [.Name "number" p2] p3
abbrev lamScope : Scope := { kind := .function, names := [("one", .local), ("number", .free)], isGenerator := false, isCoroutine := false, more := [] }
def lamOp : Nat → CmpOp
  | 0 => .Eq
  | 1 => .LtE
  | _ => .GtE
def lamRel (k : Nat) (x n : Int) : Bool := match k with
  | 0 => decide (x = n)
  | 1 => decide (x ≤ n)
  | _ => decide (n ≤ x)
/-- nothing is told of the thing -/
def anyO : HO := .ext fun _ => True
/-- at f stands such a lambda, known as it is, and so its cell -/
def LamG (G : Hp) (k : Nat) (n : Int) (f : Addr) : Prop := ∃ (cc c' : Addr) (q : Str) (a p1 p2 p3 : Pos) (pm ctv : Value) (o : Obj) (t : Tok),
  G f = some (.frz (PySem.W.kla_obj "<lambda>" q (lamArgs a) (lamBody (lamOp k) p1 p2 p3) lamScope [("number", cc)] pm c' ctv) anyO) ∧ G cc = some (.frz o anyO) ∧ o.data = .cell (some (.int n t)) ∧ G c' = some (LamX.CodeO c' q)
theorem LamG.ex {G G' : Hp} {k : Nat} {n : Int} {f : Addr} (e : Ex G G') (h : LamG G k n f) : LamG G' k n f := by
  obtain ⟨cc, c', q, a, p1, p2, p3, pm, ctv, o, t, h1, h2, h3, h4⟩ := h
  exact ⟨cc, c', q, a, p1, p2, p3, pm, ctv, o, t, e _ _ h1 (fun _ z => by cases z), e _ _ h2 (fun _ z => by cases z), h3, e _ _ h4 (fun _ z => by unfold LamX.CodeO at z; cases z)⟩
theorem LamG.un {H : Hp} {m : List Addr} {k : Nat} {n : Int} {f : Addr} (h : LamG (hid H m) k n f) : LamG H k n f := by
  obtain ⟨cc, c', q, a, p1, p2, p3, pm, ctv, o, t, h1, h2, h3, h4⟩ := h
  exact ⟨cc, c', q, a, p1, p2, p3, pm, ctv, o, t, (hid_of h1).1, (hid_of h2).1, h3, (hid_of h4).1⟩

/-- v stands for d in the frozen heap G -/
inductive Rep (K : PySem.W.Frag) (q : Option Addr) (G : Hp) : V → D → Prop
  | non : Rep K q G .non .non
  | bl (b : Bool) : Rep K q G (.bl b) (.bl b)
  | int (i : Int) : Rep K q G (.int i) (.int i)
  | str (x : Str) : Rep K q G (.str x) (.str x)
  | tup {a : Addr} {vs : List V} {ds : List D} : SqT K G a vs → vs.length = ds.length → ds.length ≤ sizeLine → (∀ (i : Nat) (v : V) (d : D), vs[i]? = some v → ds[i]? = some d → Rep K q G v d) → Rep K q G (.ref a) (.tup ds)
  | lst {a : Addr} {vs : List V} {ds : List D} : G a = some (.lst vs) → vs.length = ds.length → ds.length ≤ sizeLine → (∀ (i : Nat) (v : V) (d : D), vs[i]? = some v → ds[i]? = some d → Rep K q G v d) → Rep K q G (.ref a) (.lst ds)
  | dct {a : Addr} {kvs : List (Key × V)} {ds : List (Int × D)} : G a = some (.dK kvs) → kvs.length = ds.length → (∀ (i : Nat) (k : Key) (v : V) (d : Int × D), kvs[i]? = some (k, v) → ds[i]? = some d → k = Sum.inl d.1) →
      (∀ (i : Nat) (k : Key) (v : V) (d : Int × D), kvs[i]? = some (k, v) → ds[i]? = some d → Rep K q G v d.2) → Rep K q G (.ref a) (.dct ds)
  | pot {p : Addr} : q = some p → Rep K q G (.ref p) .pot
  | scr {a : Addr} {ns : List Int} : SqL K G a (ns.map V.int) → ns.length ≤ 63 → Rep K q G (.ref a) (.scr ns)
  | ty (n : String) : Rep K q G (.ty n) (.ty n)
  | lam {f : Addr} {k : Nat} {n : Int} : LamG G k n f → Rep K q G (.ref f) (.lam k n)
theorem Rep.mono {K : PySem.W.Frag} {q : Option Addr} {G G' : Hp} {v : V} {d : D} (e : Ex G G') (h : Rep K q G v d) : Rep K q G' v d := by
  induction h with
  | non => exact .non
  | bl b => exact .bl b
  | int i => exact .int i
  | str x => exact .str x
  | tup h hl hz _ ih => exact .tup (sqt_ex e h) hl hz ih
  | lst h hl hz _ ih => exact .lst (e _ _ h (fun ps z => by cases z)) hl hz ih
  | dct h hl hk _ ih => exact .dct (e _ _ h (fun ps z => by cases z)) hl hk ih
  | pot h => exact .pot h
  | scr h hl => exact .scr (sql_ex e h) hl
  | ty n => exact .ty n
  | lam h => exact .lam (h.ex e)
def Reps (K : PySem.W.Frag) (q : Option Addr) (G : Hp) (vs : List V) (ds : List D) : Prop := vs.length = ds.length ∧ ∀ (i : Nat) (v : V) (d : D), vs[i]? = some v → ds[i]? = some d → Rep K q G v d
def RepK (K : PySem.W.Frag) (q : Option Addr) (G : Hp) (kvs : List (Key × V)) (ds : List (Int × D)) : Prop := kvs.length = ds.length ∧ (∀ (i : Nat) (k : Key) (v : V) (d : Int × D), kvs[i]? = some (k, v) → ds[i]? = some d → k = Sum.inl d.1) ∧
  ∀ (i : Nat) (k : Key) (v : V) (d : Int × D), kvs[i]? = some (k, v) → ds[i]? = some d → Rep K q G v d.2
section
variable {K : PySem.W.Frag} {q : Option Addr} {G G' : Hp}
theorem Reps.mono {vs : List V} {ds : List D} (e : Ex G G') (h : Reps K q G vs ds) : Reps K q G' vs ds := ⟨h.1, fun i v d a b => (h.2 i v d a b).mono e⟩
theorem RepK.mono {vs : List (Key × V)} {ds : List (Int × D)} (e : Ex G G') (h : RepK K q G vs ds) : RepK K q G' vs ds := ⟨h.1, h.2.1, fun i k v d a b => (h.2.2 i k v d a b).mono e⟩
theorem Reps.nil : Reps K q G [] [] := ⟨rfl, fun i v d a _ => by simp at a⟩
theorem Reps.cons {v : V} {d : D} {vs : List V} {ds : List D} (h : Rep K q G v d) (t : Reps K q G vs ds) : Reps K q G (v :: vs) (d :: ds) := ⟨by simp [t.1], fun i v' d' a b => by
  cases i with
  | zero => simp at a b; subst a b; exact h
  | succ i => exact t.2 i v' d' (by simpa using a) (by simpa using b)⟩
theorem Reps.hd {v : V} {d : D} {vs : List V} {ds : List D} (h : Reps K q G (v :: vs) (d :: ds)) : Rep K q G v d := h.2 0 v d rfl rfl
theorem Reps.tl {v : V} {d : D} {vs : List V} {ds : List D} (h : Reps K q G (v :: vs) (d :: ds)) : Reps K q G vs ds := ⟨by simpa using h.1, fun i v' d' a b => h.2 (i + 1) v' d' (by simpa using a) (by simpa using b)⟩
theorem Reps.inv_nil {vs : List V} (h : Reps K q G vs []) : vs = [] := List.eq_nil_of_length_eq_zero (by simpa using h.1)
theorem Reps.inv {vs : List V} {d : D} {ds : List D} (h : Reps K q G vs (d :: ds)) : ∃ v vs', vs = v :: vs' ∧ Rep K q G v d ∧ Reps K q G vs' ds := by
  cases vs with
  | nil => simp [Reps] at h
  | cons v vs' => exact ⟨v, vs', rfl, h.hd, h.tl⟩
theorem Reps.app {vs ws : List V} {ds es : List D} (h : Reps K q G vs ds) (h' : Reps K q G ws es) : Reps K q G (vs ++ ws) (ds ++ es) := by
  refine ⟨by simp [h.1, h'.1], fun i v d a b => ?_⟩
  by_cases hi : i < vs.length
  · rw [List.getElem?_append_left hi] at a
    rw [List.getElem?_append_left (by rw [← h.1]; exact hi)] at b
    exact h.2 i v d a b
  · rw [List.getElem?_append_right (by omega)] at a
    rw [List.getElem?_append_right (by rw [← h.1]; omega), ← h.1] at b
    exact h'.2 _ v d a b
theorem Reps.at_ {vs : List V} {ds : List D} {i : Nat} {d : D} (h : Reps K q G vs ds) (e : ds[i]? = some d) : ∃ v, vs[i]? = some v ∧ Rep K q G v d := by
  have hi : i < vs.length := by rw [h.1]; exact (List.getElem?_eq_some_iff.mp e).1
  exact ⟨vs[i], List.getElem?_eq_getElem hi, h.2 i _ d (List.getElem?_eq_getElem hi) e⟩
theorem Reps.drop {vs : List V} {ds : List D} (n : Nat) (h : Reps K q G vs ds) : Reps K q G (vs.drop n) (ds.drop n) :=
  ⟨by simp [h.1], fun i v d a b => h.2 (n + i) v d (by simpa using a) (by simpa using b)⟩
theorem Reps.take {vs : List V} {ds : List D} (n : Nat) (h : Reps K q G vs ds) : Reps K q G (vs.take n) (ds.take n) := by
  refine ⟨by simp [h.1], fun i v d a b => ?_⟩
  rw [List.getElem?_take] at a b
  split at a
  · rename_i hi
    rw [if_pos hi] at b
    exact h.2 i v d a b
  · cases a
theorem Reps.set {vs : List V} {ds : List D} {v : V} {d : D} (i : Nat) (r : Rep K q G v d) (h : Reps K q G vs ds) : Reps K q G (vs.set i v) (ds.set i d) := by
  refine ⟨by simp [h.1], fun j v' d' a b => ?_⟩
  rw [List.getElem?_set] at a b
  split at a
  · rename_i hj
    rw [if_pos hj] at b
    split at a
    · rename_i hl
      rw [if_pos (by rw [← h.1]; exact hl)] at b
      cases a; cases b; exact r
    · cases a
  · rename_i hj
    rw [if_neg hj] at b
    exact h.2 j v' d' a b
theorem RepK.nil : RepK K q G [] [] := ⟨rfl, fun i k v d a _ => by simp at a, fun i k v d a _ => by simp at a⟩
theorem RepK.cons {k : Int} {v : V} {d : D} {vs : List (Key × V)} {ds : List (Int × D)} (h : Rep K q G v d) (t : RepK K q G vs ds) : RepK K q G ((Sum.inl k, v) :: vs) ((k, d) :: ds) := by
  refine ⟨by simp [t.1], fun i k' v' d' a b => ?_, fun i k' v' d' a b => ?_⟩
  · cases i with
    | zero => simp at a b; subst b; exact a.1.symm
    | succ i => exact t.2.1 i k' v' d' (by simpa using a) (by simpa using b)
  · cases i with
    | zero =>
      simp at a b
      obtain ⟨_, rfl⟩ := a
      subst b
      exact h
    | succ i => exact t.2.2 i k' v' d' (by simpa using a) (by simpa using b)
theorem RepK.inv {vs : List (Key × V)} {p : Int × D} {ds : List (Int × D)} (h : RepK K q G vs (p :: ds)) : ∃ v vs', vs = (Sum.inl p.1, v) :: vs' ∧ Rep K q G v p.2 ∧ RepK K q G vs' ds := by
  cases vs with
  | nil => simp [RepK] at h
  | cons v vs' =>
    obtain ⟨k, v⟩ := v
    have hk := h.2.1 0 k v p rfl rfl
    subst hk
    exact ⟨v, vs', rfl, h.2.2 0 _ v p rfl rfl, by simpa using h.1, fun i k v d a b => h.2.1 (i + 1) k v d (by simpa using a) (by simpa using b), fun i k v d a b => h.2.2 (i + 1) k v d (by simpa using a) (by simpa using b)⟩
theorem RepK.inv_nil {vs : List (Key × V)} (h : RepK K q G vs []) : vs = [] := List.eq_nil_of_length_eq_zero (by simpa using h.1)
end

/-- the pot: three ints, the last one counts the draws -/
def PotOk (q : Option Addr) (S : Nat) (H : Hp) : Prop := ∀ p, q = some p → ∃ a b c : Int, H p = some (.lst [.int a, .int b, .int c]) ∧ 0 ≤ c ∧ c ≤ S
theorem PotOk.nw {q : Option Addr} {S : Nat} {H H' : Hp} (h : PotOk q S H) (n : Nw H H') : PotOk q S H' := fun p e => by
  obtain ⟨a, b, c, h1, h2⟩ := h p e
  exact ⟨a, b, c, n _ _ h1, h2⟩
abbrev Tb := List (Addr × Str)
abbrev Tabs := LamX.Tabs
theorem tabs_keep {T : Tb} {H H' : Hp} (t : Tabs T H) (h : ∀ a o, H a = some o → (∀ xs, o ≠ .lst xs) → (∀ xs, o ≠ .dK xs) → H' a = some o) : Tabs T H' := fun p hp => by
  obtain ⟨ps, h1, h2, h3⟩ := t p hp
  refine ⟨ps, h _ _ h1 (fun _ z => by cases z) (fun _ z => by cases z), h2, fun pos cv hc => ?_⟩
  obtain ⟨c, e1, e2⟩ := h3 pos cv hc
  exact ⟨c, e1, h _ _ e2 (fun _ z => by unfold LamX.CodeO at z; cases z) (fun _ z => by unfold LamX.CodeO at z; cases z)⟩
theorem tabs_nw {T : Tb} {H H' : Hp} (t : Tabs T H) (h : Nw H H') : Tabs T H' := tabs_keep t fun a o e _ _ => h a o e
theorem tabs_upd {T : Tb} {H : Hp} {p : Addr} {o : HO} {xs : List V} (t : Tabs T H) (h : H p = some (.lst xs)) : Tabs T (upd H p o) := tabs_keep t fun a u e n _ => by
  by_cases z : a = p
  · subst z; rw [h] at e; exact absurd (Option.some.inj e).symm (n xs)
  · rw [upd_ne z]; exact e
theorem tabs_updK {T : Tb} {H : Hp} {p : Addr} {o : HO} {xs : List (Key × V)} (t : Tabs T H) (h : H p = some (.dK xs)) : Tabs T (upd H p o) := tabs_keep t fun a u e _ n => by
  by_cases z : a = p
  · subst z; rw [h] at e; exact absurd (Option.some.inj e).symm (n xs)
  · rw [upd_ne z]; exact e

/-- where a def's frame stands: the pot, the heap at its entry, what was hidden then -/
structure DC where
  q : Option Addr
  H0 : Hp
  m0 : List Addr
abbrev DEnv := List (Option D)
inductive Slot (K : PySem.W.Frag) (c : DC) (m : List Addr) (H : Hp) : V → D → Prop
  | fz {v : V} {d : D} : Rep K c.q (hid H m) v d → Slot K c m H v d
  | mu {p : Addr} {vs : List V} {ds : List D} : p ∈ m → p ∉ c.m0 → H p = some (.lst vs) → ds.length ≤ sizeLine → Reps K c.q (hid H m) vs ds → Slot K c m H (.ref p) (.mu ds)
  | md {p : Addr} {vs : List (Key × V)} {ds : List (Int × D)} : p ∈ m → p ∉ c.m0 → H p = some (.dK vs) → ds.length ≤ sizeLine → RepK K c.q (hid H m) vs ds → Slot K c m H (.ref p) (.md ds)
def D.isMut : D → Bool
  | .mu _ => true
  | .md _ => true
  | _ => false
theorem Rep.notMut {K : PySem.W.Frag} {q : Option Addr} {G : Hp} {v : V} {d : D} (h : Rep K q G v d) : d.isMut = false := by cases h <;> rfl
/-- the state of a def's body, at the data level -/
structure Rl (K : PySem.W.Frag) (T : Tb) (c : DC) (m : List Addr) (σ : L2.St) (H : Hp) (S : Nat) (ρ : DEnv) : Prop where
  sub : ∀ a ∈ c.m0, a ∈ m
  qm : ∀ p, c.q = some p → p ∈ c.m0
  dom : ∀ a ∈ m, ∃ o, H a = some o ∧ ∀ ps, o ≠ .tbl ps
  pot : PotOk c.q S H
  tab : Tabs T H
  fr : Fr c.q c.H0 H
  new : ∀ a ∈ m, a ∉ c.m0 → ∀ o, c.H0 a = some o → ∃ ps, o = .tbl ps
  slot : ∀ (i : Nat) (d : D), ρ[i]? = some (some d) → ∃ v, σ[i]? = some (some v) ∧ Slot K c m H v d
  sep : ∀ (i j : Nat) (d e : D) (v : V), i ≠ j → ρ[i]? = some (some d) → ρ[j]? = some (some e) → d.isMut = true → e.isMut = true → σ[i]? = some (some v) → σ[j]? ≠ some (some v)
  len : σ.length = ρ.length
section
variable {K : PySem.W.Frag} {T : Tb} {c : DC} {m m' : List Addr} {σ σ' : L2.St} {H H' : Hp} {S S' : Nat} {ρ ρ' : DEnv}
theorem Rl.qmm (r : Rl K T c m σ H S ρ) : ∀ p, c.q = some p → p ∈ m := fun p e => r.sub p (r.qm p e)
theorem Rl.fresh (r : Rl K T c m σ H S ρ) {p : Addr} (h : H p = none) : p ∉ m := fun z => by
  obtain ⟨o, e, _⟩ := r.dom p z
  rw [h] at e; cases e
/-- behind something that changed nothing but the pot and tables -/
theorem Rl.on (r : Rl K T c m σ H S ρ) (f : Fr c.q H H') (hp : PotOk c.q S' H') (ht : Tabs T H') : Rl K T c m σ H' S' ρ where
  sub := r.sub
  qm := r.qm
  dom := fun a ha => by
    obtain ⟨o, e, n⟩ := r.dom a ha
    by_cases hq : c.q = some a
    · obtain ⟨x, y, z, h1, _⟩ := hp a hq
      exact ⟨_, h1, fun ps z => by cases z⟩
    · exact ⟨o, f a o e hq n, n⟩
  pot := hp
  tab := ht
  fr := r.fr.trans f
  new := r.new
  slot := fun i d e => by
    obtain ⟨v, e1, s⟩ := r.slot i d e
    refine ⟨v, e1, ?_⟩
    have ex : Ex (hid H m) (hid H' m) := f.ex r.qmm
    cases s with
    | fz h => exact .fz (h.mono ex)
    | mu h1 h2 h3 h4 h5 => exact .mu h1 h2 (f _ _ h3 (fun z => h2 (r.qm _ z)) (fun ps z => by cases z)) h4 (h5.mono ex)
    | md h1 h2 h3 h4 h5 => exact .md h1 h2 (f _ _ h3 (fun z => h2 (r.qm _ z)) (fun ps z => by cases z)) h4 (h5.mono ex)
  sep := r.sep
  len := r.len
theorem Rl.nw (r : Rl K T c m σ H S ρ) (f : Nw H H') : Rl K T c m σ H' S ρ := r.on f.fr (r.pot.nw f) (tabs_nw r.tab f)
/-- the slots arranged anew -/
theorem Rl.re (r : Rl K T c m σ H S ρ) (f : Nat → Nat) (hf : ∀ i j, i ≠ j → i < ρ'.length → j < ρ'.length → f i ≠ f j) (hs : ∀ (i : Nat) (d : D), ρ'[i]? = some (some d) → ρ[f i]? = some (some d) ∧ σ'[i]? = σ[f i]?) (hl : σ'.length = ρ'.length) : Rl K T c m σ' H S ρ' where
  sub := r.sub
  qm := r.qm
  dom := r.dom
  pot := r.pot
  tab := r.tab
  fr := r.fr
  new := r.new
  slot := fun i d e => by
    obtain ⟨h1, h2⟩ := hs i d e
    rw [h2]
    exact r.slot _ d h1
  sep := fun i j d e v n h1 h2 h3 h4 h5 => by
    obtain ⟨a1, a2⟩ := hs i d h1
    obtain ⟨b1, b2⟩ := hs j e h2
    rw [b2]
    rw [a2] at h5
    exact r.sep _ _ d e v (hf i j n (List.getElem?_eq_some_iff.mp h1).1 (List.getElem?_eq_some_iff.mp h2).1) a1 b1 h3 h4 h5
  len := hl
theorem Rl.empty (r : Rl K T c m σ H S ρ) : Rl K T c m [] H S [] := ⟨r.sub, r.qm, r.dom, r.pot, r.tab, r.fr, r.new, fun i d e => by simp at e, fun i j d e v _ h => by simp at h, rfl⟩
/-- a slot gets a frozen value -/
theorem Rl.set (r : Rl K T c m σ H S ρ) {v : V} {d : D} (i : Nat) (h : Rep K c.q (hid H m) v d) : Rl K T c m (σ.set i (some v)) H S (ρ.set i (some d)) where
  sub := r.sub
  qm := r.qm
  dom := r.dom
  pot := r.pot
  tab := r.tab
  fr := r.fr
  new := r.new
  slot := fun j e hj => by
    rw [List.getElem?_set] at hj
    split at hj
    · rename_i q
      subst q
      split at hj
      · rename_i hl
        cases hj
        exact ⟨v, by rw [List.getElem?_set_self (by rw [r.len]; exact hl)], .fz h⟩
      · cases hj
    · rename_i q
      rw [List.getElem?_set_ne q]
      exact r.slot j e hj
  sep := fun j k e f w n h1 h2 h3 h4 h5 => by
    have no : ∀ (l : Nat) (x : D), (ρ.set i (some d))[l]? = some (some x) → x.isMut = true → l ≠ i ∧ ρ[l]? = some (some x) := fun l x hx hm => by
      rw [List.getElem?_set] at hx
      split at hx
      · split at hx
        · cases hx
          rw [h.notMut] at hm; cases hm
        · cases hx
      · rename_i q
        exact ⟨fun z => q z.symm, hx⟩
    obtain ⟨n1, a1⟩ := no j e h1 h3
    obtain ⟨n2, a2⟩ := no k f h2 h4
    rw [List.getElem?_set_ne (Ne.symm n1)] at h5
    rw [List.getElem?_set_ne (Ne.symm n2)]
    exact r.sep j k e f w n a1 a2 h3 h4 h5
  len := by simp [r.len]
theorem Rl.length_lt (r : Rl K T c m σ H S ρ) {i : Nat} {d : D} (h : ρ[i]? = some (some d)) : i < σ.length := by
  rw [r.len]; exact (List.getElem?_eq_some_iff.mp h).1
end
end DL
end
section
set_option maxRecDepth 100000
namespace DL
open PySem PySem.Spec PyProof.Rows L2

abbrev DTE := DEnv → Nat → (D → Nat → Prop) → Prop
abbrev DTT := DEnv → Nat → (Bool → Nat → Prop) → Prop
abbrev DTA := DEnv → Nat → (List D → Nat → Prop) → Prop
structure DEnds where
  nx : DEnv → Nat → Prop
  rt : D → Nat → Prop
  bk : DEnv → Nat → Prop := fun _ _ => False
  ct : DEnv → Nat → Prop := fun _ _ => False
abbrev DTS := DEnds → DEnv → Nat → Prop
abbrev DTG := D → DEnv → (DEnv → Prop) → Prop
abbrev DTGs := List D → DEnv → (DEnv → Prop) → Prop
abbrev DSp := List D → Nat → (D → Nat → Prop) → Prop
abbrev DF2 := D → D → (D → Prop) → Prop
abbrev DFn := List D → (D → Prop) → Prop

section
variable (K : PySem.W.Frag) (T : Tb)
class SndE (te : TE) (t : outParam DTE) : Prop where
  run : ∀ (c : DC) (m : List Addr) (σ : L2.St) (H : Hp) (S : Nat) (ρ : DEnv) (Qd : D → Nat → Prop) (Q : VK), Rl K T c m σ H S ρ → t ρ S Qd →
    (∀ v H' S' d, Qd d S' → Rep K c.q (hid H' m) v d → Rl K T c m σ H' S' ρ → Fr c.q H H' → Q v H') → te σ H Q
class SndT (tt : TT) (t : outParam DTT) : Prop where
  run : ∀ (c : DC) (m : List Addr) (σ : L2.St) (H : Hp) (S : Nat) (ρ : DEnv) (Qd : Bool → Nat → Prop) (Q : Bool → Hp → Prop), Rl K T c m σ H S ρ → t ρ S Qd →
    (∀ b H' S', Qd b S' → Rl K T c m σ H' S' ρ → Fr c.q H H' → Q b H') → tt σ H Q
class SndA (ta : TA) (t : outParam DTA) : Prop where
  run : ∀ (c : DC) (m : List Addr) (σ : L2.St) (H : Hp) (S : Nat) (ρ : DEnv) (Qd : List D → Nat → Prop) (Q : List V → Hp → Prop), Rl K T c m σ H S ρ → t ρ S Qd →
    (∀ vs H' S' ds, Qd ds S' → Reps K c.q (hid H' m) vs ds → Rl K T c m σ H' S' ρ → Fr c.q H H' → Q vs H') → ta σ H Q
class SndR (r : R2) (f : outParam DF2) : Prop where
  run : ∀ (q : Option Addr) (m : List Addr) (H : Hp) (x y : V) (dx dy : D) (Qd : D → Prop) (Q : VK), (∀ a, H a = none → a ∉ m) → Rep K q (hid H m) x dx → Rep K q (hid H m) y dy → f dx dy Qd →
    (∀ v H' d, Qd d → Rep K q (hid H' m) v d → Nw H H' → Q v H') → r x y H Q
class SndU (r : V → Hp → VK → Prop) (f : outParam (D → (D → Prop) → Prop)) : Prop where
  run : ∀ (q : Option Addr) (m : List Addr) (H : Hp) (x : V) (dx : D) (Qd : D → Prop) (Q : VK), (∀ a, H a = none → a ∉ m) → Rep K q (hid H m) x dx → f dx Qd →
    (∀ v H' d, Qd d → Rep K q (hid H' m) v d → Nw H H' → Q v H') → r x H Q
class SndB (r : List V → Hp → VK → Prop) (f : outParam DFn) : Prop where
  run : ∀ (q : Option Addr) (m : List Addr) (H : Hp) (xs : List V) (ds : List D) (Qd : D → Prop) (Q : VK), (∀ a, H a = none → a ∉ m) → Reps K q (hid H m) xs ds → f ds Qd →
    (∀ v H' d, Qd d → Rep K q (hid H' m) v d → Nw H H' → Q v H') → r xs H Q
/-- what holds behind a statement -/
structure Conn (c : DC) (m : List Addr) (H : Hp) (E : Ends) (Ed : DEnds) : Prop where
  nx : ∀ m' σ' H' S' ρ', Ed.nx ρ' S' → Rl K T c m' σ' H' S' ρ' → Ex (hid H m) (hid H' m') → E.nx σ' H'
  bk : ∀ m' σ' H' S' ρ', Ed.bk ρ' S' → Rl K T c m' σ' H' S' ρ' → Ex (hid H m) (hid H' m') → E.bk σ' H'
  ct : ∀ m' σ' H' S' ρ', Ed.ct ρ' S' → Rl K T c m' σ' H' S' ρ' → Ex (hid H m) (hid H' m') → E.ct σ' H'
  rt : ∀ m' v H' S' d, Ed.rt d S' → Rep K c.q (hid H' m') v d → Rl K T c m' [] H' S' [] → E.rt v H'
class SndS (ts : TS) (t : outParam DTS) : Prop where
  run : ∀ (c : DC) (m : List Addr) (σ : L2.St) (H : Hp) (S : Nat) (ρ : DEnv) (E : Ends) (Ed : DEnds), Rl K T c m σ H S ρ → t Ed ρ S → Conn K T c m H E Ed → ts E σ H
/-- what a target does to the slots: those it names alone; it makes none that is to be changed -/
structure Wp (is : List Nat) (σ : L2.St) (ρ : DEnv) (σ' : L2.St) (ρ' : DEnv) : Prop where
  wipe : ∀ vs, (∀ i ∈ is, i ∈ vs) → wipe σ' vs = wipe σ vs
  old : ∀ (i : Nat) (d : D), ρ'[i]? = some (some d) → d.isMut = true → ρ[i]? = some (some d) ∧ σ'[i]? = σ[i]?
class SndG (g : TG) (dg : outParam DTG) (is : outParam (List Nat)) : Prop where
  run : ∀ (c : DC) (m : List Addr) (σ : L2.St) (H : Hp) (S : Nat) (ρ : DEnv) (v : V) (d : D) (Qd : DEnv → Prop) (Q : L2.St → Hp → Prop), Rl K T c m σ H S ρ → Rep K c.q (hid H m) v d → dg d ρ Qd →
    (∀ σ' ρ', Qd ρ' → Rl K T c m σ' H S ρ' → Wp is σ ρ σ' ρ' → Q σ' H) → g v σ H Q
class SndGs (g : TGs) (dg : outParam DTGs) (is : outParam (List Nat)) : Prop where
  run : ∀ (c : DC) (m : List Addr) (σ : L2.St) (H : Hp) (S : Nat) (ρ : DEnv) (vs : List V) (ds : List D) (Qd : DEnv → Prop) (Q : L2.St → Hp → Prop), Rl K T c m σ H S ρ → Reps K c.q (hid H m) vs ds → dg ds ρ Qd →
    (∀ σ' ρ', Qd ρ' → Rl K T c m σ' H S ρ' → Wp is σ ρ σ' ρ' → Q σ' H) → g vs σ H Q
/-- an iterator goes through ds -/
def Items (q : Option Addr) (m : List Addr) (H1 : Hp) (J : It) (ds : List D) : Prop := ∀ (m' : List Addr) (H' : Hp), Ex (hid H1 m) (hid H' m') → (∀ a, H' a = none → a ∉ m') →
  (∀ (i : Nat) (d : D), ds[i]? = some d → J.go i H' ∧ ∀ x H2, J.yld i H' x H2 → Rep K q (hid H2 m') x d ∧ Nw H' H2) ∧ J.stop ds.length H'
class SndI (wi : TI) (t : outParam DTA) : Prop where
  run : ∀ (c : DC) (m : List Addr) (σ : L2.St) (H : Hp) (S : Nat) (ρ : DEnv) (Qd : List D → Nat → Prop) (R : It → Hp → Prop), Rl K T c m σ H S ρ → t ρ S Qd →
    (∀ J H' S' ds, Qd ds S' → ds.length ≤ sizeLine → Rl K T c m σ H' S' ρ → Fr c.q H H' → Items K c.q m H' J ds → R J H') → wi σ H R
end

/-! ### the combinators -/
def dVar (i : Nat) : DTE := fun ρ S Q => match ρ[i]? with
  | some (some d) => d.isMut = false ∧ Q d S
  | _ => False
def dC (d : D) : DTE := fun _ S Q => Q d S
def dOp (f : DF2) (ta tb : DTE) : DTE := fun ρ S Q => ta ρ S fun x S1 => tb ρ S1 fun y S2 => f x y fun d => Q d S2
def dUn (f : D → (D → Prop) → Prop) (ta : DTE) : DTE := fun ρ S Q => ta ρ S fun x S1 => f x fun d => Q d S1
def dCB (f : DFn) (ta : DTA) : DTE := fun ρ S Q => ta ρ S fun xs S1 => f xs fun d => Q d S1
def dNil : DTA := fun _ S Q => Q [] S
def dCons (ta : DTE) (tr : DTA) : DTA := fun ρ S Q => ta ρ S fun x S1 => tr ρ S1 fun xs S2 => Q (x :: xs) S2
def dTup (ta : DTA) : DTE := fun ρ S Q => ta ρ S fun ds S1 => ds.length ≤ 1000 ∧ Q (.tup ds) S1
def dLst (ta : DTA) : DTE := fun ρ S Q => ta ρ S fun ds S1 => ds.length ≤ 1000 ∧ Q (.lst ds) S1
def dCall (dsp : DSp) (ta : DTA) : DTE := fun ρ S Q => ta ρ S fun ds S1 => dsp ds S1 Q
def dTest (t : DTE) : DTT := fun ρ S Q => t ρ S fun d S1 => match d with
  | .bl b => Q b S1
  | _ => False
def dAnd (t u : DTT) : DTT := fun ρ S Q => t ρ S fun c S1 => if c = true then u ρ S1 Q else Q false S1
def dOr (t u : DTT) : DTT := fun ρ S Q => t ρ S fun c S1 => if c = true then Q true S1 else u ρ S1 Q
def dNot (t : DTT) : DTT := fun ρ S Q => t ρ S fun c S1 => Q (!c) S1
def dAndV (ta tb : DTE) : DTE := fun ρ S Q => ta ρ S fun x S1 => match x with
  | .bl c => if c = true then tb ρ S1 Q else Q (.bl false) S1
  | _ => False
def dOrV (ta tb : DTE) : DTE := fun ρ S Q => ta ρ S fun x S1 => match x with
  | .bl c => if c = true then Q (.bl true) S1 else tb ρ S1 Q
  | _ => False
def dNotV (ta : DTE) : DTE := fun ρ S Q => ta ρ S fun x S1 => match x with
  | .bl c => Q (.bl (!c)) S1
  | _ => False
def dIf (t : DTT) (ta tb : DTE) : DTE := fun ρ S Q => t ρ S fun c S1 => if c = true then ta ρ S1 Q else tb ρ S1 Q
def dChain (f f' : DF2) (ta tb tc : DTE) : DTE := fun ρ S Q => ta ρ S fun x S1 => tb ρ S1 fun y S2 => f x y fun z => match z with
  | .bl k => if k = true then tc ρ S2 fun w S3 => f' y w fun d => Q d S3 else Q (.bl false) S2
  | _ => False
def isNonD : D → Bool
  | .non => true
  | _ => false
def dIsN (ta : DTE) : DTE := fun ρ S Q => ta ρ S fun x S1 => Q (.bl (isNonD x)) S1
/-! statements -/
def dNext : DTS := fun E ρ S => E.nx ρ S
def dSeq (t u : DTS) : DTS := fun E ρ S => t { E with nx := fun ρ S => u E ρ S } ρ S
def dIfS (c : DTT) (t u : DTS) : DTS := fun E ρ S => c ρ S fun b S1 => if b = true then t E ρ S1 else u E ρ S1
def dRet (t : DTE) : DTS := fun E ρ S => t ρ S fun d S1 => E.rt d S1
def dDrop (t : DTE) : DTS := fun E ρ S => t ρ S fun _ S1 => E.nx ρ S1
def dAsg (t : DTE) (g : DTG) : DTS := fun E ρ S => t ρ S fun d S1 => g d ρ fun ρ' => E.nx ρ' S1
def dgName (i : Nat) : DTG := fun d ρ Q => Q (ρ.set i (some d))
def dgNil : DTGs := fun ds ρ Q => ds = [] ∧ Q ρ
def dgCons (t : DTG) (u : DTGs) : DTGs := fun ds ρ Q => match ds with
  | d :: r => t d ρ fun ρ' => u r ρ' Q
  | [] => False
def dgTup (n : Nat) (t : DTGs) : DTG := fun d ρ Q => match d with
  | .tup xs => xs.length = n ∧ t xs ρ Q
  | _ => False
def dAugI (i : Nat) (t : DTE) (f : Int → Int → Int) : DTS := fun E ρ S => match ρ[i]? with
  | some (some (.int a)) => t ρ S fun d S1 => match d with
    | .int b => E.nx (ρ.set i (some (.int (f a b)))) S1
    | _ => False
  | _ => False
def forD (g : DTG) (tb : DTS) (E : DEnds) : List D → DEnv → Nat → Prop
  | [], ρ, S => E.nx ρ S
  | d :: ds, ρ, S => g d ρ fun ρ' => tb { nx := fun ρ S => forD g tb E ds ρ S, rt := E.rt, bk := E.nx, ct := fun ρ S => forD g tb E ds ρ S } ρ' S
def dFor (ti : DTA) (g : DTG) (tb : DTS) : DTS := fun E ρ S => ti ρ S fun ds S1 => ds.length ≤ sizeLine → forD g tb E ds ρ S1
def dWhile (c : DTT) (tb : DTS) : DTS := fun E ρ S => ∃ W : Nat → DEnv → Nat → Prop, (∃ k, W k ρ S) ∧ ∀ k ρ S, W k ρ S → c ρ S fun b S1 =>
  if b = true then tb { nx := fun ρ' S' => ∃ k', k' < k ∧ W k' ρ' S', rt := E.rt, bk := E.nx, ct := fun ρ' S' => ∃ k', k' < k ∧ W k' ρ' S' } ρ S1 else E.nx ρ S1
def dwipe (ρ : DEnv) : List Nat → DEnv
  | [] => ρ
  | v :: vs => (dwipe ρ vs).set v none
def lcD (g : DTG) (tt : DTT) (te : DTE) (ρ : DEnv) (Q : D → Nat → Prop) : List D → List D → Nat → Prop
  | [], acc, S => Q (.lst acc) S
  | d :: ds, acc, S => g d ρ fun ρ2 => tt ρ2 S fun b S2 => if b = true then te ρ2 S2 fun y S3 => lcD g tt te ρ Q ds (acc ++ [y]) S3 else lcD g tt te ρ Q ds acc S2
def dLc (ti : DTA) (g : DTG) (tt : DTT) (te : DTE) (vs : List Nat) : DTE := fun ρ S Q => ti ρ S fun ds S1 => ds.length < sizeLine ∧ lcD g tt te (dwipe ρ vs) Q ds [] S1

section
variable {K : PySem.W.Frag} {T : Tb}
theorem Rl.no {c : DC} {m : List Addr} {σ : L2.St} {H : Hp} {S : Nat} {ρ : DEnv} (r : Rl K T c m σ H S ρ) : ∀ a, H a = none → a ∉ m := fun _ h => r.fresh h
/-- a new object -/
theorem rep_tup {q : Option Addr} {m : List Addr} {H : Hp} {p : Addr} {vs : List V} {ds : List D} (hp : H p = none) (no : ∀ a, H a = none → a ∉ m) (h : Reps K q (hid H m) vs ds) (hz : ds.length ≤ sizeLine) : Rep K q (hid (upd H p (.tup vs)) m) (.ref p) (.tup ds) :=
  .tup (.inl (.inl (hid_in upd_same (no p hp)))) h.1 hz (h.mono (Nw.upd hp).ex).2
theorem rep_lst {q : Option Addr} {m : List Addr} {H : Hp} {p : Addr} {vs : List V} {ds : List D} (hp : H p = none) (no : ∀ a, H a = none → a ∉ m) (h : Reps K q (hid H m) vs ds) (hz : ds.length ≤ sizeLine) : Rep K q (hid (upd H p (.lst vs)) m) (.ref p) (.lst ds) :=
  .lst (hid_in upd_same (no p hp)) h.1 hz (h.mono (Nw.upd hp).ex).2
theorem line1000 {n : Nat} (h : n ≤ 1000) : n ≤ sizeLine := Nat.le_trans h (by decide)

instance snd_var (i : Nat) : SndE K T (tVar i) (dVar i) := ⟨fun c m σ H S ρ Qd Q r h k => by
  unfold dVar at h
  split at h
  · rename_i d e
    obtain ⟨hm, h⟩ := h
    obtain ⟨v, e1, s⟩ := r.slot i d e
    refine ⟨v, e1, ?_⟩
    cases s with
    | fz hr => exact k v H S d h hr r (Fr.refl _ _)
    | mu _ _ _ _ _ => cases hm
    | md _ _ _ _ _ => cases hm
  · exact h.elim⟩
instance snd_int (i : Int) : SndE K T (tC (.int i)) (dC (.int i)) := ⟨fun c m σ H S ρ Qd Q r h k => k _ _ _ _ h (.int i) r (Fr.refl _ _)⟩
instance snd_str (i : Str) : SndE K T (tC (.str i)) (dC (.str i)) := ⟨fun c m σ H S ρ Qd Q r h k => k _ _ _ _ h (.str i) r (Fr.refl _ _)⟩
instance snd_bl (i : Bool) : SndE K T (tC (.bl i)) (dC (.bl i)) := ⟨fun c m σ H S ρ Qd Q r h k => k _ _ _ _ h (.bl i) r (Fr.refl _ _)⟩
instance snd_ty (i : String) : SndE K T (tC (.ty i)) (dC (.ty i)) := ⟨fun c m σ H S ρ Qd Q r h k => k _ _ _ _ h (.ty i) r (Fr.refl _ _)⟩
instance snd_non : SndE K T (tC .non) (dC .non) := ⟨fun c m σ H S ρ Qd Q r h k => k _ _ _ _ h .non r (Fr.refl _ _)⟩
instance snd_op {r : R2} {f : DF2} {ta tb : TE} {da db : DTE} [ha : SndE K T ta da] [hb : SndE K T tb db] [hr : SndR K r f] : SndE K T (tOp r ta tb) (dOp f da db) := ⟨fun c m σ H S ρ Qd Q r h k =>
  ha.run c m σ H S ρ _ _ r h fun x H1 S1 dx h1 r1 l1 f1 => hb.run c m σ H1 S1 ρ _ _ l1 h1 fun y H2 S2 dy h2 r2 l2 f2 =>
    hr.run c.q m H2 x y dx dy _ _ l2.no (r1.mono (f2.ex l1.qmm)) r2 h2 fun v H3 d h3 r3 n3 => k v H3 S2 d h3 r3 (l2.nw n3) ((f1.trans f2).trans n3.fr)⟩
instance snd_un {r : V → Hp → VK → Prop} {f : D → (D → Prop) → Prop} {ta : TE} {da : DTE} [ha : SndE K T ta da] [hr : SndU K r f] : SndE K T (tUn r ta) (dUn f da) := ⟨fun c m σ H S ρ Qd Q r h k =>
  ha.run c m σ H S ρ _ _ r h fun x H1 S1 dx h1 r1 l1 f1 => hr.run c.q m H1 x dx _ _ l1.no r1 h1 fun v H3 d h3 r3 n3 => k v H3 S1 d h3 r3 (l1.nw n3) (f1.trans n3.fr)⟩
instance snd_nil : SndA K T tNil dNil := ⟨fun c m σ H S ρ Qd Q r h k => k _ _ _ _ h Reps.nil r (Fr.refl _ _)⟩
instance snd_cons {ta : TE} {tr : TA} {da : DTE} {dr : DTA} [ha : SndE K T ta da] [hb : SndA K T tr dr] : SndA K T (tCons ta tr) (dCons da dr) := ⟨fun c m σ H S ρ Qd Q r h k =>
  ha.run c m σ H S ρ _ _ r h fun x H1 S1 dx h1 r1 l1 f1 => hb.run c m σ H1 S1 ρ _ _ l1 h1 fun y H2 S2 dy h2 r2 l2 f2 => k _ _ _ _ h2 (.cons (r1.mono (f2.ex l1.qmm)) r2) l2 (f1.trans f2)⟩
instance snd_cb {r : List V → Hp → VK → Prop} {f : DFn} {ta : TA} {da : DTA} [ha : SndA K T ta da] [hr : SndB K r f] : SndE K T (tCB r ta) (dCB f da) := ⟨fun c m σ H S ρ Qd Q r h k =>
  ha.run c m σ H S ρ _ _ r h fun x H1 S1 dx h1 r1 l1 f1 => hr.run c.q m H1 x dx _ _ l1.no r1 h1 fun v H3 d h3 r3 n3 => k v H3 S1 d h3 r3 (l1.nw n3) (f1.trans n3.fr)⟩
instance snd_tup {ta : TA} {da : DTA} [ha : SndA K T ta da] : SndE K T (tTup ta) (dTup da) := ⟨fun c m σ H S ρ Qd Q r h k =>
  ha.run c m σ H S ρ _ _ r h fun x H1 S1 dx h1 r1 l1 f1 => ⟨by rw [r1.1]; exact line1000 h1.1, fun p hp => k _ _ S1 _ h1.2 (rep_tup hp l1.no r1 (line1000 h1.1)) (l1.nw (Nw.upd hp)) (f1.trans (Nw.upd hp).fr)⟩⟩
instance snd_lst {ta : TA} {da : DTA} [ha : SndA K T ta da] : SndE K T (tLst ta) (dLst da) := ⟨fun c m σ H S ρ Qd Q r h k =>
  ha.run c m σ H S ρ _ _ r h fun x H1 S1 dx h1 r1 l1 f1 => ⟨by rw [r1.1]; exact line1000 h1.1, fun p hp => k _ _ S1 _ h1.2 (rep_lst hp l1.no r1 (line1000 h1.1)) (l1.nw (Nw.upd hp)) (f1.trans (Nw.upd hp).fr)⟩⟩

/-! ### calls -/
/-- a def's promise by its data -/
def spOf (K : PySem.W.Frag) (T : Tb) (dsp : DSp) : Sp := fun vs H Q _ => ∃ (q : Option Addr) (m : List Addr) (ds : List D) (S : Nat) (Qd : D → Nat → Prop),
  Reps K q (hid H m) vs ds ∧ (∀ p, q = some p → p ∈ m) ∧ (∀ a ∈ m, ∃ o, H a = some o ∧ ∀ ps, o ≠ .tbl ps) ∧ PotOk q S H ∧ Tabs T H ∧ dsp ds S Qd ∧
  ∀ v H' S' d, Qd d S' → Rep K q (hid H' m) v d → PotOk q S' H' → Tabs T H' → Fr q H H' → Q v H'
instance snd_call {dsp : DSp} {E : XK} {ta : TA} {da : DTA} [ha : SndA K T ta da] : SndE K T (tCall (spOf K T dsp) [] E ta) (dCall dsp da) := ⟨fun c m σ H S ρ Qd Q r h k =>
  ha.run c m σ H S ρ _ _ r h fun x H1 S1 dx h1 r1 l1 f1 => ⟨c.q, m, dx, S1, Qd, by rw [List.append_nil]; exact r1, l1.qmm, l1.dom, l1.pot, l1.tab, h1, fun v H2 S2 d h2 r2 p2 t2 f2 =>
    k v H2 S2 d h2 r2 (l1.on f2 p2 t2) (f1.trans f2)⟩⟩

/-! ### tests -/
instance snd_B {te : TE} {t : DTE} [h : SndE K T te t] : SndT K T (tB te) (dTest t) := ⟨fun c m σ H S ρ Qd Q r h1 k => h.run c m σ H S ρ _ _ r h1 fun v H1 S1 d h2 r1 l1 f1 => by
  cases r1 with
  | bl b => exact ⟨b, rfl, k b H1 S1 h2 l1 f1⟩
  | _ => exact h2.elim⟩
instance snd_test {te : TE} {t : DTE} [h : SndE K T te t] : SndT K T (tTest te) (dTest t) := ⟨fun c m σ H S ρ Qd Q r h1 k => h.run c m σ H S ρ _ _ r h1 fun v H1 S1 d h2 r1 l1 f1 => by
  cases r1 with
  | bl b => exact ⟨b, rfl, k b H1 S1 h2 l1 f1⟩
  | _ => exact h2.elim⟩
instance snd_and {t u : TT} {dt du : DTT} [h : SndT K T t dt] [h' : SndT K T u du] : SndT K T (tAnd t u) (dAnd dt du) := ⟨fun c m σ H S ρ Qd Q r h1 k => h.run c m σ H S ρ _ _ r h1 fun b H1 S1 h2 l1 f1 => by
  cases b with
  | true => exact h'.run c m σ H1 S1 ρ _ _ l1 h2 fun b H2 S2 h3 l2 f2 => k b H2 S2 h3 l2 (f1.trans f2)
  | false => exact k false H1 S1 h2 l1 f1⟩
instance snd_or {t u : TT} {dt du : DTT} [h : SndT K T t dt] [h' : SndT K T u du] : SndT K T (tOr t u) (dOr dt du) := ⟨fun c m σ H S ρ Qd Q r h1 k => h.run c m σ H S ρ _ _ r h1 fun b H1 S1 h2 l1 f1 => by
  cases b with
  | false => exact h'.run c m σ H1 S1 ρ _ _ l1 h2 fun b H2 S2 h3 l2 f2 => k b H2 S2 h3 l2 (f1.trans f2)
  | true => exact k true H1 S1 h2 l1 f1⟩
instance snd_not {t : TT} {dt : DTT} [h : SndT K T t dt] : SndT K T (tNot t) (dNot dt) := ⟨fun c m σ H S ρ Qd Q r h1 k => h.run c m σ H S ρ _ _ r h1 fun b H1 S1 h2 l1 f1 => k _ H1 S1 h2 l1 f1⟩
instance snd_andV {t u : TE} {dt du : DTE} [h : SndE K T t dt] [h' : SndE K T u du] : SndE K T (tAndV t u) (dAndV dt du) := ⟨fun c m σ H S ρ Qd Q r h1 k => h.run c m σ H S ρ _ _ r h1 fun v H1 S1 d h2 r1 l1 f1 => by
  cases r1 with
  | bl b =>
    refine ⟨b, rfl, ?_⟩
    cases b with
    | true => exact h'.run c m σ H1 S1 ρ _ _ l1 h2 fun v H2 S2 d h3 r2 l2 f2 => k v H2 S2 d h3 r2 l2 (f1.trans f2)
    | false => exact k _ H1 S1 _ h2 (.bl false) l1 f1
  | _ => exact h2.elim⟩
instance snd_orV {t u : TE} {dt du : DTE} [h : SndE K T t dt] [h' : SndE K T u du] : SndE K T (tOrV t u) (dOrV dt du) := ⟨fun c m σ H S ρ Qd Q r h1 k => h.run c m σ H S ρ _ _ r h1 fun v H1 S1 d h2 r1 l1 f1 => by
  cases r1 with
  | bl b =>
    refine ⟨b, rfl, ?_⟩
    cases b with
    | false => exact h'.run c m σ H1 S1 ρ _ _ l1 h2 fun v H2 S2 d h3 r2 l2 f2 => k v H2 S2 d h3 r2 l2 (f1.trans f2)
    | true => exact k _ H1 S1 _ h2 (.bl true) l1 f1
  | _ => exact h2.elim⟩
instance snd_notV {t : TE} {dt : DTE} [h : SndE K T t dt] : SndE K T (tNotV t) (dNotV dt) := ⟨fun c m σ H S ρ Qd Q r h1 k => h.run c m σ H S ρ _ _ r h1 fun v H1 S1 d h2 r1 l1 f1 => by
  cases r1 with
  | bl b => exact ⟨b, rfl, k _ H1 S1 _ h2 (.bl _) l1 f1⟩
  | _ => exact h2.elim⟩
instance snd_if {t : TT} {a b : TE} {dt : DTT} {da db : DTE} [h : SndT K T t dt] [ha : SndE K T a da] [hb : SndE K T b db] : SndE K T (tIf t a b) (dIf dt da db) := ⟨fun c m σ H S ρ Qd Q r h1 k => h.run c m σ H S ρ _ _ r h1 fun x H1 S1 h2 l1 f1 => by
  cases x with
  | true => exact ha.run c m σ H1 S1 ρ _ _ l1 h2 fun v H2 S2 d h3 r2 l2 f2 => k v H2 S2 d h3 r2 l2 (f1.trans f2)
  | false => exact hb.run c m σ H1 S1 ρ _ _ l1 h2 fun v H2 S2 d h3 r2 l2 f2 => k v H2 S2 d h3 r2 l2 (f1.trans f2)⟩
instance snd_chain {r r' : R2} {f f' : DF2} {ta tb tc : TE} {da db dc : DTE} [ha : SndE K T ta da] [hb : SndE K T tb db] [hc : SndE K T tc dc] [hr : SndR K r f] [hr' : SndR K r' f'] : SndE K T (tChain r r' ta tb tc) (dChain f f' da db dc) := ⟨fun c m σ H S ρ Qd Q r h k =>
  ha.run c m σ H S ρ _ _ r h fun x H1 S1 dx h1 r1 l1 f1 => hb.run c m σ H1 S1 ρ _ _ l1 h1 fun y H2 S2 dy h2 r2 l2 f2 =>
    hr.run c.q m H2 x y dx dy _ _ l2.no (r1.mono (f2.ex l1.qmm)) r2 h2 fun v H3 d h3 r3 n3 => by
      cases r3 with
      | bl b =>
        refine ⟨b, rfl, ?_⟩
        have l3 := l2.nw n3
        cases b
        · exact k _ H3 S2 _ h3 (.bl false) l3 ((f1.trans f2).trans n3.fr)
        · exact hc.run c m σ H3 S2 ρ _ _ l3 h3 fun w H4 S4 dw h4 r4 l4 f4 => hr'.run c.q m H4 y w dy dw _ _ l4.no ((r2.mono n3.ex).mono (f4.ex l3.qmm)) r4 h4 fun z H5 d5 h5 r5 n5 => k z H5 S4 d5 h5 r5 (l4.nw n5) ((((f1.trans f2).trans n3.fr).trans f4).trans n5.fr)
      | _ => exact h3.elim⟩
theorem Rep.isNon {q : Option Addr} {G : Hp} {v : V} {d : D} (h : Rep K q G v d) : decide (v = .non) = isNonD d := by cases h <;> first | rfl | simp [isNonD]
instance snd_isN {t : TE} {dt : DTE} [h : SndE K T t dt] : SndE K T (tIsN t) (dIsN dt) := ⟨fun c m σ H S ρ Qd Q r h1 k => h.run c m σ H S ρ _ _ r h1 fun v H1 S1 d h2 r1 l1 f1 => by
  rw [r1.isNon]
  exact k _ H1 S1 _ h2 (.bl _) l1 f1⟩

/-! ### statements -/
theorem Conn.after {c : DC} {m m' : List Addr} {H H' : Hp} {E : Ends} {Ed : DEnds} (k : Conn K T c m H E Ed) (e : Ex (hid H m) (hid H' m')) : Conn K T c m' H' E Ed :=
  ⟨fun a b d s ρ h r x => k.nx a b d s ρ h r (e.trans x), fun a b d s ρ h r x => k.bk a b d s ρ h r (e.trans x), fun a b d s ρ h r x => k.ct a b d s ρ h r (e.trans x), k.rt⟩
instance snd_next : SndS K T tNext dNext := ⟨fun c m σ H S ρ E Ed r h k => k.nx m σ H S ρ h r (Ex.refl _)⟩
instance snd_seq {t u : TS} {dt du : DTS} [h : SndS K T t dt] [h' : SndS K T u du] : SndS K T (tSeq t u) (dSeq dt du) := ⟨fun c m σ H S ρ E Ed r h1 k =>
  h.run c m σ H S ρ _ _ r h1 ⟨fun m' σ' H' S' ρ' h2 l2 e2 => h'.run c m' σ' H' S' ρ' E Ed l2 h2 (k.after e2), k.bk, k.ct, k.rt⟩⟩
instance snd_ifS {t : TT} {a b : TS} {dt : DTT} {da db : DTS} [h : SndT K T t dt] [ha : SndS K T a da] [hb : SndS K T b db] : SndS K T (tIfS t a b) (dIfS dt da db) := ⟨fun c m σ H S ρ E Ed r h1 k => h.run c m σ H S ρ _ _ r h1 fun x H1 S1 h2 l1 f1 => by
  cases x with
  | true => exact ha.run c m σ H1 S1 ρ _ _ l1 h2 (k.after (f1.ex r.qmm))
  | false => exact hb.run c m σ H1 S1 ρ _ _ l1 h2 (k.after (f1.ex r.qmm))⟩
instance snd_ret {t : TE} {dt : DTE} [h : SndE K T t dt] : SndS K T (tRet t) (dRet dt) := ⟨fun c m σ H S ρ E Ed r h1 k => h.run c m σ H S ρ _ _ r h1 fun v H1 S1 d h2 r1 l1 f1 => k.rt m v H1 S1 d h2 r1 l1.empty⟩
instance snd_drop {t : TE} {dt : DTE} [h : SndE K T t dt] : SndS K T (tDrop t) (dDrop dt) := ⟨fun c m σ H S ρ E Ed r h1 k => h.run c m σ H S ρ _ _ r h1 fun v H1 S1 d h2 r1 l1 f1 => k.nx m σ H1 S1 ρ h2 l1 (f1.ex r.qmm)⟩
instance snd_asg {t : TE} {g : TG} {dt : DTE} {dg : DTG} {is : List Nat} [h : SndE K T t dt] [hg : SndG K T g dg is] : SndS K T (tAsg t g) (dAsg dt dg) := ⟨fun c m σ H S ρ E Ed r h1 k => h.run c m σ H S ρ _ _ r h1 fun v H1 S1 d h2 r1 l1 f1 =>
  hg.run c m σ H1 S1 ρ v d _ _ l1 r1 h2 fun σ' ρ' h3 l3 _ => k.nx m σ' H1 S1 ρ' h3 l3 (f1.ex r.qmm)⟩
theorem wipe_set {σ : L2.St} {i : Nat} {x : Option V} : ∀ {vs : List Nat}, i ∈ vs → wipe (σ.set i x) vs = wipe σ vs
  | v :: vs, h => by
    show (wipe (σ.set i x) vs).set v none = (wipe σ vs).set v none
    by_cases hv : i ∈ vs
    · rw [wipe_set hv]
    · have e : i = v := by rcases List.mem_cons.mp h with z | z; exact z; exact absurd z hv
      subst e
      have go : ∀ (ws : List Nat), i ∉ ws → wipe (σ.set i x) ws = (wipe σ ws).set i x := by
        intro ws
        induction ws with
        | nil => intro _; rfl
        | cons w ws ih =>
          intro hn
          have h1 : w ≠ i := fun z => hn (by rw [z]; exact List.mem_cons_self)
          have h2 : i ∉ ws := fun z => hn (List.mem_cons_of_mem _ z)
          show (wipe (σ.set i x) ws).set w none = ((wipe σ ws).set w none).set i x
          rw [ih h2, List.set_comm _ _ h1]
      rw [go vs hv, List.set_set]
instance snd_name (i : Nat) : SndG K T (gName i) (dgName i) [i] := ⟨fun c m σ H S ρ v d Qd Q r h1 h2 k => k _ _ h2 (r.set i h1) ⟨fun vs hv => wipe_set (hv i (by simp)), fun j e he hm => by
  rw [List.getElem?_set] at he
  split at he
  · split at he
    · cases he
      rw [h1.notMut] at hm; cases hm
    · cases he
  · rename_i q
    exact ⟨he, List.getElem?_set_ne q⟩⟩⟩
instance snd_gnil : SndGs K T gNil dgNil [] := ⟨fun c m σ H S ρ vs ds Qd Q r h1 h2 k => by
  obtain ⟨e, h2⟩ := h2
  subst e
  exact ⟨h1.inv_nil, k _ _ h2 r ⟨fun _ _ => rfl, fun _ _ h _ => ⟨h, rfl⟩⟩⟩⟩
instance snd_gcons {t : TG} {u : TGs} {dt : DTG} {du : DTGs} {is js : List Nat} [h : SndG K T t dt is] [h' : SndGs K T u du js] : SndGs K T (gCons t u) (dgCons dt du) (is ++ js) := ⟨fun c m σ H S ρ vs ds Qd Q r h1 h2 k => by
  cases ds with
  | nil => exact h2.elim
  | cons d ds =>
    obtain ⟨v, vs', rfl, a, b⟩ := h1.inv
    exact ⟨v, vs', rfl, h.run c m σ H S ρ v d _ _ r a h2 fun σ' ρ' h3 l3 w3 => h'.run c m σ' H S ρ' vs' ds _ _ l3 b h3 fun σ2 ρ2 h4 l4 w4 =>
      k σ2 ρ2 h4 l4 ⟨fun ws hw => (w4.wipe ws fun i hi => hw i (List.mem_append_right _ hi)).trans (w3.wipe ws fun i hi => hw i (List.mem_append_left _ hi)), fun i d hi hm => by
        obtain ⟨a1, a2⟩ := w4.old i d hi hm
        obtain ⟨b1, b2⟩ := w3.old i d a1 hm
        exact ⟨b1, a2.trans b2⟩⟩⟩⟩
instance snd_gtup {n : Nat} {t : TGs} {dt : DTGs} {is : List Nat} [h : SndGs K T t dt is] : SndG K T (gTup K n t) (dgTup n dt) is := ⟨fun c m σ H S ρ v d Qd Q r h1 h2 k => by
  cases h1 with
  | tup hs hl hz hr => exact ⟨_, _, rfl, sqt_un hs, by rw [hl]; exact h2.1, h.run c m σ H S ρ _ _ _ _ r ⟨hl, hr⟩ h2.2 k⟩
  | _ => exact h2.elim⟩
instance snd_aug {i : Nat} {t : TE} {dt : DTE} {f : Int → Int → Int} [h : SndE K T t dt] : SndS K T (tAug i t (ipI f)) (dAugI i dt f) := ⟨fun c m σ H S ρ E Ed r h1 k => by
  unfold dAugI at h1
  split at h1
  · rename_i a e
    obtain ⟨v, e1, s⟩ := r.slot i _ e
    cases s with
    | fz hr =>
      cases hr
      refine ⟨_, e1, h.run c m σ H S ρ _ _ r h1 fun v H1 S1 d h2 r1 l1 f1 => ?_⟩
      cases r1 with
      | int b => exact ⟨a, b, rfl, rfl, k.nx m _ H1 S1 _ h2 (l1.set i (.int _)) (f1.ex r.qmm)⟩
      | _ => exact h2.elim
  · exact h1.elim⟩
theorem drop_cons {α : Type} {l : List α} {i : Nat} (h : i < l.length) : l.drop i = l[i] :: l.drop (i + 1) := List.drop_eq_getElem_cons h
instance snd_for {wi : TI} {g : TG} {tb : TS} {ti : DTA} {dg : DTG} {db : DTS} {is : List Nat} [hi : SndI K T wi ti] [hg : SndG K T g dg is] [hb : SndS K T tb db] : SndS K T (tFor wi g tb) (dFor ti dg db) := ⟨fun c m σ H S ρ E Ed r h k =>
  hi.run c m σ H S ρ _ _ r h fun J H1 S1 ds h1 hz l1 f1 items => by
    refine ⟨fun i n σ' H' => ∃ m' S' ρ', n = ds.length - i ∧ i ≤ ds.length ∧ Rl K T c m' σ' H' S' ρ' ∧ Ex (hid H1 m) (hid H' m') ∧ forD dg db Ed (ds.drop i) ρ' S', ⟨ds.length, m, S1, ρ, by simp, Nat.zero_le _, l1, Ex.refl _, by simpa using h1 hz⟩, ?_⟩
    rintro i n σ2 H2 ⟨m2, S2, ρ2, rfl, hle, l2, e2, w2⟩
    obtain ⟨go, stop⟩ := items m2 H2 e2 l2.no
    by_cases hlt : i < ds.length
    · obtain ⟨g1, y1⟩ := go i ds[i] (List.getElem?_eq_getElem hlt)
      refine .inr ⟨g1, fun σ' H' => ∃ m' S' ρ', Rl K T c m' σ' H' S' ρ' ∧ Ex (hid H1 m) (hid H' m') ∧ forD dg db Ed (ds.drop (i + 1)) ρ' S', ?_, fun x H3 y => ?_⟩
      · rintro σ' H' ⟨m', S', ρ', a, b, d⟩
        exact ⟨ds.length - (i + 1), by omega, m', S', ρ', rfl, hlt, a, b, d⟩
      · obtain ⟨rx, nx⟩ := y1 x H3 y
        rw [drop_cons hlt] at w2
        have l3 := l2.nw nx
        have e3 : Ex (hid H1 m) (hid H3 m2) := e2.trans nx.ex
        refine hg.run c m2 σ2 H3 S2 ρ2 x _ _ _ l3 rx w2 fun σ' ρ' h4 l4 _ => ?_
        have k2 := k.after ((f1.ex r.qmm).trans e3)
        exact hb.run c m2 σ' H3 S2 ρ' _ _ l4 h4 ⟨fun m' σ' H' S' ρ' h5 l5 e5 => ⟨m', S', ρ', l5, e3.trans e5, h5⟩, k2.nx, fun m' σ' H' S' ρ' h5 l5 e5 => ⟨m', S', ρ', l5, e3.trans e5, h5⟩, k2.rt⟩
    · have hi : i = ds.length := by omega
      subst hi
      refine .inl ⟨stop, ?_⟩
      have w2 : forD dg db Ed (ds.drop ds.length) ρ2 S2 := w2
      rw [List.drop_length] at w2
      exact k.nx m2 σ2 H2 S2 ρ2 w2 l2 ((f1.ex r.qmm).trans e2)⟩
instance snd_while {t : TT} {tb : TS} {dt : DTT} {db : DTS} [ht : SndT K T t dt] [hb : SndS K T tb db] : SndS K T (tWhile t tb) (dWhile dt db) := ⟨fun c m σ H S ρ E Ed r h k => by
  obtain ⟨W, ⟨k0, w0⟩, hs⟩ := h
  refine ⟨fun n σ' H' => ∃ m' S' ρ', Rl K T c m' σ' H' S' ρ' ∧ Ex (hid H m) (hid H' m') ∧ W n ρ' S', ⟨k0, m, S, ρ, r, Ex.refl _, w0⟩, ?_⟩
  rintro n σ2 H2 ⟨m2, S2, ρ2, l2, e2, w2⟩
  refine ht.run c m2 σ2 H2 S2 ρ2 _ _ l2 (hs n ρ2 S2 w2) fun b H3 S3 h3 l3 f3 => ?_
  have e3 : Ex (hid H m) (hid H3 m2) := e2.trans (f3.ex l2.qmm)
  cases b with
  | true =>
    refine ⟨fun σ' H' => ∃ n', n' < n ∧ ∃ m' S' ρ', Rl K T c m' σ' H' S' ρ' ∧ Ex (hid H m) (hid H' m') ∧ W n' ρ' S', ?_, ?_⟩
    · rintro σ' H' ⟨n', hn, z⟩
      exact ⟨n', hn, z⟩
    · exact hb.run c m2 σ2 H3 S3 ρ2 _ _ l3 h3 ⟨fun m' σ' H' S' ρ' h5 l5 e5 => let ⟨n', a, b⟩ := h5; ⟨n', a, m', S', ρ', l5, e3.trans e5, b⟩, (k.after e3).nx, fun m' σ' H' S' ρ' h5 l5 e5 => let ⟨n', a, b⟩ := h5; ⟨n', a, m', S', ρ', l5, e3.trans e5, b⟩, k.rt⟩
  | false => exact k.nx m2 σ2 H3 S3 ρ2 h3 l3 e3⟩
end
end DL
end
section
set_option maxRecDepth 100000
namespace DL
open PySem PySem.Spec PyProof.Rows L2
section
variable {K : PySem.W.Frag} {T : Tb}
/-! ### values -/
def fAdd : DF2 := fun x y Q => match x, y with
  | .int i, .int j => Q (.int (i + j))
  | _, _ => False
def fSub : DF2 := fun x y Q => match x, y with
  | .int i, .int j => Q (.int (i - j))
  | _, _ => False
def fMul : DF2 := fun x y Q => match x, y with
  | .int i, .int j => CMul i j ∧ Q (.int (i * j))
  | _, _ => False
def fMod : DF2 := fun x y Q => match x, y with
  | .int i, .int j => 0 < j ∧ Q (.int (i % j))
  | _, _ => False
def fDiv : DF2 := fun x y Q => match x, y with
  | .int i, .int j => CDiv i j ∧ Q (.int (i / j))
  | _, _ => False
def fPow : DF2 := fun x y Q => match x, y with
  | .int i, .int j => CPow i j ∧ Q (.int (i ^ j.toNat))
  | _, _ => False
def fLt : DF2 := fun x y Q => match x, y with
  | .int i, .int j => Q (.bl (decide (i < j)))
  | _, _ => False
def fLe : DF2 := fun x y Q => match x, y with
  | .int i, .int j => Q (.bl (decide (i ≤ j)))
  | _, _ => False
def fGt : DF2 := fun x y Q => match x, y with
  | .int i, .int j => Q (.bl (decide (j < i)))
  | _, _ => False
def fGe : DF2 := fun x y Q => match x, y with
  | .int i, .int j => Q (.bl (decide (j ≤ i)))
  | _, _ => False
def fEqS : DF2 := fun x y Q => match x, y with
  | .int i, .int j => Q (.bl (decide (i = j)))
  | .str i, .str j => Q (.bl (decide (i = j)))
  | .bl i, .bl j => Q (.bl (decide (i = j)))
  | _, _ => False
def fNeS : DF2 := fun x y Q => match x, y with
  | .int i, .int j => Q (.bl (!decide (i = j)))
  | .str i, .str j => Q (.bl (!decide (i = j)))
  | .bl i, .bl j => Q (.bl (!decide (i = j)))
  | _, _ => False
def fIsB : DF2 := fun x y Q => match x, y with
  | .bl i, .bl j => Q (.bl (decide (i = j)))
  | _, _ => False
def fNotB : DF2 := fun x y Q => match x, y with
  | .bl i, .bl j => Q (.bl (!decide (i = j)))
  | _, _ => False
theorem sndInt {g : Int → Int → V} {C : Int → Int → Prop} {f : DF2} {r : R2} (dg : Int → Int → D) (hg : ∀ q G i j, Rep K q G (g i j) (dg i j)) (hf : ∀ x y Q, f x y Q → ∃ i j, x = .int i ∧ y = .int j ∧ C i j ∧ Q (dg i j))
    (hr : ∀ i j H Q, C i j → Q (g i j) H → r (.int i) (.int j) H Q) : SndR K r f := ⟨fun q m H x y dx dy Qd Q no rx ry h k => by
  obtain ⟨i, j, rfl, rfl, hc, h⟩ := hf _ _ _ h
  cases rx
  cases ry
  exact hr i j H Q hc (k _ H _ h (hg _ _ _ _) (Nw.refl H))⟩
instance snd_add : SndR K (rI0 fun i j => .int (i + j)) fAdd := sndInt (C := fun _ _ => True) (fun i j => .int (i + j)) (fun _ _ _ _ => .int _) (fun x y Q h => by unfold fAdd at h; split at h; exact ⟨_, _, rfl, rfl, trivial, h⟩; exact h.elim) fun i j H Q _ h => ⟨i, j, rfl, rfl, h⟩
instance snd_sub : SndR K (rI0 fun i j => .int (i - j)) fSub := sndInt (C := fun _ _ => True) (fun i j => .int (i - j)) (fun _ _ _ _ => .int _) (fun x y Q h => by unfold fSub at h; split at h; exact ⟨_, _, rfl, rfl, trivial, h⟩; exact h.elim) fun i j H Q _ h => ⟨i, j, rfl, rfl, h⟩
instance snd_mul : SndR K (rI CMul fun i j => .int (i * j)) fMul := sndInt (C := CMul) (fun i j => .int (i * j)) (fun _ _ _ _ => .int _) (fun x y Q h => by unfold fMul at h; split at h; exact ⟨_, _, rfl, rfl, h⟩; exact h.elim) fun i j H Q c h => ⟨i, j, rfl, rfl, c, h⟩
instance snd_mod : SndR K (rI (fun _ j => 0 < j) fun i j => .int (i % j)) fMod := sndInt (C := fun _ j => 0 < j) (fun i j => .int (i % j)) (fun _ _ _ _ => .int _) (fun x y Q h => by unfold fMod at h; split at h; exact ⟨_, _, rfl, rfl, h⟩; exact h.elim) fun i j H Q c h => ⟨i, j, rfl, rfl, c, h⟩
instance snd_div : SndR K (rI CDiv fun i j => .int (i / j)) fDiv := sndInt (C := CDiv) (fun i j => .int (i / j)) (fun _ _ _ _ => .int _) (fun x y Q h => by unfold fDiv at h; split at h; exact ⟨_, _, rfl, rfl, h⟩; exact h.elim) fun i j H Q c h => ⟨i, j, rfl, rfl, c, h⟩
instance snd_pow : SndR K (rI CPow fun i j => .int (i ^ j.toNat)) fPow := sndInt (C := CPow) (fun i j => .int (i ^ j.toNat)) (fun _ _ _ _ => .int _) (fun x y Q h => by unfold fPow at h; split at h; exact ⟨_, _, rfl, rfl, h⟩; exact h.elim) fun i j H Q c h => ⟨i, j, rfl, rfl, c, h⟩
instance snd_lt : SndR K (rI0 fun i j => .bl (decide (i < j))) fLt := sndInt (C := fun _ _ => True) (fun i j => .bl (decide (i < j))) (fun _ _ _ _ => .bl _) (fun x y Q h => by unfold fLt at h; split at h; exact ⟨_, _, rfl, rfl, trivial, h⟩; exact h.elim) fun i j H Q _ h => ⟨i, j, rfl, rfl, h⟩
instance snd_le : SndR K (rI0 fun i j => .bl (decide (i ≤ j))) fLe := sndInt (C := fun _ _ => True) (fun i j => .bl (decide (i ≤ j))) (fun _ _ _ _ => .bl _) (fun x y Q h => by unfold fLe at h; split at h; exact ⟨_, _, rfl, rfl, trivial, h⟩; exact h.elim) fun i j H Q _ h => ⟨i, j, rfl, rfl, h⟩
instance snd_gt : SndR K (rI0 fun i j => .bl (decide (j < i))) fGt := sndInt (C := fun _ _ => True) (fun i j => .bl (decide (j < i))) (fun _ _ _ _ => .bl _) (fun x y Q h => by unfold fGt at h; split at h; exact ⟨_, _, rfl, rfl, trivial, h⟩; exact h.elim) fun i j H Q _ h => ⟨i, j, rfl, rfl, h⟩
instance snd_ge : SndR K (rI0 fun i j => .bl (decide (j ≤ i))) fGe := sndInt (C := fun _ _ => True) (fun i j => .bl (decide (j ≤ i))) (fun _ _ _ _ => .bl _) (fun x y Q h => by unfold fGe at h; split at h; exact ⟨_, _, rfl, rfl, trivial, h⟩; exact h.elim) fun i j H Q _ h => ⟨i, j, rfl, rfl, h⟩
theorem dec_i {i j : Int} : decide (V.int i = V.int j) = decide (i = j) := by by_cases h : i = j <;> simp [h]
theorem dec_s {i j : Str} : decide (V.str i = V.str j) = decide (i = j) := by by_cases h : i = j <;> simp [h]
theorem dec_b {i j : Bool} : decide (V.bl i = V.bl j) = decide (i = j) := by by_cases h : i = j <;> simp [h]
instance snd_eqS : SndR K rEq fEqS := ⟨fun q m H x y dx dy Qd Q no rx ry h k => by
  unfold fEqS at h
  split at h
  · cases rx; cases ry; exact ⟨rfl, by rw [dec_i]; exact k _ H _ h (.bl _) (Nw.refl H)⟩
  · cases rx; cases ry; exact ⟨rfl, by rw [dec_s]; exact k _ H _ h (.bl _) (Nw.refl H)⟩
  · cases rx; cases ry; exact ⟨rfl, by rw [dec_b]; exact k _ H _ h (.bl _) (Nw.refl H)⟩
  · exact h.elim⟩
instance snd_neS : SndR K rNe fNeS := ⟨fun q m H x y dx dy Qd Q no rx ry h k => by
  unfold fNeS at h
  split at h
  · cases rx; cases ry; exact ⟨rfl, by rw [dec_i]; exact k _ H _ h (.bl _) (Nw.refl H)⟩
  · cases rx; cases ry; exact ⟨rfl, by rw [dec_s]; exact k _ H _ h (.bl _) (Nw.refl H)⟩
  · cases rx; cases ry; exact ⟨rfl, by rw [dec_b]; exact k _ H _ h (.bl _) (Nw.refl H)⟩
  · exact h.elim⟩
instance snd_isB : SndR K rIsB fIsB := ⟨fun q m H x y dx dy Qd Q no rx ry h k => by
  unfold fIsB at h
  split at h
  · cases rx; cases ry; exact ⟨_, _, rfl, rfl, k _ H _ h (.bl _) (Nw.refl H)⟩
  · exact h.elim⟩
instance snd_notB : SndR K rNotB fNotB := ⟨fun q m H x y dx dy Qd Q no rx ry h k => by
  unfold fNotB at h
  split at h
  · cases rx; cases ry; exact ⟨_, _, rfl, rfl, k _ H _ h (.bl _) (Nw.refl H)⟩
  · exact h.elim⟩
def fNeg : D → (D → Prop) → Prop := fun x Q => match x with
  | .int i => Q (.int (-i))
  | _ => False
instance snd_neg : SndU K (rU fun i => .int (-i)) fNeg := ⟨fun q m H x dx Qd Q no rx h k => by
  cases rx with
  | int i => exact ⟨i, rfl, k _ H _ h (.int _) (Nw.refl H)⟩
  | _ => exact h.elim⟩

/-! ### data as PyData -/
mutual
def py : D → PyData
  | .non => .none
  | .bl b => .bool b
  | .int i => .int i
  | .str x => .str x
  | .tup xs => .tuple (pys xs)
  | .lst xs => .list (pys xs)
  | _ => .none
def pys : List D → List PyData
  | [] => []
  | d :: ds => py d :: pys ds
def isD : D → Bool
  | .non => true
  | .bl _ => true
  | .int _ => true
  | .str _ => true
  | .tup xs => isDs xs
  | .lst xs => isDs xs
  | _ => false
def isDs : List D → Bool
  | [] => true
  | d :: ds => isD d && isDs ds
end
theorem pys_length : ∀ ds : List D, (pys ds).length = ds.length
  | [] => by simp [pys]
  | d :: ds => by simp [pys, pys_length ds]
mutual
theorem rep_dp {q : Option Addr} {m : List Addr} {H : Hp} : ∀ (d : D) (v : V), Rep K q (hid H m) v d → isD d = true → Dp K H v (py d)
  | .non, v, h, _ => by cases h; unfold py; exact .non
  | .bl b, v, h, _ => by cases h; unfold py; exact .bl b
  | .int b, v, h, _ => by cases h; unfold py; exact .int b
  | .str b, v, h, _ => by cases h; unfold py; exact .str b
  | .tup xs, v, h, hd => by
    cases h with
    | tup hs hl hz hr =>
      unfold py
      unfold isD at hd
      exact .tup (sqt_un hs) (reps_dp xs _ ⟨hl, hr⟩ hd)
  | .lst xs, v, h, hd => by
    cases h with
    | lst hs hl hz hr =>
      unfold py
      unfold isD at hd
      exact .lst (SqL.of (hid_of hs).1) (reps_dp xs _ ⟨hl, hr⟩ hd)
  | .dct _, v, h, hd => by unfold isD at hd; cases hd
  | .mu _, v, h, hd => by unfold isD at hd; cases hd
  | .md _, v, h, hd => by unfold isD at hd; cases hd
  | .pot, v, h, hd => by unfold isD at hd; cases hd
  | .scr _, v, h, hd => by unfold isD at hd; cases hd
  | .lam _ _, v, h, hd => by unfold isD at hd; cases hd
  | .ty _, v, h, hd => by unfold isD at hd; cases hd
theorem reps_dp {q : Option Addr} {m : List Addr} {H : Hp} : ∀ (ds : List D) (vs : List V), Reps K q (hid H m) vs ds → isDs ds = true → DpAll K H vs (pys ds)
  | [], vs, h, _ => by rw [h.inv_nil]; unfold pys; exact .nil
  | d :: ds, vs, h, hd => by
    obtain ⟨v, vs', rfl, a, b⟩ := h.inv
    unfold isDs at hd
    rw [Bool.and_eq_true] at hd
    unfold pys
    exact .cons (rep_dp d v a hd.1) (reps_dp ds vs' b hd.2)
end
def fEqD : DF2 := fun x y Q => (isD x = true ∧ isD y = true ∧ SeqAt.shaped (py x) = true ∧ SeqAt.shaped (py y) = true) ∧ Q (.bl (PyData.eqv (py x) (py y)))
def fNeD : DF2 := fun x y Q => (isD x = true ∧ isD y = true ∧ SeqAt.shaped (py x) = true ∧ SeqAt.shaped (py y) = true) ∧ Q (.bl (!PyData.eqv (py x) (py y)))
instance snd_eqD : SndR K (rEqD K) fEqD := ⟨fun q m H x y dx dy Qd Q no rx ry h k => by
  obtain ⟨⟨h1, h2, h3, h4⟩, h⟩ := h
  exact ⟨_, _, rep_dp dx x rx h1, rep_dp dy y ry h2, h3, h4, k _ H _ h (.bl _) (Nw.refl H)⟩⟩
instance snd_neD : SndR K (rNeD K) fNeD := ⟨fun q m H x y dx dy Qd Q no rx ry h k => by
  obtain ⟨⟨h1, h2, h3, h4⟩, h⟩ := h
  exact ⟨_, _, rep_dp dx x rx h1, rep_dp dy y ry h2, h3, h4, k _ H _ h (.bl _) (Nw.refl H)⟩⟩

/-! ### subscripts -/
def atD (xs : List D) (i : Int) (Q : D → Prop) : Prop := match atI xs i with
  | some d => Q d
  | none => False
def fIxL : DF2 := fun x y Q => match x, y with
  | .lst xs, .int i => atD xs i Q
  | _, _ => False
def fIxT : DF2 := fun x y Q => match x, y with
  | .tup xs, .int i => atD xs i Q
  | _, _ => False
theorem reps_atI {q : Option Addr} {G : Hp} {vs : List V} {ds : List D} {i : Int} {d : D} (h : Reps K q G vs ds) (e : atI ds i = some d) : ∃ v, atI vs i = some v ∧ Rep K q G v d := by
  unfold atI at e ⊢
  rw [h.1]
  cases hx : ixN ds.length i with
  | none => rw [hx] at e; cases e
  | some j =>
    rw [hx] at e
    exact h.at_ e
instance snd_ixL : SndR K (rIxL K) fIxL := ⟨fun q m H x y dx dy Qd Q no rx ry h k => by
  unfold fIxL at h
  split at h
  · rename_i xs i
    unfold atD at h
    split at h
    · rename_i d e
      cases ry
      cases rx with
      | lst hs hl hz hr =>
        obtain ⟨v, e1, r1⟩ := reps_atI (K := K) ⟨hl, hr⟩ e
        exact ⟨_, _, i, v, rfl, rfl, SqL.of (hid_of hs).1, e1, k v H d h r1 (Nw.refl H)⟩
    · exact h.elim
  · exact h.elim⟩
instance snd_ixT : SndR K (rIxT K) fIxT := ⟨fun q m H x y dx dy Qd Q no rx ry h k => by
  unfold fIxT at h
  split at h
  · rename_i xs i
    unfold atD at h
    split at h
    · rename_i d e
      cases ry
      cases rx with
      | tup hs hl hz hr =>
        obtain ⟨v, e1, r1⟩ := reps_atI (K := K) ⟨hl, hr⟩ e
        exact ⟨_, _, i, v, rfl, rfl, sqt_un hs, e1, k v H d h r1 (Nw.refl H)⟩
    · exact h.elim
  · exact h.elim⟩
/-! ### sums of tuples, lists -/
def fCatT : DF2 := fun x y Q => match x, y with
  | .tup xs, .tup ys => xs.length + ys.length ≤ sizeLine ∧ Q (.tup (xs ++ ys))
  | _, _ => False
def fCatL : DF2 := fun x y Q => match x, y with
  | .lst xs, .lst ys => xs.length + ys.length ≤ sizeLine ∧ Q (.lst (xs ++ ys))
  | _, _ => False
instance snd_catT : SndR K (rCatA K) fCatT := ⟨fun q m H x y dx dy Qd Q no rx ry h k => by
  unfold fCatT at h
  split at h
  · rename_i xs ys
    obtain ⟨hz, h⟩ := h
    cases rx with
    | tup hs hl hz1 hr =>
      cases ry with
      | tup hs' hl' hz1' hr' =>
        refine ⟨_, _, _, _, rfl, rfl, sqt_un hs, sqt_un hs', by omega, fun e => ?_, fun _ e => ?_, fun _ _ p hp => ?_⟩
        · have e2 : xs = [] := by rw [e] at hl; exact List.eq_nil_of_length_eq_zero hl.symm
          subst e2
          exact k _ H _ h (.tup hs' hl' hz1' hr') (Nw.refl H)
        · have e2 : ys = [] := by rw [e] at hl'; exact List.eq_nil_of_length_eq_zero hl'.symm
          subst e2
          rw [List.append_nil] at h
          exact k _ H _ h (.tup hs hl hz1 hr) (Nw.refl H)
        · exact k _ _ _ h (rep_tup hp no (Reps.app ⟨hl, hr⟩ ⟨hl', hr'⟩) (by rw [List.length_append]; exact hz)) (Nw.upd hp)
  · exact h.elim⟩
instance snd_catL : SndR K rCat fCatL := ⟨fun q m H x y dx dy Qd Q no rx ry h k => by
  unfold fCatL at h
  split at h
  · rename_i xs ys
    obtain ⟨hz, h⟩ := h
    cases rx with
    | lst hs hl hz1 hr =>
      cases ry with
      | lst hs' hl' hz1' hr' =>
        exact ⟨_, _, _, _, rfl, rfl, (hid_of hs).1, (hid_of hs').1, by omega, fun p hp => k _ _ _ h (rep_lst hp no (Reps.app ⟨hl, hr⟩ ⟨hl', hr'⟩) (by rw [List.length_append]; exact hz)) (Nw.upd hp)⟩
  · exact h.elim⟩
theorem Reps.rep {q : Option Addr} {G : Hp} {vs : List V} {ds : List D} (h : Reps K q G vs ds) : ∀ k : Nat, Reps K q G (List.replicate k vs).flatten (List.replicate k ds).flatten
  | 0 => by simpa using Reps.nil
  | k + 1 => by rw [List.replicate_succ, List.replicate_succ, List.flatten_cons, List.flatten_cons]; exact h.app (Reps.rep h k)
def fRepL : DF2 := fun x y Q => match x, y with
  | .lst xs, .int k => (0 ≤ k ∧ k < 10000 ∧ xs.length ≤ 1) ∧ Q (.lst (List.replicate k.toNat xs).flatten)
  | _, _ => False
instance snd_repL : SndR K rRep fRepL := ⟨fun q m H x y dx dy Qd Q no rx ry h k => by
  unfold fRepL at h
  split at h
  · rename_i xs n
    obtain ⟨⟨h1, h2, h3⟩, h⟩ := h
    cases ry
    cases rx with
    | lst hs hl hz1 hr =>
      rename_i vs
      have hle : vs.length * n.toNat ≤ 10000 := by
        have a1 : vs.length * n.toNat ≤ 1 * n.toNat := Nat.mul_le_mul_right _ (by omega)
        omega
      refine ⟨_, _, _, rfl, rfl, (hid_of hs).1, by omega, by omega, Nat.le_trans hle (by decide), fun p hp => k _ _ _ h (rep_lst hp no (Reps.rep ⟨hl, hr⟩ _) ?_) (Nw.upd hp)⟩
      rw [← (Reps.rep (K := K) ⟨hl, hr⟩ n.toNat).1]
      have e : (List.replicate n.toNat vs).flatten.length = vs.length * n.toNat := by
        rw [List.length_flatten, List.map_replicate, List.sum_replicate_nat, Nat.mul_comm]
      rw [e]
      exact Nat.le_trans hle (by decide)
  · exact h.elim⟩
end
end DL
end
section
set_option maxRecDepth 100000
namespace DL
open PySem PySem.Spec PyProof.Rows L2
section
variable (K : PySem.W.Frag) (T : Tb)
abbrev DTO := DEnv → Nat → (Option Int → Nat → Prop) → Prop
class SndO (to : TO) (t : outParam DTO) : Prop where
  run : ∀ (c : DC) (m : List Addr) (σ : L2.St) (H : Hp) (S : Nat) (ρ : DEnv) (Qd : Option Int → Nat → Prop) (Q : Option Int → Hp → Prop), Rl K T c m σ H S ρ → t ρ S Qd →
    (∀ b H' S', Qd b S' → Rl K T c m σ H' S' ρ → Fr c.q H H' → Q b H') → to σ H Q
class SndSl (r : V → Option Int → Option Int → Hp → VK → Prop) (f : outParam (D → Option Int → Option Int → (D → Prop) → Prop)) : Prop where
  run : ∀ (q : Option Addr) (m : List Addr) (H : Hp) (x : V) (dx : D) (lo hi : Option Int) (Qd : D → Prop) (Q : VK), (∀ a, H a = none → a ∉ m) → Rep K q (hid H m) x dx → f dx lo hi Qd →
    (∀ v H' d, Qd d → Rep K q (hid H' m) v d → Nw H H' → Q v H') → r x lo hi H Q
end
def dNoPart : DTO := fun _ S Q => Q none S
def dPart (t : DTE) : DTO := fun ρ S Q => t ρ S fun d S1 => match d with
  | .int i => Q (some i) S1
  | _ => False
def dSl (f : D → Option Int → Option Int → (D → Prop) → Prop) (t : DTE) (tl th : DTO) : DTE := fun ρ S Q => t ρ S fun x S1 => tl ρ S1 fun l S2 => th ρ S2 fun u S3 => f x l u fun d => Q d S3
def cutD (xs : List D) (lo hi : Option Int) : List D := (xs.drop (HT.sIx xs.length 0 lo)).take (HT.sIx xs.length xs.length hi - HT.sIx xs.length 0 lo)
def fSlT (x : D) (lo hi : Option Int) (Q : D → Prop) : Prop := match x with
  | .tup xs => Q (.tup (cutD xs lo hi))
  | _ => False
def fSlL (x : D) (lo hi : Option Int) (Q : D → Prop) : Prop := match x with
  | .lst xs => Q (.lst (cutD xs lo hi))
  | _ => False
section
variable {K : PySem.W.Frag} {T : Tb}
instance snd_noPart : SndO K T tNoPart dNoPart := ⟨fun c m σ H S ρ Qd Q r h k => k _ _ _ h r (Fr.refl _ _)⟩
instance snd_part {te : TE} {t : DTE} [h : SndE K T te t] : SndO K T (tPart te) (dPart t) := ⟨fun c m σ H S ρ Qd Q r h1 k => h.run c m σ H S ρ _ _ r h1 fun v H1 S1 d h2 r1 l1 f1 => by
  cases r1 with
  | int i => exact ⟨i, rfl, k _ H1 S1 h2 l1 f1⟩
  | _ => exact h2.elim⟩
instance snd_sl {r : V → Option Int → Option Int → Hp → VK → Prop} {f : D → Option Int → Option Int → (D → Prop) → Prop} {te : TE} {tl th : TO} {t : DTE} {dl dh : DTO} [h : SndE K T te t] [h1 : SndO K T tl dl] [h2 : SndO K T th dh] [hr : SndSl K r f] :
    SndE K T (tSl r te tl th) (dSl f t dl dh) := ⟨fun c m σ H S ρ Qd Q r0 w k =>
  h.run c m σ H S ρ _ _ r0 w fun x H1 S1 dx w1 r1 l1 f1 => h1.run c m σ H1 S1 ρ _ _ l1 w1 fun lo H2 S2 w2 l2 f2 => h2.run c m σ H2 S2 ρ _ _ l2 w2 fun hi H3 S3 w3 l3 f3 =>
    hr.run c.q m H3 x dx lo hi _ _ l3.no (r1.mono ((f2.trans f3).ex l1.qmm)) w3 fun v H4 d w4 r4 n4 => k v H4 S3 d w4 r4 (l3.nw n4) (((f1.trans f2).trans f3).trans n4.fr)⟩
theorem cut_reps {q : Option Addr} {G : Hp} {vs : List V} {ds : List D} (h : Reps K q G vs ds) (lo hi : Option Int) : Reps K q G (cutV vs lo hi) (cutD ds lo hi) := by
  unfold cutV cutD
  rw [h.1]
  exact (h.drop _).take _
theorem cutD_length (xs : List D) (lo hi : Option Int) : (cutD xs lo hi).length ≤ xs.length := by
  unfold cutD
  rw [List.length_take, List.length_drop]
  omega
instance snd_slT : SndSl K (rSlA K) fSlT := ⟨fun q m H x dx lo hi Qd Q no rx h k => by
  cases rx with
  | tup hs hl hz hr =>
    rename_i a vs ds
    refine ⟨a, vs, rfl, sqt_un hs, fun w => ?_, fun _ p hp => k _ _ _ h (rep_tup hp no (cut_reps ⟨hl, hr⟩ lo hi) (Nat.le_trans (cutD_length _ _ _) hz)) (Nw.upd hp)⟩
    have e : cutD ds lo hi = ds := by
      unfold cutD
      rw [hl] at w
      rw [w.1, w.2]
      simp
    have h : Qd (.tup (cutD ds lo hi)) := h
    rw [e] at h
    exact k _ H _ h (.tup hs hl hz hr) (Nw.refl H)
  | _ => exact h.elim⟩
instance snd_slL : SndSl K (rSlL K) fSlL := ⟨fun q m H x dx lo hi Qd Q no rx h k => by
  cases rx with
  | lst hs hl hz hr => exact ⟨_, _, rfl, SqL.of (hid_of hs).1, fun p hp => k _ _ _ h (rep_lst hp no (cut_reps ⟨hl, hr⟩ lo hi) (Nat.le_trans (cutD_length _ _ _) hz)) (Nw.upd hp)⟩
  | _ => exact h.elim⟩

/-! ### built-ins -/
def rLen (K : PySem.W.Frag) : List V → Hp → VK → Prop := fun xs H Q => ∃ p ys, xs = [.ref p] ∧ (SqL K H p ys ∨ SqT K H p ys) ∧ Q (.int ys.length) H
theorem call_lenD {X : Cx} : CallR X (.builtin "len") (rLen X.K) := call_len_seq
def fLen : DFn := fun ds Q => match ds with
  | [.tup xs] => Q (.int xs.length)
  | [.lst xs] => Q (.int xs.length)
  | [.scr xs] => Q (.int xs.length)
  | _ => False
theorem reps1 {q : Option Addr} {G : Hp} {xs : List V} {d : D} (h : Reps K q G xs [d]) : ∃ v, xs = [v] ∧ Rep K q G v d := by
  obtain ⟨v, vs, rfl, a, b⟩ := h.inv
  rw [b.inv_nil]
  exact ⟨v, rfl, a⟩
theorem reps2 {q : Option Addr} {G : Hp} {xs : List V} {d e : D} (h : Reps K q G xs [d, e]) : ∃ v w, xs = [v, w] ∧ Rep K q G v d ∧ Rep K q G w e := by
  obtain ⟨v, vs, rfl, a, b⟩ := h.inv
  obtain ⟨w, rfl, c⟩ := reps1 b
  exact ⟨v, w, rfl, a, c⟩
theorem reps3 {q : Option Addr} {G : Hp} {xs : List V} {d e f : D} (h : Reps K q G xs [d, e, f]) : ∃ v w u, xs = [v, w, u] ∧ Rep K q G v d ∧ Rep K q G w e ∧ Rep K q G u f := by
  obtain ⟨v, vs, rfl, a, b⟩ := h.inv
  obtain ⟨w, u, rfl, c, d⟩ := reps2 b
  exact ⟨v, w, u, rfl, a, c, d⟩
instance snd_len : SndB K (rLen K) fLen := ⟨fun q m H xs ds Qd Q no rx h k => by
  unfold fLen at h
  split at h
  · obtain ⟨v, rfl, r⟩ := reps1 rx
    cases r with
    | tup hs hl hz hr => exact ⟨_, _, rfl, .inr (sqt_un hs), by rw [hl]; exact k _ H _ h (.int _) (Nw.refl H)⟩
  · obtain ⟨v, rfl, r⟩ := reps1 rx
    cases r with
    | lst hs hl hz hr => exact ⟨_, _, rfl, .inl (SqL.of (hid_of hs).1), by rw [hl]; exact k _ H _ h (.int _) (Nw.refl H)⟩
  · obtain ⟨v, rfl, r⟩ := reps1 rx
    cases r with
    | scr hs hl => exact ⟨_, _, rfl, .inl (sql_un hs), by rw [List.length_map]; exact k _ H _ h (.int _) (Nw.refl H)⟩
  · exact h.elim⟩
def rTupO (K : PySem.W.Frag) : List V → Hp → VK → Prop := fun xs H Q => ∃ p ys, xs = [.ref p] ∧ ((SqL K H p ys ∧ ∀ l, H l = none → Q (.ref l) (upd H l (.tup ys))) ∨ (SqT K H p ys ∧ Q (.ref p) H))
theorem call_tupO {X : Cx} : CallR X (.type "tuple") (rTupO X.K) := call_tuple_of
def fTupO : DFn := fun ds Q => match ds with
  | [.tup xs] => Q (.tup xs)
  | [.lst xs] => Q (.tup xs)
  | _ => False
instance snd_tupO : SndB K (rTupO K) fTupO := ⟨fun q m H xs ds Qd Q no rx h k => by
  unfold fTupO at h
  split at h
  · obtain ⟨v, rfl, r⟩ := reps1 rx
    cases r with
    | tup hs hl hz hr => exact ⟨_, _, rfl, .inr ⟨sqt_un hs, k _ H _ h (.tup hs hl hz hr) (Nw.refl H)⟩⟩
  · obtain ⟨v, rfl, r⟩ := reps1 rx
    cases r with
    | lst hs hl hz hr => exact ⟨_, _, rfl, .inl ⟨SqL.of (hid_of hs).1, fun p hp => k _ _ _ h (rep_tup hp no ⟨hl, hr⟩ hz) (Nw.upd hp)⟩⟩
  · exact h.elim⟩
def rLstO (K : PySem.W.Frag) : List V → Hp → VK → Prop := fun xs H Q => ∃ p ys, xs = [.ref p] ∧ (SqL K H p ys ∨ SqT K H p ys) ∧ ∀ l, H l = none → Q (.ref l) (upd H l (.lst ys))
theorem call_lstO {X : Cx} : CallR X (.type "list") (rLstO X.K) := call_list_of
def fLstO : DFn := fun ds Q => match ds with
  | [.tup xs] => Q (.lst xs)
  | [.lst xs] => Q (.lst xs)
  | _ => False
instance snd_lstO : SndB K (rLstO K) fLstO := ⟨fun q m H xs ds Qd Q no rx h k => by
  unfold fLstO at h
  split at h
  · obtain ⟨v, rfl, r⟩ := reps1 rx
    cases r with
    | tup hs hl hz hr => exact ⟨_, _, rfl, .inr (sqt_un hs), fun p hp => k _ _ _ h (rep_lst hp no ⟨hl, hr⟩ hz) (Nw.upd hp)⟩
  · obtain ⟨v, rfl, r⟩ := reps1 rx
    cases r with
    | lst hs hl hz hr => exact ⟨_, _, rfl, .inl (SqL.of (hid_of hs).1), fun p hp => k _ _ _ h (rep_lst hp no ⟨hl, hr⟩ hz) (Nw.upd hp)⟩
  · exact h.elim⟩
theorem reps_ints {q : Option Addr} {G : Hp} : ∀ {ns : List Int} {vs : List V}, Reps K q G vs (ns.map D.int) → vs = ns.map V.int
  | [], _, h => h.inv_nil
  | n :: ns, _, h => by
    obtain ⟨v, vs, rfl, a, b⟩ := Reps.inv (d := .int n) (ds := ns.map D.int) h
    cases a
    rw [reps_ints b] <;> rfl
theorem ints_reps {q : Option Addr} {G : Hp} : ∀ (ns : List Int), Reps K q G (ns.map V.int) (ns.map D.int)
  | [] => Reps.nil
  | n :: ns => .cons (.int n) (ints_reps ns)
theorem reps_bls {q : Option Addr} {G : Hp} : ∀ {ns : List Bool} {vs : List V}, Reps K q G vs (ns.map D.bl) → vs = ns.map V.bl
  | [], _, h => h.inv_nil
  | n :: ns, _, h => by
    obtain ⟨v, vs, rfl, a, b⟩ := Reps.inv (d := .bl n) (ds := ns.map D.bl) h
    cases a
    rw [reps_bls b] <;> rfl
def fSum : DFn := fun ds Q => match ds with
  | [.lst xs] => ∃ ns : List Int, xs = ns.map D.int ∧ Q (.int ns.sum)
  | _ => False
instance snd_sum : SndB K (rSum K) fSum := ⟨fun q m H xs ds Qd Q no rx h k => by
  unfold fSum at h
  split at h
  · obtain ⟨v, rfl, r⟩ := reps1 rx
    obtain ⟨ns, rfl, h⟩ := h
    cases r with
    | lst hs hl hz hr =>
      have e := reps_ints (K := K) (ns := ns) ⟨hl, hr⟩
      subst e
      exact ⟨_, ns, rfl, SqL.of (hid_of hs).1, k _ H _ h (.int _) (Nw.refl H)⟩
  · exact h.elim⟩
/-- max, min of a list of ints -/
def fMax : DFn := fun ds Q => match ds with
  | [.lst xs] => ∃ ns : List Int, xs = ns.map D.int ∧ ns ≠ [] ∧ ∀ m, m ∈ ns → (∀ y, y ∈ ns → y ≤ m) → Q (.int m)
  | _ => False
def fMin : DFn := fun ds Q => match ds with
  | [.lst xs] => ∃ ns : List Int, xs = ns.map D.int ∧ ns ≠ [] ∧ ∀ m, m ∈ ns → (∀ y, y ∈ ns → m ≤ y) → Q (.int m)
  | _ => False
instance snd_max : SndB K (rMax K) fMax := ⟨fun q m H xs ds Qd Q no rx h k => by
  unfold fMax at h
  split at h
  · obtain ⟨v, rfl, r⟩ := reps1 rx
    obtain ⟨ns, rfl, hn, h⟩ := h
    cases r with
    | lst hs hl hz hr =>
      have e := reps_ints (K := K) (ns := ns) ⟨hl, hr⟩
      subst e
      exact ⟨_, ns, rfl, SqL.of (hid_of hs).1, List.length_pos_iff.mpr hn, fun m h1 h2 => k _ H _ (h m h1 h2) (.int _) (Nw.refl H)⟩
  · exact h.elim⟩
instance snd_min : SndB K (rMin K) fMin := ⟨fun q m H xs ds Qd Q no rx h k => by
  unfold fMin at h
  split at h
  · obtain ⟨v, rfl, r⟩ := reps1 rx
    obtain ⟨ns, rfl, hn, h⟩ := h
    cases r with
    | lst hs hl hz hr =>
      have e := reps_ints (K := K) (ns := ns) ⟨hl, hr⟩
      subst e
      exact ⟨_, ns, rfl, SqL.of (hid_of hs).1, List.length_pos_iff.mpr hn, fun m h1 h2 => k _ H _ (h m h1 h2) (.int _) (Nw.refl H)⟩
  · exact h.elim⟩
def fAll : DFn := fun ds Q => match ds with
  | [.lst xs] => ∃ ns : List Bool, xs = ns.map D.bl ∧ Q (.bl (ns.all id))
  | _ => False
instance snd_all : SndB K (rAll K) fAll := ⟨fun q m H xs ds Qd Q no rx h k => by
  unfold fAll at h
  split at h
  · obtain ⟨v, rfl, r⟩ := reps1 rx
    obtain ⟨ns, rfl, h⟩ := h
    cases r with
    | lst hs hl hz hr =>
      have e := reps_bls (K := K) (ns := ns) ⟨hl, hr⟩
      subst e
      exact ⟨_, ns, rfl, SqL.of (hid_of hs).1, k _ H _ h (.bl _) (Nw.refl H)⟩
  · exact h.elim⟩
def rMin2 : List V → Hp → VK → Prop := fun xs H Q => ∃ i j, xs = [.int i, .int j] ∧ Q (.int (if j < i then j else i)) H
theorem call_min2D {X : Cx} (hc : X.calm = true) : CallR X (.builtin "min") rMin2 := call_min2 hc
def fMin2 : DFn := fun ds Q => match ds with
  | [.int i, .int j] => Q (.int (if j < i then j else i))
  | _ => False
instance snd_min2 : SndB K rMin2 fMin2 := ⟨fun q m H xs ds Qd Q no rx h k => by
  unfold fMin2 at h
  split at h
  · obtain ⟨v, w, rfl, r1, r2⟩ := reps2 rx
    cases r1
    cases r2
    exact ⟨_, _, rfl, k _ H _ h (.int _) (Nw.refl H)⟩
  · exact h.elim⟩
def rIntB : List V → Hp → VK → Prop := fun xs H Q => (∃ i, xs = [.int i] ∧ Q (.int i) H) ∨ ∃ k, xs = [.bl k] ∧ Q (.int (if k then 1 else 0)) H
theorem call_intB {X : Cx} : CallR X (.type "int") rIntB := call_int1
def fIntB : DFn := fun ds Q => match ds with
  | [.bl b] => Q (.int (if b then 1 else 0))
  | _ => False
instance snd_intB : SndB K rIntB fIntB := ⟨fun q m H xs ds Qd Q no rx h k => by
  unfold fIntB at h
  split at h
  · obtain ⟨v, rfl, r⟩ := reps1 rx
    cases r
    exact .inr ⟨_, rfl, k _ H _ h (.int _) (Nw.refl H)⟩
  · exact h.elim⟩
def tyD : D → String
  | .non => "NoneType"
  | .bl _ => "bool"
  | .int _ => "int"
  | .str _ => "str"
  | .tup _ => "tuple"
  | .lst _ => "list"
  | _ => ""
def fIsi : DFn := fun ds Q => match ds with
  | [x, .ty n] => ∃ b, (tyD x = "" → False) ∧ kitB (tyD x) n = some b ∧ Q (.bl b)
  | _ => False
theorem rep_ty {q : Option Addr} {m : List Addr} {H : Hp} {v : V} {d : D} (h : Rep K q (hid H m) v d) (n : tyD d = "" → False) : TyX K H v (.type (tyD d)) := by
  cases h with
  | non => exact .base .non
  | bl b => exact .base (.bl b)
  | int b => exact .base (.int b)
  | str b => exact .base (.str b)
  | tup hs hl hz hr =>
    rcases hs with (h | ⟨o, h⟩) | ⟨o, its, n, h1, h2, _⟩
    · exact .base (.tup (hid_of h).1)
    · exact .fTuple (hid_of h).1
    · exact .kTuple h1 h2
  | lst hs hl hz hr => exact .base (.lst (hid_of hs).1)
  | _ => exact absurd rfl n
instance snd_isi : SndB K (rIsi K) fIsi := ⟨fun q m H xs ds Qd Q no rx h k => by
  unfold fIsi at h
  split at h
  · rename_i x n
    obtain ⟨b, h0, h1, h⟩ := h
    obtain ⟨v, w, rfl, r1, r2⟩ := reps2 rx
    cases r2
    exact ⟨v, .ty n, .type (tyD x), .type n, b, rfl, .ty n, rep_ty r1 h0, kit_ty h1, k _ H _ h (.bl _) (Nw.refl H)⟩
  · exact h.elim⟩
/-- sorted of ints -/
def fSortI : DFn := fun ds Q => match ds with
  | [.lst xs] => ∃ ns : List Int, xs = ns.map D.int ∧ ∀ ys : List Int, ys.Perm ns → ys.Pairwise (· ≤ ·) → Q (.lst (ys.map D.int))
  | _ => False
instance snd_sortI : SndB K (rSortedI K) fSortI := ⟨fun q m H xs ds Qd Q no rx h k => by
  unfold fSortI at h
  split at h
  · obtain ⟨v, rfl, r⟩ := reps1 rx
    obtain ⟨ns, rfl, h⟩ := h
    cases r with
    | lst hs hl hz hr =>
      have e := reps_ints (K := K) (ns := ns) ⟨hl, hr⟩
      subst e
      refine ⟨_, ns, rfl, SqL.of (hid_of hs).1, ?_⟩
      intro ys p hperm hpw hp
      exact k _ _ _ (h ys hperm hpw) (rep_lst hp no (ints_reps ys) (by rw [List.length_map, hperm.length_eq]; rw [List.length_map] at hz; exact hz)) (Nw.upd hp)
  · exact h.elim⟩
/-- range as a list, a tuple -/
def rgD (a b : Int) : List D := (List.range (b - a).toNat).map fun i => D.int (a + (i : Nat))
def dRg1 (t : DTE) (f : List D → D) : DTE := fun ρ S Q => t ρ S fun d S1 => match d with
  | .int n => (0 ≤ n ∧ n ≤ 100000) ∧ Q (f (rgD 0 n)) S1
  | _ => False
theorem rg_reps {q : Option Addr} {G : Hp} (a b : Int) : Reps K q G (rgV a b) (rgD a b) := by
  have e1 : rgV a b = ((List.range (b - a).toNat).map fun i => a + (i : Nat)).map V.int := by unfold rgV; rw [List.map_map] <;> rfl
  have e2 : rgD a b = ((List.range (b - a).toNat).map fun i => a + (i : Nat)).map D.int := by unfold rgD; rw [List.map_map] <;> rfl
  rw [e1, e2]
  exact ints_reps _
instance snd_lstRg {te : TE} {t : DTE} [h : SndE K T te t] : SndE K T (tLstRg (tRg1 te)) (dRg1 t .lst) := ⟨fun c m σ H S ρ Qd Q r h1 k => h.run c m σ H S ρ _ _ r h1 fun v H1 S1 d h2 r1 l1 f1 => by
  cases r1 with
  | int n =>
    obtain ⟨⟨a, b⟩, h2⟩ := h2
    refine ⟨n, rfl, RgOk.of_le (by omega) (by omega) (by omega) (by omega), fun p hp => k _ _ S1 _ h2 (rep_lst hp l1.no (rg_reps 0 n) ?_) (l1.nw (Nw.upd hp)) (f1.trans (Nw.upd hp).fr)⟩
    unfold rgD
    rw [List.length_map, List.length_range, sizeLine_eq]
    omega
  | _ => exact h2.elim⟩
instance snd_tupRg {te : TE} {t : DTE} [h : SndE K T te t] : SndE K T (tTupRg (tRg1 te)) (dRg1 t .tup) := ⟨fun c m σ H S ρ Qd Q r h1 k => h.run c m σ H S ρ _ _ r h1 fun v H1 S1 d h2 r1 l1 f1 => by
  cases r1 with
  | int n =>
    obtain ⟨⟨a, b⟩, h2⟩ := h2
    refine ⟨n, rfl, RgOk.of_le (by omega) (by omega) (by omega) (by omega), fun p hp => k _ _ S1 _ h2 (rep_tup hp l1.no (rg_reps 0 n) ?_) (l1.nw (Nw.upd hp)) (f1.trans (Nw.upd hp).fr)⟩
    unfold rgD
    rw [List.length_map, List.length_range, sizeLine_eq]
    omega
  | _ => exact h2.elim⟩

/-! ### what is walked -/
def dIL (t : DTE) : DTA := fun ρ S Q => t ρ S fun d S1 => match d with
  | .lst xs => Q xs S1
  | _ => False
def dIT (t : DTE) : DTA := fun ρ S Q => t ρ S fun d S1 => match d with
  | .tup xs => Q xs S1
  | _ => False
def dIR1 (t : DTA) : DTA := fun ρ S Q => t ρ S fun ds S1 => match ds with
  | [.int n] => (-1000 ≤ n ∧ n ≤ 100000) ∧ Q (rgD 0 n) S1
  | _ => False
/-- i, i - 1, .. above j -/
def rgDown (i j : Int) : List D := (List.range (i - j).toNat).map fun k => D.int (i - (k : Nat))
def dIR3 (t : DTA) : DTA := fun ρ S Q => t ρ S fun ds S1 => match ds with
  | [.int i, .int j, .int c] => (c = -1 ∧ -1000 ≤ i ∧ i ≤ 100000 ∧ -1000 ≤ j ∧ j ≤ 100000) ∧ Q (rgDown i j) S1
  | _ => False
theorem rgD_at {a b : Int} {i : Nat} {d : D} (h : (rgD a b)[i]? = some d) : i < (b - a).toNat ∧ d = .int (a + i) := by
  unfold rgD at h
  rw [List.getElem?_map] at h
  cases e : (List.range (b - a).toNat)[i]? with
  | none => rw [e] at h; cases h
  | some j =>
    rw [e] at h
    obtain ⟨h1, h2⟩ := List.getElem?_eq_some_iff.mp e
    rw [List.length_range] at h1
    rw [List.getElem_range] at h2
    subst h2
    exact ⟨h1, (Option.some.inj h).symm⟩
theorem rgDown_at {a b : Int} {i : Nat} {d : D} (h : (rgDown a b)[i]? = some d) : i < (a - b).toNat ∧ d = .int (a - i) := by
  unfold rgDown at h
  rw [List.getElem?_map] at h
  cases e : (List.range (a - b).toNat)[i]? with
  | none => rw [e] at h; cases h
  | some j =>
    rw [e] at h
    obtain ⟨h1, h2⟩ := List.getElem?_eq_some_iff.mp e
    rw [List.length_range] at h1
    rw [List.getElem_range] at h2
    subst h2
    exact ⟨h1, (Option.some.inj h).symm⟩
theorem rgD_len (a b : Int) : (rgD a b).length = (b - a).toNat := by unfold rgD; rw [List.length_map, List.length_range]
theorem rgDown_len (a b : Int) : (rgDown a b).length = (a - b).toNat := by unfold rgDown; rw [List.length_map, List.length_range]
theorem items_list {q : Option Addr} {m : List Addr} {H1 : Hp} {a : Addr} {vs : List V} {ds : List D} (h : hid H1 m a = some (.lst vs)) (r : Reps K q (hid H1 m) vs ds) : Items K q m H1 (Itl K a) ds := fun m' H' e no => by
  have h' : SqL K H' a vs := SqL.of (hid_of (e _ _ h (fun ps z => by cases z))).1
  refine ⟨fun i d hd => ?_, ⟨vs, h', by rw [r.1]; exact Nat.le_refl _⟩⟩
  obtain ⟨v, hv, rv⟩ := r.at_ hd
  refine ⟨⟨vs, v, h', hv⟩, fun x H2 y => ?_⟩
  obtain ⟨rfl, y⟩ := y
  have := y vs h'
  rw [hv] at this
  cases this
  exact ⟨rv.mono e, Nw.refl _⟩
theorem items_tup {q : Option Addr} {m : List Addr} {H1 : Hp} {a : Addr} {vs : List V} {ds : List D} (h : SqT K (hid H1 m) a vs) (r : Reps K q (hid H1 m) vs ds) : Items K q m H1 (Itt K a) ds := fun m' H' e no => by
  have h' : SqT K H' a vs := sqt_un (sqt_ex e h)
  refine ⟨fun i d hd => ?_, ⟨vs, h', by rw [r.1]; exact Nat.le_refl _⟩⟩
  obtain ⟨v, hv, rv⟩ := r.at_ hd
  refine ⟨⟨vs, v, h', hv⟩, fun x H2 y => ?_⟩
  obtain ⟨rfl, y⟩ := y
  have := y vs h'
  rw [hv] at this
  cases this
  exact ⟨rv.mono e, Nw.refl _⟩
instance snd_iList {te : TE} {t : DTE} [h : SndE K T te t] : SndI K T (iList K te) (dIL t) := ⟨fun c m σ H S ρ Qd R r h1 k => h.run c m σ H S ρ _ _ r h1 fun v H1 S1 d h2 r1 l1 f1 => by
  cases r1 with
  | lst hs hl hz hr => exact ⟨_, rfl, ⟨_, SqL.of (hid_of hs).1⟩, k _ H1 S1 _ h2 hz l1 f1 (items_list hs ⟨hl, hr⟩)⟩
  | _ => exact h2.elim⟩
instance snd_iTup {te : TE} {t : DTE} [h : SndE K T te t] : SndI K T (iTup K te) (dIT t) := ⟨fun c m σ H S ρ Qd R r h1 k => h.run c m σ H S ρ _ _ r h1 fun v H1 S1 d h2 r1 l1 f1 => by
  cases r1 with
  | tup hs hl hz hr => exact ⟨_, rfl, ⟨_, sqt_un hs⟩, k _ H1 S1 _ h2 hz l1 f1 (items_tup hs ⟨hl, hr⟩)⟩
  | _ => exact h2.elim⟩
instance snd_iRng1 {ta : TA} {t : DTA} [h : SndA K T ta t] : SndI K T (iRng1 ta) (dIR1 t) := ⟨fun c m σ H S ρ Qd R r h1 k => h.run c m σ H S ρ _ _ r h1 fun vs H1 S1 ds h2 r1 l1 f1 => by
  split at h2
  · rename_i n
    obtain ⟨v, rfl, r2⟩ := reps1 r1
    cases r2
    obtain ⟨⟨a, b⟩, h2⟩ := h2
    refine ⟨n, rfl, by omega, by omega, k _ H1 S1 _ h2 (by rw [rgD_len, sizeLine_eq]; omega) l1 f1 fun m' H' e no => ⟨fun i d hd => ?_, ?_⟩⟩
    · obtain ⟨hi, rfl⟩ := rgD_at hd
      refine ⟨show i < n.toNat by omega, fun x H2 y => ?_⟩
      obtain ⟨rfl, rfl⟩ := y
      exact ⟨.int _, Nw.refl _⟩
    · rw [rgD_len]
      show n.toNat ≤ (n - 0).toNat
      omega
  · exact h2.elim⟩
instance snd_iRng3 {ta : TA} {t : DTA} [h : SndA K T ta t] : SndI K T (iRng3 ta) (dIR3 t) := ⟨fun c m σ H S ρ Qd R r h1 k => h.run c m σ H S ρ _ _ r h1 fun vs H1 S1 ds h2 r1 l1 f1 => by
  split at h2
  · rename_i i j n
    obtain ⟨v, w, u, rfl, ra, rb, rc⟩ := reps3 r1
    cases ra
    cases rb
    cases rc
    obtain ⟨⟨rfl, a, b, a', b'⟩, h2⟩ := h2
    refine ⟨i, j, -1, (i - j).toNat, rfl, RgC.neg (by omega) (by omega) (by omega) (by omega), k _ H1 S1 _ h2 (by rw [rgDown_len, sizeLine_eq]; omega) l1 f1 fun m' H' e no => ⟨fun l d hd => ?_, ?_⟩⟩
    · obtain ⟨hi, rfl⟩ := rgDown_at hd
      refine ⟨hi, fun x H2 y => ?_⟩
      obtain ⟨rfl, rfl⟩ := y
      have e3 : i + (l : Nat) * (-1) = i - l := by omega
      rw [e3]
      exact ⟨.int _, Nw.refl _⟩
    · rw [rgDown_len]
      exact Nat.le_refl _
  · exact h2.elim⟩
def zipD : List D → List D → List D
  | x :: xs, y :: ys => .tup [x, y] :: zipD xs ys
  | _, _ => []
theorem zipD_at : ∀ {xs ys : List D} {i : Nat} {d : D}, (zipD xs ys)[i]? = some d → ∃ x y, xs[i]? = some x ∧ ys[i]? = some y ∧ d = .tup [x, y]
  | [], _, i, d, h => by simp [zipD] at h
  | _ :: _, [], i, d, h => by simp [zipD] at h
  | x :: xs, y :: ys, 0, d, h => by
    simp [zipD] at h
    exact ⟨x, y, rfl, rfl, h.symm⟩
  | x :: xs, y :: ys, i + 1, d, h => by
    simp [zipD] at h
    obtain ⟨a, b, h1, h2, h3⟩ := zipD_at h
    exact ⟨a, b, by simpa using h1, by simpa using h2, h3⟩
theorem zipD_len : ∀ (xs ys : List D), (zipD xs ys).length = min xs.length ys.length
  | [], _ => by simp [zipD]
  | _ :: _, [] => by simp [zipD]
  | x :: xs, y :: ys => by
    simp [zipD, zipD_len xs ys]
def dIZ (t : DTA) : DTA := fun ρ S Q => t ρ S fun ds S1 => match ds with
  | [.tup xs, .tup ys] => Q (zipD xs ys) S1
  | _ => False
instance snd_iZip {ta : TA} {t : DTA} [h : SndA K T ta t] : SndI K T (RZ.iZipA K ta) (dIZ t) := ⟨fun c m σ H S ρ Qd R r h1 k => h.run c m σ H S ρ _ _ r h1 fun vs H1 S1 ds h2 r1 l1 f1 => by
  split at h2
  · rename_i xs ys
    obtain ⟨v, w, rfl, ra, rb⟩ := reps2 r1
    cases ra with
    | tup hs hl hz hr =>
      cases rb with
      | tup hs' hl' hz' hr' =>
        rename_i a va b vb
        refine ⟨a, b, va, vb, rfl, .inr ⟨sqt_un hs, sqt_un hs', k _ H1 S1 _ h2 (by rw [zipD_len]; omega) l1 f1 fun m' H' e no => ⟨fun i d hd => ?_, ?_⟩⟩⟩
        · obtain ⟨x, y, hx, hy, rfl⟩ := zipD_at hd
          have s1 : SqT K H' a va := sqt_un (sqt_ex e hs)
          have s2 : SqT K H' b vb := sqt_un (sqt_ex e hs')
          obtain ⟨vx, e1, rx⟩ := Reps.at_ (K := K) ⟨hl, hr⟩ hx
          obtain ⟨vy, e2, ry⟩ := Reps.at_ (K := K) ⟨hl', hr'⟩ hy
          refine ⟨⟨va, vb, vx, vy, s1, s2, e1, e2⟩, fun z H2 y => ?_⟩
          obtain ⟨p, x1, y1, rfl, hp, rfl, g1, g2⟩ := y
          have q1 := g1 va s1
          have q2 := g2 vb s2
          rw [e1] at q1
          rw [e2] at q2
          cases q1
          cases q2
          exact ⟨rep_tup hp no (.cons (rx.mono e) (.cons (ry.mono e) Reps.nil)) (by show 2 ≤ sizeLine; decide), Nw.upd hp⟩
        · refine ⟨va, vb, sqt_un (sqt_ex e hs), sqt_un (sqt_ex e hs'), ?_⟩
          rw [zipD_len]
          omega
  · exact h2.elim⟩
def enumD : Nat → List D → List D
  | _, [] => []
  | n, x :: xs => .tup [.int n, x] :: enumD (n + 1) xs
theorem enumD_at : ∀ {xs : List D} {n i : Nat} {d : D}, (enumD n xs)[i]? = some d → ∃ x, xs[i]? = some x ∧ d = .tup [.int (n + i : Nat), x]
  | [], n, i, d, h => by simp [enumD] at h
  | x :: xs, n, 0, d, h => by
    simp [enumD] at h
    exact ⟨x, rfl, by simpa using h.symm⟩
  | x :: xs, n, i + 1, d, h => by
    simp only [enumD, List.getElem?_cons_succ] at h
    obtain ⟨a, h1, h2⟩ := enumD_at h
    exact ⟨a, by simpa using h1, by rw [h2]; congr 4; omega⟩
theorem enumD_len : ∀ (n : Nat) (xs : List D), (enumD n xs).length = xs.length
  | _, [] => rfl
  | n, x :: xs => by simp [enumD, enumD_len (n + 1) xs]
def dIE (t : DTA) : DTA := fun ρ S Q => t ρ S fun ds S1 => match ds with
  | [.lst xs] => Q (enumD 0 xs) S1
  | _ => False
instance snd_iEnum {ta : TA} {t : DTA} [h : SndA K T ta t] : SndI K T (iEnum K ta) (dIE t) := ⟨fun c m σ H S ρ Qd R r h1 k => h.run c m σ H S ρ _ _ r h1 fun vs H1 S1 ds h2 r1 l1 f1 => by
  split at h2
  · rename_i xs
    obtain ⟨v, rfl, ra⟩ := reps1 r1
    cases ra with
    | lst hs hl hz hr =>
      rename_i a va
      refine ⟨a, va, rfl, SqL.of (hid_of hs).1, k _ H1 S1 _ h2 (by rw [enumD_len]; exact hz) l1 f1 fun m' H' e no => ⟨fun i d hd => ?_, ?_⟩⟩
      · obtain ⟨x, hx, rfl⟩ := enumD_at hd
        have s1 : SqL K H' a va := SqL.of (hid_of (e _ _ hs (fun ps z => by cases z))).1
        obtain ⟨vx, e1, rx⟩ := Reps.at_ (K := K) ⟨hl, hr⟩ hx
        refine ⟨⟨va, vx, s1, e1⟩, fun z H2 y => ?_⟩
        obtain ⟨p, x1, rfl, hp, rfl, g1⟩ := y
        have q1 := g1 va s1
        rw [e1] at q1
        cases q1
        rw [Nat.zero_add]
        exact ⟨rep_tup hp no (.cons (.int _) (.cons (rx.mono e) Reps.nil)) (by show 2 ≤ sizeLine; decide), Nw.upd hp⟩
      · refine ⟨va, SqL.of (hid_of (e _ _ hs (fun ps z => by cases z))).1, ?_⟩
        rw [enumD_len]
        omega
  · exact h2.elim⟩
end
end DL
end
section
set_option maxRecDepth 100000
namespace DL
open PySem PySem.Spec PyProof.Rows L2
theorem hid_upd_in {H : Hp} {m : List Addr} {p : Addr} {o : HO} (h : p ∈ m) : hid (upd H p o) m = hid H m := by
  funext a
  unfold hid
  by_cases ha : a ∈ m
  · rw [if_pos ha, if_pos ha]
  · rw [if_neg ha, if_neg ha, upd_ne (fun z => ha (by rw [z]; exact h))]
theorem hid_push {H : Hp} {m : List Addr} {p : Addr} {o : HO} (h : H p = none) : hid (upd H p o) (p :: m) = hid H m := by
  funext a
  unfold hid
  by_cases e : a = p
  · subst e
    rw [if_pos List.mem_cons_self]
    split
    · rfl
    · exact h.symm
  · by_cases ha : a ∈ m
    · rw [if_pos ha, if_pos (List.mem_cons_of_mem _ ha)]
    · rw [if_neg ha, if_neg (fun z => (List.mem_cons.mp z).elim e ha), upd_ne e]
section
variable {K : PySem.W.Frag} {T : Tb} {c : DC} {m m' : List Addr} {σ σ' : L2.St} {H H' : Hp} {S S' : Nat} {ρ ρ' : DEnv} {p : Addr}
theorem Rl.qne (r : Rl K T c m σ H S ρ) (hp : H p = none) : c.q ≠ some p := fun z => r.fresh hp (r.qmm p z)
theorem Rl.push (r : Rl K T c m σ H S ρ) {o : HO} (hp : H p = none) (no : ∀ ps, o ≠ .tbl ps) : Rl K T c (p :: m) σ (upd H p o) S ρ where
  sub := fun a h => List.mem_cons_of_mem _ (r.sub a h)
  qm := r.qm
  dom := fun a ha => by
    by_cases e : a = p
    · subst e; exact ⟨o, upd_same, no⟩
    · rw [upd_ne e]; exact r.dom a ((List.mem_cons.mp ha).resolve_left e)
  pot := r.pot.nw (Nw.upd hp)
  tab := tabs_nw r.tab (Nw.upd hp)
  fr := r.fr.trans (Nw.upd hp).fr
  new := fun a ha h0 u hu => by
    by_cases e : a = p
    · subst e
      by_cases z : ∃ ps, u = .tbl ps
      · exact z
      · have := r.fr a u hu (r.qne hp) (fun ps w => z ⟨ps, w⟩)
        rw [hp] at this; cases this
    · exact r.new a ((List.mem_cons.mp ha).resolve_left e) h0 u hu
  slot := fun i d e => by
    obtain ⟨v, e1, s⟩ := r.slot i d e
    refine ⟨v, e1, ?_⟩
    cases s with
    | fz h => exact .fz (by rw [hid_push hp]; exact h)
    | mu h1 h2 h3 h4 h5 => exact .mu (List.mem_cons_of_mem _ h1) h2 (by rw [upd_ne (ne_of_none h3 hp)]; exact h3) h4 (by rw [hid_push hp]; exact h5)
    | md h1 h2 h3 h4 h5 => exact .md (List.mem_cons_of_mem _ h1) h2 (by rw [upd_ne (ne_of_none h3 hp)]; exact h3) h4 (by rw [hid_push hp]; exact h5)
  sep := r.sep
  len := r.len
/-- no slot holds the thing at p to change it -/
def NoS (p : Addr) (σ : L2.St) (ρ : DEnv) : Prop := ∀ (i : Nat) (d : D), ρ[i]? = some (some d) → d.isMut = true → σ[i]? ≠ some (some (.ref p))
theorem Slot.at_ {v : V} {d : D} (s : Slot K c m H v d) (h : d.isMut = true) : ∃ p o, v = .ref p ∧ p ∈ m ∧ p ∉ c.m0 ∧ H p = some o := by
  cases s with
  | fz h1 => rw [h1.notMut] at h; cases h
  | mu h1 h2 h3 h4 h5 => exact ⟨_, _, rfl, h1, h2, h3⟩
  | md h1 h2 h3 h4 h5 => exact ⟨_, _, rfl, h1, h2, h3⟩
theorem Rl.noS (r : Rl K T c m σ H S ρ) (hp : H p = none) : NoS p σ ρ := fun i d e hm z => by
  obtain ⟨v, e1, s⟩ := r.slot i d e
  obtain ⟨a, o, rfl, _, _, ho⟩ := s.at_ hm
  rw [e1] at z
  cases z
  rw [hp] at ho
  cases ho
/-- something that no slot holds is changed -/
theorem Rl.updm (r : Rl K T c m σ H S ρ) {o o' : HO} (hm : p ∈ m) (h0 : p ∉ c.m0) (h : H p = some o) (hl : (∃ xs, o = .lst xs) ∨ ∃ xs, o = .dK xs) (no : ∀ ps, o' ≠ .tbl ps) (ns : NoS p σ ρ) : Rl K T c m σ (upd H p o') S ρ where
  sub := r.sub
  qm := r.qm
  dom := fun a ha => by
    by_cases e : a = p
    · subst e; exact ⟨o', upd_same, no⟩
    · rw [upd_ne e]; exact r.dom a ha
  pot := fun a e => by
    obtain ⟨x, y, z, h1, h2⟩ := r.pot a e
    exact ⟨x, y, z, by rw [upd_ne (fun w => h0 (by rw [← w]; exact r.qm a e))]; exact h1, h2⟩
  tab := by
    rcases hl with ⟨xs, rfl⟩ | ⟨xs, rfl⟩
    · exact tabs_upd r.tab h
    · exact tabs_updK r.tab h
  fr := fun a u e hq nt => by
    have ne : a ≠ p := fun z => by
      subst z
      obtain ⟨ps, w⟩ := r.new a hm h0 u e
      exact nt ps w
    rw [upd_ne ne]
    exact r.fr a u e hq nt
  new := r.new
  slot := fun i d e => by
    obtain ⟨v, e1, s⟩ := r.slot i d e
    refine ⟨v, e1, ?_⟩
    cases s with
    | fz h => exact .fz (by rw [hid_upd_in hm]; exact h)
    | mu h1 h2 h3 h4 h5 => exact .mu h1 h2 (by rw [upd_ne (fun z => ns i _ e rfl (by rw [e1, z]))]; exact h3) h4 (by rw [hid_upd_in hm]; exact h5)
    | md h1 h2 h3 h4 h5 => exact .md h1 h2 (by rw [upd_ne (fun z => ns i _ e rfl (by rw [e1, z]))]; exact h3) h4 (by rw [hid_upd_in hm]; exact h5)
  sep := r.sep
  len := r.len
theorem wipe_get : ∀ {vs : List Nat} {σ : L2.St} {i : Nat}, (wipe σ vs)[i]? = if i ∈ vs then (σ[i]?.map fun _ => none) else σ[i]?
  | [], σ, i => by simp [wipe]
  | v :: vs, σ, i => by
    show ((wipe σ vs).set v none)[i]? = _
    rw [List.getElem?_set]
    by_cases e : v = i
    · subst e
      rw [if_pos rfl, if_pos List.mem_cons_self, wipe_length]
      by_cases hl : v < σ.length
      · rw [if_pos hl, List.getElem?_eq_getElem hl] <;> rfl
      · rw [if_neg hl, List.getElem?_eq_none (by omega)] <;> rfl
    · rw [if_neg e, wipe_get]
      by_cases hi : i ∈ vs
      · rw [if_pos hi, if_pos (List.mem_cons_of_mem _ hi)]
      · rw [if_neg hi, if_neg (fun z => (List.mem_cons.mp z).elim (fun w => e w.symm) hi)]
theorem dwipe_length : ∀ (ρ : DEnv) (vs : List Nat), (dwipe ρ vs).length = ρ.length
  | ρ, [] => rfl
  | ρ, v :: vs => by
    show ((dwipe ρ vs).set v none).length = _
    rw [List.length_set, dwipe_length]
theorem dwipe_some : ∀ {vs : List Nat} {ρ : DEnv} {i : Nat} {d : D}, (dwipe ρ vs)[i]? = some (some d) → ρ[i]? = some (some d) ∧ i ∉ vs
  | [], ρ, i, d, h => ⟨h, by simp⟩
  | v :: vs, ρ, i, d, h => by
    have h : ((dwipe ρ vs).set v none)[i]? = some (some d) := h
    rw [List.getElem?_set] at h
    split at h
    · split at h <;> cases h
    · rename_i e
      obtain ⟨h1, h2⟩ := dwipe_some h
      exact ⟨h1, fun z => (List.mem_cons.mp z).elim (fun w => e w.symm) h2⟩
theorem Rl.wipe (r : Rl K T c m σ H S ρ) (vs : List Nat) : Rl K T c m (wipe σ vs) H S (dwipe ρ vs) :=
  r.re id (fun _ _ n _ _ => n) (fun i d e => by
    obtain ⟨h1, h2⟩ := dwipe_some e
    exact ⟨h1, by rw [wipe_get, if_neg h2] <;> rfl⟩) (by rw [wipe_length, dwipe_length]; exact r.len)
theorem NoS.wipe (h : NoS p σ ρ) (vs : List Nat) : NoS p (L2.wipe σ vs) (dwipe ρ vs) := fun i d e hm => by
  obtain ⟨h1, h2⟩ := dwipe_some e
  rw [wipe_get, if_neg h2]
  exact h i d h1 hm
class MemL (i : Nat) (vs : List Nat) : Prop where
  h : i ∈ vs
instance (i : Nat) (vs : List Nat) : MemL i (i :: vs) := ⟨List.mem_cons_self⟩
instance (i j : Nat) (vs : List Nat) [h : MemL i vs] : MemL i (j :: vs) := ⟨List.mem_cons_of_mem _ h.h⟩
class SubL (is vs : List Nat) : Prop where
  h : ∀ i ∈ is, i ∈ vs
instance (vs : List Nat) : SubL [] vs := ⟨fun _ h => by simp at h⟩
instance (i : Nat) (is vs : List Nat) [h1 : MemL i vs] [h2 : SubL is vs] : SubL (i :: is) vs := ⟨fun j h => (List.mem_cons.mp h).elim (fun e => by rw [e]; exact h1.h) (h2.h j)⟩
instance (is js vs : List Nat) [h1 : SubL is vs] [h2 : SubL js vs] : SubL (is ++ js) vs := ⟨fun j h => (List.mem_append.mp h).elim (h1.h j) (h2.h j)⟩
def dYes : DTT := fun _ S Q => Q true S
instance snd_yes : SndT K T tYes dYes := ⟨fun c m σ H S ρ Qd Q r h k => k true H S h r (Fr.refl _ _)⟩
instance snd_lc {wi : TI} {g : TG} {tt : TT} {te : TE} {vs : List Nat} {ti : DTA} {dg : DTG} {dt : DTT} {de : DTE} {is : List Nat} [hi : SndI K T wi ti] [hg : SndG K T g dg is] [ht : SndT K T tt dt] [he : SndE K T te de] [hs : SubL is vs] :
    SndE K T (tLc wi g tt te vs) (dLc ti dg dt de vs) := ⟨fun c m σ H S ρ Qd Q r h k => hi.run c m σ H S ρ _ _ r h fun J H1 S1 ds h1 hz l1 f1 items Dl hD => by
  obtain ⟨hlt0, h1⟩ := h1
  have no0 : ∀ ps, HO.lst [] ≠ .tbl ps := fun ps z => by cases z
  have hq : c.q ≠ some Dl := l1.qne hD
  have nm : Dl ∉ m := l1.fresh hD
  have n0 : Dl ∉ c.m0 := fun z => nm (l1.sub _ z)
  have ns := (l1.noS hD).wipe vs
  have lw : Rl K T c (Dl :: m) (wipe σ vs) (upd H1 Dl (.lst [])) S1 (dwipe ρ vs) := (l1.push hD no0).wipe vs
  refine ⟨fun i n H' => ∃ S' vacc dacc, n = ds.length - i ∧ i ≤ ds.length ∧ Rl K T c (Dl :: m) (wipe σ vs) H' S' (dwipe ρ vs) ∧ Ex (hid H1 m) (hid H' (Dl :: m)) ∧ Fr c.q H1 H' ∧ H' Dl = some (.lst vacc) ∧
    Reps K c.q (hid H' (Dl :: m)) vacc dacc ∧ dacc.length ≤ i ∧ lcD dg dt de (dwipe ρ vs) Qd (ds.drop i) dacc S', ⟨ds.length, S1, [], [], by simp, Nat.zero_le _, lw, by rw [hid_push hD]; exact Ex.refl _, (Nw.upd hD).fr, upd_same, Reps.nil, Nat.zero_le _, by simpa using h1⟩, ?_⟩
  rintro i n H' ⟨S', vacc, dacc, rfl, hle, l, e, f, hDl, ra, hlen, w⟩
  obtain ⟨go, stop⟩ := items (Dl :: m) H' e l.no
  by_cases hlt : i < ds.length
  · obtain ⟨g1, y1⟩ := go i ds[i] (List.getElem?_eq_getElem hlt)
    refine .inr ⟨g1, fun H'' => ∃ S'' vacc dacc, Rl K T c (Dl :: m) (wipe σ vs) H'' S'' (dwipe ρ vs) ∧ Ex (hid H1 m) (hid H'' (Dl :: m)) ∧ Fr c.q H1 H'' ∧ H'' Dl = some (.lst vacc) ∧
      Reps K c.q (hid H'' (Dl :: m)) vacc dacc ∧ dacc.length ≤ i + 1 ∧ lcD dg dt de (dwipe ρ vs) Qd (ds.drop (i + 1)) dacc S'', ?_, fun x H3 y => ?_⟩
    · rintro H'' ⟨S'', va, da, a1, a2, a3, a4, a5, a6, a7⟩
      exact ⟨ds.length - (i + 1), by omega, S'', va, da, rfl, hlt, a1, a2, a3, a4, a5, a6, a7⟩
    · obtain ⟨rx, nx⟩ := y1 x H3 y
      rw [drop_cons hlt] at w
      have l3 := l.nw nx
      refine hg.run c (Dl :: m) (wipe σ vs) H3 S' (dwipe ρ vs) x _ _ _ l3 rx w fun σ2 ρ2 w2 l2 wp => ⟨?_, ht.run c (Dl :: m) σ2 H3 S' ρ2 _ _ l2 w2 fun b H4 S4 w3 l4 f4 => ?_⟩
      · have a := wp.wipe vs hs.h
        rw [a]
        have go : ∀ (us : List Nat), (∀ i ∈ us, i ∈ vs) → wipe (wipe σ vs) us = wipe σ vs := by
          intro us
          induction us with
          | nil => intro _; rfl
          | cons u us ih =>
            intro hu
            show (wipe (wipe σ vs) us).set u none = wipe σ vs
            rw [ih fun i hi => hu i (List.mem_cons_of_mem _ hi)]
            apply List.ext_getElem?
            intro j
            rw [List.getElem?_set]
            split
            · rename_i q
              subst q
              rw [wipe_get, if_pos (hu u List.mem_cons_self), wipe_length]
              by_cases hl : u < σ.length
              · rw [if_pos hl, List.getElem?_eq_getElem hl] <;> rfl
              · rw [if_neg hl, List.getElem?_eq_none (by omega)] <;> rfl
            · rfl
        exact go vs fun _ h => h
      · have e4 : Ex (hid H' (Dl :: m)) (hid H4 (Dl :: m)) := nx.ex.trans (f4.ex l3.qmm)
        have lw4 := l3.on f4 l4.pot l4.tab
        have h4 : H4 Dl = some (.lst vacc) := f4 _ _ (nx _ _ hDl) hq (fun ps z => by cases z)
        have fr4 : Fr c.q H1 H4 := (f.trans nx.fr).trans f4
        cases b with
        | false => exact ⟨S4, vacc, dacc, lw4, e.trans e4, fr4, h4, ra.mono e4, by omega, w3⟩
        | true =>
          refine he.run c (Dl :: m) σ2 H4 S4 ρ2 _ _ l4 w3 fun yv H5 S5 dy w5 r5 l5 f5 => ?_
          have e5 : Ex (hid H' (Dl :: m)) (hid H5 (Dl :: m)) := e4.trans (f5.ex l3.qmm)
          have h5 : H5 Dl = some (.lst vacc) := f5 _ _ h4 hq (fun ps z => by cases z)
          have hm : Dl ∈ Dl :: m := List.mem_cons_self
          refine ⟨vacc, h5, by rw [ra.1]; omega, S5, vacc ++ [yv], dacc ++ [dy], (lw4.on f5 l5.pot l5.tab).updm hm n0 h5 (.inl ⟨_, rfl⟩) (fun ps z => by cases z) ns, ?_, fun a o ha hqa nt => ?_, upd_same, ?_, by rw [List.length_append]; show dacc.length + 1 ≤ i + 1; omega, w5⟩
          · rw [hid_upd_in hm]; exact e.trans e5
          · rw [upd_ne (ne_of_none ha hD)]
            exact f5 _ _ (fr4 a o ha hqa nt) hqa nt
          · rw [hid_upd_in hm]; exact (ra.mono e5).app (.cons r5 Reps.nil)
  · have hi : i = ds.length := by omega
    subst hi
    have w : lcD dg dt de (dwipe ρ vs) Qd (ds.drop ds.length) dacc S' := w
    rw [List.drop_length] at w
    exact .inl ⟨stop, k _ H' S' (.lst dacc) w (.lst (hid_in hDl nm) ra.1 (by omega) (ra.mono (Ex.less fun a ha => List.mem_cons_of_mem _ ha)).2) (l1.on f l.pot l.tab) (f1.trans f)⟩⟩
end
section
variable {X : Cx}
theorem pe_lcV {elt tg iter : Expr} {ifs : List Expr} {scope : Scope} (own : List (Str × Nat)) {pos : Pos} {wi : TI} {g : TG} {tt : TT} {te : TE} {vs : List Nat} (hc : X.calm = true) (hN : X.N.Nodup) (hi : PI X tg iter wi) (ok : blkC X.N X.env.scope scope own = true) (hv : own.map (·.2) = vs)
    (hg : ∀ (s : Shared) (H : Hp) (C : Addr) (cl : List (Str × Addr)) (fp : List Addr), PG (X.blk s H scope (compEnvC scope cl C X.env) fp) tg g) (ht : ∀ (s : Shared) (H : Hp) (C : Addr) (cl : List (Str × Addr)) (fp : List Addr), PTs (X.blk s H scope (compEnvC scope cl C X.env) fp) ifs tt)
    (he : ∀ (s : Shared) (H : Hp) (C : Addr) (cl : List (Str × Addr)) (fp : List Addr), PE (X.blk s H scope (compEnvC scope cl C X.env) fp) elt te) (hs : ∀ x, foldedSetIterable iter X.env x = pure x := by intro _; rfl) :
    PE X (.ListComp elt [⟨tg, iter, ifs, 0⟩] scope pos) (tLc wi g tt te vs) := by
  subst hv
  exact pe_lc hc hN hi (blkOk_by ok) hg ht he hs
theorem ps_setLcV {i : Nat} {y : Str} {py : Pos} {elt tg iter : Expr} {ifs : List Expr} {scope : Scope} (own : List (Str × Nat)) {pos spos : Pos} {wi : TI} {g : TG} {tt : TT} {te : TE} {vs : List Nat} (hc : X.calm = true) (hN : X.N.Nodup) (hy : X.N[i]? = some y) (hyl : X.env.scope.names.lookup y = some .local)
    (hsw : swapsWith (.ListComp elt [⟨tg, iter, ifs, 0⟩] scope pos) (some (.Name y py)) spos.line X.env = pure true) (hi : PI X tg iter wi) (ok : blkC X.N X.env.scope scope own = true) (hv : own.map (·.2) = vs)
    (hg : ∀ (s : Shared) (H : Hp) (C : Addr) (cl : List (Str × Addr)) (fp : List Addr), PG (X.blk s H scope (compEnvC scope cl C X.env) fp) tg g) (ht : ∀ (s : Shared) (H : Hp) (C : Addr) (cl : List (Str × Addr)) (fp : List Addr), PTs (X.blk s H scope (compEnvC scope cl C X.env) fp) ifs tt)
    (he : ∀ (s : Shared) (H : Hp) (C : Addr) (cl : List (Str × Addr)) (fp : List Addr), PE (X.blk s H scope (compEnvC scope cl C X.env) fp) elt te) (hs : ∀ x, foldedSetIterable iter X.env x = pure x := by intro _; rfl) :
    PS X (.Assign [.Name y py] (.ListComp elt [⟨tg, iter, ifs, 0⟩] scope pos) spos) (tAsg (tLc wi g tt te vs) (gName i)) := by
  subst hv
  exact ps_setLc hc hN hy hyl hsw hi (blkOk_by ok) hg ht he hs
end
end DL
end
section
set_option maxRecDepth 100000
namespace DL
open PySem PySem.Spec PyProof.Rows L2
/-! ### rules that serve several kinds of values -/
def rOr (r r' : R2) : R2 := fun x y H Q => r x y H Q ∨ r' x y H Q
def fOr (f f' : DF2) : DF2 := fun x y Q => f x y Q ∨ f' x y Q
section
variable {K : PySem.W.Frag} {T : Tb}
instance snd_or2 {r r' : R2} {f f' : DF2} [h : SndR K r f] [h' : SndR K r' f'] : SndR K (rOr r r') (fOr f f') := ⟨fun q m H x y dx dy Qd Q no rx ry w k => by
  rcases w with w | w
  · exact .inl (h.run q m H x y dx dy Qd Q no rx ry w k)
  · exact .inr (h'.run q m H x y dx dy Qd Q no rx ry w k)⟩
def rAddX (K : PySem.W.Frag) : R2 := rOr (rI0 fun i j => .int (i + j)) (rOr (rCatA K) rCat)
def fAddX : DF2 := fun x y Q => match x, y with
  | .int i, .int j => Q (.int (i + j))
  | .tup xs, .tup ys => xs.length + ys.length ≤ sizeLine ∧ Q (.tup (xs ++ ys))
  | .lst xs, .lst ys => xs.length + ys.length ≤ sizeLine ∧ Q (.lst (xs ++ ys))
  | _, _ => False
instance snd_addX : SndR K (rAddX K) fAddX := ⟨fun q m H x y dx dy Qd Q no rx ry w k => by
  unfold fAddX at w
  split at w
  · exact .inl (snd_add.run (K := K) q m H x y _ _ Qd Q no rx ry w k)
  · exact .inr (.inl (snd_catT.run q m H x y _ _ Qd Q no rx ry w k))
  · exact .inr (.inr (snd_catL.run (K := K) q m H x y _ _ Qd Q no rx ry w k))
  · exact w.elim⟩
def rMulX : R2 := rOr (rI CMul fun i j => .int (i * j)) rRep
def fMulX : DF2 := fun x y Q => match x, y with
  | .int i, .int j => CMul i j ∧ Q (.int (i * j))
  | .lst xs, .int k => (0 ≤ k ∧ k < 10000 ∧ xs.length ≤ 1) ∧ Q (.lst (List.replicate k.toNat xs).flatten)
  | _, _ => False
instance snd_mulX : SndR K rMulX fMulX := ⟨fun q m H x y dx dy Qd Q no rx ry w k => by
  unfold fMulX at w
  split at w
  · exact .inl (snd_mul.run (K := K) q m H x y _ _ Qd Q no rx ry w k)
  · exact .inr (snd_repL.run (K := K) q m H x y _ _ Qd Q no rx ry w k)
  · exact w.elim⟩
def rIxX (K : PySem.W.Frag) : R2 := rOr (rIxL K) (rIxT K)
def fIxX : DF2 := fun x y Q => match x, y with
  | .lst xs, .int i => atD xs i Q
  | .tup xs, .int i => atD xs i Q
  | _, _ => False
instance snd_ixX : SndR K (rIxX K) fIxX := ⟨fun q m H x y dx dy Qd Q no rx ry w k => by
  unfold fIxX at w
  split at w
  · exact .inl (snd_ixL.run q m H x y _ _ Qd Q no rx ry w k)
  · exact .inr (snd_ixT.run q m H x y _ _ Qd Q no rx ry w k)
  · exact w.elim⟩
def rSlX (K : PySem.W.Frag) : V → Option Int → Option Int → Hp → VK → Prop := fun x lo hi H Q => rSlL K x lo hi H Q ∨ rSlA K x lo hi H Q
def fSlX (x : D) (lo hi : Option Int) (Q : D → Prop) : Prop := match x with
  | .lst xs => Q (.lst (cutD xs lo hi))
  | .tup xs => Q (.tup (cutD xs lo hi))
  | _ => False
instance snd_slX : SndSl K (rSlX K) fSlX := ⟨fun q m H x dx lo hi Qd Q no rx w k => by
  unfold fSlX at w
  split at w
  · exact .inl (snd_slL.run q m H x _ lo hi Qd Q no rx w k)
  · exact .inr (snd_slT.run q m H x _ lo hi Qd Q no rx w k)
  · exact w.elim⟩
/-- == of scalars or of data -/
def rEqX (K : PySem.W.Frag) : R2 := rOr rEq (rEqD K)
def rNeX (K : PySem.W.Frag) : R2 := rOr rNe (rNeD K)
def okD (x : D) : Bool := isD x && SeqAt.shaped (py x)
def eqD (x y : D) : Bool := PyData.eqv (py x) (py y)
def fEqX : DF2 := fun x y Q => match x, y with
  | .int i, .int j => Q (.bl (decide (i = j)))
  | .str i, .str j => Q (.bl (decide (i = j)))
  | .bl i, .bl j => Q (.bl (decide (i = j)))
  | x, y => (okD x = true ∧ okD y = true) ∧ Q (.bl (eqD x y))
def fNeX : DF2 := fun x y Q => match x, y with
  | .int i, .int j => Q (.bl (!decide (i = j)))
  | .str i, .str j => Q (.bl (!decide (i = j)))
  | .bl i, .bl j => Q (.bl (!decide (i = j)))
  | x, y => (okD x = true ∧ okD y = true) ∧ Q (.bl (!eqD x y))
theorem okD_of {x : D} (h : okD x = true) : isD x = true ∧ SeqAt.shaped (py x) = true := by
  unfold okD at h
  rwa [Bool.and_eq_true] at h
instance snd_eqX : SndR K (rEqX K) fEqX := ⟨fun q m H x y dx dy Qd Q no rx ry w k => by
  unfold fEqX at w
  split at w
  · exact .inl (snd_eqS.run (K := K) q m H x y _ _ Qd Q no rx ry w k)
  · exact .inl (snd_eqS.run (K := K) q m H x y _ _ Qd Q no rx ry w k)
  · exact .inl (snd_eqS.run (K := K) q m H x y _ _ Qd Q no rx ry w k)
  · exact .inr (snd_eqD.run q m H x y _ _ Qd Q no rx ry ⟨⟨(okD_of w.1.1).1, (okD_of w.1.2).1, (okD_of w.1.1).2, (okD_of w.1.2).2⟩, w.2⟩ k)⟩
instance snd_neX : SndR K (rNeX K) fNeX := ⟨fun q m H x y dx dy Qd Q no rx ry w k => by
  unfold fNeX at w
  split at w
  · exact .inl (snd_neS.run (K := K) q m H x y _ _ Qd Q no rx ry w k)
  · exact .inl (snd_neS.run (K := K) q m H x y _ _ Qd Q no rx ry w k)
  · exact .inl (snd_neS.run (K := K) q m H x y _ _ Qd Q no rx ry w k)
  · exact .inr (snd_neD.run q m H x y _ _ Qd Q no rx ry ⟨⟨(okD_of w.1.1).1, (okD_of w.1.2).1, (okD_of w.1.1).2, (okD_of w.1.2).2⟩, w.2⟩ k)⟩
/-- in: ints in a tuple or list of ints -/
def fInI (neg : Bool) : DF2 := fun x y Q => match x, y with
  | .int i, .tup xs => ∃ ns : List Int, xs = ns.map D.int ∧ Q (.bl (if neg then !ns.contains i else ns.contains i))
  | .int i, .lst xs => ∃ ns : List Int, xs = ns.map D.int ∧ Q (.bl (if neg then !ns.contains i else ns.contains i))
  | _, _ => False
theorem inV_ints (i : Int) (ns : List Int) : inV (.int i) (ns.map V.int) = ns.contains i := by
  unfold inV
  rw [List.any_map]
  induction ns with
  | nil => rfl
  | cons n ns ih =>
    rw [List.any_cons, List.contains_cons, ih]
    congr 1
    show (n == i) = (i == n)
    by_cases h : n = i
    · subst h; rfl
    · rw [beq_eq_false_iff_ne.mpr h, beq_eq_false_iff_ne.mpr (Ne.symm h)]
theorem flat_ints (ns : List Int) : (ns.map V.int).all flatV = true := by
  rw [List.all_map]
  exact List.all_eq_true.mpr fun _ _ => rfl
instance snd_inI {neg : Bool} : SndR K (rIn K neg) (fInI neg) := ⟨fun q m H x y dx dy Qd Q no rx ry w k => by
  unfold fInI at w
  split at w
  · obtain ⟨ns, rfl, w⟩ := w
    cases rx
    cases ry with
    | tup hs hl hz hr =>
      have e := reps_ints (K := K) (ns := ns) ⟨hl, hr⟩
      subst e
      exact ⟨_, _, rfl, .inr (sqt_un hs), rfl, flat_ints ns, by rw [inV_ints]; exact k _ H _ w (.bl _) (Nw.refl H)⟩
  · obtain ⟨ns, rfl, w⟩ := w
    cases rx
    cases ry with
    | lst hs hl hz hr =>
      have e := reps_ints (K := K) (ns := ns) ⟨hl, hr⟩
      subst e
      exact ⟨_, _, rfl, .inl (SqL.of (hid_of hs).1), rfl, flat_ints ns, by rw [inV_ints]; exact k _ H _ w (.bl _) (Nw.refl H)⟩
  · exact w.elim⟩
/-- a walk of a list or a tuple -/
def iSeq (K : PySem.W.Frag) (tl : TE) : TI := fun σ H R => tl σ H fun x H1 => ∃ a, x = .ref a ∧ (((∃ xs, SqL K H1 a xs) ∧ R (Itl K a) H1) ∨ ((∃ xs, SqT K H1 a xs) ∧ R (Itt K a) H1))
def dISeq (t : DTE) : DTA := fun ρ S Q => t ρ S fun d S1 => match d with
  | .lst xs => Q xs S1
  | .tup xs => Q xs S1
  | _ => False
instance snd_iSeq {te : TE} {t : DTE} [h : SndE K T te t] : SndI K T (iSeq K te) (dISeq t) := ⟨fun c m σ H S ρ Qd R r h1 k => h.run c m σ H S ρ _ _ r h1 fun v H1 S1 d h2 r1 l1 f1 => by
  cases r1 with
  | lst hs hl hz hr => exact ⟨_, rfl, .inl ⟨⟨_, SqL.of (hid_of hs).1⟩, k _ H1 S1 _ h2 hz l1 f1 (items_list hs ⟨hl, hr⟩)⟩⟩
  | tup hs hl hz hr => exact ⟨_, rfl, .inr ⟨⟨_, sqt_un hs⟩, k _ H1 S1 _ h2 hz l1 f1 (items_tup hs ⟨hl, hr⟩)⟩⟩
  | _ => exact h2.elim⟩
/-- a constant tuple of the module -/
def KT (K : PySem.W.Frag) (a : Addr) (xs : List V) : Prop := ∃ (o : Obj) (its : Array Value) (n : Nat), K.lookup a = some o ∧ o.cls = .type "tuple" ∧ o.data = .seq its n ∧ its.size ≤ sizeLine ∧ Vals xs its.toList
def tRead (K : PySem.W.Frag) : TE := fun _ H Q => ∀ a, KT K a [.str "read"] → Q (.ref a) H
instance snd_read : SndE K T (tRead K) (dC (.tup [.str "read"])) := ⟨fun c m σ H S ρ Qd Q r h k a ha => k _ H S _ h (.tup (.inr ha) rfl (by show 1 ≤ sizeLine; decide) (Reps.cons (.str _) Reps.nil).2) r (Fr.refl _ _)⟩
end
section
variable {X : Cx}
theorem OpR.or' {f : Value → Value → Sem Value} {r r' : R2} (h : OpR X f r) (h' : OpR X f r') : OpR X f (rOr r r') := OpR.or h h'
theorem op_addX : OpR X (binaryOp .Add) (rAddX X.K) := OpR.or' op_add (OpR.or' op_catA op_cat)
theorem op_mulX : OpR X (binaryOp .Mult) rMulX := OpR.or' op_mul op_rep
theorem ix_X : IxR X (rIxX X.K) := IxR.or ix_list ix_tup
theorem sl_X : SlR X (rSlX X.K) := SlR.or sl_list sl_tupA
theorem op_eqX (hu : X.A.units + 64 < cLine) : OpR X (compareOp .Eq) (rEqX X.K) := OpR.or' op_eq (op_eqD hu)
theorem op_neX (hu : X.A.units + 64 < cLine) : OpR X (compareOp .NotEq) (rNeX X.K) := OpR.or' op_ne (op_neD hu)
theorem pi_seq {tg l : Expr} {tl : TE} (hl : PE X l tl) : PI X tg l (iSeq X.K tl) := by
  refine ⟨fun pins s σ H R I h => ?_⟩
  refine thn (hl.run pins s σ H _ I h) fun v s1 ⟨x, H1, I1, r1, q1⟩ => ?_
  obtain ⟨a, e, ⟨⟨xs, hq⟩, q⟩ | ⟨⟨xs, hq⟩, q⟩⟩ := q1
  · subst e
    cases r1
    obtain ⟨its, rv, p, hz⟩ := I1.list hq
    refine wpAny_pyIter_list p.isList ?_
    refine ⟨s1.heap.objs.size, [s1.heap.objs.size], _, _, H1, rfl, I1.kept (t' := s1.toks) fun b o e => Heap.get?_push_of_some _ e, turn_list a _, ⟨_, Heap.get?_push_size _ rfl, rfl, rfl⟩, fun b hb => ?_, q⟩
    have e : b = s1.heap.objs.size := by simpa using hb
    subst e
    exact I1.fpOk (Nat.le_refl _) (I1.hok.fresh (Nat.le_refl _))
  · subst e
    cases r1
    obtain ⟨its, rv, p, hz⟩ := I1.tuple hq
    refine wpAny_pyIter_tuple (show s1.heap.IsTuple a its.toArray from p) ?_
    refine ⟨s1.heap.objs.size, [s1.heap.objs.size], _, _, H1, rfl, I1.kept (t' := s1.toks) fun b o e => Heap.get?_push_of_some _ e, turn_tuple a _, ⟨_, Heap.get?_push_size _ rfl, rfl, rfl⟩, fun b hb => ?_, q⟩
    have e : b = s1.heap.objs.size := by simpa using hb
    subst e
    exact I1.fpOk (Nat.le_refl _) (I1.hok.fresh (Nat.le_refl _))
theorem pe_globS {x z : Str} {pos : Pos} (hg : Gl X x) (h : ∃ t, X.mg x = some (.str z t)) (hd : (x == ("__debug__" : Str)) = false := by decide) : PE X (.Name x pos) (tC (.str z)) := by
  obtain ⟨t, h⟩ := h
  exact pe_glob hg h ⟨t, rfl⟩ hd
theorem pe_globI {x : Str} {z : Int} {pos : Pos} (hg : Gl X x) (h : ∃ t, X.mg x = some (.int z t)) (hd : (x == ("__debug__" : Str)) = false := by decide) : PE X (.Name x pos) (tC (.int z)) := by
  obtain ⟨t, h⟩ := h
  exact pe_glob hg h ⟨t, rfl⟩ hd
theorem pe_read {x : Str} {pos : Pos} (hg : Gl X x) (h : ∃ a, X.mg x = some (.ref a) ∧ KT X.K a [.str "read"]) (hd : (x == ("__debug__" : Str)) = false := by decide) : PE X (.Name x pos) (tRead X.K) := by
  obtain ⟨a, h, ha⟩ := h
  exact ⟨fun _ _ _ H _ I w => ld_glob I hg h ⟨.ref a, H, I, rfl, w a ha⟩ hd⟩
end

/-! ### defs -/
/-- a def as its callers see it -/
def Fk (P : Program) (w : World) (K : PySem.W.Frag) (mg : Str → Option Value) (base : Heap) (x : Str) (k : Nat) (ps : List Str) (sp : Sp) : Prop :=
  ∃ (f : Addr) (fd : FuncData), FnOk P w K mg base CX0 k f fd ps sp ∧ mg x = some (.ref f) ∧ PySem.W.keepIn K (.ref f) = true ∧ Binds K fd ps []
section
variable {X : Cx} {x : Str} {k : Nat} {ps : List Str} {sp : Sp} {p pos : Pos} {e : Expr} {es : List Expr} {t : TA}
theorem pe_callF (F : Fk X.prog X.w X.K X.mg X.base x k ps sp) (hr : Room k X.A) (hg : Gl X x) (ha : PA X (e :: es) t) (hdb : (x == ("__debug__" : Str)) = false := by decide)
    (he : starEach (e :: es) X.env = (false, eval e X.env) :: starEach es X.env := by rfl) (hpl : (backTo pos (starEach es X.env)).any (·.1) = false := by rfl) : PE X (.Call (.Name x p) (e :: es) [] pos) (tCall sp [] E0 t) := by
  obtain ⟨f, fd, G, hm, kp, b⟩ := F
  exact pe_call G hr hg hm kp b .nil pass0 ha hdb he hpl
end
def dstart (N : List Str) (ds : List D) : DEnv := ds.map some ++ List.replicate (N.length - ds.length) none
section
variable {P : Program} {w : World} {K : PySem.W.Frag} {mg : Str → Option Value} {base : Heap} {T : Tb}
theorem rl_start {q : Option Addr} {m : List Addr} {ds : List D} {vs : List V} {H : Hp} {S : Nat} (N : List Str) (hR : Reps K q (hid H m) vs ds) (hq : ∀ p, q = some p → p ∈ m) (hd : ∀ a ∈ m, ∃ o, H a = some o ∧ ∀ ps, o ≠ .tbl ps) (hp : PotOk q S H) (ht : Tabs T H) :
    Rl K T ⟨q, H, m⟩ m (L2.start N vs) H S (dstart N ds) where
  sub := fun _ h => h
  qm := hq
  dom := hd
  pot := hp
  tab := ht
  fr := Fr.refl _ _
  new := fun a ha h0 => absurd ha h0
  slot := fun i d e => by
    unfold dstart at e
    by_cases hi : i < ds.length
    · rw [List.getElem?_append_left (by simpa using hi), List.getElem?_map] at e
      cases hx : ds[i]? with
      | none => rw [hx] at e; cases e
      | some d' =>
        rw [hx] at e
        cases e
        obtain ⟨v, e1, r1⟩ := hR.at_ hx
        refine ⟨v, ?_, .fz r1⟩
        unfold L2.start
        rw [List.getElem?_append_left (by rw [List.length_map, hR.1]; exact hi), List.getElem?_map, e1] <;> rfl
    · rw [List.getElem?_append_right (by simpa using hi), List.getElem?_replicate] at e
      split at e <;> cases e
  sep := fun i j d e v n h1 h2 h3 => by
    exfalso
    unfold dstart at h1
    by_cases hi : i < ds.length
    · rw [List.getElem?_append_left (by simpa using hi), List.getElem?_map] at h1
      cases hx : ds[i]? with
      | none => rw [hx] at h1; cases h1
      | some d' =>
        rw [hx] at h1
        cases h1
        obtain ⟨v, e1, r1⟩ := hR.at_ hx
        rw [r1.notMut] at h3
        cases h3
    · rw [List.getElem?_append_right (by simpa using hi), List.getElem?_replicate] at h1
      split at h1 <;> cases h1
  len := by
    unfold L2.start dstart
    rw [List.length_append, List.length_append, List.length_map, List.length_map, List.length_replicate, List.length_replicate, hR.1]
/-- THE RULE for a def at the data level -/
theorem fun_okD {dsp : DSp} {x qual : Str} {st : Stmt} {f : Addr} {fd : FuncData} {N ps : List Str} {k : Nat} (F : Fun K x qual st f fd) (S : FnScope N ps (defScope st)) (len : ∀ ds S Qd, dsp ds S Qd → ds.length = ps.length)
    (hbody : ∀ (cdv : Value) (A : Around) (outer : List Env) (s : Shared) (H : Hp) (E : XK), Room k (A.deeper (envOfC qual (defScope st) s.heap.objs.size f cdv)) →
      ∃ ts : TS, PSs (cxOf CX0 P w K mg base N qual (defScope st) f cdv A outer s H E).nox (defBody st) ts ∧ ∃ t : DTS, SndS K T ts t ∧ ∀ ds S Qd, dsp ds S Qd → t { nx := fun _ S' => Qd .non S', rt := Qd } (dstart N ds) S) :
    FnOk P w K mg base CX0 (k + 1) f fd ps (spOf K T dsp) := by
  refine F.ok S (fun vs H Q E h => ?_) (fun cdv A outer s H vs Q E hr h => ?_)
  · obtain ⟨q, m, ds, S, Qd, h1, _, _, _, _, h6, _⟩ := h
    rw [h1.1]
    exact len ds S Qd h6
  · obtain ⟨q, m, ds, S', Qd, hR, hq, hd, hp, ht, hs, kont⟩ := h
    obtain ⟨ts, hP, t, hS, hw⟩ := hbody cdv A outer s H E hr
    refine ⟨ts, hP, hS.run ⟨q, H, m⟩ m (L2.start N vs) H S' (dstart N ds) _ _ (rl_start N hR hq hd hp ht) (hw ds S' Qd hs) ⟨?_, ?_, ?_, ?_⟩⟩
    · intro m' σ' H' S2 ρ' h r e
      exact kont _ _ _ _ h .non r.pot r.tab r.fr
    · intro m' σ' H' S2 ρ' h
      exact h.elim
    · intro m' σ' H' S2 ρ' h
      exact h.elim
    · intro m' v H' S2 d h r l
      exact kont _ _ _ _ h (r.mono (Ex.less l.sub)) l.pot l.tab l.fr
theorem ex_snd {ts : TS} {t : DTS} {p : DTS → Prop} [h : SndS K T ts t] (hw : p t) : ∃ t : DTS, SndS K T ts t ∧ p t := ⟨t, h, hw⟩
theorem fk_mk {dsp : DSp} {x qual nm : Str} {st : Stmt} {f : Addr} {fd : FuncData} {ps : List Str} {k : Nat} (F : Fun K x qual st f fd) (hm : mg nm = some (.ref f)) (hb : Binds K fd ps []) (G : FnOk P w K mg base CX0 k f fd ps (spOf K T dsp)) : Fk P w K mg base nm k ps (spOf K T dsp) := ⟨f, fd, G, hm, F.kp, hb⟩
end
end DL
end
section
set_option maxRecDepth 100000
namespace DL
open PySem PySem.Spec PyProof.Rows L2
/-! ### things that are made to be changed -/
def tLstM (ta : TA) : TE := tLst ta
def tDNewM : TE := tDNewK
def tDispM (trs : List (TE × TE)) : TE := tDisp trs
def tVarM (i : Nat) : TE := tVar i
def tFrz (i : Nat) (t : TS) : TS := t
section
variable {X : Cx} {es : List Expr} {t : TA} {pos : Pos}
theorem pe_lstM (h : PA X es t) : PE X (.List es pos) (tLstM t) := pe_lst h
theorem pe_dnewM : PE X (.Dict [] [] pos) tDNewM := pe_dnewK
theorem pe_dispM {keys : List (Option Expr)} {values : List Expr} {trs : List (TE × TE)} (h : PPs X pos keys values trs) (hall : keys.all (·.isSome) = true) (hl : keys.length = values.length) (h0 : keys ≠ [])
    (h15 : keys.length ≤ 15) : PE X (.Dict keys values pos) (tDispM trs) := pe_disp h hall hl h0 h15
theorem pvM (i : Nat) {x : Str} {pos : Pos} (hN : X.N[i]? = some x := by rfl) (hv : Vis X.env.scope x := by first | exact Or.inl rfl | exact Or.inr (Or.inl rfl) | exact Or.inr (Or.inr rfl)) (hd : (x == ("__debug__" : Str)) = false := by decide)
    (hcd : (x == ("__classdict__" : Str)) = false := by decide) : PE X (.Name x pos) (tVarM i) := pe_var hN hv hd hcd
theorem pss_frz (i : Nat) {sts : List Stmt} {ts : TS} (h : PSs X sts ts) : PSs X sts (tFrz i ts) := h
end
section
variable {K : PySem.W.Frag} {T : Tb} {c : DC} {m m' : List Addr} {σ σ' : L2.St} {H H' : Hp} {S S' : Nat} {ρ ρ' : DEnv} {p : Addr}
/-- slots and temporaries -/
theorem Rl.pre {xv : L2.St} {xd : DEnv} (hl : σ.length = ρ.length) (r : Rl K T c m (σ ++ xv) H S (ρ ++ xd)) : Rl K T c m σ H S ρ :=
  r.re id (fun _ _ n _ _ => n) (fun i d e => by
    have hi : i < ρ.length := (List.getElem?_eq_some_iff.mp e).1
    exact ⟨(List.getElem?_append_left hi).trans e, (List.getElem?_append_left (by rw [hl]; exact hi)).symm⟩) hl
theorem Rl.snoc {v : V} {d : D} (r : Rl K T c m σ H S ρ) (h : Slot K c m H v d) (ns : d.isMut = true → ∀ (i : Nat) (e : D), ρ[i]? = some (some e) → e.isMut = true → σ[i]? ≠ some (some v)) : Rl K T c m (σ ++ [some v]) H S (ρ ++ [some d]) where
  sub := r.sub
  qm := r.qm
  dom := r.dom
  pot := r.pot
  tab := r.tab
  fr := r.fr
  new := r.new
  slot := fun i e he => by
    by_cases hi : i < ρ.length
    · rw [List.getElem?_append_left hi] at he
      rw [List.getElem?_append_left (by rw [r.len]; exact hi)]
      exact r.slot i e he
    · have hi2 : i = ρ.length := by
        have := (List.getElem?_eq_some_iff.mp he).1
        rw [List.length_append] at this
        simp at this
        omega
      subst hi2
      rw [List.getElem?_append_right (Nat.le_refl _), Nat.sub_self] at he
      cases he
      exact ⟨v, by rw [List.getElem?_append_right (by rw [r.len]; exact Nat.le_refl _), r.len, Nat.sub_self] <;> rfl, h⟩
  sep := fun i j e f w n h1 h2 h3 h4 h5 => by
    have cs : ∀ (l : Nat) (x : D), (ρ ++ [some d])[l]? = some (some x) → (l < ρ.length ∧ ρ[l]? = some (some x) ∧ (σ ++ [some v])[l]? = σ[l]?) ∨ (l = ρ.length ∧ x = d ∧ (σ ++ [some v])[l]? = some (some v)) := fun l x hx => by
      by_cases hi : l < ρ.length
      · rw [List.getElem?_append_left hi] at hx
        exact .inl ⟨hi, hx, List.getElem?_append_left (by rw [r.len]; exact hi)⟩
      · have hi2 : l = ρ.length := by
          have := (List.getElem?_eq_some_iff.mp hx).1
          rw [List.length_append] at this
          simp at this
          omega
        subst hi2
        rw [List.getElem?_append_right (Nat.le_refl _), Nat.sub_self] at hx
        cases hx
        exact .inr ⟨rfl, rfl, by rw [List.getElem?_append_right (by rw [r.len]; exact Nat.le_refl _), r.len, Nat.sub_self] <;> rfl⟩
    rcases cs i e h1 with ⟨a1, a2, a3⟩ | ⟨a1, a2, a3⟩
    · rcases cs j f h2 with ⟨b1, b2, b3⟩ | ⟨b1, b2, b3⟩
      · rw [b3]
        rw [a3] at h5
        exact r.sep i j e f w n a2 b2 h3 h4 h5
      · subst b2
        intro z
        rw [b3] at z
        cases z
        rw [a3] at h5
        exact ns h4 i e a2 h3 h5
    · rcases cs j f h2 with ⟨b1, b2, b3⟩ | ⟨b1, b2, b3⟩
      · subst a2
        rw [a3] at h5
        cases h5
        rw [b3]
        exact ns h3 j f b2 h4
      · exact absurd (a1.trans b1.symm) n
  len := by rw [List.length_append, List.length_append, r.len]; rfl
/-- the first temporary goes to a slot -/
def mvIx (n i j : Nat) : Nat := if j = i then (if i < n then n else j + 1) else if j < n then j else j + 1
theorem mv_get {α : Type} (l t : List α) (a : α) (i j : Nat) : (l.set i a ++ t)[j]? = (l ++ a :: t)[mvIx l.length i j]? := by
  by_cases e1 : j < l.length
  · rw [List.getElem?_append_left (by rw [List.length_set]; exact e1)]
    by_cases e2 : j = i
    · subst e2
      have key : mvIx l.length j j = l.length := by unfold mvIx; rw [if_pos rfl, if_pos e1]
      rw [key, List.getElem?_set_self e1, List.getElem?_append_right (Nat.le_refl _), Nat.sub_self] <;> rfl
    · have key : mvIx l.length i j = j := by unfold mvIx; rw [if_neg e2, if_pos e1]
      rw [key, List.getElem?_set_ne (Ne.symm e2), List.getElem?_append_left e1]
  · have key : mvIx l.length i j = j + 1 := by
      unfold mvIx
      repeat' split
      all_goals omega
    rw [key, List.getElem?_append_right (by rw [List.length_set]; omega), List.length_set, List.getElem?_append_right (by omega)]
    have e3 : j + 1 - l.length = (j - l.length) + 1 := by omega
    rw [e3, List.getElem?_cons_succ]
theorem Rl.mv {v : V} {d : D} {tv : L2.St} {td : DEnv} (i : Nat) (hl : σ.length = ρ.length) (r : Rl K T c m (σ ++ some v :: tv) H S (ρ ++ some d :: td)) : Rl K T c m (σ.set i (some v) ++ tv) H S (ρ.set i (some d) ++ td) := by
  have hlt : tv.length = td.length := by
    have := r.len
    rw [List.length_append, List.length_append, List.length_cons, List.length_cons] at this
    omega
  refine r.re (mvIx ρ.length i) (fun j k n hj hk => ?_) (fun j e he => ⟨?_, ?_⟩) (by rw [List.length_append, List.length_append, List.length_set, List.length_set, hl, hlt])
  · unfold mvIx
    repeat' split
    all_goals omega
  · rw [← mv_get]; exact he
  · rw [mv_get, hl]
end
section
variable (K : PySem.W.Frag) (T : Tb)
/-- a part of a display that is stored into names: frozen, or new and to be changed -/
class SndC (te : TE) (t : outParam DTE) : Prop where
  run : ∀ (c : DC) (m : List Addr) (σ : L2.St) (H : Hp) (S : Nat) (ρ : DEnv) (xv : L2.St) (xd : DEnv) (Qd : D → Nat → Prop) (Q : VK), σ.length = ρ.length → Rl K T c m (σ ++ xv) H S (ρ ++ xd) → t ρ S Qd →
    (∀ v H' S' d m', Qd d S' → Rl K T c m' (σ ++ (xv ++ [some v])) H' S' (ρ ++ (xd ++ [some d])) → Ex (hid H m) (hid H' m') → Q v H') → te σ H Q
class SndCA (ta : TA) (t : outParam DTA) : Prop where
  run : ∀ (c : DC) (m : List Addr) (σ : L2.St) (H : Hp) (S : Nat) (ρ : DEnv) (xv : L2.St) (xd : DEnv) (Qd : List D → Nat → Prop) (Q : List V → Hp → Prop), σ.length = ρ.length → Rl K T c m (σ ++ xv) H S (ρ ++ xd) → t ρ S Qd →
    (∀ vs H' S' ds m', Qd ds S' → Rl K T c m' (σ ++ (xv ++ vs.map some)) H' S' (ρ ++ (xd ++ ds.map some)) → Ex (hid H m) (hid H' m') → Q vs H') → ta σ H Q
/-- targets that take such parts -/
class SndM (gs : TGs) (dg : outParam DTGs) : Prop where
  run : ∀ (c : DC) (m : List Addr) (σ : L2.St) (H : Hp) (S : Nat) (ρ : DEnv) (vs : List V) (ds : List D) (Qd : DEnv → Prop) (Q : L2.St → Hp → Prop), σ.length = ρ.length → Rl K T c m (σ ++ vs.map some) H S (ρ ++ ds.map some) → dg ds ρ Qd →
    (∀ σ' ρ', Qd ρ' → Rl K T c m σ' H S ρ' → Q σ' H) → gs vs σ H Q
/-- names alone -/
class SndN (gs : TGs) (is : outParam (List Nat)) : Prop where
  run : ∀ (σ : L2.St) (H : Hp) (vs : List V) (Q : L2.St → Hp → Prop), vs.length = is.length → Q ((is.zip vs).foldl (fun σ p => σ.set p.1 (some p.2)) σ) H → gs vs σ H Q
end
section
variable {K : PySem.W.Frag} {T : Tb}
instance (priority := low) sndc_fz {te : TE} {t : DTE} [h : SndE K T te t] : SndC K T te t := ⟨fun c m σ H S ρ xv xd Qd Q hl r w k => h.run c m σ H S ρ _ _ (r.pre hl) w fun v H1 S1 d w1 r1 l1 f1 => by
  have r2 := r.on f1 l1.pot l1.tab
  have r3 := r2.snoc (.fz r1) fun z => by rw [r1.notMut] at z; cases z
  rw [List.append_assoc, List.append_assoc] at r3
  exact k v H1 S1 d m w1 r3 (f1.ex r.qmm)⟩
def dLstM (ta : DTA) : DTE := fun ρ S Q => ta ρ S fun ds S1 => ds.length ≤ 1000 ∧ Q (.mu ds) S1
theorem snocM {c : DC} {m : List Addr} {σ : L2.St} {H : Hp} {S : Nat} {ρ : DEnv} {p : Addr} {o : HO} {d : D} (r : Rl K T c m σ H S ρ) (hp : H p = none) (no : ∀ ps, o ≠ .tbl ps) (s : Slot K c (p :: m) (upd H p o) (.ref p) d) : Rl K T c (p :: m) (σ ++ [some (.ref p)]) (upd H p o) S (ρ ++ [some d]) :=
  (r.push hp no).snoc s fun _ i e h1 h2 h3 => r.noS hp i e h1 h2 h3
instance sndc_lst {ta : TA} {t : DTA} [h : SndA K T ta t] : SndC K T (tLstM ta) (dLstM t) := ⟨fun c m σ H S ρ xv xd Qd Q hl r w k => h.run c m σ H S ρ _ _ (r.pre hl) w fun vs H1 S1 ds w1 r1 l1 f1 => ⟨by rw [r1.1]; exact line1000 w1.1, fun p hp => by
  have r2 := r.on f1 l1.pot l1.tab
  have r3 := snocM (o := .lst vs) (d := .mu ds) r2 hp (fun ps z => by cases z) (.mu List.mem_cons_self (fun z => l1.fresh hp (l1.sub _ z)) upd_same (line1000 w1.1) (by rw [hid_push hp]; exact r1))
  rw [List.append_assoc, List.append_assoc] at r3
  exact k _ _ S1 _ _ w1.2 r3 (by rw [hid_push hp]; exact f1.ex r.qmm)⟩⟩
def dDNewM : DTE := fun _ S Q => Q (.md []) S
instance sndc_dnew : SndC K T tDNewM dDNewM := ⟨fun c m σ H S ρ xv xd Qd Q hl r w k p hp => by
  have r3 := snocM (o := .dK []) (d := .md []) r hp (fun ps z => by cases z) (.md List.mem_cons_self (fun z => r.fresh hp (r.sub _ z)) upd_same (Nat.zero_le _) RepK.nil)
  rw [List.append_assoc, List.append_assoc] at r3
  exact k _ _ S _ _ w r3 (by rw [hid_push hp]; exact Ex.refl _)⟩
/-- {k: None} with an int key -/
def dDisp1 (tk : DTE) : DTE := fun ρ S Q => tk ρ S fun d S1 => match d with
  | .int n => Q (.md [(n, .non)]) S1
  | _ => False
instance sndc_disp {i : Nat} : SndC K T (tDispM [(tVar i, tC .non)]) (dDisp1 (dVar i)) := ⟨fun c m σ H S ρ xv xd Qd Q hl r w k p hp => by
  show tPairs _ _ _ _
  have no0 : ∀ ps, HO.dK [] ≠ .tbl ps := fun ps z => by cases z
  have rp := (r.pre hl).push hp no0
  refine (snd_var (K := K) (T := T) i).run c (p :: m) σ _ S ρ (fun d S1 => match d with | .int n => Qd (.md [(n, .non)]) S1 | _ => False) _ rp w fun v H1 S1 d w1 r1 l1 f1 => ?_
  cases r1 with
  | int n =>
    have hd : H1 p = some (.dK []) := f1 _ _ upd_same (r.qne hp) no0
    refine ⟨hd, [(Sum.inl n, .non)], rfl, by show 1 ≤ 15; decide, ?_⟩
    have r2 := (r.push hp no0).on f1 l1.pot l1.tab
    have hm : p ∈ p :: m := List.mem_cons_self
    have n0 : p ∉ c.m0 := fun z => r.fresh hp (r.sub _ z)
    have r3 := r2.updm (o' := .dK (mergeK [] [(Sum.inl n, .non)])) hm n0 hd (.inr ⟨_, rfl⟩) (fun ps z => by cases z) (r.noS hp)
    have r4 := r3.snoc (v := .ref p) (d := .md [(n, .non)]) (.md hm n0 upd_same (by show 1 ≤ sizeLine; decide) (RepK.cons .non RepK.nil)) fun _ i e h1 h2 h3 => r.noS hp i e h1 h2 h3
    rw [List.append_assoc, List.append_assoc] at r4
    refine k _ _ S1 _ _ w1 r4 ?_
    rw [hid_upd_in hm]
    have := f1.ex (m := p :: m) rp.qmm
    rw [hid_push hp] at this
    exact this
  | _ => exact w1.elim⟩
instance sndca_nil : SndCA K T tNil dNil := ⟨fun c m σ H S ρ xv xd Qd Q hl r w k => k [] H S [] m w (by simpa using r) (Ex.refl _)⟩
instance sndca_cons {ta : TE} {tr : TA} {da : DTE} {dr : DTA} [ha : SndC K T ta da] [hb : SndCA K T tr dr] : SndCA K T (tCons ta tr) (dCons da dr) := ⟨fun c m σ H S ρ xv xd Qd Q hl r w k =>
  ha.run c m σ H S ρ xv xd _ _ hl r w fun v H1 S1 d m1 w1 r1 e1 => hb.run c m1 σ H1 S1 ρ _ _ _ _ hl r1 w1 fun vs H2 S2 ds m2 w2 r2 e2 => by
    rw [List.append_assoc, List.append_assoc] at r2
    exact k (v :: vs) H2 S2 (d :: ds) m2 w2 r2 (e1.trans e2)⟩
instance sndn_nil : SndN gNil [] := ⟨fun σ H vs Q hl h => by
  have e : vs = [] := List.eq_nil_of_length_eq_zero hl
  subst e
  exact ⟨rfl, h⟩⟩
instance sndn_cons {i : Nat} {u : TGs} {is : List Nat} [h : SndN u is] : SndN (gCons (gName i) u) (i :: is) := ⟨fun σ H vs Q hl w => by
  cases vs with
  | nil => simp at hl
  | cons v vs => exact ⟨v, vs, rfl, h.run _ H vs Q (by simpa using hl) w⟩⟩
instance sndm_nil : SndM K T gNil dgNil := ⟨fun c m σ H S ρ vs ds Qd Q hl r w k => by
  obtain ⟨rfl, w⟩ := w
  have e : vs = [] := by
    have := r.len
    rw [List.length_append, List.length_append, List.length_map, hl] at this
    exact List.eq_nil_of_length_eq_zero (by simpa using this)
  subst e
  exact ⟨rfl, k σ ρ w (by simpa using r)⟩⟩
theorem lenCons {σ : L2.St} {ρ : DEnv} {vs : List V} {d : D} {ds : List D} (hl : σ.length = ρ.length) (h : (σ ++ vs.map some).length = (ρ ++ (d :: ds).map some).length) : ∃ v vs', vs = v :: vs' ∧ vs'.length = ds.length := by
  rw [List.length_append, List.length_append, List.length_map, List.length_map, hl, List.length_cons] at h
  cases vs with
  | nil => simp at h
  | cons v vs => exact ⟨v, vs, rfl, by rw [List.length_cons] at h; omega⟩
instance sndm_name {i : Nat} {u : TGs} {du : DTGs} [h : SndM K T u du] : SndM K T (gCons (gName i) u) (dgCons (dgName i) du) := ⟨fun c m σ H S ρ vs ds Qd Q hl r w k => by
  cases ds with
  | nil => exact w.elim
  | cons d ds =>
    obtain ⟨v, vs, rfl, _⟩ := lenCons hl r.len
    exact ⟨v, vs, rfl, h.run c m _ H S _ vs ds Qd Q (by rw [List.length_set, List.length_set, hl]) (r.mv i hl) w k⟩⟩
def setN (ρ : DEnv) (is : List Nat) (ds : List D) : DEnv := (is.zip ds).foldl (fun ρ p => ρ.set p.1 (some p.2)) ρ
def dgTupN (n : Nat) (is : List Nat) (u : DTGs) : DTGs := fun ds ρ Q => match ds with
  | .tup xs :: r => (xs.length = n ∧ n = is.length ∧ ∀ i ∈ is, i < ρ.length) ∧ u r (setN ρ is xs) Q
  | _ => False
theorem Rl.sets {c : DC} {m : List Addr} {H : Hp} {S : Nat} {tv : L2.St} {td : DEnv} : ∀ (is : List Nat) (vs : List V) (ds : List D) (σ : L2.St) (ρ : DEnv), σ.length = ρ.length → (∀ i ∈ is, i < ρ.length) → Reps K c.q (hid H m) vs ds → Rl K T c m (σ ++ tv) H S (ρ ++ td) →
    Rl K T c m ((is.zip vs).foldl (fun σ p => σ.set p.1 (some p.2)) σ ++ tv) H S (setN ρ is ds ++ td) ∧ ((is.zip vs).foldl (fun σ p => σ.set p.1 (some p.2)) σ).length = (setN ρ is ds).length
  | [], vs, ds, σ, ρ, hl, hi, hr, r => ⟨by simpa [setN] using r, by simpa [setN] using hl⟩
  | i :: is, vs, [], σ, ρ, hl, hi, hr, r => by
    rw [hr.inv_nil]
    exact ⟨by simpa [setN] using r, by simpa [setN] using hl⟩
  | i :: is, vs, d :: ds, σ, ρ, hl, hi, hr, r => by
    obtain ⟨v, vs', rfl, a, b⟩ := hr.inv
    have r1 := r.set i a
    rw [List.set_append_left _ _ (by rw [hl]; exact hi i List.mem_cons_self), List.set_append_left _ _ (hi i List.mem_cons_self)] at r1
    exact Rl.sets is vs' ds (σ.set i (some v)) (ρ.set i (some d)) (by rw [List.length_set, List.length_set, hl]) (fun j hj => by rw [List.length_set]; exact hi j (List.mem_cons_of_mem _ hj)) b r1
instance sndm_tup {n : Nat} {gs u : TGs} {is : List Nat} {du : DTGs} [hn : SndN gs is] [h : SndM K T u du] : SndM K T (gCons (gTup K n gs) u) (dgTupN n is du) := ⟨fun c m σ H S ρ vs ds Qd Q hl r w k => by
  unfold dgTupN at w
  split at w
  · rename_i xs ds
    obtain ⟨⟨w0, w1, w2⟩, w3⟩ := w
    obtain ⟨v, vs, rfl, hlv⟩ := lenCons hl r.len
    obtain ⟨v0, e0, s0⟩ := r.slot ρ.length (.tup xs) (by rw [List.getElem?_append_right (Nat.le_refl _), Nat.sub_self] <;> rfl)
    rw [List.getElem?_append_right (by rw [hl]; exact Nat.le_refl _), hl, Nat.sub_self] at e0
    cases e0
    cases s0 with
    | fz hr =>
      cases hr with
      | tup hs hlen hz hr =>
        have r1 : Rl K T c m (σ ++ vs.map some) H S (ρ ++ ds.map some) := by
          have := r.mv ρ.length hl
          rw [List.set_eq_of_length_le (by rw [hl]; exact Nat.le_refl _), List.set_eq_of_length_le (Nat.le_refl _)] at this
          exact this
        refine ⟨_, _, rfl, _, _, rfl, sqt_un hs, ?_, ?_⟩
        · rw [hlen]; exact w0
        · refine hn.run σ H _ _ (by rw [hlen, w0]; exact w1) ?_
          obtain ⟨a1, a2⟩ := Rl.sets is _ xs σ ρ hl w2 ⟨hlen, hr⟩ r1
          exact h.run c m _ H S _ vs ds Qd Q a2 a1 w3 k
  · exact w.elim⟩
end
end DL
end
section
set_option maxRecDepth 100000
namespace DL
open PySem PySem.Spec PyProof.Rows L2
section
variable {K : PySem.W.Frag} {T : Tb}
theorem Rl.nilx {c : DC} {m : List Addr} {σ : L2.St} {H : Hp} {S : Nat} {ρ : DEnv} (r : Rl K T c m σ H S ρ) : Rl K T c m (σ ++ []) H S (ρ ++ []) := by simpa using r
/-! ### stores of such parts -/
instance (priority := low) snd_asgC {i : Nat} {te : TE} {t : DTE} [h : SndC K T te t] : SndS K T (tAsg te (gName i)) (dAsg t (dgName i)) := ⟨fun c m σ H S ρ E Ed r w k =>
  h.run c m σ H S ρ [] [] _ _ r.len r.nilx w fun v H1 S1 d m1 w1 r1 e1 => k.nx m1 _ H1 S1 _ w1 (by simpa using Rl.mv (tv := []) (td := []) i r.len (by simpa using r1)) e1⟩
def dPar (i j : Nat) (ta : DTA) : DTS := fun E ρ S => ta ρ S fun ds S1 => match ds with
  | [d, e] => E.nx ((ρ.set i (some d)).set j (some e)) S1
  | _ => False
def dPar3 (i j l : Nat) (ta : DTA) : DTS := fun E ρ S => ta ρ S fun ds S1 => match ds with
  | [d, e, f] => E.nx (((ρ.set i (some d)).set j (some e)).set l (some f)) S1
  | _ => False
instance snd_par {i j : Nat} {ta : TA} {t : DTA} [h : SndCA K T ta t] : SndS K T (tPar i j ta) (dPar i j t) := ⟨fun c m σ H S ρ E Ed r w k =>
  h.run c m σ H S ρ [] [] _ _ r.len r.nilx w fun vs H1 S1 ds m1 w1 r1 e1 => by
    split at w1
    · rename_i d e
      rw [List.nil_append, List.nil_append] at r1
      obtain ⟨v, vs, rfl, h1⟩ := lenCons (d := d) (ds := [e]) r.len r1.len
      cases vs with
      | nil => simp at h1
      | cons u us =>
        have h2 : us = [] := List.eq_nil_of_length_eq_zero (by simpa using h1)
        subst h2
        refine ⟨v, u, rfl, ?_⟩
        have a1 := Rl.mv i r.len r1
        have a2 := Rl.mv j (by rw [List.length_set, List.length_set, r.len]) a1
        exact k.nx m1 _ H1 S1 _ w1 (by simpa using a2) e1
    · exact w1.elim⟩
instance snd_par3 {i j l : Nat} {ta : TA} {t : DTA} [h : SndCA K T ta t] : SndS K T (tPar3 i j l ta) (dPar3 i j l t) := ⟨fun c m σ H S ρ E Ed r w k =>
  h.run c m σ H S ρ [] [] _ _ r.len r.nilx w fun vs H1 S1 ds m1 w1 r1 e1 => by
    split at w1
    · rename_i d e f
      rw [List.nil_append, List.nil_append] at r1
      obtain ⟨v, vs, rfl, h1⟩ := lenCons (d := d) (ds := [e, f]) r.len r1.len
      cases vs with
      | nil => simp at h1
      | cons u us =>
        cases us with
        | nil => simp at h1
        | cons x xs =>
          have h2 : xs = [] := List.eq_nil_of_length_eq_zero (by simpa using h1)
          subst h2
          refine ⟨v, u, x, rfl, ?_⟩
          have a1 := Rl.mv i r.len r1
          have a2 := Rl.mv j (by rw [List.length_set, List.length_set, r.len]) a1
          have a3 := Rl.mv l (by rw [List.length_set, List.length_set, List.length_set, List.length_set, r.len]) a2
          exact k.nx m1 _ H1 S1 _ w1 (by simpa using a3) e1
    · exact w1.elim⟩
/-- a, (b, c), d = e, f, g by a tuple -/
def dParT (n : Nat) (ta : DTA) (g : DTGs) : DTS := fun E ρ S => ta ρ S fun ds S1 => (ds.length = n ∧ n ≤ 1000) ∧ g ds ρ fun ρ' => E.nx ρ' S1
instance (priority := low) snd_parT {n : Nat} {ta : TA} {gs : TGs} {t : DTA} {g : DTGs} [h : SndCA K T ta t] [hg : SndM K T gs g] : SndS K T (tAsg (tTup ta) (gTup K n gs)) (dParT n t g) := ⟨fun c m σ H S ρ E Ed r w k =>
  h.run c m σ H S ρ [] [] _ _ r.len r.nilx w fun vs H1 S1 ds m1 w1 r1 e1 => by
    obtain ⟨⟨w1, w2⟩, w3⟩ := w1
    rw [List.nil_append, List.nil_append] at r1
    have hlen : vs.length = ds.length := by
      have := r1.len
      rw [List.length_append, List.length_append, List.length_map, List.length_map, r.len] at this
      omega
    refine ⟨by rw [hlen, w1]; exact line1000 w2, fun p hp => ?_⟩
    refine ⟨p, vs, rfl, SqT.of upd_same, by rw [hlen, w1], ?_⟩
    exact hg.run c m1 σ _ S1 ρ vs ds _ _ r.len (r1.nw (Nw.upd hp)) w3 fun σ' ρ' w4 r4 => k.nx m1 σ' _ S1 ρ' w4 r4 (e1.trans (Nw.upd hp).ex)⟩
/-! ### frozen from now on -/
def dFrz (i : Nat) (t : DTS) : DTS := fun E ρ S => match ρ[i]? with
  | some (some (.mu ds)) => t E (ρ.set i (some (.lst ds))) S
  | some (some (.md ds)) => t E (ρ.set i (some (.dct ds))) S
  | _ => False
theorem frz_set {σ : L2.St} {i : Nat} {v : V} (h : σ[i]? = some (some v)) : σ.set i (some v) = σ := by
  apply List.ext_getElem?
  intro j
  rw [List.getElem?_set]
  split
  · rename_i e
    subst e
    rw [if_pos (List.getElem?_eq_some_iff.mp h).1]
    exact h.symm
  · rfl
theorem Rl.freeze {c : DC} {m : List Addr} {σ : L2.St} {H : Hp} {S : Nat} {ρ : DEnv} {i : Nat} {d d' : D} {p : Addr} (r : Rl K T c m σ H S ρ) (hd : ρ[i]? = some (some d)) (hm : d.isMut = true) (hv : σ[i]? = some (some (.ref p))) (h0 : p ∉ c.m0)
    (hr : Rep K c.q (hid H (m.filter fun a => decide (a ≠ p))) (.ref p) d') : Rl K T c (m.filter fun a => decide (a ≠ p)) σ H S (ρ.set i (some d')) := by
  have mem : ∀ a, a ∈ m.filter (fun a => decide (a ≠ p)) ↔ a ∈ m ∧ a ≠ p := fun a => by rw [List.mem_filter, decide_eq_true_eq]
  have ex : Ex (hid H m) (hid H (m.filter fun a => decide (a ≠ p))) := Ex.less fun a h => ((mem a).mp h).1
  have rest : ∀ (j : Nat) (e : D), j ≠ i → ρ[j]? = some (some e) → ∃ v, σ[j]? = some (some v) ∧ Slot K c (m.filter fun a => decide (a ≠ p)) H v e := fun j e hj he => by
    obtain ⟨v, e1, s⟩ := r.slot j e he
    refine ⟨v, e1, ?_⟩
    cases s with
    | fz h => exact .fz (h.mono ex)
    | mu h1 h2 h3 h4 h5 => exact .mu ((mem _).mpr ⟨h1, fun z => r.sep j i _ d _ hj he hd rfl hm e1 (by rw [hv, z])⟩) h2 h3 h4 (h5.mono ex)
    | md h1 h2 h3 h4 h5 => exact .md ((mem _).mpr ⟨h1, fun z => r.sep j i _ d _ hj he hd rfl hm e1 (by rw [hv, z])⟩) h2 h3 h4 (h5.mono ex)
  refine ⟨fun a ha => (mem a).mpr ⟨r.sub a ha, fun z => h0 (by rw [← z]; exact ha)⟩, r.qm, fun a ha => r.dom a ((mem a).mp ha).1, r.pot, r.tab, r.fr, fun a ha => r.new a ((mem a).mp ha).1, fun j e hj => ?_, fun j l e f v n h1 h2 h3 h4 => ?_, by rw [List.length_set]; exact r.len⟩
  · rw [List.getElem?_set] at hj
    split at hj
    · rename_i q
      subst q
      split at hj
      · cases hj
        exact ⟨_, hv, .fz hr⟩
      · cases hj
    · rename_i q
      exact rest j e (Ne.symm q) hj
  · have no : ∀ (l : Nat) (x : D), (ρ.set i (some d'))[l]? = some (some x) → x.isMut = true → ρ[l]? = some (some x) := fun l x hx hmx => by
      rw [List.getElem?_set] at hx
      split at hx
      · split at hx
        · cases hx
          rw [hr.notMut] at hmx; cases hmx
        · cases hx
      · exact hx
    exact r.sep j l e f v n (no j e h1 h3) (no l f h2 h4) h3 h4
instance snd_frz {i : Nat} {ts : TS} {t : DTS} [h : SndS K T ts t] : SndS K T (tFrz i ts) (dFrz i t) := ⟨fun c m σ H S ρ E Ed r w k => by
  show ts E σ H
  unfold dFrz at w
  split at w
  · rename_i ds e
    obtain ⟨v, e1, s⟩ := r.slot i _ e
    cases s with
    | fz hr => exact absurd hr.notMut (fun z => by cases z)
    | mu h1 h2 h3 h4 h5 =>
      rename_i p vs
      have ex : Ex (hid H m) (hid H (m.filter fun a => decide (a ≠ p))) := Ex.less fun a h => (List.mem_filter.mp h).1
      have hr : Rep K c.q (hid H (m.filter fun a => decide (a ≠ p))) (.ref p) (.lst ds) := .lst (hid_in h3 fun z => by have := (List.mem_filter.mp z).2; simp at this) h5.1 h4 (h5.mono ex).2
      exact h.run c _ σ H S _ E Ed (r.freeze e rfl e1 h2 hr) w (k.after ex)
  · rename_i ds e
    obtain ⟨v, e1, s⟩ := r.slot i _ e
    cases s with
    | fz hr => exact absurd hr.notMut (fun z => by cases z)
    | md h1 h2 h3 h4 h5 =>
      rename_i p vs
      have ex : Ex (hid H m) (hid H (m.filter fun a => decide (a ≠ p))) := Ex.less fun a h => (List.mem_filter.mp h).1
      have h6 := h5.mono ex
      have hr : Rep K c.q (hid H (m.filter fun a => decide (a ≠ p))) (.ref p) (.dct ds) := .dct (hid_in h3 fun z => by have := (List.mem_filter.mp z).2; simp at this) h6.1 h6.2.1 h6.2.2
      exact h.run c _ σ H S _ E Ed (r.freeze e rfl e1 h2 hr) w (k.after ex)
  · exact w.elim⟩
/-! ### a slot's thing is changed -/
theorem Rl.change {c : DC} {m : List Addr} {σ : L2.St} {H : Hp} {S : Nat} {ρ : DEnv} {i : Nat} {d d' : D} {p : Addr} {o o' : HO} (r : Rl K T c m σ H S ρ) (hd : ρ[i]? = some (some d)) (hm : d.isMut = true) (hv : σ[i]? = some (some (.ref p))) (hp : p ∈ m) (h0 : p ∉ c.m0)
    (h : H p = some o) (hl : (∃ xs, o = .lst xs) ∨ ∃ xs, o = .dK xs) (no : ∀ ps, o' ≠ .tbl ps) (s : Slot K c m (upd H p o') (.ref p) d') (hm' : d'.isMut = true) : Rl K T c m σ (upd H p o') S (ρ.set i (some d')) := by
  have hi : i < ρ.length := (List.getElem?_eq_some_iff.mp hd).1
  have r1 : Rl K T c m (σ.set i none) H S (ρ.set i none) := r.re id (fun _ _ n _ _ => n) (fun j e he => by
    rw [List.getElem?_set] at he
    split at he
    · first | cases he | (split at he <;> cases he)
    · rename_i q
      exact ⟨he, List.getElem?_set_ne q⟩) (by rw [List.length_set, List.length_set]; exact r.len)
  have ns : NoS p (σ.set i none) (ρ.set i none) := fun j e he hme z => by
    rw [List.getElem?_set] at he
    split at he
    · first | cases he | (split at he <;> cases he)
    · rename_i q
      rw [List.getElem?_set_ne q] at z
      exact r.sep i j d e _ q hd he hm hme hv z
  have r2 := (r1.updm (o' := o') hp h0 h hl no ns).snoc s fun _ j e he hme => ns j e he hme
  have r3 := Rl.mv (tv := []) (td := []) i (by rw [List.length_set, List.length_set]; exact r.len) r2
  rw [List.append_nil, List.append_nil, List.set_set, List.set_set, frz_set hv] at r3
  exact r3
def dApp (i : Nat) (t : DTE) : DTS := fun E ρ S => match ρ[i]? with
  | some (some (.mu ds)) => t ρ S fun d S1 => ds.length < 1000000 ∧ E.nx (ρ.set i (some (.mu (ds ++ [d])))) S1
  | _ => False
def dExt (i : Nat) (t : DTE) : DTS := fun E ρ S => match ρ[i]? with
  | some (some (.mu ds)) => t ρ S fun d S1 => match d with
    | .lst es => ds.length + es.length < 1000000 ∧ E.nx (ρ.set i (some (.mu (ds ++ es)))) S1
    | _ => False
  | _ => False
theorem million {n : Nat} (h : n < 1000000) : n < sizeLine := Nat.lt_of_lt_of_le h (by decide)
/-- a slot's list, at the end of an evaluation -/
theorem Rl.mu_at {c : DC} {m : List Addr} {σ : L2.St} {H : Hp} {S : Nat} {ρ : DEnv} {i : Nat} {ds : List D} (r : Rl K T c m σ H S ρ) (e : ρ[i]? = some (some (.mu ds))) : ∃ p vs, σ[i]? = some (some (.ref p)) ∧ p ∈ m ∧ p ∉ c.m0 ∧ H p = some (.lst vs) ∧ ds.length ≤ sizeLine ∧ Reps K c.q (hid H m) vs ds := by
  obtain ⟨v, e1, s⟩ := r.slot i _ e
  cases s with
  | fz hr => exact absurd hr.notMut (fun z => by cases z)
  | mu h1 h2 h3 h4 h5 => exact ⟨_, _, e1, h1, h2, h3, h4, h5⟩
theorem Rl.md_at {c : DC} {m : List Addr} {σ : L2.St} {H : Hp} {S : Nat} {ρ : DEnv} {i : Nat} {ds : List (Int × D)} (r : Rl K T c m σ H S ρ) (e : ρ[i]? = some (some (.md ds))) : ∃ p vs, σ[i]? = some (some (.ref p)) ∧ p ∈ m ∧ p ∉ c.m0 ∧ H p = some (.dK vs) ∧ ds.length ≤ sizeLine ∧ RepK K c.q (hid H m) vs ds := by
  obtain ⟨v, e1, s⟩ := r.slot i _ e
  cases s with
  | fz hr => exact absurd hr.notMut (fun z => by cases z)
  | md h1 h2 h3 h4 h5 => exact ⟨_, _, e1, h1, h2, h3, h4, h5⟩
theorem Rl.grow {c : DC} {m : List Addr} {σ : L2.St} {H : Hp} {S : Nat} {ρ : DEnv} {i : Nat} {ds es : List D} {p : Addr} {vs ws : List V} (r : Rl K T c m σ H S ρ) (e : ρ[i]? = some (some (.mu ds))) (hv : σ[i]? = some (some (.ref p))) (hp : p ∈ m) (h0 : p ∉ c.m0) (h : H p = some (.lst vs))
    (hz : es.length ≤ sizeLine) (hr : Reps K c.q (hid H m) ws es) : Rl K T c m σ (upd H p (.lst ws)) S (ρ.set i (some (.mu es))) :=
  r.change (d' := .mu es) e rfl hv hp h0 h (.inl ⟨_, rfl⟩) (fun ps z => by cases z) (.mu hp h0 upd_same hz (by rw [hid_upd_in hp]; exact hr)) rfl
instance snd_app {i : Nat} {te : TE} {t : DTE} [h : SndE K T te t] : SndS K T (tDrop (tBM K "list" rAppend (tVarM i) (tCons te tNil))) (dApp i t) := ⟨fun c m σ H S ρ E Ed r w k => by
  unfold dApp at w
  split at w
  · rename_i ds e
    obtain ⟨p, vs, e1, h1, h2, h3, _, _⟩ := r.mu_at e
    refine ⟨.ref p, e1, .inl ⟨rfl, _, SqL.of h3⟩, h.run c m σ H S ρ _ _ r w fun v H1 S1 d w1 r1 l1 f1 => ?_⟩
    obtain ⟨p', vs', e1', h1', h2', h3', h4', h5'⟩ := l1.mu_at e
    rw [e1] at e1'
    cases e1'
    have hz := million w1.1
    refine ⟨p, vs', v, rfl, rfl, h3', by rw [h5'.1]; exact hz, ?_⟩
    refine k.nx m σ _ S1 _ w1.2 (l1.grow e e1 h1' h2' h3' (by rw [List.length_append]; exact hz) (h5'.app (.cons r1 Reps.nil))) ?_
    rw [hid_upd_in h1']
    exact f1.ex r.qmm
  · exact w.elim⟩
instance snd_ext {i : Nat} {te : TE} {t : DTE} [h : SndE K T te t] : SndS K T (tDrop (tBM K "list" rExtend (tVarM i) (tCons te tNil))) (dExt i t) := ⟨fun c m σ H S ρ E Ed r w k => by
  unfold dExt at w
  split at w
  · rename_i ds e
    obtain ⟨p, vs, e1, h1, h2, h3, _, _⟩ := r.mu_at e
    refine ⟨.ref p, e1, .inl ⟨rfl, _, SqL.of h3⟩, h.run c m σ H S ρ _ _ r w fun v H1 S1 d w1 r1 l1 f1 => ?_⟩
    obtain ⟨p', vs', e1', h1', h2', h3', h4', h5'⟩ := l1.mu_at e
    rw [e1] at e1'
    cases e1'
    cases r1 with
    | lst hs hl hzz hr =>
      rename_i b ws es
      obtain ⟨w2, w3⟩ := w1
      have hz := million w2
      refine ⟨p, b, vs', ws, rfl, rfl, h3', (hid_of hs).1, by rw [h5'.1, hl]; exact Nat.le_of_lt hz, ?_⟩
      refine k.nx m σ _ S1 _ w3 (l1.grow e e1 h1' h2' h3' (by rw [List.length_append]; exact Nat.le_of_lt hz) (h5'.app ⟨hl, hr⟩)) ?_
      rw [hid_upd_in h1']
      exact f1.ex r.qmm
    | _ => exact w1.elim
  · exact w.elim⟩
/-! ### a slot's thing is read -/
def dIxM (i : Nat) (t : DTE) : DTE := fun ρ S Q => match ρ[i]? with
  | some (some (.mu ds)) => t ρ S fun d S1 => match d with
    | .int j => atD ds j fun d => Q d S1
    | _ => False
  | _ => False
instance snd_ixM {i : Nat} {te : TE} {t : DTE} [h : SndE K T te t] : SndE K T (tOp (rIxX K) (tVarM i) te) (dIxM i t) := ⟨fun c m σ H S ρ Qd Q r w k => by
  unfold dIxM at w
  split at w
  · rename_i ds e
    obtain ⟨p, vs, e1, _, _, _, _, _⟩ := r.mu_at e
    refine ⟨.ref p, e1, h.run c m σ H S ρ _ _ r w fun v H1 S1 d w1 r1 l1 f1 => ?_⟩
    obtain ⟨p', vs', e1', h1', h2', h3', h4', h5'⟩ := l1.mu_at e
    rw [e1] at e1'
    cases e1'
    cases r1 with
    | int j =>
      have w1 : atD ds j fun d => Qd d S1 := w1
      unfold atD at w1
      split at w1
      · rename_i d ed
        obtain ⟨v, ev, rv⟩ := reps_atI (K := K) h5' ed
        exact .inl ⟨p, vs', j, v, rfl, rfl, SqL.of h3', ev, k v H1 S1 d w1 rv l1 f1⟩
      · exact w1.elim
    | _ => exact w1.elim
  · exact w.elim⟩
def dLenM (i : Nat) : DTE := fun ρ S Q => match ρ[i]? with
  | some (some (.mu ds)) => Q (.int ds.length) S
  | _ => False
instance snd_lenM {i : Nat} : SndE K T (tCB (rLen K) (tCons (tVarM i) tNil)) (dLenM i) := ⟨fun c m σ H S ρ Qd Q r w k => by
  unfold dLenM at w
  split at w
  · rename_i ds e
    obtain ⟨p, vs, e1, h1, h2, h3, h4, h5⟩ := r.mu_at e
    refine ⟨.ref p, e1, p, vs, rfl, .inl (SqL.of h3), ?_⟩
    rw [h5.1]
    exact k _ H S _ w (.int _) r (Fr.refl _ _)
  · exact w.elim⟩
/-! ### dicts with int keys -/
def getD' (kvs : List (Int × D)) (k : Int) : Option D := (kvs.find? fun kv => decide (kv.1 = k)).map (·.2)
def putD (kvs : List (Int × D)) (k : Int) (v : D) : List (Int × D) :=
  if (kvs.any fun kv => decide (kv.1 = k)) = true then kvs.map (fun kv => if kv.1 = k then (kv.1, v) else kv) else kvs ++ [(k, v)]
theorem inl_dec (a b : Int) : decide ((Sum.inl a : Key) = Sum.inl b) = decide (a = b) := by
  by_cases h : a = b
  · subst h; simp
  · rw [decide_eq_false h, decide_eq_false fun z => h (Sum.inl.inj z)]
theorem repK_get {q : Option Addr} {G : Hp} (k : Int) : ∀ {vs : List (Key × V)} {ds : List (Int × D)}, RepK K q G vs ds → (getD' ds k = none ∧ valV vs (Sum.inl k) = none) ∨ ∃ v d, getD' ds k = some d ∧ valV vs (Sum.inl k) = some v ∧ Rep K q G v d
  | vs, [], h => by rw [h.inv_nil]; exact .inl ⟨rfl, rfl⟩
  | vs, p :: ds, h => by
    obtain ⟨v, vs', rfl, a, b⟩ := h.inv
    by_cases e : p.1 = k
    · exact .inr ⟨v, p.2, by simp [getD', List.find?_cons, e], by rw [valV_pos (by rw [e])], a⟩
    · have h1 : getD' (p :: ds) k = getD' ds k := by simp [getD', List.find?_cons, e]
      have h2 : valV ((Sum.inl p.1, v) :: vs') (Sum.inl k : Key) = valV vs' (Sum.inl k) := valV_neg fun z => e (Sum.inl.inj z)
      rw [h1, h2]
      exact repK_get k b
theorem repK_any {q : Option Addr} {G : Hp} (k : Int) : ∀ {vs : List (Key × V)} {ds : List (Int × D)}, RepK K q G vs ds → (vs.any fun kv => decide (kv.1 = Sum.inl k)) = ds.any fun kv => decide (kv.1 = k)
  | vs, [], h => by rw [h.inv_nil] <;> rfl
  | vs, p :: ds, h => by
    obtain ⟨v, vs', rfl, a, b⟩ := h.inv
    rw [List.any_cons, List.any_cons, repK_any k b, inl_dec]
theorem repK_map {q : Option Addr} {G : Hp} (k : Int) {x : V} {d : D} (r : Rep K q G x d) : ∀ {vs : List (Key × V)} {ds : List (Int × D)}, RepK K q G vs ds →
    RepK K q G (vs.map fun kv => if kv.1 = Sum.inl k then (kv.1, x) else kv) (ds.map fun kv => if kv.1 = k then (kv.1, d) else kv)
  | vs, [], h => by rw [h.inv_nil]; exact RepK.nil
  | vs, p :: ds, h => by
    obtain ⟨v, vs', rfl, a, b⟩ := h.inv
    rw [List.map_cons, List.map_cons]
    by_cases e : p.1 = k
    · rw [if_pos e, if_pos (by rw [e])]
      exact .cons r (repK_map k r b)
    · rw [if_neg e, if_neg (fun z => e (Sum.inl.inj z))]
      exact RepK.cons a (repK_map k r b)
theorem RepK.app {q : Option Addr} {G : Hp} : ∀ {vs ws : List (Key × V)} {ds es : List (Int × D)}, RepK K q G vs ds → RepK K q G ws es → RepK K q G (vs ++ ws) (ds ++ es)
  | vs, ws, [], es, h, h' => by rw [h.inv_nil]; exact h'
  | vs, ws, p :: ds, es, h, h' => by
    obtain ⟨v, vs', rfl, a, b⟩ := h.inv
    exact RepK.cons a (RepK.app b h')
theorem repK_put {q : Option Addr} {G : Hp} (k : Int) {x : V} {d : D} {vs : List (Key × V)} {ds : List (Int × D)} (r : Rep K q G x d) (h : RepK K q G vs ds) : RepK K q G (putK vs (Sum.inl k) x) (putD ds k d) := by
  unfold putK putD
  rw [repK_any k h]
  split
  · exact repK_map k r h
  · exact h.app (.cons r RepK.nil)
theorem putD_len (ds : List (Int × D)) (k : Int) (d : D) : (putD ds k d).length ≤ ds.length + 1 := by
  unfold putD
  split
  · rw [List.length_map]; exact Nat.le_succ _
  · rw [List.length_append]; exact Nat.le_refl _
/-- d[k] of a frozen dict -/
def dGet (td ty : DTE) : DTE := fun ρ S Q => td ρ S fun x S1 => ty ρ S1 fun y S2 => match x, y with
  | .dct kvs, .int k => match getD' kvs k with
    | some d => Q d S2
    | none => False
  | _, _ => False
instance snd_get {td ty : TE} {dd dy : DTE} [ha : SndE K T td dd] [hb : SndE K T ty dy] : SndE K T (tDGet td ty) (dGet dd dy) := ⟨fun c m σ H S ρ Qd Q r h k =>
  ha.run c m σ H S ρ _ _ r h fun x H1 S1 dx h1 r1 l1 f1 => hb.run c m σ H1 S1 ρ _ _ l1 h1 fun y H2 S2 dy h2 r2 l2 f2 => by
    split at h2
    · rename_i kvs n
      have r1 := r1.mono (f2.ex l1.qmm)
      cases r2
      cases r1 with
      | dct hs hl hk hr =>
        rename_i a vs
        rcases repK_get (K := K) n ⟨hl, hk, hr⟩ with ⟨e1, e2⟩ | ⟨v, d, e1, e2, rv⟩
        · rw [e1] at h2; exact h2.elim
        · rw [e1] at h2
          exact ⟨a, v, rfl, .inl ⟨vs, Sum.inl n, .inl (hid_of hs).1, rfl, e2.symm⟩, k v H2 S2 d h2 rv l2 (f1.trans f2)⟩
    · exact h2.elim⟩
/-- k in d, d in a slot -/
def dInM (neg : Bool) (ty : DTE) (i : Nat) : DTE := fun ρ S Q => ty ρ S fun y S1 => match y with
  | .int k => match ρ[i]? with
    | some (some (.md kvs)) => Q (.bl (if neg then !(getD' kvs k).isSome else (getD' kvs k).isSome)) S1
    | _ => False
  | _ => False
theorem repK_some {q : Option Addr} {G : Hp} {k : Int} {vs : List (Key × V)} {ds : List (Int × D)} (h : RepK K q G vs ds) : (valV vs (Sum.inl k)).isSome = (getD' ds k).isSome := by
  rcases repK_get (K := K) k h with ⟨e1, e2⟩ | ⟨v, d, e1, e2, _⟩
  · rw [e1, e2] <;> rfl
  · rw [e1, e2] <;> rfl
instance snd_inM {i : Nat} {ty : TE} {dy : DTE} [hb : SndE K T ty dy] : SndE K T (tDIn ty (tVarM i)) (dInM false dy i) := ⟨fun c m σ H S ρ Qd Q r h k =>
  hb.run c m σ H S ρ _ _ r h fun y H2 S2 dy h2 r2 l2 f2 => by
    cases r2 with
    | int n =>
      have h2 : (match ρ[i]? with | some (some (.md kvs)) => Qd (.bl (getD' kvs n).isSome) S2 | _ => False) := h2
      split at h2
      · rename_i kvs e
        obtain ⟨p, vs, e1, h1, h2', h3, h4, h5⟩ := l2.md_at e
        refine ⟨.ref p, e1, p, _, rfl, .inl ⟨vs, Sum.inl n, .inl h3, rfl, rfl⟩, ?_⟩
        rw [repK_some h5]
        exact k _ H2 S2 _ h2 (.bl _) l2 f2
      · exact h2.elim
    | _ => exact h2.elim⟩
instance snd_notInM {i : Nat} {ty : TE} {dy : DTE} [hb : SndE K T ty dy] : SndE K T (tDNotIn ty (tVarM i)) (dInM true dy i) := ⟨fun c m σ H S ρ Qd Q r h k =>
  hb.run c m σ H S ρ _ _ r h fun y H2 S2 dy h2 r2 l2 f2 => by
    cases r2 with
    | int n =>
      have h2 : (match ρ[i]? with | some (some (.md kvs)) => Qd (.bl (!(getD' kvs n).isSome)) S2 | _ => False) := h2
      split at h2
      · rename_i kvs e
        obtain ⟨p, vs, e1, h1, h2', h3, h4, h5⟩ := l2.md_at e
        refine ⟨.ref p, e1, p, _, rfl, .inl ⟨vs, Sum.inl n, .inl h3, rfl, rfl⟩, ?_⟩
        rw [repK_some h5]
        exact k _ H2 S2 _ h2 (.bl _) l2 f2
      · exact h2.elim
    | _ => exact h2.elim⟩
/-- d[k] = v, d in a slot -/
def dPut (i : Nat) (ty tv : DTE) : DTS := fun E ρ S => tv ρ S fun v S1 => match ρ[i]? with
  | some (some (.md kvs)) => ty ρ S1 fun y S2 => match y with
    | .int k => kvs.length < 1000000 ∧ E.nx (ρ.set i (some (.md (putD kvs k v)))) S2
    | _ => False
  | _ => False
instance snd_put {i : Nat} {ty tv : TE} {dy dv : DTE} [hy : SndE K T ty dy] [hv : SndE K T tv dv] : SndS K T (sDPut (tVarM i) ty tv) (dPut i dy dv) := ⟨fun c m σ H S ρ E Ed r w k =>
  hv.run c m σ H S ρ _ _ r w fun v H1 S1 d w1 r1 l1 f1 => by
    split at w1
    · rename_i kvs e
      obtain ⟨p, vs, e1, _, _, _, _, _⟩ := l1.md_at e
      refine ⟨.ref p, e1, hy.run c m σ H1 S1 ρ _ _ l1 w1 fun y H2 S2 dy w2 r2 l2 f2 => ?_⟩
      cases r2 with
      | int n =>
        obtain ⟨w2, w3⟩ := w2
        obtain ⟨p', vs', e1', h1', h2', h3', h4', h5'⟩ := l2.md_at e
        rw [e1] at e1'
        cases e1'
        refine ⟨p, _, rfl, .inl ⟨vs', Sum.inl n, h3', rfl, by rw [h5'.1]; exact million w2, rfl⟩, ?_⟩
        have hr := repK_put (K := K) n (r1.mono (f2.ex l1.qmm)) h5'
        have hz : (putD kvs n d).length ≤ sizeLine := Nat.le_trans (putD_len _ _ _) (million w2)
        refine k.nx m σ _ S2 _ w3 (l2.change (d' := .md (putD kvs n d)) e rfl e1 h1' h2' h3' (.inr ⟨_, rfl⟩) (fun ps z => by cases z) (.md h1' h2' upd_same hz (by rw [hid_upd_in h1']; exact hr)) rfl) ?_
        rw [hid_upd_in h1']
        exact (f1.trans f2).ex r.qmm
      | _ => exact w2.elim
    · exact w1.elim⟩
end
end DL
end
section
set_option maxRecDepth 100000
namespace DL
open PySem PySem.Spec PyProof.Rows L2
/-! ### enumerate(tuple) -/
set_option maxHeartbeats 1000000 in
theorem dl_enum_new (a : Addr) (items : Array Value) :
    Meets (Builtin.«enumerate.__new__» ⟨[.type "enumerate", .ref a], []⟩) (fun _ R s => s.heap.IsTuple a items ∧
      R (.ok (.ret (.ref (s.heap.push { cls := .type "tuple_iterator", data := .fields #[.ref a, .int 0 0] }).objs.size)))
        { s with heap := (s.heap.push { cls := .type "tuple_iterator", data := .fields #[.ref a, .int 0 0] }).push { cls := .type "enumerate", data := .fields #[.none, .bool false, .ref s.heap.objs.size, rawInt 0, .none, .none] } }) := by
  refine .of_wp fun prog w A R s hh => ?_
  obtain ⟨hp, g, dd, tk, os⟩ := s
  obtain ⟨h1, hR⟩ := hh
  have hsub := sub_enumerate
  have it1 : ∀ {A' : Around} {E : Value → Shared → Prop} {Q : Value → Shared → Prop}, Q (.ref hp.objs.size) ⟨hp.push { cls := .type "tuple_iterator", data := .fields #[.ref a, .int 0 0] }, g, dd, tk, os⟩ → wpAny (model prog w) A' (pyIter (.ref a)) Q E ⟨hp, g, dd, tk, os⟩ :=
    fun qq => (begins_tuple a items).iter prog w _ _ ⟨hp, g, dd, tk, os⟩ _ h1 qq
  wp_walk using it1
  refine wpAny_stack_any fun _ => wpAny_pure ?_
  split
  · rename_i c _ _ _ _ _
    cases (c == Value.type "enumerate") <;> (wp_walk using it1; exact ⟨_, rfl, hR⟩)
  · wp_walk using it1
    exact ⟨_, rfl, hR⟩
section
variable {prog : Program} {w : World} {A : Around} {E : Value → Shared → Prop} {s : Shared}
theorem dl_enum_call {a : Addr} {items : Array Value} {Q : Value → Shared → Prop} (hT : s.heap.IsTuple a items)
    (fin : ∀ h', IsEnum h' (s.heap.objs.size + 1) s.heap.objs.size 0 .none → h'.IsTupleIter s.heap.objs.size a 0 → (∀ b o, s.heap.get? b = some o → h'.get? b = some o) → Q (.ref (s.heap.objs.size + 1)) { s with heap := h' }) :
    wpAny (model prog w) A (call (.type "enumerate") [.ref a]) Q E s := by
  refine callType_new F.called_enumerate (by decide) (F.typeCall_enumerate_1 _) (F.newCall_enumerate_1 _) (fun ob => F.args_object_init_2 ob _) F.entry_enumerate_new (dl_enum_new a items) ⟨hT, ?_⟩
  have e1 : (s.heap.push { cls := .type "tuple_iterator", data := .fields #[.ref a, .int 0 0] }).objs.size = s.heap.objs.size + 1 := Heap.size_push ..
  show _ ∧ _
  rw [e1]
  have e2 : IsEnum ((s.heap.push { cls := .type "tuple_iterator", data := .fields #[.ref a, .int 0 0] }).push { cls := .type "enumerate", data := .fields #[.none, .bool false, .ref s.heap.objs.size, rawInt 0, .none, .none] }) (s.heap.objs.size + 1) s.heap.objs.size 0 .none := by
    have e3 := Heap.get?_push_size (s.heap.push { cls := .type "tuple_iterator", data := .fields #[.ref a, .int 0 0] }) (o := { cls := .type "enumerate", data := .fields #[.none, .bool false, .ref s.heap.objs.size, rawInt 0, .none, .none] }) rfl
    rw [e1] at e3
    exact e3
  exact ⟨⟨_, e2, rfl⟩, fin _ e2 ⟨_, Heap.get?_push_of_some _ (Heap.get?_push_size _ rfl), rfl, rfl⟩ fun b o x => Heap.get?_push_of_some _ (Heap.get?_push_of_some _ x)⟩
end
/-- the tuple at a, each item in a new pair with its place -/
def IteT (K : PySem.W.Frag) (a : Addr) : It where
  go := fun i H => ∃ xs x, SqT K H a xs ∧ xs[i]? = some x
  yld := fun i H v H' => ∃ p x, v = .ref p ∧ H p = none ∧ H' = upd H p (.tup [.int (i : Nat), x]) ∧ ∀ xs, SqT K H a xs → xs[i]? = some x
  stop := fun i H => ∃ xs, SqT K H a xs ∧ xs.length = i
theorem ne_cls {h : Heap} {a b : Addr} {o o' : Obj} (h1 : h.get? a = some o) (h2 : h.get? b = some o') (n : o.cls ≠ o'.cls) : a ≠ b := fun e => by
  subst e
  rw [h1] at h2
  cases h2
  exact n rfl
theorem turn_enumT {P : Program} {w : World} {K : PySem.W.Frag} {elts : List Expr} {kk : Nat} {tpos : Pos} (a e it : Addr) :
    Turn P w K (.Tuple elts kk tpos) (IteT K a) [e, it] e (fun i h => (∃ old, IsEnum h e it ((i : Nat) : Int) old) ∧ h.IsTupleIter it a i ∧ e ≠ it) where
  mem := List.mem_cons_self
  obj := fun i h st b hb => by
    obtain ⟨⟨old, he⟩, ⟨o, ho, _, hd⟩, _⟩ := st
    rcases List.mem_cons.mp hb with z | z
    · subst z; exact ⟨_, he, fun v q => nomatch q⟩
    · have z := List.mem_singleton.mp z
      subst z
      exact ⟨o, ho, fun v q => by rw [hd] at q; cases q⟩
  keep := fun i h h' ⟨⟨old, he⟩, hi, hne⟩ k => ⟨⟨old, k e List.mem_cons_self _ he⟩, hi.at fun o q => k it (List.mem_cons_of_mem _ List.mem_cons_self) o q, hne⟩
  item := by
    intro X hP hw hK hc i pins s σ H E I hf ⟨⟨old, he⟩, hit, hne⟩ ⟨xs, x, hq, hx⟩
    subst hP hw hK
    obtain ⟨its, rv, pt, _⟩ := I.tuple hq
    obtain ⟨u, hu, ru⟩ := rv.get hx
    obtain ⟨oT, hoT, hcT, _⟩ := id pt
    obtain ⟨oI, hoI, hcI, _⟩ := id hit
    have nai : a ≠ it := ne_cls hoT hoI (by rw [hcT, hcI]; decide)
    have nea : e ≠ a := ne_cls he hoT (by rw [hcT]; show Value.type "enumerate" ≠ Value.type "tuple"; decide)
    have hlt : i < its.toArray.size := by
      have := (List.getElem?_eq_some_iff.mp hu).1
      rwa [List.size_toArray]
    refine wpAny_pyNext_enum_itemC (Draws.tuple (prog := X.prog) (w := X.w) (A := X.A.in1) (I.ok.hd hc) it a nai its.toArray) he ⟨hit, pt⟩ hlt hne (fun z => ?_) fun y h' tk hy ho st' hT hsz hk => ?_
    · rcases List.mem_cons.mp z with z | z
      · exact hne z
      · exact nea (List.mem_singleton.mp z)
    · have ey : y = u := by
        have : its.toArray[i]? = some u := by simpa using hu
        exact Option.some.inj (hy.symm.trans this)
      subst ey
      have lte : e < s.heap.objs.size := Heap.lt_size he
      have lti : it < s.heap.objs.size := Heap.lt_size hoI
      refine ⟨_, rfl, wpAny_letOwnedTupleGo_enum (s := { s with heap := h', toks := tk + 1 }) ho fun h2 he2 sb => ?_⟩
      have hT2 : h2.get? s.heap.objs.size = some { cls := .type "tuple", data := .seq #[.int i tk, y] } := (sb.2 _ (Nat.ne_of_gt lte)).trans hT
      have nw : ObjOk X.prog X.w (upd H s.heap.objs.size (.tup [.int (i : Nat), x])) h2 s.heap.objs.size (.tup [.int (i : Nat), x]) := ⟨by show 2 ≤ sizeLine; decide, [.int i tk, y], .cons ⟨tk, rfl⟩ (.cons ru .nil), ⟨_, hT2, rfl, _, rfl⟩⟩
      have I1 : Inv X pins σ (upd H s.heap.objs.size (.tup [.int (i : Nat), x])) { s with heap := h2, toks := tk + 1 } :=
        I.turnedNew (ch := [e, it]) (fun b ob hb qq => (sb.2 b (fun z => hb (by simp [z]))).trans (hk b ob (fun z => hb (by simp [z])) (fun z => hb (by simp [z])) qq)) hf (Nat.le_refl _) nw
      refine ⟨.ref s.heap.objs.size, _, I1, rfl, ⟨_, x, rfl, I.hok.fresh (Nat.le_refl _), rfl, fun ys hys => by rw [I.tuple_inj hys hq]; exact hx⟩, ⟨⟨y, ?_⟩, st'.1.at fun o qq => (sb.2 it (Ne.symm hne)).trans qq, hne⟩, fun b hb => ?_⟩
      · have e1 : ((i + 1 : Nat) : Int) = (i : Int) + 1 := by omega
        rw [e1]
        exact he2
      · have hb' : b < s.heap.objs.size := by
          rcases List.mem_cons.mp hb with z | z
          · rw [z]; exact lte
          · rw [List.mem_singleton.mp z]; exact lti
        rw [upd_ne (Nat.ne_of_lt hb')]
        exact (hf b hb).1
  done := by
    intro X hP hw hK hc i pins s σ H E I hf ⟨⟨old, he⟩, hit, hne⟩ ⟨xs, hq, hx⟩
    subst hP hw hK
    obtain ⟨its, rv, pt, _⟩ := I.tuple hq
    obtain ⟨oT, hoT, hcT, _⟩ := id pt
    obtain ⟨oI, hoI, hcI, _⟩ := id hit
    have nai : a ≠ it := ne_cls hoT hoI (by rw [hcT, hcI]; decide)
    obtain ⟨f0, f1, f2, f3, f4, f5⟩ := hf it (List.mem_cons_of_mem _ List.mem_cons_self)
    have hl := rv.length
    have hz : its.toArray.size = i := by rw [List.size_toArray, ← hl]; exact hx
    refine wpAny_pyNext_enum_endD (Draws.tuple (prog := X.prog) (w := X.w) (A := X.A.in1) (I.ok.hd hc) it a nai its.toArray) he (by rw [hz]; exact ⟨hit, pt⟩) fun h' eb => ⟨rfl, I.turned (t' := s.toks) (fun b o hb q => eb b o hb q) f0 f1 f3 f4 f5⟩
  self := fun A i s Q E st h => by
    obtain ⟨⟨old, he⟩, _⟩ := st
    exact wpAny_pyIter_enum he h
def iEnumX (K : PySem.W.Frag) (ta : TA) : TI := fun σ H R => ta σ H fun vs H1 => ∃ a xs, vs = [.ref a] ∧ ((SqL K H1 a xs ∧ R (Ite K a) H1) ∨ (SqT K H1 a xs ∧ R (IteT K a) H1))
theorem pi_enumX {X : Cx} {e : Expr} {ta : TA} {p pos tpos : Pos} {elts : List Expr} {kk : Nat} (hg : Gl X "enumerate") (hm : X.mg "enumerate" = none) (ha : PA X [e] ta) (hs : starEach [e] X.env = [(false, eval e X.env)] := by rfl) :
    PI X (.Tuple elts kk tpos) (.Call (.Name "enumerate" p) [e] [] pos) (iEnumX X.K ta) := by
  refine ⟨fun pins s σ H R I h => Call_ (ld_blt I hg hm boot_enumerate (PyProof.Rows.callWith_type1 (thn (ha.run pos pins s σ H _ I h) fun us s1 ⟨vs, H1, I1, r1, q1⟩ => ?_) hs rfl))⟩
  obtain ⟨a, xs, ex, q⟩ := q1
  subst ex
  obtain ⟨u, rfl, ru⟩ := vals1 r1
  cases ru
  have fresh2 : ∀ b ∈ [s1.heap.objs.size + 1, s1.heap.objs.size], FpOk X pins H1 b := fun b hb => by
    have hle : s1.heap.objs.size ≤ b := by
      rcases List.mem_cons.mp hb with z | z
      · rw [z]; exact Nat.le_succ _
      · rw [List.mem_singleton.mp z]; exact Nat.le_refl _
    exact I1.fpOk hle (I1.hok.fresh hle)
  rcases q with ⟨hq, q⟩ | ⟨hq, q⟩
  · obtain ⟨its, rv, pl, _⟩ := I1.list hq
    refine call_enumerate_list pl.isList fun h' he hit _ hk => wpAny_pyIter_enum he ?_
    exact ⟨s1.heap.objs.size + 1, [s1.heap.objs.size + 1, s1.heap.objs.size], _, _, H1, rfl, I1.kept (h' := h') (t' := s1.toks) hk, turn_enum a (s1.heap.objs.size + 1) s1.heap.objs.size, ⟨⟨.none, he⟩, hit, Nat.succ_ne_self _⟩, fresh2, q⟩
  · obtain ⟨its, rv, pt, _⟩ := I1.tuple hq
    refine dl_enum_call (show s1.heap.IsTuple a its.toArray from pt) fun h' he hit hk => wpAny_pyIter_enum he ?_
    exact ⟨s1.heap.objs.size + 1, [s1.heap.objs.size + 1, s1.heap.objs.size], _, _, H1, rfl, I1.kept (h' := h') (t' := s1.toks) hk, turn_enumT a (s1.heap.objs.size + 1) s1.heap.objs.size, ⟨⟨.none, he⟩, hit, Nat.succ_ne_self _⟩, fresh2, q⟩
/-! ### zip of a tuple and a list -/
def ItzX (K : PySem.W.Frag) (a b : Addr) : It where
  go := fun i H => ∃ xs ys x y, SqT K H a xs ∧ SqL K H b ys ∧ xs[i]? = some x ∧ ys[i]? = some y
  yld := fun i H v H' => ∃ p x y, v = .ref p ∧ H p = none ∧ H' = upd H p (.tup [x, y]) ∧ (∀ xs, SqT K H a xs → xs[i]? = some x) ∧ ∀ ys, SqL K H b ys → ys[i]? = some y
  stop := fun i H => ∃ xs ys, SqT K H a xs ∧ SqL K H b ys ∧ i ≤ xs.length ∧ i ≤ ys.length ∧ (i = xs.length ∨ i = ys.length)
theorem turn_zipX {P : Program} {w : World} {K : PySem.W.Frag} {elts : List Expr} {kk : Nat} {tpos : Pos} {a b z TI TO i1 i2 : Addr} (D : ZipSep2 z TI TO i1 i2 [i1, a] [i2, b]) (n1 : a ≠ i1) (n2 : b ≠ i2) :
    Turn P w K (.Tuple elts kk tpos) (ItzX K a b) [z, TI, TO, i1, i2] z (fun i h => IsZip h z TI TO .none ∧ IsTupOf2 h TI (.ref i1) (.ref i2) ∧ (∃ x y, IsTupOf2 h TO x y) ∧ h.IsTupleIter i1 a i ∧ h.IsListIter i2 b i) where
  mem := List.mem_cons_self
  obj := fun i h st c hc => by
    obtain ⟨hz, hTI, ⟨x, y, hTO⟩, ⟨o1, e1, _, d1⟩, ⟨o2, e2, _, d2⟩⟩ := st
    have cs : c = z ∨ c = TI ∨ c = TO ∨ c = i1 ∨ c = i2 := by simpa using hc
    rcases cs with rfl | rfl | rfl | rfl | rfl
    · exact ⟨_, hz, fun v q => nomatch q⟩
    · exact ⟨_, hTI, fun v q => nomatch q⟩
    · exact ⟨_, hTO, fun v q => nomatch q⟩
    · exact ⟨o1, e1, fun v q => by rw [d1] at q; cases q⟩
    · exact ⟨o2, e2, fun v q => by rw [d2] at q; cases q⟩
  keep := fun i h h' st k => by
    obtain ⟨hz, hTI, ⟨x, y, hTO⟩, t1, t2⟩ := st
    exact ⟨k _ (by simp) _ hz, k _ (by simp) _ hTI, ⟨x, y, k _ (by simp) _ hTO⟩, t1.at fun o q => k _ (by simp) o q, t2.at fun o q => k _ (by simp) o q⟩
  item := by
    intro X hP hw hK hc i pins s σ H E I hf st hg
    subst hP hw hK
    obtain ⟨hz, hTI, ⟨x0, y0, hTO⟩, t1, t2⟩ := st
    obtain ⟨xs, ys, x, y, qx, qy, hx, hy⟩ := hg
    obtain ⟨its, rv, pt, _⟩ := I.tuple qx
    obtain ⟨jts, rw', pl, _⟩ := I.list qy
    obtain ⟨u, hu, ru⟩ := rv.get hx
    obtain ⟨u2, hu2, ru2⟩ := rw'.get hy
    have l1 : i < its.toArray.size := by rw [List.size_toArray]; exact (List.getElem?_eq_some_iff.mp hu).1
    have l2 : i < jts.toArray.size := by rw [List.size_toArray]; exact (List.getElem?_eq_some_iff.mp hu2).1
    have hzl : z < s.heap.objs.size := Heap.lt_size hz
    have hd1 : X.A.in1.handled = none := I.ok.hd hc
    refine wpAny_pyNext_zipD2_item D (Draws.tuple (prog := X.prog) (w := X.w) hd1 i1 a n1 its.toArray) (Draws.list (prog := X.prog) (w := X.w) hd1 i2 b n2 jts.toArray) hz hTI hTO ⟨t1, pt⟩ ⟨t2, pl.isList⟩ l1 l2 fun v1 v2 h' tk g1 g2 z' TO' st1 st2 hT hsz hk => ?_
    have ev1 : v1 = u := Option.some.inj (g1.symm.trans (by simpa using hu))
    have ev2 : v2 = u2 := Option.some.inj (g2.symm.trans (by simpa using hu2))
    subst ev1 ev2
    refine ⟨_, rfl, wpAny_letOwnedTupleGo_zip (s := { s with heap := h', toks := tk }) z' fun h2 z2 sb => ?_⟩
    have hT2 : h2.get? s.heap.objs.size = some { cls := .type "tuple", data := .seq #[v1, v2] } := (sb.2 _ (Nat.ne_of_gt hzl)).trans hT
    have nw : ObjOk X.prog X.w (upd H s.heap.objs.size (.tup [x, y])) h2 s.heap.objs.size (.tup [x, y]) := ⟨by show 2 ≤ sizeLine; decide, [v1, v2], .cons ru (.cons ru2 .nil), ⟨_, hT2, rfl, _, rfl⟩⟩
    have I1 : Inv X pins σ (upd H s.heap.objs.size (.tup [x, y])) { s with heap := h2, toks := tk } :=
      I.turnedNew (ch := [z, TI, TO, i1, i2]) (fun c o hb q => (sb.2 c (fun q' => hb (by simp [q']))).trans (hk c o (fun q' => hb (by simp [q'])) (fun q' => hb (by simp [q'])) (fun q' => hb (by simp [q'])) (fun q' => hb (by simp [q'])) q)) hf (Nat.le_refl _) nw
    refine ⟨.ref s.heap.objs.size, _, I1, rfl, ⟨_, x, y, rfl, I.hok.fresh (Nat.le_refl _), rfl, fun l hl => by rw [I.tuple_inj hl qx]; exact hx, fun l hl => by rw [I.list_inj hl qy]; exact hy⟩, ⟨z2, ?_, ⟨v1, v2, ?_⟩, ?_, ?_⟩, fun c hcm => ?_⟩
    · exact (sb.2 _ D.TIz).trans (hk _ _ D.TIz D.TITO D.TIi1 D.TIi2 hTI)
    · exact (sb.2 _ D.TOz).trans TO'
    · exact st1.1.at fun o q => (sb.2 _ (Ne.symm D.zi1)).trans q
    · exact st2.1.at fun o q => (sb.2 _ (Ne.symm D.zi2)).trans q
    · have hlt : c < s.heap.objs.size := by
        have cs : c = z ∨ c = TI ∨ c = TO ∨ c = i1 ∨ c = i2 := by simpa using hcm
        rcases cs with q | q | q | q | q
        · rw [q]; exact hzl
        · rw [q]; exact Heap.lt_size hTI
        · rw [q]; exact Heap.lt_size hTO
        · rw [q]; obtain ⟨_, e1, _⟩ := t1; exact Heap.lt_size e1
        · rw [q]; obtain ⟨_, e2, _⟩ := t2; exact Heap.lt_size e2
      rw [upd_ne (Nat.ne_of_lt hlt)]
      exact (hf c hcm).1
  done := by
    intro X hP hw hK hc i pins s σ H E I hf st hg
    subst hP hw hK
    obtain ⟨hz, hTI, ⟨x0, y0, hTO⟩, t1, t2⟩ := st
    obtain ⟨xs, ys, qx, qy, w1, w2, w3⟩ := hg
    obtain ⟨its, rv, pt, _⟩ := I.tuple qx
    obtain ⟨jts, rw', pl, _⟩ := I.list qy
    have k1 := rv.length
    have k2 := rw'.length
    have hd1 : X.A.in1.handled = none := I.ok.hd hc
    refine wpAny_pyNext_zipD2_end D (Draws.tuple (prog := X.prog) (w := X.w) hd1 i1 a n1 its.toArray) (Draws.list (prog := X.prog) (w := X.w) hd1 i2 b n2 jts.toArray) hz hTI hTO ⟨t1, pt⟩ ⟨t2, pl.isList⟩ (by rw [List.size_toArray]; omega) (by rw [List.size_toArray]; omega) (by rw [List.size_toArray, List.size_toArray]; omega) ?_
    intro h' tk hk
    exact ⟨rfl, I.turnedL (t' := tk) (ch := [z, TI, TO, i1, i2]) (fun c o hb q => hk c o (fun q' => hb (by simp [q'])) (fun q' => hb (by simp [q'])) (fun q' => hb (by simp [q'])) (fun q' => hb (by simp [q'])) q) hf⟩
  self := fun A i s Q E st h => wpAny_pyIter_zip st.1 h
end DL
end
section
set_option maxRecDepth 100000
namespace DL
open PySem PySem.Spec PyProof.Rows L2
/-! ### zip, enumerate of what stands there -/
def iZipX (K : PySem.W.Frag) (ta : TA) : TI := fun σ H R => ta σ H fun vs H1 => ∃ a b xs ys, vs = [.ref a, .ref b] ∧ ((SqT K H1 a xs ∧ SqT K H1 b ys ∧ R (RZ.ItzT K a b) H1) ∨ (SqT K H1 a xs ∧ SqL K H1 b ys ∧ R (ItzX K a b) H1))
theorem pi_zipX {X : Cx} {e e2 : Expr} {ta : TA} {p pos tpos : Pos} {elts : List Expr} {kk : Nat} (hg : Gl X "zip") (hm : X.mg "zip" = none) (ha : PA X [e, e2] ta)
    (hs : starEach [e, e2] X.env = (false, eval e X.env) :: starEach [e2] X.env := by rfl) (hpl : (backTo pos (starEach [e2] X.env)).any (·.1) = false := by rfl) :
    PI X (.Tuple elts kk tpos) (.Call (.Name "zip" p) [e, e2] [] pos) (iZipX X.K ta) := by
  refine ⟨fun pins s σ H R I h => Call_ (ld_blt I hg hm PyProof.Rows.boot_zip (PyProof.Rows.callWith_type1 (thn (ha.run pos pins s σ H _ I h) fun us s1 ⟨vs, H1, I1, r1, q1⟩ => ?_) hs hpl))⟩
  obtain ⟨a, b, xs, ys, ex, q⟩ := q1
  subst ex
  obtain ⟨u, u2, rfl, ru, ru2⟩ := vals2 r1
  cases ru
  cases ru2
  have f5 : ∀ c ∈ [s1.heap.objs.size + 4, s1.heap.objs.size + 2, s1.heap.objs.size + 3, s1.heap.objs.size, s1.heap.objs.size + 1], FpOk X pins H1 c := fun c hcm => by
    have hle : s1.heap.objs.size ≤ c := by
      have cs : c = s1.heap.objs.size + 4 ∨ c = s1.heap.objs.size + 2 ∨ c = s1.heap.objs.size + 3 ∨ c = s1.heap.objs.size ∨ c = s1.heap.objs.size + 1 := by simpa using hcm
      rcases cs with z | z | z | z | z <;> (rw [z]; first | exact Nat.le_add_right _ _ | exact Nat.le_refl _)
    exact I1.fpOk hle (I1.hok.fresh hle)
  rcases q with ⟨hx, hy, q⟩ | ⟨hx, hy, q⟩
  · obtain ⟨its, rv, p1, _⟩ := I1.tuple hx
    obtain ⟨jts, rw', p2, _⟩ := I1.tuple hy
    obtain ⟨o1, ho1, _⟩ := id p1
    obtain ⟨o2, ho2, _⟩ := id p2
    refine RZ.call_zipT (show s1.heap.IsTuple a its.toArray from p1) (show s1.heap.IsTuple b jts.toArray from p2) fun h' hz hTI hTO t1 t2 _ hk => wpAny_pyIter_zip hz ?_
    exact ⟨s1.heap.objs.size + 4, [s1.heap.objs.size + 4, s1.heap.objs.size + 2, s1.heap.objs.size + 3, s1.heap.objs.size, s1.heap.objs.size + 1], _, _, H1, rfl, I1.kept (h' := h') (t' := s1.toks) hk, RZ.turn_zipT (PySem.W.ktu_apart s1.heap.objs.size a b (Heap.lt_size ho1) (Heap.lt_size ho2)), ⟨hz, hTI, ⟨_, _, hTO⟩, t1, t2⟩, f5, q⟩
  · obtain ⟨its, rv, p1, _⟩ := I1.tuple hx
    obtain ⟨jts, rw', p2, _⟩ := I1.list hy
    obtain ⟨o1, ho1, _⟩ := id p1
    have la : a < s1.heap.objs.size := Heap.lt_size ho1
    have lb : b < s1.heap.objs.size := p2.lt
    refine zip_begins2 (begins_tuple a its.toArray) (begins_list b jts.toArray) (show s1.heap.IsTuple a its.toArray from p1) p2.isList fun h' hz hTI hTO t1 t2 _ hk => wpAny_pyIter_zip hz ?_
    exact ⟨s1.heap.objs.size + 4, [s1.heap.objs.size + 4, s1.heap.objs.size + 2, s1.heap.objs.size + 3, s1.heap.objs.size, s1.heap.objs.size + 1], _, _, H1, rfl, I1.kept (h' := h') (t' := s1.toks) hk,
      turn_zipX (zip_sep2 (fp1 := [a]) (fp2 := [b]) (fun c hc => by rw [List.mem_singleton.mp hc]; exact la) (fun c hc => by rw [List.mem_singleton.mp hc]; exact lb)) (Nat.ne_of_lt la) (Nat.ne_of_lt (Nat.lt_succ_of_lt lb)), ⟨hz, hTI, ⟨_, _, hTO⟩, ⟨_, t1, rfl, rfl⟩, ⟨_, t2, rfl, rfl⟩⟩, f5, q⟩
section
variable {K : PySem.W.Frag} {T : Tb}
def dIZX (t : DTA) : DTA := fun ρ S Q => t ρ S fun ds S1 => match ds with
  | [.tup xs, .tup ys] => Q (zipD xs ys) S1
  | [.tup xs, .lst ys] => Q (zipD xs ys) S1
  | _ => False
instance snd_iZipX {ta : TA} {t : DTA} [h : SndA K T ta t] : SndI K T (iZipX K ta) (dIZX t) := ⟨fun c m σ H S ρ Qd R r h1 k => h.run c m σ H S ρ _ _ r h1 fun vs H1 S1 ds h2 r1 l1 f1 => by
  split at h2
  · rename_i xs ys
    obtain ⟨v, w, rfl, ra, rb⟩ := reps2 r1
    cases ra with
    | tup hs hl hz hr =>
      cases rb with
      | tup hs' hl' hz' hr' =>
        rename_i a va b vb
        refine ⟨a, b, va, vb, rfl, .inl ⟨sqt_un hs, sqt_un hs', k _ H1 S1 _ h2 (by rw [zipD_len]; omega) l1 f1 fun m' H' e no => ⟨fun i d hd => ?_, ?_⟩⟩⟩
        · obtain ⟨x, y, hx, hy, rfl⟩ := zipD_at hd
          have s1 : SqT K H' a va := sqt_un (sqt_ex e hs)
          have s2 : SqT K H' b vb := sqt_un (sqt_ex e hs')
          obtain ⟨vx, e1, rx⟩ := Reps.at_ (K := K) ⟨hl, hr⟩ hx
          obtain ⟨vy, e2, ry⟩ := Reps.at_ (K := K) ⟨hl', hr'⟩ hy
          refine ⟨⟨va, vb, vx, vy, s1, s2, e1, e2⟩, fun z H2 y => ?_⟩
          obtain ⟨p, x1, y1, rfl, hp, rfl, g1, g2⟩ := y
          have q1 := g1 va s1
          have q2 := g2 vb s2
          rw [e1] at q1
          rw [e2] at q2
          cases q1
          cases q2
          exact ⟨rep_tup hp no (.cons (rx.mono e) (.cons (ry.mono e) Reps.nil)) (by show 2 ≤ sizeLine; decide), Nw.upd hp⟩
        · refine ⟨va, vb, sqt_un (sqt_ex e hs), sqt_un (sqt_ex e hs'), ?_⟩
          rw [zipD_len]
          omega
  · rename_i xs ys
    obtain ⟨v, w, rfl, ra, rb⟩ := reps2 r1
    cases ra with
    | tup hs hl hz hr =>
      cases rb with
      | lst hs' hl' hz' hr' =>
        rename_i a va b vb
        have sl : ∀ (m' : List Addr) (H' : Hp), Ex (hid H1 m) (hid H' m') → SqL K H' b vb := fun m' H' e => SqL.of (hid_of (e _ _ hs' (fun ps z => by cases z))).1
        refine ⟨a, b, va, vb, rfl, .inr ⟨sqt_un hs, SqL.of (hid_of hs').1, k _ H1 S1 _ h2 (by rw [zipD_len]; omega) l1 f1 fun m' H' e no => ⟨fun i d hd => ?_, ?_⟩⟩⟩
        · obtain ⟨x, y, hx, hy, rfl⟩ := zipD_at hd
          have s1 : SqT K H' a va := sqt_un (sqt_ex e hs)
          have s2 : SqL K H' b vb := sl m' H' e
          obtain ⟨vx, e1, rx⟩ := Reps.at_ (K := K) ⟨hl, hr⟩ hx
          obtain ⟨vy, e2, ry⟩ := Reps.at_ (K := K) ⟨hl', hr'⟩ hy
          refine ⟨⟨va, vb, vx, vy, s1, s2, e1, e2⟩, fun z H2 y => ?_⟩
          obtain ⟨p, x1, y1, rfl, hp, rfl, g1, g2⟩ := y
          have q1 := g1 va s1
          have q2 := g2 vb s2
          rw [e1] at q1
          rw [e2] at q2
          cases q1
          cases q2
          exact ⟨rep_tup hp no (.cons (rx.mono e) (.cons (ry.mono e) Reps.nil)) (by show 2 ≤ sizeLine; decide), Nw.upd hp⟩
        · refine ⟨va, vb, sqt_un (sqt_ex e hs), sl m' H' e, ?_⟩
          rw [zipD_len]
          omega
  · exact h2.elim⟩
def dIEX (t : DTA) : DTA := fun ρ S Q => t ρ S fun ds S1 => match ds with
  | [.lst xs] => Q (enumD 0 xs) S1
  | [.tup xs] => Q (enumD 0 xs) S1
  | _ => False
instance snd_iEnumX {ta : TA} {t : DTA} [h : SndA K T ta t] : SndI K T (iEnumX K ta) (dIEX t) := ⟨fun c m σ H S ρ Qd R r h1 k => h.run c m σ H S ρ _ _ r h1 fun vs H1 S1 ds h2 r1 l1 f1 => by
  split at h2
  · rename_i xs
    obtain ⟨v, rfl, ra⟩ := reps1 r1
    cases ra with
    | lst hs hl hz hr =>
      rename_i a va
      refine ⟨a, va, rfl, .inl ⟨SqL.of (hid_of hs).1, k _ H1 S1 _ h2 (by rw [enumD_len]; exact hz) l1 f1 fun m' H' e no => ⟨fun i d hd => ?_, ?_⟩⟩⟩
      · obtain ⟨x, hx, rfl⟩ := enumD_at hd
        have s1 : SqL K H' a va := SqL.of (hid_of (e _ _ hs (fun ps z => by cases z))).1
        obtain ⟨vx, e1, rx⟩ := Reps.at_ (K := K) ⟨hl, hr⟩ hx
        refine ⟨⟨va, vx, s1, e1⟩, fun z H2 y => ?_⟩
        obtain ⟨p, x1, rfl, hp, rfl, g1⟩ := y
        have q1 := g1 va s1
        rw [e1] at q1
        cases q1
        rw [Nat.zero_add]
        exact ⟨rep_tup hp no (.cons (.int _) (.cons (rx.mono e) Reps.nil)) (by show 2 ≤ sizeLine; decide), Nw.upd hp⟩
      · refine ⟨va, SqL.of (hid_of (e _ _ hs (fun ps z => by cases z))).1, ?_⟩
        rw [enumD_len]
        omega
  · rename_i xs
    obtain ⟨v, rfl, ra⟩ := reps1 r1
    cases ra with
    | tup hs hl hz hr =>
      rename_i a va
      refine ⟨a, va, rfl, .inr ⟨sqt_un hs, k _ H1 S1 _ h2 (by rw [enumD_len]; exact hz) l1 f1 fun m' H' e no => ⟨fun i d hd => ?_, ?_⟩⟩⟩
      · obtain ⟨x, hx, rfl⟩ := enumD_at hd
        have s1 : SqT K H' a va := sqt_un (sqt_ex e hs)
        obtain ⟨vx, e1, rx⟩ := Reps.at_ (K := K) ⟨hl, hr⟩ hx
        refine ⟨⟨va, vx, s1, e1⟩, fun z H2 y => ?_⟩
        obtain ⟨p, x1, rfl, hp, rfl, g1⟩ := y
        have q1 := g1 va s1
        rw [e1] at q1
        cases q1
        rw [Nat.zero_add]
        exact ⟨rep_tup hp no (.cons (.int _) (.cons (rx.mono e) Reps.nil)) (by show 2 ≤ sizeLine; decide), Nw.upd hp⟩
      · refine ⟨va, sqt_un (sqt_ex e hs), ?_⟩
        rw [enumD_len, hl]
  · exact h2.elim⟩
end
/-! ### max, min of a tuple or a list of ints -/
theorem foldMax (n : Int) : ∀ ns : List Int, (ns.foldl max n ∈ n :: ns) ∧ ∀ y ∈ n :: ns, y ≤ ns.foldl max n
  | [] => ⟨List.mem_cons_self, fun y hy => by rw [List.mem_singleton.mp hy]; exact Int.le_refl _⟩
  | k :: ns => by
    obtain ⟨h1, h2⟩ := foldMax (max n k) ns
    rw [List.foldl_cons]
    refine ⟨?_, fun y hy => ?_⟩
    · rcases List.mem_cons.mp h1 with e | e
      · rw [e]
        by_cases h : n ≤ k
        · rw [Int.max_eq_right h]; exact List.mem_cons_of_mem _ List.mem_cons_self
        · rw [Int.max_eq_left (by omega)]; exact List.mem_cons_self
      · exact List.mem_cons_of_mem _ (List.mem_cons_of_mem _ e)
    · have h3 := h2 (max n k) List.mem_cons_self
      rcases List.mem_cons.mp hy with e | e
      · rw [e]; exact Int.le_trans (Int.le_max_left _ _) h3
      · rcases List.mem_cons.mp e with e | e
        · rw [e]; exact Int.le_trans (Int.le_max_right _ _) h3
        · exact h2 y (List.mem_cons_of_mem _ e)
theorem foldMin (n : Int) : ∀ ns : List Int, (ns.foldl min n ∈ n :: ns) ∧ ∀ y ∈ n :: ns, ns.foldl min n ≤ y
  | [] => ⟨List.mem_cons_self, fun y hy => by rw [List.mem_singleton.mp hy]; exact Int.le_refl _⟩
  | k :: ns => by
    obtain ⟨h1, h2⟩ := foldMin (min n k) ns
    rw [List.foldl_cons]
    refine ⟨?_, fun y hy => ?_⟩
    · rcases List.mem_cons.mp h1 with e | e
      · rw [e]
        by_cases h : n ≤ k
        · rw [Int.min_eq_left h]; exact List.mem_cons_self
        · rw [Int.min_eq_right (by omega)]; exact List.mem_cons_of_mem _ List.mem_cons_self
      · exact List.mem_cons_of_mem _ (List.mem_cons_of_mem _ e)
    · have h3 := h2 (min n k) List.mem_cons_self
      rcases List.mem_cons.mp hy with e | e
      · rw [e]; exact Int.le_trans h3 (Int.min_le_left _ _)
      · rcases List.mem_cons.mp e with e | e
        · rw [e]; exact Int.le_trans h3 (Int.min_le_right _ _)
        · exact h2 y (List.mem_cons_of_mem _ e)
theorem ints_dp {K : PySem.W.Frag} {H : Hp} : ∀ ns : List Int, DpAll K H (ns.map V.int) (ns.map PyData.int)
  | [] => .nil
  | n :: ns => .cons (.int n) (ints_dp ns)
theorem ints_depth : ∀ ns : List Int, PyData.depthAll (ns.map PyData.int) = 0
  | [] => by simp [PyData.depthAll]
  | n :: ns => by simp [PyData.depthAll, PyData.depth, ints_depth ns]
theorem ints_alike (ns : List Int) : PySem.W.AlikeAll (ns.map PyData.int) := by
  refine ⟨fun x hx y hy => ?_, fun x hx => ?_⟩
  · obtain ⟨i, _, rfl⟩ := List.mem_map.mp hx
    obtain ⟨j, _, rfl⟩ := List.mem_map.mp hy
    rfl
  · obtain ⟨i, _, rfl⟩ := List.mem_map.mp hx
    exact fun z => by cases z
def rBest (K : PySem.W.Frag) (f : Int → Int → Int) : List V → Hp → VK → Prop := fun vs H Q => ∃ (a : Addr) (n : Int) (ns : List Int), vs = [V.ref a] ∧ (SqL K H a ((n :: ns).map V.int) ∨ SqT K H a ((n :: ns).map V.int)) ∧ Q (.int (ns.foldl f n)) H
theorem cr_maxX {X : Cx} (hc : X.calm = true) (hu : X.A.units + 64 < cLine) : CallR X (.builtin "max") (rBest X.K max) := by
  intro pins s σ H vs us Q I r h
  obtain ⟨a, n, ns, rfl, hs, q⟩ := h
  obtain ⟨u, rfl, ru⟩ := vals1 r
  cases ru
  have hd : X.A.units + 1 + PyData.depthAll (PyData.int n :: ns.map PyData.int) < cLine := by
    have := ints_depth (n :: ns)
    rw [List.map_cons] at this
    rw [this]
    omega
  have fin : ∀ {v : Value} {h' : Heap} {tk : Nat} {bs : List Addr}, Reads h' v (PySem.W.maxD (.int n) (ns.map PyData.int)) bs → (∀ b o, s.heap.get? b = some o → h'.get? b = some o) → EP X pins σ Q v { s with heap := h', toks := tk } := fun {v h' tk bs} hr hk => by
    rw [PySem.W.maxD_ints] at hr
    cases hr
    exact ⟨.int _, H, I.kept (h' := h') (t' := tk) hk, ⟨_, rfl⟩, q⟩
  rcases hs with hs | hs
  · obtain ⟨its, rv, pl, _⟩ := I.list hs
    obtain ⟨as, hr⟩ := Dp.readsAll I _ _ its (ints_dp (n :: ns)) rv
    exact PySem.W.max_list_data (I.ok.hd hc) pl.isList hr (ints_alike (n :: ns)) hd fun i v h' tk bs _ hr' hk => fin hr' hk
  · obtain ⟨its, rv, pt, _⟩ := I.tuple hs
    obtain ⟨as, hr⟩ := Dp.readsAll I _ _ its (ints_dp (n :: ns)) rv
    exact PySem.W.max_tuple_data (I.ok.hd hc) (show s.heap.IsTuple a its.toArray from pt) hr (ints_alike (n :: ns)) hd fun i v h' tk bs _ hr' hk => fin hr' hk
theorem cr_minX {X : Cx} (hc : X.calm = true) (hu : X.A.units + 64 < cLine) : CallR X (.builtin "min") (rBest X.K min) := by
  intro pins s σ H vs us Q I r h
  obtain ⟨a, n, ns, rfl, hs, q⟩ := h
  obtain ⟨u, rfl, ru⟩ := vals1 r
  cases ru
  have hd : X.A.units + 1 + PyData.depthAll (PyData.int n :: ns.map PyData.int) < cLine := by
    have := ints_depth (n :: ns)
    rw [List.map_cons] at this
    rw [this]
    omega
  have fin : ∀ {v : Value} {h' : Heap} {tk : Nat} {bs : List Addr}, Reads h' v (PySem.W.minD (.int n) (ns.map PyData.int)) bs → (∀ b o, s.heap.get? b = some o → h'.get? b = some o) → EP X pins σ Q v { s with heap := h', toks := tk } := fun {v h' tk bs} hr hk => by
    rw [PySem.W.minD_ints] at hr
    cases hr
    exact ⟨.int _, H, I.kept (h' := h') (t' := tk) hk, ⟨_, rfl⟩, q⟩
  rcases hs with hs | hs
  · obtain ⟨its, rv, pl, _⟩ := I.list hs
    obtain ⟨as, hr⟩ := Dp.readsAll I _ _ its (ints_dp (n :: ns)) rv
    exact PySem.W.min_list_data (I.ok.hd hc) pl.isList hr (ints_alike (n :: ns)) hd fun i v h' tk bs _ hr' hk => fin hr' hk
  · obtain ⟨its, rv, pt, _⟩ := I.tuple hs
    obtain ⟨as, hr⟩ := Dp.readsAll I _ _ its (ints_dp (n :: ns)) rv
    exact PySem.W.min_tuple_data (I.ok.hd hc) (show s.heap.IsTuple a its.toArray from pt) hr (ints_alike (n :: ns)) hd fun i v h' tk bs _ hr' hk => fin hr' hk
section
variable {K : PySem.W.Frag} {T : Tb}
def fBest (f : Int → Int → Int) : DFn := fun ds Q => match ds with
  | [.lst xs] => ∃ (n : Int) (ns : List Int), xs = (n :: ns).map D.int ∧ Q (.int (ns.foldl f n))
  | [.tup xs] => ∃ (n : Int) (ns : List Int), xs = (n :: ns).map D.int ∧ Q (.int (ns.foldl f n))
  | _ => False
instance snd_best {f : Int → Int → Int} : SndB K (rBest K f) (fBest f) := ⟨fun q m H xs ds Qd Q no rx h k => by
  unfold fBest at h
  split at h
  · obtain ⟨v, rfl, r⟩ := reps1 rx
    obtain ⟨n, ns, rfl, h⟩ := h
    cases r with
    | lst hs hl hz hr =>
      have e := reps_ints (K := K) (ns := n :: ns) ⟨hl, hr⟩
      subst e
      exact ⟨_, n, ns, rfl, .inl (SqL.of (hid_of hs).1), k _ H _ h (.int _) (Nw.refl H)⟩
  · obtain ⟨v, rfl, r⟩ := reps1 rx
    obtain ⟨n, ns, rfl, h⟩ := h
    cases r with
    | tup hs hl hz hr =>
      have e := reps_ints (K := K) (ns := n :: ns) ⟨hl, hr⟩
      subst e
      exact ⟨_, n, ns, rfl, .inr (sqt_un hs), k _ H _ h (.int _) (Nw.refl H)⟩
  · exact h.elim⟩
/-! ### x in a tuple or list of data -/
def rInX (K : PySem.W.Frag) (neg : Bool) : R2 := fun x y H Q => ∃ d ds, Dp K H x d ∧ (Dp K H y (.list ds) ∨ Dp K H y (.tuple ds)) ∧ SeqAt.shaped d = true ∧ SeqAt.shaped (.list ds) = true ∧ Q (.bl (if neg then !(ds.any fun z => PyData.eqv z d) else ds.any fun z => PyData.eqv z d)) H
end
theorem op_inX {X : Cx} (hu : X.A.units + 65 < cLine) : OpR X (compareOp .In) (rInX X.K false) := by
  intro pins s σ H x y v u Q I rx ry h
  obtain ⟨d, ds, hd, he, sd, se, q⟩ := h
  obtain ⟨as, r1⟩ := Dp.reads I d x v hd rx
  have hl : PyData.canLayAll0 ds = true := SeqAt.canLay_of_shaped se
  have hr : X.A.units + 1 + min (PyData.depthAll ds) d.depth < cLine := room_in_shaped sd hu
  rcases he with he | he
  · obtain ⟨bs, r2⟩ := Dp.reads I (.list ds) y u he ry
    exact SeqAt.in_list_reads r2 r1 hl (SeqAt.canLay_of_shaped sd) hr ⟨.bl _, H, I, rfl, q⟩
  · obtain ⟨bs, r2⟩ := Dp.reads I (.tuple ds) y u he ry
    exact SeqAt.in_tuple_reads r2 r1 hl (SeqAt.canLay_of_shaped sd) hr ⟨.bl _, H, I, rfl, q⟩
theorem op_notInX {X : Cx} (hu : X.A.units + 65 < cLine) : OpR X (compareOp .NotIn) (rInX X.K true) := by
  intro pins s σ H x y v u Q I rx ry h
  obtain ⟨d, ds, hd, he, sd, se, q⟩ := h
  obtain ⟨as, r1⟩ := Dp.reads I d x v hd rx
  have hl : PyData.canLayAll0 ds = true := SeqAt.canLay_of_shaped se
  have hr : X.A.units + 1 + min (PyData.depthAll ds) d.depth < cLine := room_in_shaped sd hu
  rcases he with he | he
  · obtain ⟨bs, r2⟩ := Dp.reads I (.list ds) y u he ry
    exact SeqAt.notIn_list_reads r2 r1 hl (SeqAt.canLay_of_shaped sd) hr ⟨.bl _, H, I, rfl, q⟩
  · obtain ⟨bs, r2⟩ := Dp.reads I (.tuple ds) y u he ry
    exact SeqAt.notIn_tuple_reads r2 r1 hl (SeqAt.canLay_of_shaped sd) hr ⟨.bl _, H, I, rfl, q⟩
section
variable {K : PySem.W.Frag} {T : Tb}
def inD (x : D) (xs : List D) : Bool := xs.any fun z => eqD z x
def fInX (neg : Bool) : DF2 := fun x y Q => match y with
  | .lst xs => (okD x = true ∧ okD (.lst xs) = true) ∧ Q (.bl (if neg then !inD x xs else inD x xs))
  | .tup xs => (okD x = true ∧ okD (.lst xs) = true) ∧ Q (.bl (if neg then !inD x xs else inD x xs))
  | _ => False
theorem inD_pys (x : D) : ∀ xs : List D, ((pys xs).any fun z => PyData.eqv z (py x)) = inD x xs
  | [] => by simp [pys, inD]
  | y :: ys => by
    have h := inD_pys x ys
    unfold inD eqD at h ⊢
    rw [show pys (y :: ys) = py y :: pys ys by simp [pys], List.any_cons, List.any_cons, h]
instance snd_inX {neg : Bool} : SndR K (rInX K neg) (fInX neg) := ⟨fun q m H x y dx dy Qd Q no rx ry w k => by
  unfold fInX at w
  split at w
  · rename_i xs
    obtain ⟨⟨h1, h2⟩, w⟩ := w
    obtain ⟨a1, a2⟩ := okD_of h1
    obtain ⟨b1, b2⟩ := okD_of h2
    have hp := rep_dp _ _ ry b1
    unfold py at hp b2
    exact ⟨py dx, pys xs, rep_dp dx x rx a1, .inl hp, a2, b2, by rw [inD_pys]; exact k _ H _ w (.bl _) (Nw.refl H)⟩
  · rename_i xs
    obtain ⟨⟨h1, h2⟩, w⟩ := w
    obtain ⟨a1, a2⟩ := okD_of h1
    obtain ⟨b1, b2⟩ := okD_of h2
    unfold isD at b1
    have hp := rep_dp (.tup xs) _ ry (by unfold isD; exact b1)
    unfold py at hp b2
    exact ⟨py dx, pys xs, rep_dp dx x rx a1, .inr hp, a2, b2, by rw [inD_pys]; exact k _ H _ w (.bl _) (Nw.refl H)⟩
  · exact w.elim⟩
end
end DL
end
section
set_option maxRecDepth 100000
namespace DL
open PySem PySem.Spec PyProof.Rows L2
/-! ### sorted of pairs of ints -/
def lexLe (p q : Int × Int) : Prop := p.1 < q.1 ∨ (p.1 = q.1 ∧ p.2 ≤ q.2)
def rSortedPX (K : PySem.W.Frag) : List V → Hp → VK → Prop := fun vs H Q => ∃ (a : Addr) (xs : List V) (ps : List (Int × Int)), vs = [V.ref a] ∧ SqL K H a xs ∧ xs.length = ps.length ∧
  (∀ (i : Nat) (x : V) (p : Int × Int), xs[i]? = some x → ps[i]? = some p → ∃ t, x = V.ref t ∧ SqT K H t [.int p.1, .int p.2]) ∧
  ∀ (ys : List V) (qs : List (Int × Int)) (l : Addr), qs.Perm ps → qs.Pairwise lexLe → ys.length = qs.length → (∀ (i : Nat) (y : V) (q : Int × Int), ys[i]? = some y → qs[i]? = some q → ∃ j : Nat, xs[j]? = some y ∧ ps[j]? = some q) → H l = none → Q (.ref l) (upd H l (.lst ys))
open Classical in
noncomputable def pairOf (K : PySem.W.Frag) (H : Hp) (x : V) : Int × Int := if h : ∃ p : Int × Int, ∃ t, x = V.ref t ∧ SqT K H t [.int p.1, .int p.2] then choose h else (0, 0)
theorem pairOf_eq {X : Cx} {pins : List (Addr × Obj)} {σ : L2.St} {H : Hp} {s : Shared} (I : Inv X pins σ H s) {x : V} {p : Int × Int} (h : ∃ t, x = V.ref t ∧ SqT X.K H t [.int p.1, .int p.2]) : pairOf X.K H x = p := by
  have hx : ∃ p : Int × Int, ∃ t, x = V.ref t ∧ SqT X.K H t [.int p.1, .int p.2] := ⟨p, h⟩
  unfold pairOf
  rw [dif_pos hx]
  obtain ⟨t, e, q⟩ := Classical.choose_spec hx
  obtain ⟨t', e', q'⟩ := h
  rw [e] at e'
  cases e'
  have := I.tuple_inj q q'
  injection this with a b
  injection b with b c
  injection a with a
  injection b with b
  exact Prod.ext a b
theorem lexB_le {p q : Int × Int} (h : SrtO.lexB q p = false) : lexLe p q := by
  have := SrtO.lexB_no.mp h
  unfold lexLe
  omega
theorem cr_sortedPX {X : Cx} : CallR X (.builtin "sorted") (rSortedPX X.K) := by
  intro pins s σ H vs us Q I r h
  obtain ⟨a, xs, ps, rfl, hs, hlen, hx, q⟩ := h
  obtain ⟨its, rv, hl, hz⟩ := I.list hs
  obtain ⟨u, rfl, ru⟩ := vals1 r
  obtain rfl : u = Value.ref a := ru
  have hxp : ∀ x ∈ xs, ∃ p t, x = V.ref t ∧ SqT X.K H t [.int (p : Int × Int).1, .int p.2] ∧ pairOf X.K H x = p := fun x hm => by
    obtain ⟨i, hi⟩ := List.getElem?_of_mem hm
    have hip : i < ps.length := by rw [← hlen]; exact (List.getElem?_eq_some_iff.mp hi).1
    obtain ⟨t, e, st⟩ := hx i x ps[i] hi (List.getElem?_eq_getElem hip)
    exact ⟨_, t, e, st, pairOf_eq I ⟨t, e, st⟩⟩
  obtain ⟨e1, e2⟩ := refs_back rv fun x hm => by
    obtain ⟨_, t, e, _⟩ := hxp x hm
    exact ⟨t, e⟩
  refine SrtO.sorted_pairsO (k := fun u => pairOf X.K H (backV u)) hl.isList (by rw [← rv.length]; exact hz) (fun v hv => ?_) fun h' d out g1 g2 kp hd hn => ?_
  · obtain ⟨t, rfl⟩ := e2 v hv
    have hm : V.ref t ∈ xs := by rw [e1]; exact List.mem_map.mpr ⟨_, hv, rfl⟩
    obtain ⟨p, t', e, st, ep⟩ := hxp _ hm
    cases e
    obtain ⟨js, rj, ⟨o, ho, hc, n, hdt⟩, _⟩ := I.tuple st
    obtain ⟨u1, u2, rfl, ri, rj'⟩ := vals2 rj
    obtain ⟨t1, rfl⟩ := ri
    obtain ⟨t2, rfl⟩ := rj'
    have hk : pairOf X.K H (backV (Value.ref t)) = p := ep
    rw [hk]
    exact ⟨t, o, t1, t2, n, rfl, ho, hc, hdt⟩
  · have h3 : ∀ u ∈ out, ∃ a, u = Value.ref a := fun u hu => e2 u (g2.perm.mem_iff.mp hu)
    obtain ⟨n, hn⟩ := hn
    have hperm : (out.map backV).Perm xs := by rw [e1]; exact g2.perm.map _
    have hps : xs.map (pairOf X.K H) = ps := by
      apply List.ext_getElem?
      intro i
      rw [List.getElem?_map]
      by_cases hi : i < xs.length
      · have hip : i < ps.length := by rw [← hlen]; exact hi
        rw [List.getElem?_eq_getElem hi, List.getElem?_eq_getElem hip]
        exact congrArg some (pairOf_eq I (hx i _ _ (List.getElem?_eq_getElem hi) (List.getElem?_eq_getElem hip)))
      · rw [List.getElem?_eq_none (by omega), List.getElem?_eq_none (by omega)] <;> rfl
    refine ⟨.ref d, upd H d (.lst (out.map backV)), I.laid (t' := s.toks) kp hd ⟨by rw [hperm.length_eq]; exact hz, out, n, vals_back h3, hn⟩, rfl, q (out.map backV) ((out.map backV).map (pairOf X.K H)) d ?_ ?_ (by simp) ?_ (I.hok.fresh hd)⟩
    · rw [← hps]; exact hperm.map _
    · rw [List.map_map, List.pairwise_map]
      exact List.Pairwise.imp (fun {a b} hab => lexB_le hab) g1
    · intro i y qq hy hq
      rw [List.getElem?_map, hy] at hq
      cases hq
      obtain ⟨j, hj⟩ := List.getElem?_of_mem (hperm.mem_iff.mp (List.mem_of_getElem? hy))
      exact ⟨j, hj, by rw [← hps, List.getElem?_map, hj] <;> rfl⟩
/-! ### sorted of what stands there -/
def rSortDI : List V → Hp → VK → Prop := fun xs H Q => ∃ (a : Addr) (kvs : List (Key × V)) (ks : List Int), xs = [.ref a] ∧ Rd H a (.dK kvs) ∧ kvs.map (·.1) = ks.map Sum.inl ∧ ks.length < 64 ∧
  ∀ (ys : List Int) (p : Addr), ys.Perm ks → ys.Pairwise (· ≤ ·) → H p = none → Q (.ref p) (upd H p (.lst (ys.map V.int)))
def rSortX (K : PySem.W.Frag) : List V → Hp → VK → Prop := fun vs H Q => rSortedI K vs H Q ∨ (rSortedPX K vs H Q ∨ rSortDI vs H Q)
theorem cr_sortX {X : Cx} (hc : X.calm = true) : CallR X (.builtin "sorted") (rSortX X.K) := CallR.or cr_sortedI (CallR.or cr_sortedPX (call_sortedDI hc))
def prD (p : Int × Int) : D := .tup [.int p.1, .int p.2]
section
variable {K : PySem.W.Frag} {T : Tb}
def fSortX : DFn := fun ds Q => match ds with
  | [.lst xs] => (∃ ns : List Int, xs = ns.map D.int ∧ ∀ ys : List Int, ys.Perm ns → ys.Pairwise (· ≤ ·) → Q (.lst (ys.map D.int))) ∨
      (∃ ps : List (Int × Int), xs = ps.map prD ∧ ∀ qs : List (Int × Int), qs.Perm ps → qs.Pairwise lexLe → Q (.lst (qs.map prD)))
  | [.dct kvs] => kvs.length < 64 ∧ ∀ ys : List Int, ys.Perm (kvs.map (·.1)) → ys.Pairwise (· ≤ ·) → Q (.lst (ys.map D.int))
  | _ => False
theorem repK_keys {q : Option Addr} {G : Hp} : ∀ {vs : List (Key × V)} {ds : List (Int × D)}, RepK K q G vs ds → vs.map (·.1) = (ds.map (·.1)).map Sum.inl
  | vs, [], h => by rw [h.inv_nil] <;> rfl
  | vs, p :: ds, h => by
    obtain ⟨v, vs', rfl, a, b⟩ := h.inv
    rw [List.map_cons, repK_keys b] <;> rfl
instance snd_sortX : SndB K (rSortX K) fSortX := ⟨fun q m H xs ds Qd Q no rx h k => by
  unfold fSortX at h
  split at h
  · obtain ⟨v, rfl, r⟩ := reps1 rx
    cases r with
    | lst hs hl hz hr =>
      rcases h with ⟨ns, rfl, h⟩ | ⟨ps, rfl, h⟩
      · exact .inl (snd_sortI.run (K := K) q m H _ _ Qd Q no (.cons (.lst hs hl hz hr) Reps.nil) ⟨ns, rfl, h⟩ k)
      · rename_i a vs
        refine .inr (.inl ⟨a, vs, ps, rfl, SqL.of (hid_of hs).1, by rw [hl, List.length_map], fun i x p hx hp => ?_, fun ys qs l hperm hpw hlen hat hl0 => ?_⟩)
        · have r := hr i x (prD p) hx (by rw [List.getElem?_map, hp] <;> rfl)
          cases r with
          | tup ht hlt hzz hrt =>
            rename_i t us
            obtain ⟨v1, v2, rfl, ra, rb⟩ := reps2 (K := K) ⟨hlt, hrt⟩
            cases ra
            cases rb
            exact ⟨t, rfl, sqt_un ht⟩
        · refine k _ _ _ (h qs hperm hpw) (rep_lst hl0 no ⟨by rw [hlen, List.length_map], fun i y d hy hd => ?_⟩ (by rw [List.length_map, hperm.length_eq]; rw [List.length_map] at hz; exact hz)) (Nw.upd hl0)
          rw [List.getElem?_map] at hd
          cases hq : qs[i]? with
          | none => rw [hq] at hd; cases hd
          | some qq =>
            rw [hq] at hd
            cases hd
            obtain ⟨j, h1, h2⟩ := hat i y qq hy hq
            exact hr j y (prD qq) h1 (by rw [List.getElem?_map, h2] <;> rfl)
  · obtain ⟨v, rfl, r⟩ := reps1 rx
    obtain ⟨h1, h⟩ := h
    cases r with
    | dct hs hl hk hr =>
      rename_i kvs a vs
      refine .inr (.inr ⟨a, vs, kvs.map (·.1), rfl, .inl (hid_of hs).1, repK_keys (K := K) ⟨hl, hk, hr⟩, by rw [List.length_map]; exact h1, fun ys p hperm hpw hp => ?_⟩)
      refine k _ _ _ (h ys hperm hpw) (rep_lst hp no (ints_reps ys) ?_) (Nw.upd hp)
      rw [List.length_map, hperm.length_eq, List.length_map, sizeLine_eq]
      omega
  · exact h.elim⟩
end
/-! ### abs -/
def rAbs : List V → Hp → VK → Prop := fun xs H Q => ∃ i, xs = [.int i] ∧ Q (.int (if i < 0 then -i else i)) H
theorem call_absD {X : Cx} : CallR X (.builtin "abs") rAbs := call_abs
/-! ### a comprehension with two walks -/
section
variable {X : Cx}
theorem pe_lc2V {elt tg iter tg1 iter1 : Expr} {ifs ifs1 : List Expr} {scope : Scope} (own : List (Str × Nat)) (vs1 : List Nat) {pos : Pos} {wi wi1 : TI} {g g1 : TG} {tt tt1 : TT} {te : TE} {vs : List Nat} (hc : X.calm = true) (hN : X.N.Nodup) (hi : PI X tg iter wi)
    (ok : blkC X.N X.env.scope scope own = true) (hvs : own.map (·.2) = vs) (hv : ∀ i ∈ vs1, i ∈ own.map (·.2))
    (hg : ∀ (s : Shared) (H : Hp) (C : Addr) (cl : List (Str × Addr)) (fp : List Addr), PG (X.blk s H scope (compEnvC scope cl C X.env) fp) tg g) (ht : ∀ (s : Shared) (H : Hp) (C : Addr) (cl : List (Str × Addr)) (fp : List Addr), PTs (X.blk s H scope (compEnvC scope cl C X.env) fp) ifs tt)
    (hi1 : ∀ (s : Shared) (H : Hp) (C : Addr) (cl : List (Str × Addr)) (fp : List Addr), PI (X.blk s H scope (compEnvC scope cl C X.env) fp) tg1 iter1 wi1)
    (hg1 : ∀ (s : Shared) (H : Hp) (C : Addr) (cl : List (Str × Addr)) (fp : List Addr), PG (X.blk s H scope (compEnvC scope cl C X.env) fp) tg1 g1) (ht1 : ∀ (s : Shared) (H : Hp) (C : Addr) (cl : List (Str × Addr)) (fp : List Addr), PTs (X.blk s H scope (compEnvC scope cl C X.env) fp) ifs1 tt1)
    (he : ∀ (s : Shared) (H : Hp) (C : Addr) (cl : List (Str × Addr)) (fp : List Addr), PE (X.blk s H scope (compEnvC scope cl C X.env) fp) elt te) (hs : ∀ x, foldedSetIterable iter X.env x = pure x := by intro _; rfl) (hs1 : ∀ env x, foldedSetIterable iter1 env x = pure x := by intro _ _; rfl) :
    PE X (.ListComp elt [⟨tg, iter, ifs, 0⟩, ⟨tg1, iter1, ifs1, 0⟩] scope pos) (tLc2 wi g tt wi1 g1 tt1 te vs vs1) := by
  subst hvs
  exact pe_lc2 hc hN hi (blkOk_by ok) hv hg ht hi1 hg1 ht1 he hs hs1
end
def lcI (g : DTG) (tt : DTT) (te : DTE) (ρ : DEnv) (kk : List D → Nat → Prop) : List D → List D → Nat → Prop
  | [], acc, S => kk acc S
  | d :: ds, acc, S => g d ρ fun ρ2 => tt ρ2 S fun b S2 => if b = true then te ρ2 S2 fun y S3 => acc.length < 1000000 ∧ lcI g tt te ρ kk ds (acc ++ [y]) S3 else lcI g tt te ρ kk ds acc S2
def lc2D (g : DTG) (tt : DTT) (ti1 : DTA) (g1 : DTG) (tt1 : DTT) (te : DTE) (vs1 : List Nat) (ρ : DEnv) (Q : D → Nat → Prop) : List D → List D → Nat → Prop
  | [], acc, S => Q (.lst acc) S
  | d :: ds, acc, S => g d ρ fun ρ2 => tt ρ2 S fun b S2 => if b = true then ti1 ρ2 S2 fun es S3 => lcI g1 tt1 te (dwipe ρ2 vs1) (fun acc S => lc2D g tt ti1 g1 tt1 te vs1 ρ Q ds acc S) es acc S3 else lc2D g tt ti1 g1 tt1 te vs1 ρ Q ds acc S2
def dLc2 (ti : DTA) (g : DTG) (tt : DTT) (ti1 : DTA) (g1 : DTG) (tt1 : DTT) (te : DTE) (vs vs1 : List Nat) : DTE := fun ρ S Q => ti ρ S fun ds S1 => lc2D g tt ti1 g1 tt1 te vs1 (dwipe ρ vs) Q ds [] S1
theorem wipe_wipe {σ σ' : L2.St} {vs us : List Nat} (hu : ∀ i ∈ us, i ∈ vs) : wipe (wipe σ vs) us = wipe σ vs := by
  induction us with
  | nil => rfl
  | cons u us ih =>
    show (wipe (wipe σ vs) us).set u none = wipe σ vs
    rw [ih fun i hi => hu i (List.mem_cons_of_mem _ hi)]
    apply List.ext_getElem?
    intro j
    rw [List.getElem?_set]
    split
    · rename_i q
      subst q
      rw [wipe_get, if_pos (hu u List.mem_cons_self), wipe_length]
      by_cases hl : u < σ.length
      · rw [if_pos hl, List.getElem?_eq_getElem hl] <;> rfl
      · rw [if_neg hl, List.getElem?_eq_none (by omega)] <;> rfl
    · rfl
section
variable {K : PySem.W.Frag} {T : Tb}
instance snd_lc2 {wi wi1 : TI} {g g1 : TG} {tt tt1 : TT} {te : TE} {vs vs1 : List Nat} {ti ti1 : DTA} {dg dg1 : DTG} {dt dt1 : DTT} {de : DTE} {is is1 : List Nat} [hi : SndI K T wi ti] [hg : SndG K T g dg is] [ht : SndT K T tt dt] [hi1 : SndI K T wi1 ti1] [hg1 : SndG K T g1 dg1 is1] [ht1 : SndT K T tt1 dt1]
    [he : SndE K T te de] [hs : SubL is vs] [hs1 : SubL is1 vs1] : SndE K T (tLc2 wi g tt wi1 g1 tt1 te vs vs1) (dLc2 ti dg dt ti1 dg1 dt1 de vs vs1) := ⟨fun c m σ H S ρ Qd Q r h k => hi.run c m σ H S ρ _ _ r h fun J H1 S1 ds h1 hz l1 f1 items Dl hD => by
  have no0 : ∀ ps, HO.lst [] ≠ .tbl ps := fun ps z => by cases z
  have hq : c.q ≠ some Dl := l1.qne hD
  have nm : Dl ∉ m := l1.fresh hD
  have n0 : Dl ∉ c.m0 := fun z => nm (l1.sub _ z)
  have ns := (l1.noS hD).wipe vs
  have hm : Dl ∈ Dl :: m := List.mem_cons_self
  -- the state between turns
  let St0 : Hp → Nat → List D → Prop := fun H' S' dacc => Rl K T c (Dl :: m) (wipe σ vs) H' S' (dwipe ρ vs) ∧ Ex (hid H1 m) (hid H' (Dl :: m)) ∧ Fr c.q H1 H' ∧ dacc.length ≤ 1000000 ∧ ∃ vacc, H' Dl = some (.lst vacc) ∧ Reps K c.q (hid H' (Dl :: m)) vacc dacc
  have step : ∀ {H' H2 : Hp} {S' S2 : Nat} {dacc : List D}, St0 H' S' dacc → Fr c.q H' H2 → PotOk c.q S2 H2 → Tabs T H2 → St0 H2 S2 dacc := fun {H' H2 S' S2 dacc} ⟨l, e, f, hlen, va, hd, ra⟩ f2 p2 t2 =>
    ⟨l.on f2 p2 t2, e.trans (f2.ex l.qmm), f.trans f2, hlen, va, f2 _ _ hd hq (fun ps z => by cases z), ra.mono (f2.ex l.qmm)⟩
  have grow : ∀ {H' : Hp} {S' : Nat} {dacc : List D} {yv : V} {dy : D}, St0 H' S' dacc → Rep K c.q (hid H' (Dl :: m)) yv dy → dacc.length < 1000000 → ∃ vacc, H' Dl = some (.lst vacc) ∧ vacc.length < sizeLine ∧ St0 (upd H' Dl (.lst (vacc ++ [yv]))) S' (dacc ++ [dy]) :=
    fun {H' S' dacc yv dy} ⟨l, e, f, hlen, va, hd, ra⟩ ry hlt => by
      refine ⟨va, hd, by rw [ra.1]; exact million hlt, l.updm hm n0 hd (.inl ⟨_, rfl⟩) (fun ps z => by cases z) ns, by rw [hid_upd_in hm]; exact e, fun a o ha hqa nt => ?_, by rw [List.length_append]; exact hlt, va ++ [yv], upd_same, by rw [hid_upd_in hm]; exact ra.app (.cons ry Reps.nil)⟩
      rw [upd_ne (ne_of_none ha hD)]
      exact f a o ha hqa nt
  have start : St0 (upd H1 Dl (.lst [])) S1 [] := ⟨(l1.push hD no0).wipe vs, by rw [hid_push hD]; exact Ex.refl _, (Nw.upd hD).fr, Nat.zero_le _, [], upd_same, Reps.nil⟩
  refine ⟨fun i n H' => ∃ S' dacc, n = ds.length - i ∧ i ≤ ds.length ∧ St0 H' S' dacc ∧ lc2D dg dt ti1 dg1 dt1 de vs1 (dwipe ρ vs) Qd (ds.drop i) dacc S', ⟨ds.length, S1, [], rfl, Nat.zero_le _, start, by simpa using h1⟩, ?_⟩
  rintro i n H' ⟨S', dacc, rfl, hle, st, w⟩
  obtain ⟨go, stop⟩ := items (Dl :: m) H' st.2.1 st.1.no
  by_cases hlt : i < ds.length
  · obtain ⟨g1', y1⟩ := go i ds[i] (List.getElem?_eq_getElem hlt)
    refine .inr ⟨g1', fun H'' => ∃ S'' dacc, St0 H'' S'' dacc ∧ lc2D dg dt ti1 dg1 dt1 de vs1 (dwipe ρ vs) Qd (ds.drop (i + 1)) dacc S'', ?_, fun x H3 y => ?_⟩
    · rintro H'' ⟨S'', da, a1, a2⟩
      exact ⟨ds.length - (i + 1), by omega, S'', da, rfl, hlt, a1, a2⟩
    · obtain ⟨rx, nx⟩ := y1 x H3 y
      rw [drop_cons hlt] at w
      have st3 := step st nx.fr (st.1.pot.nw nx) (tabs_nw st.1.tab nx)
      refine hg.run c (Dl :: m) (wipe σ vs) H3 S' (dwipe ρ vs) x _ _ _ st3.1 rx w fun σ2 ρ2 w2 l2 wp => ⟨?_, ht.run c (Dl :: m) σ2 H3 S' ρ2 _ _ l2 w2 fun b H4 S4 w3 l4 f4 => ?_⟩
      · rw [wp.wipe vs hs.h]
        exact wipe_wipe (σ' := σ) fun _ h => h
      · have st4 := step st3 f4 l4.pot l4.tab
        cases b with
        | false => exact ⟨S4, dacc, st4, w3⟩
        | true =>
          refine hi1.run c (Dl :: m) σ2 H4 S4 ρ2 _ _ l4 w3 fun J1 H5 S5 es w5 hz5 l5 f5 items1 => ?_
          have st5 := step st4 f5 l5.pot l5.tab
          refine ⟨fun j n H' => ∃ S' dacc, n = es.length - j ∧ j ≤ es.length ∧ St0 H' S' dacc ∧ Ex (hid H5 (Dl :: m)) (hid H' (Dl :: m)) ∧ Rl K T c (Dl :: m) (wipe σ2 vs1) H' S' (dwipe ρ2 vs1) ∧ lcI dg1 dt1 de (dwipe ρ2 vs1) (fun acc S => lc2D dg dt ti1 dg1 dt1 de vs1 (dwipe ρ vs) Qd (ds.drop (i + 1)) acc S) (es.drop j) dacc S',
            ⟨es.length, S5, dacc, rfl, Nat.zero_le _, st5, Ex.refl _, l5.wipe vs1, by simpa using w5⟩, ?_⟩
          rintro j n H6 ⟨S6, da, rfl, hlej, st6, f6, lw6, w6⟩
          obtain ⟨go1, stop1⟩ := items1 (Dl :: m) H6 f6 lw6.no
          have ns2 : NoS Dl (wipe σ2 vs1) (dwipe ρ2 vs1) := by
            refine NoS.wipe (fun i e he hme => ?_) vs1
            obtain ⟨b1, b2⟩ := wp.old i e he hme
            rw [b2]
            exact ns i e b1 hme
          by_cases hlt1 : j < es.length
          · obtain ⟨g2', y2⟩ := go1 j es[j] (List.getElem?_eq_getElem hlt1)
            refine .inr ⟨g2', fun H' => ∃ S' dacc, St0 H' S' dacc ∧ Ex (hid H5 (Dl :: m)) (hid H' (Dl :: m)) ∧ Rl K T c (Dl :: m) (wipe σ2 vs1) H' S' (dwipe ρ2 vs1) ∧ lcI dg1 dt1 de (dwipe ρ2 vs1) (fun acc S => lc2D dg dt ti1 dg1 dt1 de vs1 (dwipe ρ vs) Qd (ds.drop (i + 1)) acc S) (es.drop (j + 1)) dacc S', ?_, fun x7 H7 y7 => ?_⟩
            · rintro H'' ⟨S'', da, a1, a2, a3, a4⟩
              exact ⟨es.length - (j + 1), by omega, S'', da, rfl, hlt1, a1, a2, a3, a4⟩
            · obtain ⟨rx7, nx7⟩ := y2 x7 H7 y7
              rw [drop_cons hlt1] at w6
              have st7 := step st6 nx7.fr (st6.1.pot.nw nx7) (tabs_nw st6.1.tab nx7)
              have lw7 := lw6.nw nx7
              refine hg1.run c (Dl :: m) (wipe σ2 vs1) H7 S6 (dwipe ρ2 vs1) x7 _ _ _ lw7 rx7 w6 fun σ3 ρ3 w8 l8 wp8 => ⟨?_, ht1.run c (Dl :: m) σ3 H7 S6 ρ3 _ _ l8 w8 fun b H9 S9 w9 l9 f9 => ?_⟩
              · rw [wp8.wipe vs1 hs1.h]
                exact wipe_wipe (σ' := σ) fun _ h => h
              · have st9 := step st7 f9 l9.pot l9.tab
                have lw9 := lw7.on f9 l9.pot l9.tab
                cases b with
                | false => exact ⟨S9, da, st9, (f6.trans nx7.ex).trans (f9.ex lw7.qmm), lw9, w9⟩
                | true =>
                  refine he.run c (Dl :: m) σ3 H9 S9 ρ3 _ _ l9 w9 fun yv H10 S10 dy w10 r10 l10 f10 => ?_
                  have st10 := step st9 f10 l10.pot l10.tab
                  have lw10 := lw9.on f10 l10.pot l10.tab
                  obtain ⟨va, hva, hsz, stg⟩ := grow st10 r10 w10.1
                  refine ⟨va, hva, hsz, S10, da ++ [dy], stg, ?_, lw10.updm hm n0 hva (.inl ⟨_, rfl⟩) (fun ps z => by cases z) ns2, w10.2⟩
                  rw [hid_upd_in hm]
                  exact ((f6.trans nx7.ex).trans (f9.ex lw7.qmm)).trans (f10.ex lw9.qmm)
          · have hj : j = es.length := by omega
            subst hj
            have w6 : lcI dg1 dt1 de (dwipe ρ2 vs1) (fun acc S => lc2D dg dt ti1 dg1 dt1 de vs1 (dwipe ρ vs) Qd (ds.drop (i + 1)) acc S) (es.drop es.length) da S6 := w6
            rw [List.drop_length] at w6
            exact .inl ⟨stop1, S6, da, st6, w6⟩
  · have hi' : i = ds.length := by omega
    subst hi'
    have w : lc2D dg dt ti1 dg1 dt1 de vs1 (dwipe ρ vs) Qd (ds.drop ds.length) dacc S' := w
    rw [List.drop_length] at w
    obtain ⟨l, e, f, hlen, va, hd, ra⟩ := st
    exact .inl ⟨stop, k _ H' S' (.lst dacc) w (.lst (hid_in hd nm) ra.1 (Nat.le_trans hlen (by decide)) (ra.mono (Ex.less fun a ha => List.mem_cons_of_mem _ ha)).2) (l1.on f l.pot l.tab) (f1.trans f)⟩⟩
end
end DL
end
section
set_option maxRecDepth 100000
namespace DL
open PySem PySem.Spec PyProof.Rows L2
/-! ### the rules again, K named (in a comprehension's block the reading may not speak of the block) -/
section
variable {X : Cx} {K : PySem.W.Frag}
theorem addK (hK : X.K = K) : OpR X (binaryOp .Add) (rAddX K) := by subst hK; exact op_addX
theorem eqK (hK : X.K = K) (hu : X.A.units + 64 < cLine) : OpR X (compareOp .Eq) (rEqX K) := by subst hK; exact op_eqX hu
theorem neK (hK : X.K = K) (hu : X.A.units + 64 < cLine) : OpR X (compareOp .NotEq) (rNeX K) := by subst hK; exact op_neX hu
theorem inK (hK : X.K = K) (hu : X.A.units + 65 < cLine) : OpR X (compareOp .In) (rInX K false) := by subst hK; exact op_inX hu
theorem notInK (hK : X.K = K) (hu : X.A.units + 65 < cLine) : OpR X (compareOp .NotIn) (rInX K true) := by subst hK; exact op_notInX hu
theorem inSK (hK : X.K = K) : OpR X (compareOp .In) (rIn K false) := by subst hK; exact op_in_seq
theorem notInSK (hK : X.K = K) : OpR X (compareOp .NotIn) (rIn K true) := by subst hK; exact op_notIn_seq
theorem ixK (hK : X.K = K) : IxR X (rIxX K) := by subst hK; exact ix_X
theorem slK (hK : X.K = K) : SlR X (rSlX K) := by subst hK; exact sl_X
theorem lenK (hK : X.K = K) : CallR X (.builtin "len") (rLen K) := by subst hK; exact DL.call_lenD
theorem isiK (hK : X.K = K) : CallR X (.builtin "isinstance") (rIsi K) := by subst hK; exact call_isi
theorem allK (hK : X.K = K) (hc : X.calm = true) : CallR X (.builtin "all") (rAll K) := by subst hK; exact cr_all hc
theorem sumK (hK : X.K = K) (hc : X.calm = true) : CallR X (.builtin "sum") (rSum K) := by subst hK; exact cr_sum hc
theorem maxK (hK : X.K = K) (hc : X.calm = true) (hu : X.A.units + 64 < cLine) : CallR X (.builtin "max") (rBest K max) := by subst hK; exact cr_maxX hc hu
theorem minK (hK : X.K = K) (hc : X.calm = true) (hu : X.A.units + 64 < cLine) : CallR X (.builtin "min") (rBest K min) := by subst hK; exact cr_minX hc hu
theorem tupK (hK : X.K = K) : CallR X (.type "tuple") (rTupO K) := by subst hK; exact call_tupO
theorem lstK (hK : X.K = K) : CallR X (.type "list") (rLstO K) := by subst hK; exact call_lstO
theorem sortK (hK : X.K = K) (hc : X.calm = true) : CallR X (.builtin "sorted") (rSortX K) := by subst hK; exact cr_sortX hc
theorem seqK (hK : X.K = K) {tg l : Expr} {tl : TE} (hl : PE X l tl) : PI X tg l (iSeq K tl) := by subst hK; exact pi_seq hl
theorem readK (hK : X.K = K) {x : Str} {pos : Pos} (hg : Gl X x) (h : ∃ a, X.mg x = some (.ref a) ∧ KT X.K a [.str "read"]) (hd : (x == ("__debug__" : Str)) = false := by decide) : PE X (.Name x pos) (tRead K) := by subst hK; exact pe_read hg h hd
theorem zipK (hK : X.K = K) {e e2 : Expr} {ta : TA} {p pos tpos : Pos} {elts : List Expr} {kk : Nat} (hg : Gl X "zip") (hm : X.mg "zip" = none) (ha : PA X [e, e2] ta)
    (hs : starEach [e, e2] X.env = (false, eval e X.env) :: starEach [e2] X.env := by rfl) (hpl : (backTo pos (starEach [e2] X.env)).any (·.1) = false := by rfl) :
    PI X (.Tuple elts kk tpos) (.Call (.Name "zip" p) [e, e2] [] pos) (iZipX K ta) := by subst hK; exact pi_zipX hg hm ha hs hpl
theorem enumK (hK : X.K = K) {e : Expr} {ta : TA} {p pos tpos : Pos} {elts : List Expr} {kk : Nat} (hg : Gl X "enumerate") (hm : X.mg "enumerate" = none) (ha : PA X [e] ta) (hs : starEach [e] X.env = [(false, eval e X.env)] := by rfl) :
    PI X (.Tuple elts kk tpos) (.Call (.Name "enumerate" p) [e] [] pos) (iEnumX K ta) := by subst hK; exact pi_enumX hg hm ha hs
theorem tgK (n : Nat) (hK : X.K = K) {es : List Expr} {k : Nat} {pos : Pos} {t : TGs} (hc : X.calm = true) (h : PGs X es t)
    (hn : (assignEach es X.env).length = n := by rfl) (hst : (assignEach es X.env).findIdx? (·.1) = none := by rfl) : PG X (.Tuple es k pos) (gTup K n t) := by subst hK; exact pg_tup hc h hn hst
end
end DL
end
section
set_option maxRecDepth 100000
namespace DL
open PySem PySem.Spec PyProof.Rows L2
/-! ### how a reading is told, one step at a time -/
def asB (d : D) (k : Bool → Prop) : Prop := match d with
  | .bl b => k b
  | _ => False
def asI (d : D) (k : Int → Prop) : Prop := match d with
  | .int b => k b
  | _ => False
def asT (d : D) (k : List D → Prop) : Prop := match d with
  | .tup b => k b
  | _ => False
def asL (d : D) (k : List D → Prop) : Prop := match d with
  | .lst b => k b
  | _ => False
def asS (d : D) (k : List D → Prop) : Prop := match d with
  | .lst b => k b
  | .tup b => k b
  | _ => False
def zx (ds : List D) (k : List D → Prop) : Prop := match ds with
  | [.tup xs, .tup ys] => k (zipD xs ys)
  | [.tup xs, .lst ys] => k (zipD xs ys)
  | _ => False
def ex' (ds : List D) (k : List D → Prop) : Prop := match ds with
  | [.lst xs] => k (enumD 0 xs)
  | [.tup xs] => k (enumD 0 xs)
  | _ => False
def gx (x y : D) (k : D → Prop) : Prop := match x, y with
  | .dct kvs, .int j => match getD' kvs j with
    | some d => k d
    | none => False
  | _, _ => False
def muAt (o : Option (Option D)) (k : List D → Prop) : Prop := match o with
  | some (some (.mu ds)) => k ds
  | _ => False
def mdAt (o : Option (Option D)) (k : List (Int × D) → Prop) : Prop := match o with
  | some (some (.md ds)) => k ds
  | _ => False
def frzAt (o : Option (Option D)) (k : D → Prop) : Prop := match o with
  | some (some (.mu ds)) => k (.lst ds)
  | some (some (.md ds)) => k (.dct ds)
  | _ => False
def vAt (o : Option (Option D)) (k : D → Prop) : Prop := match o with
  | some (some d) => k d
  | _ => False
def atI' (o : Option (Option D)) (k : Int → Prop) : Prop := match o with
  | some (some (.int d)) => k d
  | _ => False
theorem muAt_s (ds : List D) (k : List D → Prop) : muAt (some (some (.mu ds))) k = k ds := rfl
theorem mdAt_s (ds : List (Int × D)) (k : List (Int × D) → Prop) : mdAt (some (some (.md ds))) k = k ds := rfl
theorem frzAt_l (ds : List D) (k : D → Prop) : frzAt (some (some (.mu ds))) k = k (.lst ds) := rfl
theorem frzAt_d (ds : List (Int × D)) (k : D → Prop) : frzAt (some (some (.md ds))) k = k (.dct ds) := rfl
theorem vAt_s (d : D) (k : D → Prop) : vAt (some (some d)) k = k d := rfl
theorem atI_s (d : Int) (k : Int → Prop) : atI' (some (some (.int d))) k = k d := rfl
theorem atD_nat1 {xs : List D} {i : Nat} {d : D} {Q : D → Prop} (h : xs[i]? = some d) : atD xs (i : Int) Q = Q d := by
  unfold atD
  rw [atI_nat h]
section
variable {ρ : DEnv} {S : Nat} {Q : D → Nat → Prop} {QB : Bool → Nat → Prop} {QL : List D → Nat → Prop} {t ta tb tc td ty : DTE} {tt : DTA} {E : DEnds} {q : D → Prop} {qn : DEnv → Prop}
theorem asB_b (b : Bool) (k : Bool → Prop) : asB (.bl b) k = k b := rfl
theorem asI_i (b : Int) (k : Int → Prop) : asI (.int b) k = k b := rfl
theorem asT_t (b : List D) (k : List D → Prop) : asT (.tup b) k = k b := rfl
theorem asL_l (b : List D) (k : List D → Prop) : asL (.lst b) k = k b := rfl
theorem asS_l (b : List D) (k : List D → Prop) : asS (.lst b) k = k b := rfl
theorem asS_t (b : List D) (k : List D → Prop) : asS (.tup b) k = k b := rfl
theorem zx_tt (a b : List D) (k : List D → Prop) : zx [.tup a, .tup b] k = k (zipD a b) := rfl
theorem zx_tl (a b : List D) (k : List D → Prop) : zx [.tup a, .lst b] k = k (zipD a b) := rfl
theorem ex_l (a : List D) (k : List D → Prop) : ex' [.lst a] k = k (enumD 0 a) := rfl
theorem ex_t (a : List D) (k : List D → Prop) : ex' [.tup a] k = k (enumD 0 a) := rfl
theorem e_test : dTest t ρ S QB = t ρ S fun d S1 => asB d fun b => QB b S1 := rfl
theorem e_andV : dAndV ta tb ρ S Q = ta ρ S fun x S1 => asB x fun c => if c = true then tb ρ S1 Q else Q (.bl false) S1 := rfl
theorem e_orV : dOrV ta tb ρ S Q = ta ρ S fun x S1 => asB x fun c => if c = true then Q (.bl true) S1 else tb ρ S1 Q := rfl
theorem e_notV : dNotV ta ρ S Q = ta ρ S fun x S1 => asB x fun c => Q (.bl (!c)) S1 := rfl
theorem e_chain {f f' : DF2} : dChain f f' ta tb tc ρ S Q = ta ρ S fun x S1 => tb ρ S1 fun y S2 => f x y fun z => asB z fun k => if k = true then tc ρ S2 fun w S3 => f' y w fun d => Q d S3 else Q (.bl false) S2 := rfl
theorem e_gtup {n : Nat} {g : DTGs} {d : D} : dgTup n g d ρ qn = asT d fun xs => xs.length = n ∧ g xs ρ qn := rfl
theorem e_gcons {g : DTG} {u : DTGs} {d : D} {r : List D} : dgCons g u (d :: r) ρ qn = g d ρ fun ρ' => u r ρ' qn := rfl
theorem e_gnil {d : List D} : dgNil d ρ qn = (d = [] ∧ qn ρ) := rfl
theorem e_zx : dIZX tt ρ S QL = tt ρ S fun ds S1 => zx ds fun xs => QL xs S1 := by
  unfold dIZX zx
  rfl
theorem e_ex : dIEX tt ρ S QL = tt ρ S fun ds S1 => ex' ds fun xs => QL xs S1 := by
  unfold dIEX ex'
  rfl
theorem e_seq : dISeq t ρ S QL = t ρ S fun d S1 => asS d fun xs => QL xs S1 := rfl
theorem e_rg1 {f : List D → D} : dRg1 t f ρ S Q = t ρ S fun d S1 => asI d fun n => (0 ≤ n ∧ n ≤ 100000) ∧ Q (f (rgD 0 n)) S1 := rfl
theorem e_get : dGet td ty ρ S Q = td ρ S fun x S1 => ty ρ S1 fun y S2 => gx x y fun d => Q d S2 := rfl
theorem gx_i (kvs : List (Int × D)) (j : Int) (d : D) (h : getD' kvs j = some d) : gx (.dct kvs) (.int j) q = q d := by
  show (match getD' kvs j with | some d => q d | none => False) = q d
  rw [h]
theorem e_part {QO : Option Int → Nat → Prop} : dPart t ρ S QO = t ρ S fun d S1 => asI d fun i => QO (some i) S1 := rfl
theorem e_aug {i : Nat} {f : Int → Int → Int} : dAugI i t f E ρ S = atI' ρ[i]? fun a => t ρ S fun d S1 => asI d fun b => E.nx (ρ.set i (some (.int (f a b)))) S1 := rfl
theorem e_inM {neg : Bool} {i : Nat} : dInM neg t i ρ S Q = t ρ S fun y S1 => asI y fun k => mdAt ρ[i]? fun kvs => Q (.bl (if neg then !(getD' kvs k).isSome else (getD' kvs k).isSome)) S1 := rfl
theorem e_put {i : Nat} : dPut i ty t E ρ S = t ρ S fun v S1 => mdAt ρ[i]? fun kvs => ty ρ S1 fun y S2 => asI y fun k => kvs.length < 1000000 ∧ E.nx (ρ.set i (some (.md (putD kvs k v)))) S2 := rfl
theorem e_app {i : Nat} : dApp i t E ρ S = muAt ρ[i]? fun ds => t ρ S fun d S1 => ds.length < 1000000 ∧ E.nx (ρ.set i (some (.mu (ds ++ [d])))) S1 := rfl
theorem e_ext {i : Nat} : dExt i t E ρ S = muAt ρ[i]? fun ds => t ρ S fun d S1 => asL d fun es => ds.length + es.length < 1000000 ∧ E.nx (ρ.set i (some (.mu (ds ++ es)))) S1 := rfl
theorem e_ixM {i : Nat} : dIxM i t ρ S Q = muAt ρ[i]? fun ds => t ρ S fun d S1 => asI d fun j => atD ds j fun d => Q d S1 := rfl
theorem e_lenM {i : Nat} : dLenM i ρ S Q = muAt ρ[i]? fun ds => Q (.int ds.length) S := rfl
theorem e_frz {i : Nat} {u : DTS} : dFrz i u E ρ S = frzAt ρ[i]? fun d => u E (ρ.set i (some d)) S := by
  rfl
theorem e_var {i : Nat} : dVar i ρ S Q = vAt ρ[i]? fun d => d.isMut = false ∧ Q d S := rfl
theorem at0 (a : D) (l : List D) : atD (a :: l) 0 q = q a := by
  have h := atD_nat1 (xs := a :: l) (i := 0) (d := a) (Q := q) rfl
  exact h
theorem at1 (a b : D) (l : List D) : atD (a :: b :: l) 1 q = q b := by
  have h := atD_nat1 (xs := a :: b :: l) (i := 1) (d := b) (Q := q) rfl
  exact h
theorem at2 (a b c : D) (l : List D) : atD (a :: b :: c :: l) 2 q = q c := by
  have h := atD_nat1 (xs := a :: b :: c :: l) (i := 2) (d := c) (Q := q) rfl
  exact h
theorem f_add (i j : Int) : fAddX (.int i) (.int j) q = q (.int (i + j)) := rfl
theorem f_addT (i j : List D) : fAddX (.tup i) (.tup j) q = (i.length + j.length ≤ sizeLine ∧ q (.tup (i ++ j))) := rfl
theorem f_addL (i j : List D) : fAddX (.lst i) (.lst j) q = (i.length + j.length ≤ sizeLine ∧ q (.lst (i ++ j))) := rfl
theorem f_mul (i j : Int) : fMulX (.int i) (.int j) q = (CMul i j ∧ q (.int (i * j))) := rfl
theorem f_mulL (xs : List D) (k : Int) : fMulX (.lst xs) (.int k) q = ((0 ≤ k ∧ k < 10000 ∧ xs.length ≤ 1) ∧ q (.lst (List.replicate k.toNat xs).flatten)) := rfl
theorem f_sub (i j : Int) : fSub (.int i) (.int j) q = q (.int (i - j)) := rfl
theorem f_mod (i j : Int) : fMod (.int i) (.int j) q = (0 < j ∧ q (.int (i % j))) := rfl
theorem f_div (i j : Int) : fDiv (.int i) (.int j) q = (CDiv i j ∧ q (.int (i / j))) := rfl
theorem f_pow (i j : Int) : fPow (.int i) (.int j) q = (CPow i j ∧ q (.int (i ^ j.toNat))) := rfl
theorem f_lt (i j : Int) : fLt (.int i) (.int j) q = q (.bl (decide (i < j))) := rfl
theorem f_le (i j : Int) : fLe (.int i) (.int j) q = q (.bl (decide (i ≤ j))) := rfl
theorem f_gt (i j : Int) : fGt (.int i) (.int j) q = q (.bl (decide (j < i))) := rfl
theorem f_ge (i j : Int) : fGe (.int i) (.int j) q = q (.bl (decide (j ≤ i))) := rfl
theorem f_neg (i : Int) : fNeg (.int i) q = q (.int (-i)) := rfl
theorem f_isB (i j : Bool) : fIsB (.bl i) (.bl j) q = q (.bl (decide (i = j))) := rfl
theorem f_notB (i j : Bool) : fNotB (.bl i) (.bl j) q = q (.bl (!decide (i = j))) := rfl
theorem f_eqI (i j : Int) : fEqX (.int i) (.int j) q = q (.bl (decide (i = j))) := rfl
theorem f_eqS (i j : Str) : fEqX (.str i) (.str j) q = q (.bl (decide (i = j))) := rfl
theorem f_eqB (i j : Bool) : fEqX (.bl i) (.bl j) q = q (.bl (decide (i = j))) := rfl
theorem f_eqT (i j : List D) : fEqX (.tup i) (.tup j) q = ((okD (.tup i) = true ∧ okD (.tup j) = true) ∧ q (.bl (eqD (.tup i) (.tup j)))) := rfl
theorem f_eqL (i j : List D) : fEqX (.lst i) (.lst j) q = ((okD (.lst i) = true ∧ okD (.lst j) = true) ∧ q (.bl (eqD (.lst i) (.lst j)))) := rfl
theorem f_neI (i j : Int) : fNeX (.int i) (.int j) q = q (.bl (!decide (i = j))) := rfl
theorem f_neS (i j : Str) : fNeX (.str i) (.str j) q = q (.bl (!decide (i = j))) := rfl
theorem f_neB (i j : Bool) : fNeX (.bl i) (.bl j) q = q (.bl (!decide (i = j))) := rfl
theorem f_neT (i j : List D) : fNeX (.tup i) (.tup j) q = ((okD (.tup i) = true ∧ okD (.tup j) = true) ∧ q (.bl (!eqD (.tup i) (.tup j)))) := rfl
theorem f_neL (i j : List D) : fNeX (.lst i) (.lst j) q = ((okD (.lst i) = true ∧ okD (.lst j) = true) ∧ q (.bl (!eqD (.lst i) (.lst j)))) := rfl
theorem f_ixL (xs : List D) (j : Int) : fIxX (.lst xs) (.int j) q = atD xs j q := rfl
theorem f_ixT (xs : List D) (j : Int) : fIxX (.tup xs) (.int j) q = atD xs j q := rfl
theorem f_slL (xs : List D) (lo hi : Option Int) : fSlX (.lst xs) lo hi q = q (.lst (cutD xs lo hi)) := rfl
theorem f_slT (xs : List D) (lo hi : Option Int) : fSlX (.tup xs) lo hi q = q (.tup (cutD xs lo hi)) := rfl
theorem f_lenT (xs : List D) : fLen [.tup xs] q = q (.int xs.length) := rfl
theorem f_lenL (xs : List D) : fLen [.lst xs] q = q (.int xs.length) := rfl
theorem f_tupT (xs : List D) : fTupO [.tup xs] q = q (.tup xs) := rfl
theorem f_tupL (xs : List D) : fTupO [.lst xs] q = q (.tup xs) := rfl
theorem f_lstT (xs : List D) : fLstO [.tup xs] q = q (.lst xs) := rfl
theorem f_lstL (xs : List D) : fLstO [.lst xs] q = q (.lst xs) := rfl
theorem f_all (xs : List D) : fAll [.lst xs] q = ∃ ns : List Bool, xs = ns.map D.bl ∧ q (.bl (ns.all id)) := rfl
theorem f_sum (xs : List D) : fSum [.lst xs] q = ∃ ns : List Int, xs = ns.map D.int ∧ q (.int ns.sum) := rfl
theorem f_bestL (f : Int → Int → Int) (xs : List D) : fBest f [.lst xs] q = ∃ (n : Int) (ns : List Int), xs = (n :: ns).map D.int ∧ q (.int (ns.foldl f n)) := rfl
theorem f_bestT (f : Int → Int → Int) (xs : List D) : fBest f [.tup xs] q = ∃ (n : Int) (ns : List Int), xs = (n :: ns).map D.int ∧ q (.int (ns.foldl f n)) := rfl
theorem f_min2 (i j : Int) : fMin2 [.int i, .int j] q = q (.int (if j < i then j else i)) := rfl
theorem f_intB (b : Bool) : fIntB [.bl b] q = q (.int (if b then 1 else 0)) := rfl
theorem f_sort (xs : List D) : fSortX [.lst xs] q = ((∃ ns : List Int, xs = ns.map D.int ∧ ∀ ys : List Int, ys.Perm ns → ys.Pairwise (· ≤ ·) → q (.lst (ys.map D.int))) ∨
      (∃ ps : List (Int × Int), xs = ps.map prD ∧ ∀ qs : List (Int × Int), qs.Perm ps → qs.Pairwise lexLe → q (.lst (qs.map prD)))) := rfl
theorem f_sortD (kvs : List (Int × D)) : fSortX [.dct kvs] q = (kvs.length < 64 ∧ ∀ ys : List Int, ys.Perm (kvs.map (·.1)) → ys.Pairwise (· ≤ ·) → q (.lst (ys.map D.int))) := rfl
theorem isi_of {x : D} {n : String} {b : Bool} (h : tyD x ≠ "") (e : kitB (tyD x) n = some b) : fIsi [x, .ty n] q = q (.bl b) := propext ⟨fun ⟨b', _, e', w⟩ => by rw [e] at e'; cases e'; exact w, fun w => ⟨b, h, e, w⟩⟩
theorem isi_ii (i : Int) : fIsi [.int i, .ty "int"] q = q (.bl true) := isi_of (show "int" ≠ "" by decide) (show kitB "int" "int" = some true by decide +kernel)
theorem isi_ib (i : Int) : fIsi [.int i, .ty "bool"] q = q (.bl false) := isi_of (show "int" ≠ "" by decide) (show kitB "int" "bool" = some false by decide +kernel)
theorem isi_tt (i : List D) : fIsi [.tup i, .ty "tuple"] q = q (.bl true) := isi_of (show "tuple" ≠ "" by decide) (show kitB "tuple" "tuple" = some true by decide +kernel)
theorem isi_ss (i : Str) : fIsi [.str i, .ty "str"] q = q (.bl true) := isi_of (show "str" ≠ "" by decide) (show kitB "str" "str" = some true by decide +kernel)
theorem f_inT {neg : Bool} (x : D) (xs : List D) : fInX neg x (.tup xs) q = ((okD x = true ∧ okD (.lst xs) = true) ∧ q (.bl (if neg then !inD x xs else inD x xs))) := rfl
theorem f_inL {neg : Bool} (x : D) (xs : List D) : fInX neg x (.lst xs) q = ((okD x = true ∧ okD (.lst xs) = true) ∧ q (.bl (if neg then !inD x xs else inD x xs))) := rfl
theorem f_inIT {neg : Bool} (i : Int) (xs : List D) : fInI neg (.int i) (.tup xs) q = ∃ ns : List Int, xs = ns.map D.int ∧ q (.bl (if neg then !ns.contains i else ns.contains i)) := rfl
theorem f_inIL {neg : Bool} (i : Int) (xs : List D) : fInI neg (.int i) (.lst xs) q = ∃ ns : List Int, xs = ns.map D.int ∧ q (.bl (if neg then !ns.contains i else ns.contains i)) := rfl
theorem mut_int (i : Int) : (D.int i).isMut = false := rfl
theorem mut_tup (i : List D) : (D.tup i).isMut = false := rfl
theorem mut_lst (i : List D) : (D.lst i).isMut = false := rfl
theorem mut_str (i : Str) : (D.str i).isMut = false := rfl
theorem mut_bl (i : Bool) : (D.bl i).isMut = false := rfl
theorem mut_non : D.non.isMut = false := rfl
theorem mut_pot : D.pot.isMut = false := rfl
theorem mut_dct (i : List (Int × D)) : (D.dct i).isMut = false := rfl
theorem mut_scr (i : List Int) : (D.scr i).isMut = false := rfl
end
end DL
end
section
set_option maxRecDepth 100000
set_option maxHeartbeats 4000000
namespace DL
open PySem PySem.Spec PyProof.Rows L2
/-! ### (None,) * n -/
theorem tup_mul1 (l : Addr) (v : Value) (n : Nat) (dd : Option Addr) (sl : Array (Option Value)) (u : Tok) :
    Meets (Builtin.«tuple.__mul__» ⟨[.ref l, .int 1 u], []⟩) (fun _ R s => s.heap.get? l = some { cls := .type "tuple", dict := dd, data := .seq #[v] n, slots := sl } ∧ R (.ok (.ret (Value.ref l))) s) :=
  .of_wp fun prog w A R s h => by
    obtain ⟨hp, g, d, tk, os⟩ := s
    obtain ⟨hl, h⟩ := h
    have f1 := AutoSeq1.idx_int
    wp_walk using wpAny_loadPart' hl
    exact ⟨_, rfl, h⟩
def rRepTX (K : PySem.W.Frag) : R2 := fun x y H Q => ∃ l k z, x = .ref l ∧ y = .int k ∧ SqT K H l [z] ∧ 1 ≤ k ∧ k ≤ 1000 ∧ (k = 1 → Q (.ref l) H) ∧ ∀ p, 2 ≤ k → H p = none → Q (.ref p) (upd H p (.tup (List.replicate k.toNat [z]).flatten))
theorem op_repTX {X : Cx} : OpR X (binaryOp .Mult) (rRepTX X.K) := by
  intro pins s σ H x y v u Q I rx ry h
  obtain ⟨l, k, z, ex, ey, hT, h1, h2, q1, q2⟩ := h
  by_cases hk : k = 1
  · subst ex ey hk
    cases rx
    obtain ⟨t, rfl⟩ := ry
    have q := q1 rfl
    obtain ⟨its, r, ⟨⟨cls, dd, data, sl⟩, ho, hc, n, hd⟩, hs⟩ := I.tuple hT
    simp only at hc hd
    subst hc hd
    obtain ⟨it, rfl, _⟩ := vals1 r
    have go := tup_mul1 l it n dd sl t
    refine wpAny_binaryOp_repeat_ref (T := "tuple") (U := "int") (by decide) ⟨_, ho, rfl⟩ (fun s' => typeIs_int s' 1 t) noFill_tuple_mul F.fills_int_mul F.slot_int_rmul repeat_tuple F.slot_int_index.lookup ?_
    refine call_meets F.slot_int_rmul (typeIs_int s 1 t) F.entry_int_rmul (F.args_int_rmul_2 _ _) (int_rmul_tuple 1 t l [it].toArray n dd sl) ⟨ho, rfl, ⟨_, ho, rfl⟩, ?_⟩
    exact call_meets F.slot_tuple_mul ⟨_, ho, rfl⟩ F.entry_tuple_mul (F.args_tuple_mul_2 _ _) go ⟨ho, .ref l, H, I, rfl, q⟩
  · exact op_repT pins s σ H x y v u Q I rx ry ⟨l, k, [z], ex, ey, hT, by simp, by omega, h2, (show 1 ≤ 1000 by omega), fun p hp => q2 p (by omega) hp⟩
theorem repTK {X : Cx} {K : PySem.W.Frag} (hK : X.K = K) : OpR X (binaryOp .Mult) (rRepTX K) := by subst hK; exact op_repTX
def fRepTX : DF2 := fun x y Q => match x, y with
  | .tup [d], .int k => (1 ≤ k ∧ k ≤ 1000) ∧ Q (.tup (List.replicate k.toNat d))
  | _, _ => False
theorem flat_one {α : Type} (z : α) : ∀ n : Nat, (List.replicate n [z]).flatten = List.replicate n z
  | 0 => rfl
  | n + 1 => by rw [List.replicate_succ, List.flatten_cons, flat_one z n] <;> rfl
section
variable {K : PySem.W.Frag} {T : Tb}
theorem reps_rep {q : Option Addr} {G : Hp} {v : V} {d : D} (h : Rep K q G v d) : ∀ n : Nat, Reps K q G (List.replicate n v) (List.replicate n d)
  | 0 => Reps.nil
  | n + 1 => .cons h (reps_rep h n)
instance snd_repTX : SndR K (rRepTX K) fRepTX := ⟨fun q m H x y dx dy Qd Q no rx ry w k => by
  unfold fRepTX at w
  split at w
  · rename_i d j
    obtain ⟨⟨w1, w2⟩, w3⟩ := w
    cases rx with
    | tup hs hl hz hr =>
      cases ry
      obtain ⟨v, rfl, rv⟩ := reps1 (K := K) ⟨hl, hr⟩
      refine ⟨_, j, v, rfl, rfl, sqt_un hs, w1, w2, fun e => ?_, fun p hp hn => ?_⟩
      · subst e
        exact k _ H _ w3 (.tup hs hl hz hr) (Nw.refl H)
      · refine k _ _ _ w3 ?_ (Nw.upd hn)
        rw [flat_one]
        exact rep_tup hn no (reps_rep rv _) (by rw [List.length_replicate, sizeLine_eq]; omega)
  · exact w.elim⟩
theorem f_repT {q : D → Prop} (d : D) (k : Int) : fRepTX (.tup [d]) (.int k) q = ((1 ≤ k ∧ k ≤ 1000) ∧ q (.tup (List.replicate k.toNat d))) := rfl
end
end DL
end
section
set_option maxRecDepth 100000
namespace DL
open PySem PySem.Spec PyProof.Rows L2
/-! ### x, *y = .. -/
theorem isn_non : isNonD .non = true := rfl
theorem isn_int (i : Int) : isNonD (.int i) = false := rfl
theorem isn_tup (i : List D) : isNonD (.tup i) = false := rfl
theorem isn_str (i : Str) : isNonD (.str i) = false := rfl
theorem okSome {P : Program} {w : World} {H : Hp} {h : Heap} {a : Addr} {o : HO} (x : ObjOk P w H h a o) : ∃ u, h.get? a = some u := by
  cases o with
  | lst xs => let ⟨_, _, _, _, e⟩ := x; exact ⟨_, e⟩
  | tup xs => let ⟨_, _, _, ob, e, _⟩ := x; exact ⟨_, e⟩
  | dK kvs => let ⟨_, _, _, _, o, _, _, e, _⟩ := x; exact ⟨_, e⟩
  | dT kvs => let ⟨_, _, _, _, o, _, _, e, _⟩ := x; exact ⟨_, e⟩
  | set S n => let ⟨o, _, _, _, e, _⟩ := x; exact ⟨_, e⟩
  | ins C dx fs => let ⟨_, _, _, e, _⟩ := x; exact ⟨_, e⟩
  | own y => exact x
  | xd fs => let ⟨_, ⟨_, _, _, e, _⟩, _⟩ := x; exact ⟨_, e⟩
  | rng lo hi => let ⟨_, _, _, e⟩ := x; exact ⟨_, e⟩
  | frz ob u => let ⟨e, _⟩ := x; exact ⟨_, e⟩
  | tbl ps => exact ⟨_, x⟩
  | met f y => exact ⟨_, x⟩
  | ext φ => let ⟨_, e, _⟩ := x; exact e
theorem nsSame {h : Heap} {L : Addr} {m n : Str → Option Value} (x : h.Ns L m) (y : h.Ns L n) : m = n := by
  obtain ⟨o, es, ep, x1, x2, _, x3⟩ := x
  obtain ⟨u, fs, fp, y1, y2, _, y3⟩ := y
  rw [x1] at y1
  cases y1
  rw [x2] at y2
  cases y2
  funext z
  rw [← x3 z, ← y3 z]
section
variable {X : Cx} {pins : List (Addr × Obj)} {σ : L2.St} {H : Hp} {s : Shared}
/-- behind a rule of the ledger's kind that laid one object and changed nothing -/
theorem inv_ledger {m : Str → Option Value} {h' : Heap} {tk : Nat} {D : Addr} {o : HO} {ob : Obj} (I : Inv X pins σ H s) (F0 : PyProof.Rows.Fr X.base X.env.locals s.heap m) (F1 : PyProof.Rows.Fr X.base X.env.locals h' m) (N1 : News X.base X.env.locals h' ((D, ob) :: allNews X.base s.heap X.env.locals))
    (hlt : ∀ p ∈ allNews X.base s.heap X.env.locals, p.1 < D) (new : h'.get? D = some ob → ObjOk X.prog X.w (upd H D o) h' D o) : H D = none ∧ Inv X pins σ (upd H D o) { s with heap := h', toks := tk } := by
  have hd := N1 _ List.mem_cons_self
  have gone : s.heap.get? D = none := by
    cases e : s.heap.get? D with
    | none => rfl
    | some u => exact absurd (hlt _ (mem_allNews hd.2.1 hd.2.2 e)) (Nat.lt_irrefl _)
  have keep : ∀ b u, b ≠ X.env.locals → s.heap.get? b = some u → h'.get? b = some u := fun b u hb e => by
    cases q : X.base.get? b with
    | some v =>
      have e2 := I.bk b v q
      rw [e] at e2
      cases e2
      exact F1.keep b _ q
    | none => exact (N1 (b, u) (List.mem_cons_of_mem _ (mem_allNews hb q e))).1
  have free : H D = none := by
    cases e : H D with
    | none => rfl
    | some u =>
      obtain ⟨v, q⟩ := okSome (I.hok D u e)
      rw [gone] at q
      cases q
  have ne : ∀ b u, s.heap.get? b = some u → b ≠ D := fun b u e z => by
    rw [z, gone] at e
    cases e
  have neH : ∀ b u, H b = some u → b ≠ D := fun b u e => ne_of_none e free
  refine ⟨free, I.step (g' := s.gens) (d' := s.drawn) (ch := []) (fun b hb => absurd hb (by simp)) (fun b u hL _ _ e _ => keep b u hL e) (fun b u hL _ _ e _ => ⟨u.slots, keep b u hL e⟩) (fun b u _ e n => by rw [upd_ne (ne b u e)]; exact n) (fun b u _ e => ?_)
    (fun b xs e => by rw [upd_ne (neH b _ e)]; exact e) (fun b u v e => by rw [upd_ne (neH b _ e)]; exact e) (fun b ps e => ⟨#[], by rw [upd_ne (neH b _ e), e]; simp⟩) (fun m' hm => ?_) (fun b u e => ?_) I.bare⟩
  · by_cases hb : b = X.env.locals
    · obtain ⟨oL, _, _, hL, _⟩ := F1.ns
      rw [hb]
      exact ⟨oL, hL⟩
    · exact ⟨u, keep b u hb e⟩
  · rw [nsSame hm F0.ns]
    exact F1.ns
  · by_cases hb : b = D
    · subst hb
      rw [upd_same] at e
      cases e
      exact new hd.1
    · rw [upd_ne hb] at e
      have nL : ∀ d v, H d = some v → d ≠ X.env.locals := fun d v q => ne_of_none q I.free
      refine (I.hok b u e).stay (fun d v hdv q => keep d v ?_ q) (fun d q => by rw [upd_ne (neH d _ q)]; exact q) fun d xs q => by rw [upd_ne (neH d _ q)]; exact q
      rcases hdv with z | z
      · rw [z]
        exact nL b u e
      · exact nL d _ z
end
def gStar (K : PySem.W.Frag) (t : TGs) : TG := fun v σ H Q => ∃ a x xs, v = .ref a ∧ SqT K H a (x :: xs) ∧ xs.length ≤ 1000 ∧ ∀ D, H D = none → t [x, .ref D] σ (upd H D (.lst xs)) Q
section
variable {X : Cx} {K : PySem.W.Frag}
theorem pg_star (hK : X.K = K) {e1 e2 : Expr} {p2 pos : Pos} {k : Nat} {t : TGs} (hc : X.calm = true) (h : PGs X [e1, e2] t) (hs : (assignEach [e1, .Starred e2 p2] X.env).map (·.2) = (assignEach [e1, e2] X.env).map (·.2) := by rfl)
    (hl : (assignEach [e1, .Starred e2 p2] X.env).length = 2 := by rfl) (hf : (assignEach [e1, .Starred e2 p2] X.env).findIdx? (·.1) = some 1 := by rfl) : PG X (.Tuple [e1, .Starred e2 p2] k pos) (gStar K t) := by
  subst hK
  refine ⟨fun pins s σ H v u Q I r hw => ?_⟩
  obtain ⟨a, x, xs, e, hq, hz, hw⟩ := hw
  subst e
  cases r
  obtain ⟨its, rv, ht, hsz⟩ := I.tuple hq
  obtain ⟨m, F0⟩ := I.fr
  have hlen : its.length = xs.length + 1 := by rw [← rv.length] <;> rfl
  cases rv with
  | cons r1 rr =>
    rename_i u1 us
    have hul : us.length = xs.length := by simpa using hlen
    refine PySem.W.kun_assignT (n := 2) (i := 1) (first := [u1]) (mids := us) (lasts := []) (items := (u1 :: us).toArray) F0 news_all ht (I.ok.hd hc) hl hf (by omega) (by simp) (by simp; omega) (by simp) (by simp) (by simp) fun D h' tk F1 N1 lt => ?_
    rw [hs]
    obtain ⟨free, I1⟩ := inv_ledger (tk := tk) (o := .lst xs) I F0 F1 N1 lt fun q => ⟨by rw [sizeLine_eq]; omega, us, 0, rr, q⟩
    exact h.run pins _ σ (upd H D (.lst xs)) [x, .ref D] [u1, .ref D] Q I1 (.cons r1 (.cons rfl .nil)) (hw D free)
end
section
variable {K : PySem.W.Frag} {T : Tb}
def dStar (t : DTE) (i j : Nat) : DTS := fun E ρ S => t ρ S fun d S1 => match d with
  | .tup (x :: xs) => xs.length ≤ 1000 ∧ E.nx ((ρ.set i (some x)).set j (some (.lst xs))) S1
  | _ => False
instance (priority := high) snd_star {te : TE} {t : DTE} {i j : Nat} [h : SndE K T te t] : SndS K T (tAsg te (gStar K (gCons (gName i) (gCons (gName j) gNil)))) (dStar t i j) := ⟨fun c m σ H S ρ E Ed r w k => h.run c m σ H S ρ _ _ r w fun v H1 S1 d w1 r1 l1 f1 => by
  split at w1
  · rename_i x xs
    cases r1 with
    | tup hs hl hz hr =>
      rename_i a vs
      obtain ⟨vx, vr, rfl, rx, rr⟩ := Reps.inv (K := K) ⟨hl, hr⟩
      refine ⟨a, vx, vr, rfl, sqt_un hs, by rw [rr.1]; exact w1.1, fun Dn hD => ?_⟩
      refine ⟨vx, [.ref Dn], rfl, .ref Dn, [], rfl, rfl, ?_⟩
      have l2 := l1.nw (Nw.upd (o := .lst vr) hD)
      have l3 := (l2.set i (rx.mono (Nw.upd hD).ex)).set j (rep_lst hD l1.no rr (by rw [sizeLine_eq]; omega))
      exact k.nx m _ _ S1 _ w1.2 l3 ((f1.ex r.qmm).trans (Nw.upd hD).ex)
  · exact w1.elim⟩
def starX (d : D) (k : D → List D → Prop) : Prop := match d with
  | .tup (x :: xs) => k x xs
  | _ => False
theorem e_star {t : DTE} {i j : Nat} {E : DEnds} {ρ : DEnv} {S : Nat} : dStar t i j E ρ S = t ρ S fun d S1 => starX d fun x xs => xs.length ≤ 1000 ∧ E.nx ((ρ.set i (some x)).set j (some (.lst xs))) S1 := rfl
theorem starX_t (x : D) (xs : List D) (k : D → List D → Prop) : starX (.tup (x :: xs)) k = k x xs := rfl
end
end DL
end
section
set_option maxRecDepth 100000
namespace RS
open PySem PySem.Spec PyProof.Rows L2 DL
/-! ### the text -/
def topS (i : Nat) : Stmt := PySem.Challenge.pw_readskew_k82_whole_runs_shown_or_blamed.main.body.getD i (.Pass ⟨0, 0, 0, 0⟩)
structure Tx (K : PySem.W.Frag) (mg : Str → Option Value) : Prop where
  nb_isinstance : mg "isinstance" = none
  nb_int : mg "int" = none
  nb_bool : mg "bool" = none
  nb_tuple : mg "tuple" = none
  nb_str : mg "str" = none
  nb_len : mg "len" = none
  nb_all : mg "all" = none
  nb_zip : mg "zip" = none
  nb_sum : mg "sum" = none
  nb_max : mg "max" = none
  nb_min : mg "min" = none
  nb_sorted : mg "sorted" = none
  nb_range : mg "range" = none
  nb_list : mg "list" = none
  nb_enumerate : mg "enumerate" = none
  nb_abs : mg "abs" = none
  nb_dict : mg "dict" = none
  nb_repr : mg "repr" = none
  g_TABLE : ∃ t, mg "TABLE" = some (.str "table" t)
  g_SUM : ∃ t, mg "SUM" = some (.str "sum" t)
  g_GREATEST : ∃ t, mg "GREATEST" = some (.str "max" t)
  g_EXACT : ∃ t, mg "EXACT" = some (.str "exact" t)
  g_FLOOR : ∃ t, mg "FLOOR" = some (.str "floor" t)
  g_CEILING : ∃ t, mg "CEILING" = some (.str "ceiling" t)
  g_STEP : ∃ t, mg "STEP" = some (.str "step" t)
  g_CORNER_PARTS : ∃ t, mg "CORNER_PARTS" = some (.int 3 t)
  g_PART_SIZE : ∃ t, mg "PART_SIZE" = some (.int 2 t)
  g_RUN_PARTS : ∃ t, mg "RUN_PARTS" = some (.int 2 t)
  g_STEP_PARTS : ∃ t, mg "STEP_PARTS" = some (.int 3 t)
  g_TRIPLE_PARTS : ∃ t, mg "TRIPLE_PARTS" = some (.int 3 t)
  g_READ : ∃ a, mg "READ" = some (.ref a) ∧ KT K a [.str "read"]
theorem hu65_of {A : Around} {k : Nat} (hr : Room k A) : A.units + 65 < cLine := by
  have := hr.un
  omega
end RS
end
section
set_option maxRecDepth 100000
set_option maxHeartbeats 0
namespace RS
open PySem PySem.Spec PyProof.Rows L2 DL
/-! ### the head: facts by names, the code objects' tables, the run -/
def hdD (x nm : Str) (i : Nat) : He.FnD := ⟨(x, none), nm, nm, defArgs (topS i), defBody (topS i), defScope (topS i)⟩
def fa0 : List He.Fa := [.glo "is_number", .glo "state_number", .glo "causes_from", .glo "begins", .glo "accepts", .glo "changed_corners", .glo "is_read_event", .glo "changed_runs", .glo "read_moments", .glo "block_numbers", .glo "steps_with_reads", .glo "_law_pot", .glo "_law_take", .glo "_law_index", .glo "_law_moves", .glo "_law_put", .glo "_law_let", .glo "_law_is_int", .glo "_law_marked", .glo "is_integer", .glo "result", .glo "values_from", .glo "states", .glo "span", .glo "inner_steps", .glo "_law_of", .glo "_law_variable", .glo "_law_told", .glo "_law_scheme", .glo "_law_begin"]
def fa1 : List He.Fa := [.glo "_law_walked", .glo "_law_inverted", .glo "are_values", .glo "reachable", .glo "is_part", .glo "corner_results", .glo "is_step_event", .glo "read_values", .glo "span_results", .glo "moments_where", .glo "late_steps", .glo "early_steps", .glo "values_ahead", .glo "_law_number", .glo "_law_tape", .glo "_law_seen", .glo "_law_within", .glo "_law_skewed", .glo "_law_wide_sum", .glo "_law_spread_tape", .glo "_law_corners", .glo "is_state", .glo "holds", .glo "run_result", .glo "inversions", .glo "exchanges", .glo "fits_run", .glo "_law_function", .glo "_law_is_let", .glo "_law_is_blame"]
def fa2 : List He.Fa := [.glo "_law_reasons_right", .glo "is_corner", .glo "may_begin", .glo "true_moments", .glo "is_accepted", .glo "_law_world", .glo "is_run", .glo "reasons", .glo "blame", .glo "shows_blame", .glo "_law_shown_right", .glo "_law_run_right", .glo "_law_right", .glo "_law_wide_right", .glo "law", .keep "is_number", .keep "state_number", .keep "causes_from", .keep "begins", .keep "accepts", .keep "changed_corners", .keep "is_read_event", .keep "changed_runs", .keep "read_moments", .keep "block_numbers", .keep "steps_with_reads", .keep "_law_pot", .keep "_law_take", .keep "_law_index", .keep "_law_moves"]
def fa3 : List He.Fa := [.keep "_law_put", .keep "_law_let", .keep "_law_is_int", .keep "_law_marked", .keep "is_integer", .keep "result", .keep "values_from", .keep "states", .keep "span", .keep "inner_steps", .keep "_law_of", .keep "_law_variable", .keep "_law_told", .keep "_law_scheme", .keep "_law_begin", .keep "_law_walked", .keep "_law_inverted", .keep "are_values", .keep "reachable", .keep "is_part", .keep "corner_results", .keep "is_step_event", .keep "read_values", .keep "span_results", .keep "moments_where", .keep "late_steps", .keep "early_steps", .keep "values_ahead", .keep "_law_number", .keep "_law_tape"]
def fa4 : List He.Fa := [.keep "_law_seen", .keep "_law_within", .keep "_law_skewed", .keep "_law_wide_sum", .keep "_law_spread_tape", .keep "_law_corners", .keep "is_state", .keep "holds", .keep "run_result", .keep "inversions", .keep "exchanges", .keep "fits_run", .keep "_law_function", .keep "_law_is_let", .keep "_law_is_blame", .keep "_law_reasons_right", .keep "is_corner", .keep "may_begin", .keep "true_moments", .keep "is_accepted", .keep "_law_world", .keep "is_run", .keep "reasons", .keep "blame", .keep "shows_blame", .keep "_law_shown_right", .keep "_law_run_right", .keep "_law_right", .keep "_law_wide_right", .keep "law"]
def fa5 : List He.Fa := [.free "isinstance", .free "int", .free "bool", .free "tuple", .free "str", .free "len", .free "all", .free "zip", .free "sum", .free "max", .free "min", .free "sorted", .free "range", .free "list", .free "enumerate", .free "abs", .free "dict", .free "repr", .str "TABLE" "table", .str "SUM" "sum", .str "GREATEST" "max", .str "EXACT" "exact", .str "FLOOR" "floor", .str "CEILING" "ceiling", .str "STEP" "step", .int "CORNER_PARTS" 3, .int "PART_SIZE" 2, .int "RUN_PARTS" 2, .int "STEP_PARTS" 3, .int "TRIPLE_PARTS" 3]
def fa6 : List He.Fa := [.glo "READ"]
def fa : List He.Fa := fa0 ++ (fa1 ++ (fa2 ++ (fa3 ++ (fa4 ++ (fa5 ++ (fa6))))))
def fn0 : List He.FnD := [hdD "is_number" "is_number" 5, hdD "state_number" "state_number" 8, hdD "causes_from" "causes_from" 11, hdD "begins" "begins" 12, hdD "accepts" "accepts" 21, hdD "changed_corners" "changed" 22, hdD "is_read_event" "is_read_event" 34, hdD "changed_runs" "changed" 37, hdD "read_moments" "read_moments" 40, hdD "block_numbers" "block_numbers" 51, hdD "steps_with_reads" "steps_with_reads" 52, hdD "_law_pot" "_law_pot" 63, hdD "_law_take" "_law_take" 64, hdD "_law_index" "_law_index" 70, hdD "_law_moves" "_law_moves" 73, hdD "_law_put" "_law_put" 74, hdD "_law_let" "_law_let" 80, hdD "_law_is_int" "_law_is_int" 82, hdD "_law_marked" "_law_marked" 83, hdD "is_integer" "is_integer" 4, hdD "result" "result" 9, hdD "values_from" "values_from" 13, hdD "states" "states" 39, hdD "span" "span" 41, hdD "inner_steps" "inner_steps" 53, hdD "_law_of" "_law_of" 65, hdD "_law_variable" "_law_variable" 66, hdD "_law_told" "_law_told" 71, hdD "_law_scheme" "_law_scheme" 72, hdD "_law_begin" "_law_begin" 75]
def fn1 : List He.FnD := [hdD "_law_walked" "_law_walked" 77, hdD "_law_inverted" "_law_inverted" 84, hdD "are_values" "are_values" 6, hdD "reachable" "reachable" 14, hdD "is_part" "is_part" 24, hdD "corner_results" "corner_results" 26, hdD "is_step_event" "is_step_event" 33, hdD "read_values" "read_values" 42, hdD "span_results" "span_results" 44, hdD "moments_where" "moments_where" 45, hdD "late_steps" "late_steps" 54, hdD "early_steps" "early_steps" 55, hdD "values_ahead" "values_ahead" 59, hdD "_law_number" "_law_number" 67, hdD "_law_tape" "_law_tape" 76, hdD "_law_seen" "_law_seen" 78, hdD "_law_within" "_law_within" 79, hdD "_law_skewed" "_law_skewed" 85, hdD "_law_wide_sum" "_law_wide_sum" 90, hdD "_law_spread_tape" "_law_spread_tape" 91, hdD "_law_corners" "_law_corners" 92, hdD "is_state" "is_state" 7, hdD "holds" "holds" 27, hdD "run_result" "run_result" 43, hdD "inversions" "inversions" 56, hdD "exchanges" "exchanges" 57, hdD "fits_run" "fits_run" 60, hdD "_law_function" "_law_function" 68, hdD "_law_is_let" "_law_is_let" 81, hdD "_law_is_blame" "_law_is_blame" 86]
def fn2 : List He.FnD := [hdD "_law_reasons_right" "_law_reasons_right" 87, hdD "is_corner" "is_corner" 25, hdD "may_begin" "may_begin" 35, hdD "true_moments" "true_moments" 46, hdD "is_accepted" "is_accepted" 47, hdD "_law_world" "_law_world" 69, hdD "is_run" "is_run" 36, hdD "reasons" "reasons" 48, hdD "blame" "blame" 58, hdD "shows_blame" "shows_blame" 61, hdD "_law_shown_right" "_law_shown_right" 88, hdD "_law_run_right" "_law_run_right" 93, hdD "_law_right" "_law_right" 89, hdD "_law_wide_right" "_law_wide_right" 94, hdD "law" "law" 95]
def fn : List He.FnD := fn0 ++ (fn1 ++ (fn2))
def nms0 : List PySem.Str := ["TABLE", "SUM", "GREATEST", "is_integer", "is_number", "are_values", "is_state", "state_number", "result", "causes_from", "begins", "values_from", "reachable", "EXACT", "FLOOR", "CEILING", "CORNER_PARTS", "PART_SIZE", "accepts", "changed", "changed_corners", "is_part", "is_corner", "corner_results", "holds", "READ", "STEP", "RUN_PARTS", "STEP_PARTS", "is_step_event"]
def nms1 : List PySem.Str := ["is_read_event", "may_begin", "is_run", "changed_runs", "states", "read_moments", "span", "read_values", "run_result", "span_results", "moments_where", "true_moments", "is_accepted", "reasons", "TRIPLE_PARTS", "block_numbers", "steps_with_reads", "inner_steps", "late_steps", "early_steps", "inversions", "exchanges", "blame", "values_ahead", "fits_run", "shows_blame", "_law_pot", "_law_take", "_law_of", "_law_variable"]
def nms2 : List PySem.Str := ["_law_number", "_law_function", "_law_world", "_law_index", "_law_told", "_law_scheme", "_law_moves", "_law_put", "_law_begin", "_law_tape", "_law_walked", "_law_seen", "_law_within", "_law_let", "_law_is_let", "_law_is_int", "_law_marked", "_law_inverted", "_law_skewed", "_law_is_blame", "_law_reasons_right", "_law_shown_right", "_law_right", "_law_wide_sum", "_law_spread_tape", "_law_corners", "_law_run_right", "_law_wide_right"]
def nms : List PySem.Str := nms0 ++ (nms1 ++ (nms2))
def cdOf (K : PySem.W.Frag) (x : Str) : Addr := match K.lookup (He.ga K x) with
  | some ⟨_, _, .func fd, _⟩ => (match fd.code with
    | .ref c => c
    | _ => 0)
  | _ => 0
def tbOf (K : PySem.W.Frag) (x : Str) : Addr := match K.lookup (cdOf K x) with
  | some ⟨_, _, .fields vs, _⟩ => (match (vs[11]? : Option Value) with
    | some (.ref p) => p
    | _ => 0)
  | _ => 0
def cdB (K : PySem.W.Frag) (x : Str) : Bool := (match K.lookup (He.ga K x) with
  | some ⟨_, _, .func fd, _⟩ => (match fd.code with
    | .ref c => c == cdOf K x
    | _ => false)
  | _ => false) && (PySem.W.codeHdIn K (cdOf K x) (tbOf K x) && (K.lookup (tbOf K x)).isNone)
def exB (K : PySem.W.Frag) : Bool := cdB K "true_moments" && (cdB K "reasons" && (!(tbOf K "true_moments" == tbOf K "reasons") && He.tupB K "READ" [.str "read"]))
abbrev AlX : Type := He.Al × (Bool × (Option Obj × Option Obj))
def tb0 : Option Obj := some { cls := .none, data := .fields #[] }
def obsX (g : Addr → Option Obj) (K : PySem.W.Frag) : AlX := (He.obsE fa fn K, exB K, g (tbOf K "true_moments"), g (tbOf K "reasons"))
def obsXG (g : Addr → Option Obj) : AlX := obsX g (He.frG g (He.asG g 2))
def valX : AlX := (He.valE fn, true, tb0, tb0)
def SaysX (K : PySem.W.Frag) (h : Heap) : Prop := K.In h ∧ (He.SaysE fa fn K ∧ (exB K = true ∧ (h.get? (tbOf K "true_moments") = tb0 ∧ h.get? (tbOf K "reasons") = tb0)))
def hkX : PySem.W.Hook where
  α := AlX
  obs := fun s => obsXG s.heap.get?
  val := fun _ => valX
  says := fun _ h => ∃ K : PySem.W.Frag, SaysX K h
  of := fun _ s e => by
    have e' : obsX s.heap.get? (He.frG s.heap.get? (He.asG s.heap.get? 2)) = valX := e
    exact ⟨He.frG s.heap.get? (He.asG s.heap.get? 2), He.frG_in, congrArg (fun z : AlX => z.1) e', congrArg (fun z : AlX => z.2.1) e', congrArg (fun z : AlX => z.2.2.1) e', congrArg (fun z : AlX => z.2.2.2) e'⟩
  keeps := fun _ _ _ ⟨K, hK, c, b, t1, t2⟩ k => ⟨K, PySem.W.Frag.In.keeps hK k, c, b, k _ _ t1, k _ _ t2⟩
def obT (s : PySem.W.SharedT) : AlX := obsXG (HandSHeadRun.getT s)
theorem obT_eq (s : PySem.W.SharedT) : obT s = hkX.obs s.abs := by
  have e : HandSHeadRun.getT s = s.abs.heap.get? := funext (HandSHeadRun.getT_eq s)
  unfold obT
  rw [e]
  rfl
abbrev RW : PySem.W.OpenRow := PySem.W.OpenLaw.row PySem.Challenge.rw_readskew_k82_whole_runs_shown_or_blamed
theorem run (w : World) : HandSHeadRun.RunEq RW (PySem.W.view RW.prog [95]) hkX obT 20000 nms w := by
  intro os
  kernel_rfl
end RS
end
section
set_option maxRecDepth 100000
namespace DL
open PySem PySem.Spec PyProof.Rows L2
/-! ### loops over encoded data -/
theorem forD_ind {α : Type} {g : DTG} {tb : DTS} {E : DEnds} (enc : α → D) (P : List α → DEnv → Nat → Prop)
    (turn : ∀ a as ρ S nx, P (a :: as) ρ S → (∀ ρ' S', P as ρ' S' → nx ρ' S') → g (enc a) ρ fun ρ' => tb { nx := nx, rt := E.rt, bk := E.nx, ct := nx } ρ' S)
    (fin : ∀ ρ S, P [] ρ S → E.nx ρ S) : ∀ (as : List α) (ρ : DEnv) (S : Nat), P as ρ S → forD g tb E (as.map enc) ρ S
  | [], ρ, S, h => fin ρ S h
  | a :: as, ρ, S, h => turn a as ρ S _ h fun ρ' S' h' => forD_ind enc P turn fin as ρ' S' h'
/-- a comprehension whose parts change nothing: what it gives -/
theorem lcD_map {α : Type} {g : DTG} {tt : DTT} {te : DTE} {ρ : DEnv} {Q : D → Nat → Prop} {S : Nat} (enc : α → D) (ok : α → Bool) (val : α → D) :
    ∀ (as : List α) (acc : List D), (∀ a ∈ as, ∀ (k1 : D → Nat → Prop) (k2 : Nat → Prop), (ok a = true → k1 (val a) S) → (ok a = false → k2 S) → g (enc a) ρ fun ρ2 => tt ρ2 S fun b S2 => if b = true then te ρ2 S2 k1 else k2 S2) →
    Q (.lst (acc ++ (as.filter ok).map val)) S → lcD g tt te ρ Q (as.map enc) acc S
  | [], acc, _, h => by simpa [lcD] using h
  | a :: as, acc, turn, h => by
    refine turn a List.mem_cons_self _ _ (fun e => ?_) (fun e => ?_)
    · refine lcD_map enc ok val as (acc ++ [val a]) (fun b hb => turn b (List.mem_cons_of_mem _ hb)) ?_
      rw [List.filter_cons_of_pos e, List.map_cons] at h
      rw [List.append_assoc]
      exact h
    · refine lcD_map enc ok val as acc (fun b hb => turn b (List.mem_cons_of_mem _ hb)) ?_
      rw [List.filter_cons_of_neg (by rw [e]; decide)] at h
      exact h
theorem lcD_all {α : Type} {g : DTG} {tt : DTT} {te : DTE} {ρ : DEnv} {Q : D → Nat → Prop} {S : Nat} (enc : α → D) (val : α → D) (as : List α)
    (turn : ∀ a ∈ as, ∀ (k1 : D → Nat → Prop) (k2 : Nat → Prop), k1 (val a) S → g (enc a) ρ fun ρ2 => tt ρ2 S fun b S2 => if b = true then te ρ2 S2 k1 else k2 S2)
    (h : Q (.lst (as.map val)) S) : lcD g tt te ρ Q (as.map enc) [] S := by
  refine lcD_map enc (fun _ => true) val as [] (fun a ha k1 k2 h1 _ => turn a ha k1 k2 (h1 rfl)) ?_
  rw [List.nil_append, List.filter_eq_self.mpr fun _ _ => rfl]
  exact h
/-- .. whose parts draw -/
theorem lcD_ind {α : Type} {g : DTG} {tt : DTT} {te : DTE} {ρ : DEnv} {Q : D → Nat → Prop} (enc : α → D) (P : List α → List D → Nat → Prop)
    (turn : ∀ a as acc S (k1 : D → Nat → Prop) (k2 : Nat → Prop), P (a :: as) acc S → (∀ y S', P as (acc ++ [y]) S' → k1 y S') → (∀ S', P as acc S' → k2 S') → g (enc a) ρ fun ρ2 => tt ρ2 S fun b S2 => if b = true then te ρ2 S2 k1 else k2 S2)
    (fin : ∀ acc S, P [] acc S → Q (.lst acc) S) : ∀ (as : List α) (acc : List D) (S : Nat), P as acc S → lcD g tt te ρ Q (as.map enc) acc S
  | [], acc, S, h => fin acc S h
  | a :: as, acc, S, h => turn a as acc S _ _ h (fun y S' h' => lcD_ind enc P turn fin as _ S' h') fun S' h' => lcD_ind enc P turn fin as _ S' h'
theorem zipD_map {α β : Type} (e1 : α → D) (e2 : β → D) : ∀ (as : List α) (bs : List β), zipD (as.map e1) (bs.map e2) = (as.zip bs).map fun p => D.tup [e1 p.1, e2 p.2]
  | [], _ => by simp [zipD]
  | _ :: _, [] => by simp [zipD]
  | a :: as, b :: bs => by simp [zipD, zipD_map e1 e2 as bs]
theorem enumD_map {α : Type} (e : α → D) : ∀ (k : Nat) (as : List α), enumD k (as.map e) = (as.zipIdx k).map fun p => D.tup [.int (p.2 : Nat), e p.1]
  | _, [] => by simp [enumD]
  | k, a :: as => by simp [enumD, enumD_map e (k + 1) as]
def eN (n : Nat) : D := .int (n : Int)
theorem rgD_map (n : Nat) : rgD 0 (n : Int) = (List.range n).map eN := by
  unfold rgD eN
  have e : ((n : Int) - 0).toNat = n := by omega
  rw [e]
  apply List.map_congr_left
  intro i _
  rw [Int.zero_add]
/-! ### data that can be compared -/
def Sh (k : Nat) (x : D) : Prop := isD x = true ∧ (py x).canLay0 = true ∧ (py x).depth ≤ k
theorem Sh.ok {k : Nat} {x : D} (h : Sh k x) (hk : k ≤ 64) : okD x = true := by
  obtain ⟨a, b, c⟩ := h
  unfold okD SeqAt.shaped
  rw [a, b, decide_eq_true (Nat.le_trans c hk)] <;> rfl
theorem Sh.mono {j k : Nat} {x : D} (h : Sh j x) (hk : j ≤ k) : Sh k x := ⟨h.1, h.2.1, Nat.le_trans h.2.2 hk⟩
theorem sh_int (i : Int) : Sh 0 (.int i) := ⟨by simp [isD], by simp [py, PyData.canLay0], by simp [py, PyData.depth]⟩
theorem sh_str {i : Str} (h : PyData.strOk i = true) : Sh 0 (.str i) := ⟨by simp [isD], by simp [py, PyData.canLay0, h], by simp [py, PyData.depth]⟩
theorem shs {k : Nat} : ∀ {xs : List D}, (∀ x ∈ xs, Sh k x) → isDs xs = true ∧ PyData.canLayAll0 (pys xs) = true ∧ PyData.depthAll (pys xs) ≤ k
  | [], _ => ⟨by simp [isDs], by simp [pys, PyData.canLayAll0], by simp [pys, PyData.depthAll]⟩
  | x :: xs, h => by
    obtain ⟨a, b, c⟩ := shs (xs := xs) fun y hy => h y (List.mem_cons_of_mem _ hy)
    obtain ⟨a', b', c'⟩ := h x List.mem_cons_self
    refine ⟨by simp [isDs, a, a'], by simp [pys, PyData.canLayAll0, b, b'], ?_⟩
    simp only [pys, PyData.depthAll]
    omega
theorem sh_tup {k : Nat} {xs : List D} (h : ∀ x ∈ xs, Sh k x) : Sh (k + 1) (.tup xs) := by
  obtain ⟨a, b, c⟩ := shs h
  refine ⟨by simp [isD, a], by simp [py, PyData.canLay0, b], ?_⟩
  simp only [py, PyData.depth]
  omega
theorem sh_lst {k : Nat} {xs : List D} (h : ∀ x ∈ xs, Sh k x) : Sh (k + 1) (.lst xs) := by
  obtain ⟨a, b, c⟩ := shs h
  refine ⟨by simp [isD, a], by simp [py, PyData.canLay0, b], ?_⟩
  simp only [py, PyData.depth]
  omega
def eqDs : List D → List D → Bool
  | [], [] => true
  | x :: xs, y :: ys => eqD x y && eqDs xs ys
  | _, _ => false
theorem eqv_pys : ∀ xs ys : List D, PyData.eqvAll (pys xs) (pys ys) = eqDs xs ys
  | [], [] => by simp [pys, PyData.eqvAll, eqDs]
  | [], y :: ys => by simp [pys, PyData.eqvAll, eqDs]
  | x :: xs, [] => by simp [pys, PyData.eqvAll, eqDs]
  | x :: xs, y :: ys => by
    have h := eqv_pys xs ys
    simp only [pys, PyData.eqvAll, eqDs, h] <;> rfl
theorem eqD_tup (xs ys : List D) : eqD (.tup xs) (.tup ys) = eqDs xs ys := by
  unfold eqD
  rw [← eqv_pys]
  simp [py, PyData.eqv]
theorem eqD_lst (xs ys : List D) : eqD (.lst xs) (.lst ys) = eqDs xs ys := by
  unfold eqD
  rw [← eqv_pys]
  simp [py, PyData.eqv]
theorem eqD_int (i j : Int) : eqD (.int i) (.int j) = decide (i = j) := by
  unfold eqD
  simp [py, PyData.eqv]
  by_cases h : i = j <;> simp [h]
theorem eqD_str (i j : Str) : eqD (.str i) (.str j) = decide (i = j) := by
  unfold eqD
  simp [py, PyData.eqv]
  by_cases h : i = j <;> simp [h]
/-- data of one type, told apart by == -/
structure EqE {α : Type} [DecidableEq α] (e : α → D) (k : Nat) : Prop where
  sh : ∀ a, Sh k (e a)
  eq : ∀ a b, eqD (e a) (e b) = decide (a = b)
theorem eqe_int : EqE D.int 0 := ⟨sh_int, eqD_int⟩
theorem eqe_nat : EqE eN 0 := ⟨fun a => sh_int _, fun a b => by
  unfold eN
  rw [eqD_int]
  by_cases h : a = b
  · subst h; simp
  · rw [decide_eq_false h, decide_eq_false (by omega)]⟩
theorem eqDs_map {α : Type} [DecidableEq α] {e : α → D} {k : Nat} (h : EqE e k) : ∀ as bs : List α, eqDs (as.map e) (bs.map e) = decide (as = bs)
  | [], [] => by simp [eqDs]
  | [], b :: bs => by simp [eqDs]
  | a :: as, [] => by simp [eqDs]
  | a :: as, b :: bs => by
    rw [List.map_cons, List.map_cons, eqDs, h.eq, eqDs_map h as bs]
    by_cases h1 : a = b
    · by_cases h2 : as = bs
      · simp [h1, h2]
      · simp [h1, h2]
    · simp [h1]
theorem EqE.tup {α : Type} [DecidableEq α] {e : α → D} {k : Nat} (h : EqE e k) : EqE (fun as : List α => D.tup (as.map e)) (k + 1) :=
  ⟨fun as => sh_tup fun x hx => by obtain ⟨a, _, rfl⟩ := List.mem_map.mp hx; exact h.sh a, fun as bs => by rw [eqD_tup, eqDs_map h]⟩
theorem EqE.lst {α : Type} [DecidableEq α] {e : α → D} {k : Nat} (h : EqE e k) : EqE (fun as : List α => D.lst (as.map e)) (k + 1) :=
  ⟨fun as => sh_lst fun x hx => by obtain ⟨a, _, rfl⟩ := List.mem_map.mp hx; exact h.sh a, fun as bs => by rw [eqD_lst, eqDs_map h]⟩
theorem EqE.pair {α β : Type} [DecidableEq α] [DecidableEq β] {e : α → D} {f : β → D} {k : Nat} (h : EqE e k) (h' : EqE f k) : EqE (fun p : α × β => D.tup [e p.1, f p.2]) (k + 1) :=
  ⟨fun p => sh_tup fun x hx => by
    rcases List.mem_cons.mp hx with rfl | hx
    · exact h.sh _
    · rw [List.mem_singleton.mp hx]; exact h'.sh _, fun p q => by
    rw [eqD_tup, eqDs, eqDs, eqDs, h.eq, h'.eq]
    obtain ⟨a, b⟩ := p
    obtain ⟨c, d⟩ := q
    by_cases h1 : a = c <;> by_cases h2 : b = d <;> simp [h1, h2]⟩
theorem EqE.trip {α β γ : Type} [DecidableEq α] [DecidableEq β] [DecidableEq γ] {e : α → D} {f : β → D} {g : γ → D} {k : Nat} (h : EqE e k) (h' : EqE f k) (h'' : EqE g k) : EqE (fun p : α × β × γ => D.tup [e p.1, f p.2.1, g p.2.2]) (k + 1) :=
  ⟨fun p => sh_tup fun x hx => by
    rcases List.mem_cons.mp hx with rfl | hx
    · exact h.sh _
    · rcases List.mem_cons.mp hx with rfl | hx
      · exact h'.sh _
      · rw [List.mem_singleton.mp hx]; exact h''.sh _, fun p q => by
    rw [eqD_tup, eqDs, eqDs, eqDs, eqDs, h.eq, h'.eq, h''.eq]
    obtain ⟨a, b, b2⟩ := p
    obtain ⟨c, d, d2⟩ := q
    by_cases h1 : a = c <;> by_cases h2 : b = d <;> by_cases h3 : b2 = d2 <;> simp [h1, h2, h3]⟩
theorem EqE.mono {α : Type} [DecidableEq α] {e : α → D} {j k : Nat} (h : EqE e j) (hk : j ≤ k) : EqE e k := ⟨fun a => (h.sh a).mono hk, h.eq⟩
theorem inD_map {α : Type} [DecidableEq α] {e : α → D} {k : Nat} (h : EqE e k) (a : α) : ∀ as : List α, inD (e a) (as.map e) = decide (a ∈ as)
  | [] => by simp [inD]
  | b :: as => by
    have ih := inD_map h a as
    unfold inD at ih ⊢
    rw [List.map_cons, List.any_cons, ih, h.eq]
    by_cases h1 : b = a
    · simp [h1]
    · have h2 : ¬ a = b := fun z => h1 z.symm
      simp [h1, h2]
/-! ### subscripts and slices by naturals -/
theorem atD_nat {xs : List D} {i : Nat} {d : D} {Q : D → Prop} (h : xs[i]? = some d) (q : Q d) : atD xs (i : Int) Q := by
  unfold atD
  rw [atI_nat h]
  exact q
theorem atD_last {xs : List D} {d : D} {Q : D → Prop} (q : Q d) : atD (xs ++ [d]) (-1) Q := by
  unfold atD
  rw [atI_last]
  exact q
theorem cutD_to (xs : List D) (n : Nat) : cutD xs none (some (n : Int)) = xs.take n := by
  unfold cutD
  rw [HT.sIx_none, HT.sIx_nat, List.drop_zero, Nat.sub_zero]
  by_cases h : n ≤ xs.length
  · rw [Nat.min_eq_left h]
  · rw [Nat.min_eq_right (by omega), List.take_of_length_le (Nat.le_refl _), List.take_of_length_le (by omega)]
theorem cutD_from (xs : List D) (n : Nat) : cutD xs (some (n : Int)) none = xs.drop n := by
  unfold cutD
  rw [HT.sIx_none, HT.sIx_nat]
  by_cases h : n ≤ xs.length
  · rw [Nat.min_eq_left h]
    exact List.take_of_length_le (by rw [List.length_drop]; exact Nat.le_refl _)
  · rw [Nat.min_eq_right (by omega), List.drop_of_length_le (Nat.le_refl _), List.drop_of_length_le (by omega)]
    simp
theorem cutD_mid (xs : List D) (a b : Nat) : cutD xs (some (a : Int)) (some (b : Int)) = (xs.drop a).take (b - a) := by
  unfold cutD
  rw [HT.sIx_nat, HT.sIx_nat]
  by_cases h : a ≤ xs.length
  · rw [Nat.min_eq_left h]
    by_cases h2 : b ≤ xs.length
    · rw [Nat.min_eq_left h2]
    · have e : min b xs.length = xs.length := Nat.min_eq_right (by omega)
      rw [e, List.take_of_length_le (by rw [List.length_drop]; exact Nat.le_refl _), List.take_of_length_le (by rw [List.length_drop]; omega)]
  · have e : min a xs.length = xs.length := Nat.min_eq_right (by omega)
    rw [e, List.drop_of_length_le (Nat.le_refl _), List.drop_of_length_le (by omega)]
    simp
theorem cutD_ends (xs : List D) (i : Nat) (d : D) (h : i < xs.length) : cutD xs none (some (i : Int)) ++ [d] ++ cutD xs (some ((i : Int) + 1)) none = xs.set i d := by
  have e : ((i : Int) + 1) = ((i + 1 : Nat) : Int) := by omega
  rw [e, cutD_to, cutD_from, List.set_eq_take_append_cons_drop, if_pos h, List.append_assoc]
  rfl
end DL
end
section
set_option maxRecDepth 100000
namespace RS
open PySem PySem.Spec PyProof.Rows L2 DL
/-! ### what the program speaks of -/
abbrev Vr := Nat × List (Nat × Nat)
inductive Fn where
  | tab (t : List Int) | sm (r : List (List Int)) | mx (r : List (List Int)) | mn (r : List (List Int))
structure Wd where
  vs : List Vr
  st : Option (List Nat)
  fn : Fn
inductive Ev where
  | rd | st (i v : Nat)
  deriving DecidableEq
abbrev Rn := List Nat × List Ev
abbrev Pl := List (List Nat)
inductive Md where
  | ex | bt | fl | ce
  deriving DecidableEq
def eMd : Md → Str
  | .ex => "exact"
  | .bt => "between"
  | .fl => "floor"
  | .ce => "ceiling"
abbrev nth (s : List Nat) (i : Nat) : Nat := s.getD i 0
abbrev vr (vs : List Vr) (i : Nat) : Vr := vs.getD i (0, [])
/-! as data -/
def eP (p : Nat × Nat) : D := .tup [eN p.1, eN p.2]
def eNs (l : List Nat) : D := .tup (l.map eN)
def eIs (l : List Int) : D := .tup (l.map D.int)
def eVr (v : Vr) : D := .tup [eN v.1, .tup (v.2.map eP)]
def eFn : Fn → D
  | .tab t => .tup [.str "table", eIs t]
  | .sm r => .tup [.str "sum", .tup (r.map eIs)]
  | .mx r => .tup [.str "max", .tup (r.map eIs)]
  | .mn r => .tup [.str "min", .tup (r.map eIs)]
def eSt : Option (List Nat) → D
  | none => .non
  | some s => eNs s
def eW (w : Wd) : D := .tup [.tup (w.vs.map eVr), eSt w.st, eFn w.fn]
def eEv : Ev → D
  | .rd => .tup [.str "read"]
  | .st i v => .tup [.str "step", eN i, eN v]
def eR (r : Rn) : D := .tup [eNs r.1, .tup (r.2.map eEv)]
def ePl (p : Pl) : D := .tup (p.map eNs)
/-! ### what is computed -/
def stNum (vs : List Vr) (s : List Nat) : Nat := (s.zip vs).foldl (fun f p => f * p.2.1 + p.1) 0
def ents (r : List (List Int)) (s : List Nat) : List Int := (r.zip s).map fun p => p.1.getD p.2 0
def mxL : List Int → Int
  | [] => 0
  | n :: ns => ns.foldl max n
def mnL : List Int → Int
  | [] => 0
  | n :: ns => ns.foldl min n
def res (w : Wd) (s : List Nat) : Int := match w.fn with
  | .tab t => t.getD (stNum w.vs s) 0
  | .sm r => (ents r s).sum
  | .mx r => mxL (ents r s)
  | .mn r => mnL (ents r s)
def acc (m : Md) (x : Int) (ys : List Int) : Bool := match m with
  | .ex => ys.contains x
  | .bt => decide (mnL ys ≤ x) && decide (x ≤ mxL ys)
  | .fl => decide (mnL ys ≤ x)
  | .ce => decide (x ≤ mxL ys)
def stsA : List Nat → List Ev → List (List Nat)
  | _, [] => []
  | s, .rd :: r => stsA s r
  | s, .st i v :: r => s.set i v :: stsA (s.set i v) r
def sts (r : Rn) : List (List Nat) := r.1 :: stsA r.1 r.2
def readA : Nat → List Ev → List Nat
  | _, [] => []
  | k, .rd :: r => k :: readA k r
  | k, .st _ _ :: r => readA (k + 1) r
def rds (r : Rn) : List Nat := readA 0 r.2
def sp0 (r : Rn) : Nat := (rds r).headD 0
def sp1 (r : Rn) : Nat := (rds r).getLastD 0
def flatP : Nat → Pl → List (Nat × Nat)
  | _, [] => []
  | k, b :: p => b.map (fun v => (v, k)) ++ flatP (k + 1) p
def blk (p : Pl) (v : Nat) : Nat := (((flatP 0 p).find? fun q => decide (q.1 = v)).map (·.2)).getD 0
def stAt (r : Rn) (k : Nat) : List Nat := (sts r).getD k []
def rdVals (n : Nat) (p : Pl) (r : Rn) : List Nat := (List.range n).map fun v => nth (stAt r ((rds r).getD (blk p v) 0)) v
def rRes (w : Wd) (p : Pl) (r : Rn) : Int := res w (rdVals w.vs.length p r)
def within (r : Rn) : List (List Nat) := ((sts r).drop (sp0 r)).take (sp1 r + 1 - sp0 r)
def spRes (w : Wd) (r : Rn) : List Int := (within r).map (res w)
def isAcc (w : Wd) (m : Md) (p : Pl) (r : Rn) : Bool := acc m (rRes w p r) (spRes w r)
/-- steps: variable, value, reads behind them -/
def stR : Nat → List Ev → List (Nat × Nat × Nat)
  | _, [] => []
  | k, .rd :: r => stR (k + 1) r
  | k, .st i v :: r => (i, v, k) :: stR k r
def stps (r : Rn) : List (Nat × Nat × Nat) := stR 0 r.2
def stp (r : Rn) (k : Nat) : Nat × Nat := (((stps r).getD k (0, 0, 0)).1, ((stps r).getD k (0, 0, 0)).2.1)
def innB (p : Pl) (late : Bool) (x : (Nat × Nat × Nat) × Nat) : Bool := decide (0 < x.1.2.2) && decide (x.1.2.2 < p.length) && decide (decide (blk p x.1.1 < x.1.2.2) = late)
def inner (p : Pl) (r : Rn) (late : Bool) : List Nat := ((stps r).zipIdx.filter (innB p late)).map (·.2)
abbrev lates (p : Pl) (r : Rn) : List Nat := inner p r true
abbrev earls (p : Pl) (r : Rn) : List Nat := inner p r false
def invs (p : Pl) (r : Rn) : List (Nat × Nat) := (lates p r).flatMap fun a => ((earls p r).filter fun b => decide (a < b)).map fun b => (a, b)
abbrev Cor := List Nat × (Nat × Nat) × (Nat × Nat)
abbrev Xc := Cor × Nat × Nat
def setS (s : List Nat) (x : Nat × Nat) : List Nat := s.set x.1 x.2
/-- the states ahead of the early steps -/
def ahA : List Nat → List (Nat × Nat) → List (List Nat)
  | _, [] => []
  | s, x :: l => setS s x :: ahA (setS s x) l
def ahd (p : Pl) (r : Rn) : List (List Nat) := stAt r (sp0 r) :: ahA (stAt r (sp0 r)) ((earls p r).map (stp r))
def exIn (f : Nat → Nat × Nat) (q : Nat) : List Nat → List Nat → List Xc
  | _, [] => []
  | s, a :: l => if a < q then ((s, f a, f q), a, q) :: exIn f q (setS s (f a)) l else exIn f q s l
def exch (p : Pl) (r : Rn) : List Xc := (List.range (earls p r).length).reverse.flatMap fun k => exIn (stp r) ((earls p r).getD k 0) ((ahd p r).getD k []) (lates p r)
def corRes (w : Wd) (c : Cor) : List Int := [res w (setS c.1 c.2.2), res w c.1, res w (setS c.1 c.2.1), res w (setS (setS c.1 c.2.1) c.2.2)]
def hld (w : Wd) (m : Md) (c : Cor) : Bool := acc m (res w (setS c.1 c.2.2)) [res w c.1, res w (setS c.1 c.2.1), res w (setS (setS c.1 c.2.1) c.2.2)]
def blm (w : Wd) (m : Md) (p : Pl) (r : Rn) : Option Xc := if isAcc w m p r = true then none else (exch p r).find? fun x => !hld w m x.1
def eCor (c : Cor) : D := .tup [eNs c.1, eP c.2.1, eP c.2.2]
def eXc (x : Xc) : D := .tup [eCor x.1, eN x.2.1, eN x.2.2]
def eOpt {α : Type} (e : α → D) : Option α → D
  | none => .non
  | some a => e a
theorem eEv_r : eEv .rd = .tup [.str "read"] := rfl
theorem eEv_s (i v : Nat) : eEv (.st i v) = .tup [.str "step", .int i, .int v] := rfl
theorem eFn_t (t : List Int) : eFn (.tab t) = .tup [.str "table", .tup (t.map D.int)] := rfl
theorem eFn_s (r : List (List Int)) : eFn (.sm r) = .tup [.str "sum", .tup (r.map eIs)] := rfl
theorem eFn_x (r : List (List Int)) : eFn (.mx r) = .tup [.str "max", .tup (r.map eIs)] := rfl
theorem eFn_n (r : List (List Int)) : eFn (.mn r) = .tup [.str "min", .tup (r.map eIs)] := rfl
theorem eSt_n : eSt none = .non := rfl
theorem eSt_s (s : List Nat) : eSt (some s) = .tup (s.map eN) := rfl
theorem okd_ev (e : Ev) : okD (eEv e) = true := by
  cases e with
  | rd => exact (sh_tup (k := 0) (xs := [.str "read"]) fun x hx => by rw [List.mem_singleton.mp hx]; exact sh_str (by decide +kernel)).ok (by decide)
  | st i v =>
    refine (sh_tup (k := 0) (xs := [.str "step", eN i, eN v]) fun x hx => ?_).ok (by decide)
    rcases List.mem_cons.mp hx with rfl | hx
    · exact sh_str (by decide +kernel)
    · rcases List.mem_cons.mp hx with rfl | hx
      · exact sh_int _
      · rw [List.mem_singleton.mp hx]; exact sh_int _
theorem eq_ev (e : Ev) : eqD (eEv e) (.tup [.str "read"]) = decide (e = .rd) := by
  cases e with
  | rd => rw [eEv, eqD_tup, eqDs, eqD_str, eqDs]; simp
  | st i v => rw [eEv, eqD_tup, eqDs, eqDs] <;> simp
theorem ev_eq (e : Ev) {q : D → Prop} : fEqX (eEv e) (.tup [.str "read"]) q = q (.bl (decide (e = .rd))) := by
  have h1 := okd_ev e
  have h2 := okd_ev .rd
  have h3 := eq_ev e
  have : fEqX (eEv e) (.tup [.str "read"]) q = ((okD (eEv e) = true ∧ okD (.tup [.str "read"]) = true) ∧ q (.bl (eqD (eEv e) (.tup [.str "read"])))) := by cases e <;> rfl
  rw [this, h1, h3, show okD (.tup [.str "read"]) = true from h2]
  simp
theorem ev_ne (e : Ev) {q : D → Prop} : fNeX (eEv e) (.tup [.str "read"]) q = q (.bl (!decide (e = .rd))) := by
  have h1 := okd_ev e
  have h2 := okd_ev .rd
  have h3 := eq_ev e
  have : fNeX (eEv e) (.tup [.str "read"]) q = ((okD (eEv e) = true ∧ okD (.tup [.str "read"]) = true) ∧ q (.bl (!eqD (eEv e) (.tup [.str "read"])))) := by cases e <;> rfl
  rw [this, h1, h3, show okD (.tup [.str "read"]) = true from h2]
  simp
theorem mut_ev (e : Ev) : (eEv e).isMut = false := by cases e <;> rfl
theorem isi_ev (e : Ev) {q : D → Prop} : fIsi [eEv e, .ty "tuple"] q = q (.bl true) := by cases e <;> exact isi_tt _
def ir3 (ds : List D) (k : List D → Prop) : Prop := match ds with
  | [.int i, .int j, .int c] => (c = -1 ∧ -1000 ≤ i ∧ i ≤ 100000 ∧ -1000 ≤ j ∧ j ≤ 100000) ∧ k (rgDown i j)
  | _ => False
def ir1 (ds : List D) (k : List D → Prop) : Prop := match ds with
  | [.int n] => (-1000 ≤ n ∧ n ≤ 100000) ∧ k (rgD 0 n)
  | _ => False
theorem e_ir3 {t : DTA} {ρ : DEnv} {S : Nat} {Q : List D → Nat → Prop} : dIR3 t ρ S Q = t ρ S fun ds S1 => ir3 ds fun x => Q x S1 := rfl
theorem e_ir1 {t : DTA} {ρ : DEnv} {S : Nat} {Q : List D → Nat → Prop} : dIR1 t ρ S Q = t ρ S fun ds S1 => ir1 ds fun x => Q x S1 := rfl
theorem ir3_i (i j c : Int) (k : List D → Prop) : ir3 [.int i, .int j, .int c] k = ((c = -1 ∧ -1000 ≤ i ∧ i ≤ 100000 ∧ -1000 ≤ j ∧ j ≤ 100000) ∧ k (rgDown i j)) := rfl
theorem ir1_i (i : Int) (k : List D → Prop) : ir1 [.int i] k = ((-1000 ≤ i ∧ i ≤ 100000) ∧ k (rgD 0 i)) := rfl
/-! ### what is sound -/
def OkS (vs : List Vr) (s : List Nat) : Prop := s.length = vs.length ∧ ∀ i, i < vs.length → nth s i < (vr vs i).1
def OkFn (vs : List Vr) : Fn → Prop
  | .tab t => t.length = (vs.map (·.1)).foldl (· * ·) 1 ∧ t.length ≤ 300
  | .sm r => r.length = vs.length ∧ ∀ i, i < vs.length → (r.getD i []).length = (vr vs i).1
  | .mx r => r.length = vs.length ∧ ∀ i, i < vs.length → (r.getD i []).length = (vr vs i).1
  | .mn r => r.length = vs.length ∧ ∀ i, i < vs.length → (r.getD i []).length = (vr vs i).1
structure OkW (w : Wd) : Prop where
  ne : 1 ≤ w.vs.length
  few : w.vs.length ≤ 40
  sz : ∀ v ∈ w.vs, 1 ≤ v.1 ∧ v.1 ≤ 4
  stp : ∀ v ∈ w.vs, v.2.length ≤ 16 ∧ ∀ p ∈ v.2, p.1 < v.1 ∧ p.2 < v.1 ∧ p.1 ≠ p.2
  st : ∀ s, w.st = some s → OkS w.vs s
  fn : OkFn w.vs w.fn
structure OkPl (n : Nat) (p : Pl) : Prop where
  ne : p ≠ []
  bl : ∀ b ∈ p, b ≠ []
  nd : p.flatten.Nodup
  mem : ∀ v, v ∈ p.flatten ↔ v < n
def Chain (vs : List Vr) : List Nat → List Ev → Prop
  | _, [] => True
  | s, .rd :: r => Chain vs s r
  | s, .st i v :: r => (i < vs.length ∧ (nth s i, v) ∈ (vr vs i).2) ∧ Chain vs (s.set i v) r
structure OkR (w : Wd) (p : Pl) (r : Rn) : Prop where
  okw : OkW w
  okp : OkPl w.vs.length p
  s0 : OkS w.vs r.1
  beg : ∀ s, w.st = some s → r.1 = s
  ch : Chain w.vs r.1 r.2
  nrd : (rds r).length = p.length
  few : r.2.length ≤ 900
end RS
end
section
set_option maxRecDepth 100000
namespace RS
open PySem PySem.Spec PyProof.Rows L2 DL
local macro_rules | `(tactic| walk_at "dsem") => `(tactic| simp only [dstart, dRet, dOp, dSl, dTup, dLst, dCons, dNil, dNoPart, dC, dCB, dUn, dCall, dAnd, dOr, dNot, dIf, dIsN, dNext, dSeq, dIfS, dDrop, dAsg, dgName, dFor, dYes, dLc, dLc2, dwipe, dPar, dPar3, dParT, dgTupN, setN, dLstM, dDNewM, dDisp1,
  asB_b, asI_i, asT_t, asL_l, asS_l, asS_t, zx_tt, zx_tl, ex_l, ex_t, e_test, e_andV, e_orV, e_notV, e_chain, e_gtup, e_gcons, e_gnil, e_zx, e_ex, e_seq, e_rg1, e_aug, e_get, e_part, e_inM, e_put, e_app, e_ext, e_ixM, e_lenM, e_frz, e_var, muAt_s, mdAt_s, frzAt_l, frzAt_d, vAt_s, atI_s,
  at0, at1, at2, f_repT, e_star, starX_t, f_add, f_addT, f_addL, f_mul, f_mulL, f_sub, f_mod, f_div, f_pow, f_lt, f_le, f_gt, f_ge, f_neg, f_isB, f_notB, f_eqI, f_eqS, f_eqB, f_eqT, f_eqL, f_neI, f_neS, f_neB, f_neT, f_neL, f_ixL, f_ixT, f_slL, f_slT, f_lenT, f_lenL, f_tupT, f_tupL, f_lstT, f_lstL, f_all, f_sum, f_bestL, f_bestT, f_min2, f_intB, f_sort, f_sortD, isi_ii, isi_ib, isi_tt, isi_ss, f_inT, f_inL, f_inIT, f_inIL,
  mut_int, mut_tup, mut_lst, mut_str, mut_bl, mut_non, mut_pot, mut_dct, mut_scr, isn_non, isn_int, isn_tup, isn_str,
  eN, eP, eNs, eIs, eVr, eW, eR, ePl, eCor, eXc, eEv_r, eEv_s, eFn_t, eFn_s, eFn_x, eFn_n, eSt_n, eSt_s, ev_ne, ev_eq, mut_ev, isi_ev, e_ir3, e_ir1, ir3_i, ir1_i,
  List.map_cons, List.map_nil, List.length_cons, List.length_nil, List.replicate, List.append_nil, List.nil_append, List.cons_append, List.set_cons_zero, List.set_cons_succ, List.getElem?_cons_zero, List.getElem?_cons_succ, List.getElem?_nil, List.zip_cons_cons, List.zip_nil_left, List.foldl_cons, List.foldl_nil, Nat.reduceAdd, Nat.reduceSub, Nat.reduceLeDiff, true_and, and_true, decide_true, if_true, if_false, Bool.false_eq_true, Bool.not_true, Bool.not_false])
/-! ### readskew.worlds -/
def isIntD : D → Bool
  | .int _ => true
  | _ => false
def sp_is_number : DSp := fun ds S Q => ∃ i, ds = [.int i] ∧ Q (.bl true) S
theorem len_is_number : ∀ ds S Qd, sp_is_number ds S Qd → ds.length = 1 := fun ds S Q ⟨d, h, _⟩ => by rw [h] <;> rfl
def sp_is_integer : DSp := fun ds S Q => ∃ i lo hi, ds = [.int i, .int lo, .int hi] ∧ Q (.bl (decide (lo ≤ i) && decide (i ≤ hi))) S
theorem len_is_integer : ∀ ds S Qd, sp_is_integer ds S Qd → ds.length = 3 := fun ds S Q ⟨d, _, _, h, _⟩ => by rw [h] <;> rfl
def sp_are_values : DSp := fun ds S Q => ∃ vs s, ds = [.tup (vs.map eVr), eNs s] ∧ OkS vs s ∧ vs.length ≤ 40 ∧ Q (.bl true) S
theorem len_are_values : ∀ ds S Qd, sp_are_values ds S Qd → ds.length = 2 := fun ds S Q ⟨d, _, h, _⟩ => by rw [h] <;> rfl
def sp_is_state : DSp := fun ds S Q => ∃ w s, ds = [eW w, eNs s] ∧ OkW w ∧ OkS w.vs s ∧ Q (.bl true) S
theorem len_is_state : ∀ ds S Qd, sp_is_state ds S Qd → ds.length = 2 := fun ds S Q ⟨d, _, h, _⟩ => by rw [h] <;> rfl
def sp_state_number : DSp := fun ds S Q => ∃ w s, ds = [eW w, eNs s] ∧ OkW w ∧ OkS w.vs s ∧ Q (eN (stNum w.vs s)) S
theorem len_state_number : ∀ ds S Qd, sp_state_number ds S Qd → ds.length = 2 := fun ds S Q ⟨d, _, h, _⟩ => by rw [h] <;> rfl
def sp_result : DSp := fun ds S Q => ∃ w s, ds = [eW w, eNs s] ∧ OkW w ∧ OkS w.vs s ∧ Q (.int (res w s)) S
theorem len_result : ∀ ds S Qd, sp_result ds S Qd → ds.length = 2 := fun ds S Q ⟨d, _, h, _⟩ => by rw [h] <;> rfl
section
variable {P : Program} {w : World} {K : PySem.W.Frag} {mg : Str → Option Value} {base : Heap} {TT : Tb}
theorem vr_get {vs : List Vr} {i : Nat} (h : i < vs.length) : vs[i]? = some (vr vs i) := by
  rw [List.getElem?_eq_getElem h]
  simp [h]
theorem nth_get {s : List Nat} {i : Nat} (h : i < s.length) : s[i]? = some (nth s i) := by
  rw [List.getElem?_eq_getElem h]
  simp [h]
theorem zip_mem {α β : Type} {as : List α} {bs : List β} {p : α × β} (h : p ∈ as.zip bs) : ∃ i : Nat, as[i]? = some p.1 ∧ bs[i]? = some p.2 := by
  obtain ⟨i, hi, e⟩ := List.mem_iff_getElem.mp h
  rw [List.length_zip] at hi
  rw [List.getElem_zip] at e
  subst e
  exact ⟨i, List.getElem?_eq_getElem (by omega), List.getElem?_eq_getElem (by omega)⟩
theorem oks_zip {vs : List Vr} {s : List Nat} (h : OkS vs s) {p : Nat × Vr} (hp : p ∈ s.zip vs) : p.1 < p.2.1 := by
  obtain ⟨i, h1, h2⟩ := zip_mem hp
  have hi := (List.getElem?_eq_some_iff.mp h2).1
  have := h.2 i hi
  rw [vr_get hi] at h2
  rw [nth_get (by rw [h.1]; exact hi)] at h1
  rw [← Option.some.inj h1, ← Option.some.inj h2]
  exact this
theorem line_of {n : Nat} (h : n ≤ 100000) : n ≤ sizeLine := by rw [sizeLine_eq]; omega
theorem lt_line {n : Nat} (h : n < 100000) : n < sizeLine := by rw [sizeLine_eq]; omega
theorem all_true {α : Type} : ∀ l : List α, (l.map fun _ => true).all id = true
  | [] => rfl
  | a :: l => by rw [List.map_cons, List.all_cons, all_true l] <;> rfl
theorem oks_num : ∀ {vs : List Vr} {s : List Nat} (f b : Nat), f < b → (∀ p ∈ s.zip vs, p.1 < p.2.1) → s.length = vs.length → (s.zip vs).foldl (fun f p => f * p.2.1 + p.1) f < (vs.map (·.1)).foldl (· * ·) b
  | [], [], f, b, h, _, _ => h
  | [], _ :: _, _, _, _, _, e => by simp at e
  | _ :: _, [], _, _, _, _, e => by simp at e
  | v :: vs, x :: s, f, b, h, hp, e => by
    rw [List.zip_cons_cons, List.foldl_cons, List.map_cons, List.foldl_cons]
    refine oks_num _ _ ?_ (fun p q => hp p (List.mem_cons_of_mem _ q)) (by simpa using e)
    have hx : x < v.1 := hp (x, v) List.mem_cons_self
    show f * v.1 + x < b * v.1
    have h1 : (f + 1) * v.1 ≤ b * v.1 := Nat.mul_le_mul_right _ h
    rw [Nat.add_mul, Nat.one_mul] at h1
    omega
theorem stNum_lt {vs : List Vr} {s : List Nat} (h : OkS vs s) : stNum vs s < (vs.map (·.1)).foldl (· * ·) 1 := oks_num 0 1 (by omega) (fun p hp => oks_zip h hp) h.1
abbrev s_is_number : Stmt := topS 5
abbrev N_is_number : List Str := ["value"]
abbrev P_is_number : List Str := ["value"]
theorem sc_is_number : FnScope N_is_number P_is_number (defScope s_is_number) := ⟨rfl, rfl, rfl, by decide +kernel, rfl, by decide +kernel, by decide +kernel⟩
theorem ok_is_number {f : Addr} {fd : FuncData} (F : Fun K "is_number" "is_number" s_is_number f fd) (T : Tx K mg) : FnOk P w K mg base CX0 1 f fd P_is_number (spOf K TT sp_is_number) := by
  refine fun_okD (k := 0) F sc_is_number len_is_number fun cdv A outer s H E hr => ?_
  have hu := hr.units
  have hu1 := hu_of hr
  have hu65 := hu65_of hr
  refine ⟨_, (pss_one (ps_ret (pe_and (pe_callB (isiK (K := K) rfl) (by rfl) T.nb_isinstance (by decide +kernel) (pa_cons (pv 0) (pa_cons (pe_bltn (v := V.ty "int") (by rfl) T.nb_int (by decide +kernel) rfl) pa_nil))) (pe_one (pe_not (pe_callB (isiK (K := K) rfl) (by rfl) T.nb_isinstance (by decide +kernel) (pa_cons (pv 0) (pa_cons (pe_bltn (v := V.ty "bool") (by rfl) T.nb_bool (by decide +kernel) rfl) pa_nil)))))))), ?_⟩
  try dsimp only [cxOf]
  refine ex_snd ?_
  intro ds S Qd h
  obtain ⟨i, rfl, h⟩ := h
  walk_at "dsem"
  exact h
abbrev s_is_integer : Stmt := topS 4
abbrev N_is_integer : List Str := ["value", "least", "most"]
abbrev P_is_integer : List Str := ["value", "least", "most"]
theorem sc_is_integer : FnScope N_is_integer P_is_integer (defScope s_is_integer) := ⟨rfl, rfl, rfl, by decide +kernel, rfl, by decide +kernel, by decide +kernel⟩
theorem ok_is_integer {f : Addr} {fd : FuncData} (F : Fun K "is_integer" "is_integer" s_is_integer f fd) (T : Tx K mg) (F_is_number : Fk P w K mg base "is_number" 1 P_is_number (spOf K TT sp_is_number)) : FnOk P w K mg base CX0 2 f fd P_is_integer (spOf K TT sp_is_integer) := by
  refine fun_okD (k := 1) F sc_is_integer len_is_integer fun cdv A outer s H E hr => ?_
  have hu := hr.units
  have hu1 := hu_of hr
  have hu65 := hu65_of hr
  refine ⟨_, (pss_one (ps_ret (pe_and (pe_callF F_is_number (hr.mono (by decide)) (by rfl) (pa_cons (pv 0) pa_nil)) (pe_one (pe_chain op_le op_le (pv 1) (pv 0) (pv 2)))))), ?_⟩
  try dsimp only [cxOf]
  refine ex_snd ?_
  intro ds S Qd h
  obtain ⟨i, lo, hi, rfl, h⟩ := h
  walk_at "dsem"
  refine ⟨i, rfl, ?_⟩
  walk_at "dsem"
  by_cases e : lo ≤ i
  · rw [decide_eq_true e, Bool.true_and] at h
    rw [if_pos (decide_eq_true e)]
    exact h
  · rw [decide_eq_false e, Bool.false_and] at h
    rw [if_neg (by simpa using e)]
    exact h
abbrev s_are_values : Stmt := topS 6
abbrev N_are_values : List Str := ["variables", "value", "part", "size", "steps"]
abbrev P_are_values : List Str := ["variables", "value"]
theorem sc_are_values : FnScope N_are_values P_are_values (defScope s_are_values) := ⟨rfl, rfl, rfl, by decide +kernel, rfl, by decide +kernel, by decide +kernel⟩
theorem ok_are_values {f : Addr} {fd : FuncData} (F : Fun K "are_values" "are_values" s_are_values f fd) (T : Tx K mg) (F_is_integer : Fk P w K mg base "is_integer" 2 P_is_integer (spOf K TT sp_is_integer)) : FnOk P w K mg base CX0 3 f fd P_are_values (spOf K TT sp_are_values) := by
  refine fun_okD (k := 2) F sc_are_values len_are_values fun cdv A outer s H E hr => ?_
  have hu := hr.units
  have hu1 := hu_of hr
  have hu65 := hu65_of hr
  refine ⟨_, (pss_cons (ps_if (PW.pt (pw_or (pt_not (pt_val (pe_callB (isiK (K := K) rfl) (by rfl) T.nb_isinstance (by decide +kernel) (pa_cons (pv 1) (pa_cons (pe_bltn (v := V.ty "tuple") (by rfl) T.nb_tuple (by decide +kernel) rfl) pa_nil))))) (pw_or1 (pt_cmpR (neK (K := K) rfl hu) (pe_callB (lenK (K := K) rfl) (by rfl) T.nb_len (by decide +kernel) (pa_cons (pv 1) pa_nil)) (pe_callB (lenK (K := K) rfl) (by rfl) T.nb_len (by decide +kernel) (pa_cons (pv 0) pa_nil)) (nomark _))))) (pss_one (ps_ret pe_bl)) pss_nil)
    (pss_one (ps_ret (pe_callB (allK (K := K) rfl rfl) (by rfl) T.nb_all (by decide +kernel) (pa_cons (pe_lcV (vs := [2, 3, 4]) [("part", 2), ("size", 3), ("steps", 4)] rfl sc_are_values.nd (zipK (K := K) rfl (by rfl) T.nb_zip (pa_cons (pv 1) (pa_cons (pv 0) pa_nil))) (show blkC N_are_values (defScope s_are_values) _ [("part", 2), ("size", 3), ("steps", 4)] = true by decide +kernel) rfl (fun _ _ _ _ _ => (tgK 2 (K := K) rfl rfl (pgs_cons (pg_name (i := 2) sc_are_values.nd rfl (by first | exact Or.inl rfl | exact Or.inr rfl)) (pgs_cons (tgK 2 (K := K) rfl rfl (pgs_cons (pg_name (i := 3) sc_are_values.nd rfl (by first | exact Or.inl rfl | exact Or.inr rfl)) (pgs_cons (pg_name (i := 4) sc_are_values.nd rfl (by first | exact Or.inl rfl | exact Or.inr rfl)) pgs_nil))) pgs_nil)))) (fun _ _ _ _ _ => pts_nil) (fun _ _ _ _ _ => (pe_callF F_is_integer (hr.mono (by decide)) (by rfl) (pa_cons (pv 2) (pa_cons pe_int (pa_cons (pe_op op_sub (pv 3) pe_int) pa_nil)))))) pa_nil))))), ?_⟩
  try dsimp only [cxOf]
  refine ex_snd ?_
  intro ds S Qd h
  obtain ⟨vs, s, rfl, h1, h2, h⟩ := h
  walk_at "dsem"
  have hl : (s.map eN).length = (vs.map eVr).length := by rw [List.length_map, List.length_map, h1.1]
  rw [hl, decide_eq_true rfl]
  walk_at "dsem"
  rw [zipD_map, List.length_map, List.length_zip]
  refine ⟨lt_line (by have := h1.1; omega), ?_⟩
  refine lcD_all _ (fun _ => D.bl true) _ (fun p hp k1 k2 hk => ?_) ?_
  · walk_at "dsem"
    refine ⟨(p.1 : Int), 0, (p.2.1 : Int) - 1, rfl, ?_⟩
    have := oks_zip h1 hp
    rw [decide_eq_true (by omega), decide_eq_true (by omega)]
    exact hk
  · walk_at "dsem"
    refine ⟨(s.zip vs).map fun _ => true, by rw [List.map_map] <;> rfl, ?_⟩
    rw [all_true]
    exact h
abbrev s_is_state : Stmt := topS 7
abbrev N_is_state : List Str := ["world", "value"]
abbrev P_is_state : List Str := ["world", "value"]
theorem sc_is_state : FnScope N_is_state P_is_state (defScope s_is_state) := ⟨rfl, rfl, rfl, by decide +kernel, rfl, by decide +kernel, by decide +kernel⟩
theorem ok_is_state {f : Addr} {fd : FuncData} (F : Fun K "is_state" "is_state" s_is_state f fd) (T : Tx K mg) (F_are_values : Fk P w K mg base "are_values" 3 P_are_values (spOf K TT sp_are_values)) : FnOk P w K mg base CX0 4 f fd P_is_state (spOf K TT sp_is_state) := by
  refine fun_okD (k := 3) F sc_is_state len_is_state fun cdv A outer s H E hr => ?_
  have hu := hr.units
  have hu1 := hu_of hr
  have hu65 := hu65_of hr
  refine ⟨_, (pss_one (ps_ret (pe_callF F_are_values (hr.mono (by decide)) (by rfl) (pa_cons (pe_ix (ixK (K := K) rfl) (pv 0) pe_int (fun _ _ => rfl)) (pa_cons (pv 1) pa_nil))))), ?_⟩
  try dsimp only [cxOf]
  refine ex_snd ?_
  intro ds S Qd h
  obtain ⟨w, s, rfl, h1, h2, h⟩ := h
  walk_at "dsem"
  exact ⟨w.vs, s, rfl, h2, h1.few, h⟩
abbrev s_state_number : Stmt := topS 8
abbrev N_state_number : List Str := ["world", "state", "found", "value", "size", "steps"]
abbrev P_state_number : List Str := ["world", "state"]
theorem sc_state_number : FnScope N_state_number P_state_number (defScope s_state_number) := ⟨rfl, rfl, rfl, by decide +kernel, rfl, by decide +kernel, by decide +kernel⟩
theorem ok_state_number {f : Addr} {fd : FuncData} (F : Fun K "state_number" "state_number" s_state_number f fd) (T : Tx K mg) : FnOk P w K mg base CX0 1 f fd P_state_number (spOf K TT sp_state_number) := by
  refine fun_okD (k := 0) F sc_state_number len_state_number fun cdv A outer s H E hr => ?_
  have hu := hr.units
  have hu1 := hu_of hr
  have hu65 := hu65_of hr
  refine ⟨_, (pss_cons (ps_set (i := 2) sc_state_number.nd rfl (by first | exact Or.inl rfl | exact Or.inr rfl) pe_int)
    (pss_cons (ps_for PassesOwn.never rfl (zipK (K := K) rfl (by rfl) T.nb_zip (pa_cons (pv 1) (pa_cons (pe_ix (ixK (K := K) rfl) (pv 0) pe_int (fun _ _ => rfl)) pa_nil))) (tgK 2 (K := K) rfl rfl (pgs_cons (pg_name (i := 3) sc_state_number.nd rfl (by first | exact Or.inl rfl | exact Or.inr rfl)) (pgs_cons (tgK 2 (K := K) rfl rfl (pgs_cons (pg_name (i := 4) sc_state_number.nd rfl (by first | exact Or.inl rfl | exact Or.inr rfl)) (pgs_cons (pg_name (i := 5) sc_state_number.nd rfl (by first | exact Or.inl rfl | exact Or.inr rfl)) pgs_nil))) pgs_nil)))
      (pss_one (ps_set (i := 2) sc_state_number.nd rfl (by first | exact Or.inl rfl | exact Or.inr rfl) (pe_op (addK (K := K) rfl) (pe_op op_mulX (pv 2) (pv 4)) (pv 3)))))
    (pss_one (ps_ret (pv 2))))), ?_⟩
  try dsimp only [cxOf]
  refine ex_snd ?_
  intro ds S Qd h
  obtain ⟨w, s, rfl, h1, h2, h⟩ := h
  walk_at "dsem"
  rw [zipD_map]
  intro _
  refine forD_ind (fun p : Nat × Vr => D.tup [eN p.1, eVr p.2]) (fun l ρ S' => S' = S ∧ ∃ (f : Nat) (a b c x y : Option D), ρ = [a, b, some (eN f), c, x, y] ∧ l.foldl (fun f p => f * p.2.1 + p.1) f = stNum w.vs s ∧ ∀ p ∈ l, p.2 ∈ w.vs)
    ?_ ?_ _ _ _ ⟨rfl, 0, _, _, _, _, _, rfl, rfl, fun p hp => ?_⟩
  · rintro p as ρ S' nx ⟨rfl, f, a, b, c, x, y, rfl, e, hm⟩ hnx
    walk_at "dsem"
    refine ⟨?_, ?_⟩
    · have := (h1.sz p.2 (hm p List.mem_cons_self)).2
      exact .inr ⟨by omega, by omega⟩
    · exact hnx _ _ ⟨rfl, f * p.2.1 + p.1, _, _, _, _, _, rfl, e, fun q hq => hm q (List.mem_cons_of_mem _ hq)⟩
  · rintro ρ S' ⟨rfl, f, a, b, c, x, y, rfl, e, hm⟩
    walk_at "dsem"
    rw [List.foldl_nil] at e
    rw [e]
    exact h
  · exact (List.of_mem_zip hp).2
theorem bestE {f : Int → Int → Int} : ∀ {l : List Int}, l ≠ [] → ∃ n ns, l = n :: ns ∧ (match l with | [] => 0 | n :: ns => ns.foldl f n) = ns.foldl f n
  | [], h => absurd rfl h
  | n :: ns, _ => ⟨n, ns, rfl, rfl⟩
abbrev s_result : Stmt := topS 9
abbrev N_result : List Str := ["world", "state", "word", "parts", "entries", "table", "value"]
abbrev P_result : List Str := ["world", "state"]
theorem sc_result : FnScope N_result P_result (defScope s_result) := ⟨rfl, rfl, rfl, by decide +kernel, rfl, by decide +kernel, by decide +kernel⟩
theorem ok_result {f : Addr} {fd : FuncData} (F : Fun K "result" "result" s_result f fd) (T : Tx K mg) (F_state_number : Fk P w K mg base "state_number" 1 P_state_number (spOf K TT sp_state_number)) : FnOk P w K mg base CX0 2 f fd P_result (spOf K TT sp_result) := by
  refine fun_okD (k := 1) F sc_result len_result fun cdv A outer s H E hr => ?_
  have hu := hr.units
  have hu1 := hu_of hr
  have hu65 := hu65_of hr
  refine ⟨_, (pss_cons (ps_asg (pe_ix (ixK (K := K) rfl) (pv 0) pe_int (fun _ _ => rfl)) (tgK 2 (K := K) rfl rfl (pgs_cons (pg_name (i := 2) sc_result.nd rfl (by first | exact Or.inl rfl | exact Or.inr rfl)) (pgs_cons (pg_name (i := 3) sc_result.nd rfl (by first | exact Or.inl rfl | exact Or.inr rfl)) pgs_nil))))
    (pss_cons (ps_if (pt_cmpR (eqK (K := K) rfl hu) (pv 2) (pe_globS (by rfl) T.g_TABLE) (nomark _)) (pss_one (ps_ret (pe_ix (ixK (K := K) rfl) (pv 3) (pe_callF F_state_number (hr.mono (by decide)) (by rfl) (pa_cons (pv 0) (pa_cons (pv 1) pa_nil))) (fun _ _ => rfl)))) pss_nil)
    (pss_cons (ps_setLcV (vs := [5, 6]) (i := 4) [("table", 5), ("value", 6)] rfl sc_result.nd rfl rfl (sw_true rfl rfl rfl (by decide +kernel)) (zipK (K := K) rfl (by rfl) T.nb_zip (pa_cons (pv 3) (pa_cons (pv 1) pa_nil))) (show blkC N_result (defScope s_result) _ [("table", 5), ("value", 6)] = true by decide +kernel) rfl (fun _ _ _ _ _ => (tgK 2 (K := K) rfl rfl (pgs_cons (pg_name (i := 5) sc_result.nd rfl (by first | exact Or.inl rfl | exact Or.inr rfl)) (pgs_cons (pg_name (i := 6) sc_result.nd rfl (by first | exact Or.inl rfl | exact Or.inr rfl)) pgs_nil)))) (fun _ _ _ _ _ => pts_nil) (fun _ _ _ _ _ => (pe_ix (ixK (K := K) rfl) (pv 5) (pv 6) (fun _ _ => rfl))))
    (pss_cons (ps_if (pt_cmpR (eqK (K := K) rfl hu) (pv 2) (pe_globS (by rfl) T.g_SUM) (nomark _)) (pss_one (ps_ret (pe_callB (sumK (K := K) rfl rfl) (by rfl) T.nb_sum (by decide +kernel) (pa_cons (pv 4) pa_nil)))) pss_nil)
    (pss_one (ps_ret (pe_ifExp (pt_cmpR (eqK (K := K) rfl hu) (pv 2) (pe_globS (by rfl) T.g_GREATEST) (nomark _)) (pe_callB (maxK (K := K) rfl rfl hu) (by rfl) T.nb_max (by decide +kernel) (pa_cons (pv 4) pa_nil)) (pe_callB (minK (K := K) rfl rfl hu) (by rfl) T.nb_min (by decide +kernel) (pa_cons (pv 4) pa_nil))))))))), ?_⟩
  try dsimp only [cxOf]
  refine ex_snd ?_
  intro ds S Qd h
  obtain ⟨w, s, rfl, h1, h2, h⟩ := h
  walk_at "dsem"
  have rows : ∀ (r : List (List Int)), (r.length = w.vs.length ∧ ∀ i, i < w.vs.length → (r.getD i []).length = (vr w.vs i).1) → ∀ p ∈ r.zip s, p.1[p.2]? = some (p.1.getD p.2 0) := fun r hr p hp => by
    obtain ⟨i, e1, e2⟩ := zip_mem hp
    have hi := (List.getElem?_eq_some_iff.mp e1).1
    have a := hr.2 i (by omega)
    have b := h2.2 i (by omega)
    rw [List.getD_eq_getElem?_getD, e1] at a
    rw [nth_get (by rw [h2.1]; omega)] at e2
    rw [Option.some.inj e2] at b
    rw [Option.getD_some] at a
    have hp2 : p.2 < p.1.length := by omega
    rw [List.getElem?_eq_getElem hp2]
    simp [hp2]
  have run : ∀ (r : List (List Int)) (Q : D → Nat → Prop) (ρ : DEnv), (r.length = w.vs.length ∧ ∀ i, i < w.vs.length → (r.getD i []).length = (vr w.vs i).1) → ρ.length = 7 → Q (.lst ((ents r s).map D.int)) S →
      lcD (dgTup 2 (dgCons (dgName 5) (dgCons (dgName 6) dgNil))) dYes (dOp fIxX (dVar 5) (dVar 6)) ρ Q (zipD (r.map eIs) (s.map eN)) [] S := fun r Q ρ hr hρ hQ => by
    rw [zipD_map]
    refine lcD_all _ (fun p : List Int × Nat => D.int (p.1.getD p.2 0)) _ (fun p hp k1 k2 hk => ?_) (by unfold ents at hQ; rw [List.map_map] at hQ; exact hQ)
    obtain ⟨a0, a1, a2, a3, a4, a5, a6, rfl⟩ : ∃ a0 a1 a2 a3 a4 a5 a6, ρ = [a0, a1, a2, a3, a4, a5, a6] := by
      match ρ, hρ with
      | [a0, a1, a2, a3, a4, a5, a6], _ => exact ⟨_, _, _, _, _, _, _, rfl⟩
    walk_at "dsem"
    refine atD_nat ?_ hk
    rw [List.getElem?_map, rows r hr p hp] <;> rfl
  have few : ∀ r : List (List Int), r.length = w.vs.length → (zipD (r.map eIs) (s.map eN)).length < sizeLine := fun r hr => by
    rw [zipD_len, List.length_map, List.length_map]
    have := h1.few
    exact lt_line (by omega)
  have hf := h1.fn
  have nonil : ∀ r : List (List Int), r.length = w.vs.length → ents r s ≠ [] := fun r hr e => by
    have z := congrArg List.length e
    unfold ents at z
    rw [List.length_map, List.length_zip, List.length_nil] at z
    have := h1.ne
    have := h2.1
    omega
  cases hw : w.fn with
  | tab t =>
    rw [hw] at hf
    simp only [res, hw] at h
    simp only [eFn]
    walk_at "dsem"
    refine ⟨w, s, by rw [eW, hw] <;> rfl, h1, h2, ?_⟩
    walk_at "dsem"
    have hlt : stNum w.vs s < t.length := by rw [hf.1]; exact stNum_lt h2
    refine atD_nat (d := .int (t.getD (stNum w.vs s) 0)) ?_ h
    rw [List.getElem?_map, List.getElem?_eq_getElem hlt]
    simp [hlt]
  | sm r =>
    rw [hw] at hf
    simp only [res, hw] at h
    simp only [eFn]
    walk_at "dsem"
    rw [if_neg (by decide)]
    refine ⟨few r hf.1, run r _ _ hf rfl ?_⟩
    walk_at "dsem"
    exact ⟨_, rfl, h⟩
  | mx r =>
    rw [hw] at hf
    simp only [res, hw] at h
    simp only [eFn]
    walk_at "dsem"
    rw [if_neg (by decide)]
    refine ⟨few r hf.1, run r _ _ hf rfl ?_⟩
    walk_at "dsem"
    rw [if_neg (by decide)]
    obtain ⟨n, ns, e, e2⟩ := bestE (f := max) (nonil r hf.1)
    rw [e] at h ⊢
    exact ⟨_, _, rfl, h⟩
  | mn r =>
    rw [hw] at hf
    simp only [res, hw] at h
    simp only [eFn]
    walk_at "dsem"
    rw [if_neg (by decide)]
    refine ⟨few r hf.1, run r _ _ hf rfl ?_⟩
    walk_at "dsem"
    rw [if_neg (by decide), if_neg (by decide)]
    obtain ⟨n, ns, e, e2⟩ := bestE (f := min) (nonil r hf.1)
    rw [e] at h ⊢
    exact ⟨_, _, rfl, h⟩
end
end RS
end
section
set_option maxRecDepth 100000
namespace RS
open PySem PySem.Spec PyProof.Rows L2 DL
local macro_rules | `(tactic| walk_at "dsem") => `(tactic| simp only [dstart, dRet, dOp, dSl, dTup, dLst, dCons, dNil, dNoPart, dC, dCB, dUn, dCall, dAnd, dOr, dNot, dIf, dIsN, dNext, dSeq, dIfS, dDrop, dAsg, dgName, dFor, dYes, dLc, dLc2, dwipe, dPar, dPar3, dParT, dgTupN, setN, dLstM, dDNewM, dDisp1,
  asB_b, asI_i, asT_t, asL_l, asS_l, asS_t, zx_tt, zx_tl, ex_l, ex_t, e_test, e_andV, e_orV, e_notV, e_chain, e_gtup, e_gcons, e_gnil, e_zx, e_ex, e_seq, e_rg1, e_aug, e_get, e_part, e_inM, e_put, e_app, e_ext, e_ixM, e_lenM, e_frz, e_var, muAt_s, mdAt_s, frzAt_l, frzAt_d, vAt_s, atI_s,
  at0, at1, at2, f_repT, e_star, starX_t, f_add, f_addT, f_addL, f_mul, f_mulL, f_sub, f_mod, f_div, f_pow, f_lt, f_le, f_gt, f_ge, f_neg, f_isB, f_notB, f_eqI, f_eqS, f_eqB, f_eqT, f_eqL, f_neI, f_neS, f_neB, f_neT, f_neL, f_ixL, f_ixT, f_slL, f_slT, f_lenT, f_lenL, f_tupT, f_tupL, f_lstT, f_lstL, f_all, f_sum, f_bestL, f_bestT, f_min2, f_intB, f_sort, f_sortD, isi_ii, isi_ib, isi_tt, isi_ss, f_inT, f_inL, f_inIT, f_inIL,
  mut_int, mut_tup, mut_lst, mut_str, mut_bl, mut_non, mut_pot, mut_dct, mut_scr, isn_non, isn_int, isn_tup, isn_str,
  eN, eP, eNs, eIs, eVr, eW, eR, ePl, eCor, eXc, eEv_r, eEv_s, eFn_t, eFn_s, eFn_x, eFn_n, eSt_n, eSt_s, ev_ne, ev_eq, mut_ev, isi_ev, e_ir3, e_ir1, ir3_i, ir1_i,
  List.map_cons, List.map_nil, List.length_cons, List.length_nil, List.replicate, List.append_nil, List.nil_append, List.cons_append, List.set_cons_zero, List.set_cons_succ, List.getElem?_cons_zero, List.getElem?_cons_succ, List.getElem?_nil, List.zip_cons_cons, List.zip_nil_left, List.foldl_cons, List.foldl_nil, Nat.reduceAdd, Nat.reduceSub, Nat.reduceLeDiff, true_and, and_true, decide_true, if_true, if_false, Bool.false_eq_true, Bool.not_true, Bool.not_false])
/-! ### readskew.reach, readskew.corners -/
/-- a list of values that holds where a variable may begin and goes with its steps -/
def Clo (v : Vr) (ob : Option Nat) (ns : List Nat) : Prop := (∀ b, ob = some b → b ∈ ns) ∧ (ob = none → ∀ x, x < v.1 → x ∈ ns) ∧ (∀ p ∈ v.2, p.1 ∈ ns → p.2 ∈ ns) ∧ ns.length ≤ 16
def OkV (v : Vr) : Prop := (1 ≤ v.1 ∧ v.1 ≤ 4) ∧ v.2.length ≤ 16 ∧ ∀ p ∈ v.2, p.1 < v.1 ∧ p.2 < v.1 ∧ p.1 ≠ p.2
def bgn (w : Wd) (i : Nat) : Option Nat := w.st.map fun s => nth s i
def Reach (w : Wd) (s : List Nat) : Prop := ∀ i, i < w.vs.length → ∀ ns, Clo (vr w.vs i) (bgn w i) ns → nth s i ∈ ns
structure OkCor (w : Wd) (c : Cor) : Prop where
  s : OkS w.vs c.1
  r : Reach w c.1
  a : c.2.1.1 < w.vs.length ∧ (nth c.1 c.2.1.1, c.2.1.2) ∈ (vr w.vs c.2.1.1).2
  b : c.2.2.1 < w.vs.length ∧ (nth c.1 c.2.2.1, c.2.2.2) ∈ (vr w.vs c.2.2.1).2
  ne : c.2.1.1 ≠ c.2.2.1
def sp_causes_from : DSp := fun ds S Q => ∃ v b, ds = [eVr v, eN b] ∧ OkV v ∧ b < v.1 ∧ ∀ kvs : List (Int × D), (∃ ns : List Nat, kvs.map (·.1) = ns.map Int.ofNat ∧ Clo v (some b) ns) → Q (.dct kvs) S
theorem len_causes_from : ∀ ds S Qd, sp_causes_from ds S Qd → ds.length = 2 := fun ds S Q ⟨d, _, h, _⟩ => by rw [h] <;> rfl
def eON : Option Nat → D
  | none => .non
  | some n => eN n
def sp_begins : DSp := fun ds S Q => ∃ w, ds = [eW w] ∧ OkW w ∧ Q (.tup ((List.range w.vs.length).map fun i => eON (bgn w i))) S
theorem len_begins : ∀ ds S Qd, sp_begins ds S Qd → ds.length = 1 := fun ds S Q ⟨_, h, _⟩ => by rw [h] <;> rfl
def sp_values_from : DSp := fun ds S Q => ∃ v ob, ds = [eVr v, eON ob] ∧ OkV v ∧ (∀ b, ob = some b → b < v.1) ∧ ∀ ns, Clo v ob ns → Q (eNs ns) S
theorem len_values_from : ∀ ds S Qd, sp_values_from ds S Qd → ds.length = 2 := fun ds S Q ⟨d, _, h, _⟩ => by rw [h] <;> rfl
def sp_reachable : DSp := fun ds S Q => ∃ w, ds = [eW w] ∧ OkW w ∧ ∀ nss : List (List Nat), nss.length = w.vs.length → (∀ i, i < w.vs.length → Clo (vr w.vs i) (bgn w i) (nss.getD i [])) → Q (.tup (nss.map eNs)) S
theorem len_reachable : ∀ ds S Qd, sp_reachable ds S Qd → ds.length = 1 := fun ds S Q ⟨_, h, _⟩ => by rw [h] <;> rfl
def sp_accepts : DSp := fun ds S Q => ∃ m x ys, ds = [.str (eMd m), .int x, eIs ys] ∧ ys ≠ [] ∧ Q (.bl (acc m x ys)) S
theorem len_accepts : ∀ ds S Qd, sp_accepts ds S Qd → ds.length = 3 := fun ds S Q ⟨d, _, _, h, _⟩ => by rw [h] <;> rfl
def sp_changed : DSp := fun ds S Q => ∃ s i x, ds = [eNs s, eN i, eN x] ∧ i < s.length ∧ s.length ≤ 40 ∧ Q (eNs (s.set i x)) S
theorem len_changed : ∀ ds S Qd, sp_changed ds S Qd → ds.length = 3 := fun ds S Q ⟨d, _, _, h, _⟩ => by rw [h] <;> rfl
def sp_is_part : DSp := fun ds S Q => ∃ w s p, ds = [eW w, eNs s, eP p] ∧ OkW w ∧ OkS w.vs s ∧ (p.1 < w.vs.length ∧ (nth s p.1, p.2) ∈ (vr w.vs p.1).2) ∧ Q (.bl true) S
theorem len_is_part : ∀ ds S Qd, sp_is_part ds S Qd → ds.length = 3 := fun ds S Q ⟨d, _, _, h, _⟩ => by rw [h] <;> rfl
def sp_is_corner : DSp := fun ds S Q => ∃ w c, ds = [eW w, eCor c] ∧ OkW w ∧ OkCor w c ∧ Q (.bl true) S
theorem len_is_corner : ∀ ds S Qd, sp_is_corner ds S Qd → ds.length = 2 := fun ds S Q ⟨d, _, h, _⟩ => by rw [h] <;> rfl
def sp_corner_results : DSp := fun ds S Q => ∃ w c, ds = [eW w, eCor c] ∧ OkW w ∧ OkCor w c ∧ Q (eIs (corRes w c)) S
theorem len_corner_results : ∀ ds S Qd, sp_corner_results ds S Qd → ds.length = 2 := fun ds S Q ⟨d, _, h, _⟩ => by rw [h] <;> rfl
def sp_holds : DSp := fun ds S Q => ∃ w m c, ds = [eW w, .str (eMd m), eCor c] ∧ OkW w ∧ OkCor w c ∧ Q (.bl (hld w m c)) S
theorem len_holds : ∀ ds S Qd, sp_holds ds S Qd → ds.length = 3 := fun ds S Q ⟨d, _, _, h, _⟩ => by rw [h] <;> rfl
theorem map_snoc {α β : Type} (f : α → β) (l : List α) (a : α) : (l ++ [a]).map f = l.map f ++ [f a] := by simp
theorem nodup_lt : ∀ (n : Nat) (l : List Nat), l.Nodup → (∀ a ∈ l, a < n) → l.length ≤ n
  | 0, l, _, h => by
    cases l with
    | nil => simp
    | cons a l => exact absurd (h a List.mem_cons_self) (by omega)
  | n + 1, l, nd, h => by
    have ih := nodup_lt n (l.erase n) (nd.erase n) fun a ha => by
      have h1 := h a (List.mem_of_mem_erase ha)
      have h2 : a ≠ n := fun e => by
        subst e
        exact (List.Nodup.not_mem_erase nd) ha
      omega
    by_cases hn : n ∈ l
    · rw [List.length_erase_of_mem hn] at ih
      omega
    · rw [List.erase_of_not_mem hn] at ih
      omega
theorem getD_some (kvs : List (Int × D)) (k : Int) : (getD' kvs k).isSome = decide (k ∈ kvs.map (·.1)) := by
  unfold getD'
  induction kvs with
  | nil => simp
  | cons p l ih =>
    rw [List.find?_cons, List.map_cons]
    by_cases h : p.1 = k
    · rw [decide_eq_true h]
      simp [h]
    · rw [decide_eq_false h]
      simp only [ih]
      simp [Ne.symm h]
theorem putD_new {kvs : List (Int × D)} {k : Int} {v : D} (h : k ∉ kvs.map (·.1)) : putD kvs k v = kvs ++ [(k, v)] := by
  unfold putD
  rw [if_neg]
  intro z
  obtain ⟨p, hp, e⟩ := List.any_eq_true.mp z
  exact h (List.mem_map.mpr ⟨p, hp, of_decide_eq_true e⟩)
theorem mem_ofNat {k : Nat} {ns : List Nat} : (k : Int) ∈ ns.map Int.ofNat ↔ k ∈ ns := by
  rw [List.mem_map]
  constructor
  · rintro ⟨a, h, e⟩
    have : a = k := Int.ofNat.inj e
    subst this
    exact h
  · intro h
    exact ⟨k, h, rfl⟩
theorem eqe_P : EqE eP 1 := EqE.pair eqe_nat eqe_nat
theorem eqe_Ns : EqE eNs 1 := EqE.tup eqe_nat
theorem sh_all {α : Type} [DecidableEq α] {e : α → D} {k : Nat} (h : EqE e k) (l : List α) : ∀ x ∈ l.map e, Sh k x := fun x hx => by
  obtain ⟨a, _, rfl⟩ := List.mem_map.mp hx
  exact h.sh a
theorem in_of {α : Type} [DecidableEq α] {e : α → D} {k : Nat} (h : EqE e k) (hk : k ≤ 60) (neg : Bool) (a : α) (l : List α) {q : D → Prop} (w : q (.bl (if neg then !decide (a ∈ l) else decide (a ∈ l)))) : fInX neg (e a) (.tup (l.map e)) q := by
  rw [f_inT, inD_map h]
  exact ⟨⟨(h.sh a).ok (by omega), (sh_lst (sh_all h l)).ok (by omega)⟩, w⟩
theorem okv_of {w : Wd} (h : OkW w) {i : Nat} (hi : i < w.vs.length) : OkV (vr w.vs i) := by
  have hm : vr w.vs i ∈ w.vs := List.mem_of_getElem? (vr_get hi)
  exact ⟨h.sz _ hm, (h.stp _ hm).1, (h.stp _ hm).2⟩
theorem bgn_lt {w : Wd} (h : OkW w) {i : Nat} (hi : i < w.vs.length) {b : Nat} (e : bgn w i = some b) : b < (vr w.vs i).1 := by
  unfold bgn at e
  cases hs : w.st with
  | none => rw [hs] at e; cases e
  | some s =>
    rw [hs] at e
    have e : some (nth s i) = some b := e
    rw [← Option.some.inj e]
    exact (h.st s hs).2 i hi
theorem at_vr {vs : List Vr} {i : Nat} (h : i < vs.length) {q : D → Prop} (w : q (eVr (vr vs i))) : atD (vs.map eVr) (i : Int) q := atD_nat (by rw [List.getElem?_map, vr_get h] <;> rfl) w
theorem at_nth {s : List Nat} {i : Nat} (h : i < s.length) {q : D → Prop} (w : q (eN (nth s i))) : atD (s.map eN) (i : Int) q := atD_nat (by rw [List.getElem?_map, nth_get h] <;> rfl) w
theorem oks_set {vs : List Vr} {s : List Nat} {i v : Nat} (h : OkS vs s) (hi : i < vs.length) (hv : v < (vr vs i).1) : OkS vs (s.set i v) := by
  refine ⟨by rw [List.length_set, h.1], fun j hj => ?_⟩
  by_cases e : i = j
  · subst e
    have hi2 : i < s.length := by rw [h.1]; exact hi
    simp [hi2]
    simpa using hv
  · have := h.2 j hj
    simpa [e] using this
section
variable {P : Program} {w : World} {K : PySem.W.Frag} {mg : Str → Option Value} {base : Heap} {TT : Tb}
abbrev s_causes_from : Stmt := topS 11
abbrev N_causes_from : List Str := ["variable", "begin", "causes", "waiting", "at", "old", "new"]
abbrev P_causes_from : List Str := ["variable", "begin"]
theorem sc_causes_from : FnScope N_causes_from P_causes_from (defScope s_causes_from) := ⟨rfl, rfl, rfl, by decide +kernel, rfl, by decide +kernel, by decide +kernel⟩
theorem ok_causes_from {f : Addr} {fd : FuncData} (F : Fun K "causes_from" "causes_from" s_causes_from f fd) (T : Tx K mg) : FnOk P w K mg base CX0 1 f fd P_causes_from (spOf K TT sp_causes_from) := by
  refine fun_okD (k := 0) F sc_causes_from len_causes_from fun cdv A outer s H E hr => ?_
  have hu := hr.units
  have hu1 := hu_of hr
  have hu65 := hu65_of hr
  refine ⟨_, (pss_cons (ps_par3 (i := 2) (j := 3) (l := 4) rfl sc_causes_from.nd rfl rfl rfl (by decide) (by decide) (by decide) rfl rfl rfl (pa_cons (pe_dispM (pps_cons (pv 1) pe_non pps_nil) (by rfl) (by rfl) (fun z => by cases z) (by decide)) (pa_cons (pe_lstM (pa_cons (pv 1) pa_nil)) (pa_cons pe_int pa_nil))) (by rfl))
    (pss_cons (ps_while PassesOwn.never (pt_cmpR op_lt (pv 4) (pe_callB (lenK (K := K) rfl) (by rfl) T.nb_len (by decide +kernel) (pa_cons (pvM 3) pa_nil)) (nomark _))
      (pss_cons (ps_for PassesOwn.never rfl (seqK (K := K) rfl (pe_ix (ixK (K := K) rfl) (pv 0) pe_int (fun _ _ => rfl))) (tgK 2 (K := K) rfl rfl (pgs_cons (pg_name (i := 5) sc_causes_from.nd rfl (by first | exact Or.inl rfl | exact Or.inr rfl)) (pgs_cons (pg_name (i := 6) sc_causes_from.nd rfl (by first | exact Or.inl rfl | exact Or.inr rfl)) pgs_nil)))
      (pss_one (ps_if (PW.pt (pw_and (pt_cmpR (eqK (K := K) rfl hu) (pv 5) (pe_ix (ixK (K := K) rfl) (pvM 3) (pv 4) (fun _ _ => rfl)) (nomark _)) (pw_and1 (pt_cmp (pc_dnotin hu1 (pv 6) (pvM 2)) (by rfl))))) (pss_cons (ps_dput hu1 (pvM 2) (pv 6) (pv 5) rfl)
    (pss_one (ps_expr (pe_bm PySem.F.plainAttrs_list PySem.F.slot_list_append PySem.F.type_list_append mt_append (pvM 3) (pa_cons (pv 6) pa_nil))))) pss_nil)))
    (pss_one (ps_aug (i := 4) sc_causes_from.nd rfl (by first | exact Or.inl rfl | exact Or.inr rfl) pe_int ip_add))))
    (pss_frz 2 (pss_frz 3 (pss_one (ps_ret (pv 2))))))), ?_⟩
  try dsimp only [cxOf]
  refine ex_snd ?_
  intro ds S Qd h
  obtain ⟨v, b, rfl, h1, h2, h⟩ := h
  walk_at "dsem"
  refine ⟨fun k ρ S' => S' = S ∧ ∃ (ws : List Nat) (kvs : List (Int × D)) (n : Nat) (x y : Option D), ρ = [some (D.tup [D.int ↑v.fst, D.tup (List.map eP v.snd)]), some (D.int ↑b), some (.md kvs), some (.mu (ws.map eN)), some (.int (n : Int)), x, y] ∧ k = v.1 - n ∧ n ≤ ws.length ∧ ws.Nodup ∧ (∀ a ∈ ws, a < v.1) ∧
      kvs.map (·.1) = ws.map Int.ofNat ∧ b ∈ ws ∧ ∀ (j a : Nat), j < n → ws[j]? = some a → ∀ p ∈ v.2, p.1 = a → p.2 ∈ ws,
    ⟨v.1, rfl, [b], [(↑b, .non)], 0, none, none, rfl, rfl, by simp, by simp, fun a ha => by rw [List.mem_singleton.mp ha]; exact h2, rfl, by simp, fun j a hj => absurd hj (by omega)⟩, ?_⟩
  rintro k ρ S' ⟨rfl, ws, kvs, n, x, y, rfl, rfl, hn, nd, hlt, hk, hb, hd⟩
  walk_at "dsem"
  have hle := nodup_lt v.1 ws nd hlt
  have hv := h1.1
  by_cases hc : n < ws.length
  · rw [List.length_map, if_pos (decide_eq_true (by omega))]
    intro _
    obtain ⟨a, ha⟩ : ∃ a, ws[n]? = some a := ⟨_, List.getElem?_eq_getElem hc⟩
    refine forD_ind eP (fun ps ρ S'' => S'' = S' ∧ ∃ (us : List Nat) (kvs : List (Int × D)) (x y : Option D), ρ = [some (D.tup [D.int ↑v.fst, D.tup (List.map eP v.snd)]), some (D.int ↑b), some (.md kvs), some (.mu ((ws ++ us).map eN)), some (.int (n : Int)), x, y] ∧ (ws ++ us).Nodup ∧ (∀ a ∈ ws ++ us, a < v.1) ∧
      kvs.map (·.1) = (ws ++ us).map Int.ofNat ∧ (∀ p ∈ v.2, p.1 = a → p.2 ∈ ws ++ us ∨ p ∈ ps) ∧ ∀ p ∈ ps, p ∈ v.2) ?_ ?_ _ _ _ ⟨rfl, [], kvs, x, y, by rw [List.append_nil], by rw [List.append_nil]; exact nd, by rw [List.append_nil]; exact hlt, by rw [List.append_nil]; exact hk, fun p hp _ => .inr hp, fun p hp => hp⟩
    · rintro p ps ρ S'' nx ⟨rfl, us, kvs, x, y, rfl, nd, hlt, hk, hp, hm⟩ hnx
      have hla : (ws ++ us)[n]? = some a := by rw [List.getElem?_append_left hc]; exact ha
      have hpv := hm p List.mem_cons_self
      have stay : (p.1 = a → p.2 ∈ ws ++ us) → ∀ (x y : Option D), nx [some (D.tup [D.int ↑v.fst, D.tup (List.map eP v.snd)]), some (D.int ↑b), some (.md kvs), some (.mu ((ws ++ us).map eN)), some (.int (n : Int)), x, y] S'' := fun hin x y => by
        refine hnx _ _ ⟨rfl, us, kvs, x, y, rfl, nd, hlt, hk, fun r hr e => ?_, fun r hr => hm r (List.mem_cons_of_mem _ hr)⟩
        rcases hp r hr e with z | z
        · exact .inl z
        · rcases List.mem_cons.mp z with z | z
          · subst z; exact .inl (hin e)
          · exact .inr z
      walk_at "dsem"
      refine atD_nat (by rw [List.getElem?_map, hla] <;> rfl) ?_
      walk_at "dsem"
      by_cases e1 : p.1 = a
      · rw [decide_eq_true (by omega)]
        walk_at "dsem"
        rw [getD_some, hk]
        by_cases e2 : p.2 ∈ ws ++ us
        · rw [decide_eq_true (mem_ofNat.mpr e2)]
          walk_at "dsem"
          exact stay (fun _ => e2) _ _
        · have e3 : (p.2 : Int) ∉ (ws ++ us).map Int.ofNat := fun z => e2 (mem_ofNat.mp z)
          rw [decide_eq_false e3]
          walk_at "dsem"
          have hlen := nodup_lt v.1 _ nd hlt
          have hkl : kvs.length = (ws ++ us).length := by
            have := congrArg List.length hk
            rwa [List.length_map, List.length_map] at this
          refine ⟨by omega, by rw [List.length_map]; omega, hnx _ _ ⟨rfl, us ++ [p.2], kvs ++ [((p.2 : Int), D.int (p.1 : Int))], some (D.int (p.1 : Int)), some (D.int (p.2 : Int)), ?_, ?_, fun r hr => ?_, ?_, fun r hr e => ?_, fun r hr => hm r (List.mem_cons_of_mem _ hr)⟩⟩
          · rw [putD_new (by rw [hk]; exact e3), ← List.append_assoc, map_snoc eN] <;> rfl
          · rw [← List.append_assoc]
            exact List.nodup_append.mpr ⟨nd, by simp, fun r hr q hq e => by
              rw [List.mem_singleton.mp hq] at e
              subst e
              exact e2 hr⟩
          · rw [← List.append_assoc] at hr
            rcases List.mem_append.mp hr with z | z
            · exact hlt r z
            · rw [List.mem_singleton.mp z]
              exact (h1.2.2 p hpv).2.1
          · rw [map_snoc, hk, ← List.append_assoc, map_snoc Int.ofNat] <;> rfl
          · rw [← List.append_assoc]
            rcases hp r hr e with z | z
            · exact .inl (List.mem_append_left _ z)
            · rcases List.mem_cons.mp z with z | z
              · subst z; exact .inl (List.mem_append_right _ (by simp))
              · exact .inr z
      · rw [decide_eq_false (by omega)]
        walk_at "dsem"
        exact stay (fun e => absurd e e1) _ _
    · rintro ρ S'' ⟨rfl, us, kvs, x, y, rfl, nd, hlt, hk, hp, _⟩
      walk_at "dsem"
      refine ⟨v.1 - (n + 1), by omega, ws ++ us, kvs, n + 1, x, y, rfl, rfl, by rw [List.length_append]; omega, nd, hlt, hk, List.mem_append_left _ hb, fun j c hj hc' r hr e => ?_⟩
      by_cases ej : j = n
      · subst ej
        rw [List.getElem?_append_left hc, ha] at hc'
        cases hc'
        rcases hp r hr e with z | z
        · exact z
        · simp at z
      · rw [List.getElem?_append_left (by omega)] at hc'
        exact List.mem_append_left _ (hd j c (by omega) hc' r hr e)
  · rw [List.length_map, if_neg (by rw [decide_eq_true_eq]; omega)]
    refine h kvs ⟨ws, hk, fun c e => by cases e; exact hb, fun e => (by cases e), fun p hp hm => ?_, by omega⟩
    obtain ⟨j, hj, e⟩ := List.mem_iff_getElem.mp hm
    exact hd j p.1 (by omega) (by rw [List.getElem?_eq_getElem hj, e]) p hp rfl
abbrev s_begins : Stmt := topS 12
abbrev N_begins : List Str := ["world"]
abbrev P_begins : List Str := ["world"]
theorem sc_begins : FnScope N_begins P_begins (defScope s_begins) := ⟨rfl, rfl, rfl, by decide +kernel, rfl, by decide +kernel, by decide +kernel⟩
theorem ok_begins {f : Addr} {fd : FuncData} (F : Fun K "begins" "begins" s_begins f fd) (T : Tx K mg) : FnOk P w K mg base CX0 1 f fd P_begins (spOf K TT sp_begins) := by
  refine fun_okD (k := 0) F sc_begins len_begins fun cdv A outer s H E hr => ?_
  have hu := hr.units
  have hu1 := hu_of hr
  have hu65 := hu65_of hr
  refine ⟨_, (pss_one (ps_ret (pe_ifExp (pt_cmp (pc_isN (pe_ix (ixK (K := K) rfl) (pv 0) pe_int (fun _ _ => rfl))) (by rfl)) (pe_op (repTK (K := K) rfl) (pe_tup (pa_cons pe_non pa_nil)) (pe_callB (lenK (K := K) rfl) (by rfl) T.nb_len (by decide +kernel) (pa_cons (pe_ix (ixK (K := K) rfl) (pv 0) pe_int (fun _ _ => rfl)) pa_nil))) (pe_ix (ixK (K := K) rfl) (pv 0) pe_int (fun _ _ => rfl))))), ?_⟩
  try dsimp only [cxOf]
  refine ex_snd ?_
  intro ds S Qd h
  obtain ⟨w, rfl, h1, h⟩ := h
  walk_at "dsem"
  have h2 := h1.ne
  have h3 := h1.few
  cases hs : w.st with
  | none =>
    rw [show eSt (none : Option (List Nat)) = D.non from rfl]
    walk_at "dsem"
    rw [List.length_map]
    refine ⟨by omega, ?_⟩
    have e : (List.range w.vs.length).map (fun i => eON (bgn w i)) = List.replicate ((w.vs.length : Nat) : Int).toNat D.non := by
      rw [List.eq_replicate_iff]
      refine ⟨by rw [List.length_map, List.length_range]; omega, fun d hd => ?_⟩
      obtain ⟨i, _, rfl⟩ := List.mem_map.mp hd
      unfold bgn
      rw [hs] <;> rfl
    rw [e] at h
    exact h
  | some s =>
    have hok := h1.st s hs
    have e : (List.range w.vs.length).map (fun i => eON (bgn w i)) = s.map eN := by
      apply List.ext_getElem?
      intro i
      rw [List.getElem?_map, List.getElem?_map]
      by_cases hi : i < w.vs.length
      · rw [List.getElem?_range hi, nth_get (by rw [hok.1]; exact hi)]
        unfold bgn
        rw [hs] <;> rfl
      · rw [List.getElem?_eq_none (by rw [List.length_range]; omega), List.getElem?_eq_none (by rw [hok.1]; omega)] <;> rfl
    rw [e] at h
    rw [show eSt (some s) = D.tup (s.map eN) from rfl]
    walk_at "dsem"
    exact h
abbrev s_values_from : Stmt := topS 13
abbrev N_values_from : List Str := ["variable", "begin"]
abbrev P_values_from : List Str := ["variable", "begin"]
theorem sc_values_from : FnScope N_values_from P_values_from (defScope s_values_from) := ⟨rfl, rfl, rfl, by decide +kernel, rfl, by decide +kernel, by decide +kernel⟩
theorem ok_values_from {f : Addr} {fd : FuncData} (F : Fun K "values_from" "values_from" s_values_from f fd) (T : Tx K mg) (F_causes_from : Fk P w K mg base "causes_from" 1 P_causes_from (spOf K TT sp_causes_from)) : FnOk P w K mg base CX0 2 f fd P_values_from (spOf K TT sp_values_from) := by
  refine fun_okD (k := 1) F sc_values_from len_values_from fun cdv A outer s H E hr => ?_
  have hu := hr.units
  have hu1 := hu_of hr
  have hu65 := hu65_of hr
  refine ⟨_, (pss_one (ps_ret (pe_ifExp (pt_cmp (pc_isN (pv 1)) (by rfl)) (pe_tupRg rfl (by rfl) T.nb_tuple (prg_1 (by rfl) T.nb_range (pe_ix (ixK (K := K) rfl) (pv 0) pe_int (fun _ _ => rfl)))) (pe_callTy (tupK (K := K) rfl) (by rfl) T.nb_tuple (by decide +kernel) (pa_cons (pe_callB (sortK (K := K) rfl rfl) (by rfl) T.nb_sorted (by decide +kernel) (pa_cons (pe_callF F_causes_from (hr.mono (by decide)) (by rfl) (pa_cons (pv 0) (pa_cons (pv 1) pa_nil))) pa_nil)) pa_nil))))), ?_⟩
  try dsimp only [cxOf]
  refine ex_snd ?_
  intro ds S Qd h
  obtain ⟨v, ob, rfl, h1, h2, h⟩ := h
  walk_at "dsem"
  have hv := h1.1
  cases ob with
  | none =>
    rw [show eON none = D.non from rfl]
    walk_at "dsem"
    refine ⟨by omega, ?_⟩
    rw [rgD_map]
    exact h (List.range v.1) ⟨fun b e => (by cases e), fun _ x hx => List.mem_range.mpr hx, fun p hp _ => List.mem_range.mpr (h1.2.2 p hp).2.1, by rw [List.length_range]; omega⟩
  | some b =>
    rw [show eON (some b) = D.int b from rfl]
    walk_at "dsem"
    refine ⟨v, b, rfl, h1, h2 b rfl, fun kvs ⟨ns, hk, hc⟩ => ?_⟩
    walk_at "dsem"
    have hl : kvs.length = ns.length := by
      have := congrArg List.length hk
      rwa [List.length_map, List.length_map] at this
    have := hc.2.2.2
    refine ⟨by omega, fun ys hp _ => ?_⟩
    rw [hk] at hp
    have e1 : ys.map D.int = (ys.map Int.toNat).map eN := by
      rw [List.map_map]
      apply List.map_congr_left
      intro y hy
      obtain ⟨a, _, e⟩ := List.mem_map.mp (hp.mem_iff.mp hy)
      rw [← e] <;> rfl
    have e2 : (ys.map Int.toNat).Perm ns := by
      have := hp.map Int.toNat
      rw [List.map_map] at this
      have e3 : ns.map (Int.toNat ∘ Int.ofNat) = ns := by
        have : (Int.toNat ∘ Int.ofNat) = id := by funext x; rfl
        rw [this, List.map_id]
      rwa [e3] at this
    rw [e1]
    exact h _ ⟨fun c e => e2.mem_iff.mpr (hc.1 c e), fun e => (by cases e), fun p hp hm => e2.mem_iff.mpr (hc.2.2.1 p hp (e2.mem_iff.mp hm)), by rw [e2.length_eq]; omega⟩
abbrev s_reachable : Stmt := topS 14
abbrev N_reachable : List Str := ["world", "variable", "begin"]
abbrev P_reachable : List Str := ["world"]
theorem sc_reachable : FnScope N_reachable P_reachable (defScope s_reachable) := ⟨rfl, rfl, rfl, by decide +kernel, rfl, by decide +kernel, by decide +kernel⟩
theorem ok_reachable {f : Addr} {fd : FuncData} (F : Fun K "reachable" "reachable" s_reachable f fd) (T : Tx K mg) (F_begins : Fk P w K mg base "begins" 1 P_begins (spOf K TT sp_begins)) (F_values_from : Fk P w K mg base "values_from" 2 P_values_from (spOf K TT sp_values_from)) : FnOk P w K mg base CX0 3 f fd P_reachable (spOf K TT sp_reachable) := by
  refine fun_okD (k := 2) F sc_reachable len_reachable fun cdv A outer s H E hr => ?_
  have hu := hr.units
  have hu1 := hu_of hr
  have hu65 := hu65_of hr
  refine ⟨_, (pss_one (ps_ret (pe_callTy (tupK (K := K) rfl) (by rfl) T.nb_tuple (by decide +kernel) (pa_cons (pe_lcV (vs := [1, 2]) [("variable", 1), ("begin", 2)] rfl sc_reachable.nd (zipK (K := K) rfl (by rfl) T.nb_zip (pa_cons (pe_ix (ixK (K := K) rfl) (pv 0) pe_int (fun _ _ => rfl)) (pa_cons (pe_callF F_begins (hr.mono (by decide)) (by rfl) (pa_cons (pv 0) pa_nil)) pa_nil))) (show blkC N_reachable (defScope s_reachable) _ [("variable", 1), ("begin", 2)] = true by decide +kernel) rfl (fun _ _ _ _ _ => (tgK 2 (K := K) rfl rfl (pgs_cons (pg_name (i := 1) sc_reachable.nd rfl (by first | exact Or.inl rfl | exact Or.inr rfl)) (pgs_cons (pg_name (i := 2) sc_reachable.nd rfl (by first | exact Or.inl rfl | exact Or.inr rfl)) pgs_nil)))) (fun _ _ _ _ _ => pts_nil) (fun _ _ _ _ _ => (pe_callF F_values_from (hr.mono (by decide)) (by rfl) (pa_cons (pv 1) (pa_cons (pv 2) pa_nil))))) pa_nil)))), ?_⟩
  try dsimp only [cxOf]
  refine ex_snd ?_
  intro ds S Qd h
  obtain ⟨w, rfl, h1, h⟩ := h
  walk_at "dsem"
  refine ⟨w, rfl, h1, ?_⟩
  walk_at "dsem"
  have e : w.vs.map eVr = (List.range w.vs.length).map fun i => eVr (vr w.vs i) := by
    apply List.ext_getElem?
    intro i
    rw [List.getElem?_map, List.getElem?_map]
    by_cases hi : i < w.vs.length
    · rw [List.getElem?_range hi, vr_get hi] <;> rfl
    · rw [List.getElem?_eq_none (by omega), List.getElem?_eq_none (by rw [List.length_range]; omega)] <;> rfl
  have ez : zipD (w.vs.map eVr) ((List.range w.vs.length).map fun i => eON (bgn w i)) = (List.range w.vs.length).map fun i => D.tup [eVr (vr w.vs i), eON (bgn w i)] := by
    have go : ∀ (l : List Nat) (f g : Nat → D), zipD (l.map f) (l.map g) = l.map fun i => D.tup [f i, g i] := by
      intro l f g
      induction l with
      | nil => rfl
      | cons a l ih => rw [List.map_cons, List.map_cons, List.map_cons, zipD, ih]
    rw [e]
    exact go _ _ _
  rw [ez, List.length_map, List.length_range]
  have := h1.few
  refine ⟨lt_line (by omega), ?_⟩
  refine lcD_ind _ (fun is acc S' => S' = S ∧ ∃ nss : List (List Nat), acc = nss.map eNs ∧ is = (List.range w.vs.length).drop nss.length ∧ nss.length ≤ w.vs.length ∧ ∀ i, i < nss.length → Clo (vr w.vs i) (bgn w i) (nss.getD i [])) ?_ ?_ _ _ _ ⟨rfl, [], rfl, rfl, by simp, fun i hi => absurd hi (by simp)⟩
  · rintro i is acc S' k1 k2 ⟨rfl, nss, rfl, hi, hle, hc⟩ g1 g2
    have hlt : nss.length < w.vs.length := by
      have := congrArg List.length hi
      rw [List.length_drop, List.length_range, List.length_cons] at this
      omega
    have hi2 : i = nss.length ∧ is = (List.range w.vs.length).drop (nss.length + 1) := by
      rw [List.drop_eq_getElem_cons (by rw [List.length_range]; exact hlt), List.getElem_range] at hi
      exact List.cons.inj hi
    obtain ⟨rfl, his⟩ := hi2
    walk_at "dsem"
    cases eb : bgn w nss.length with
    | none =>
      simp only [eON]
      refine ⟨rfl, vr w.vs nss.length, none, rfl, okv_of h1 hlt, fun b e => (by cases e), fun ns hns => ?_⟩
      refine g1 _ _ ⟨rfl, nss ++ [ns], by rw [List.map_append] <;> rfl, by rw [List.length_append]; exact his, by rw [List.length_append]; exact hlt, fun i hi => ?_⟩
      by_cases ei : i = nss.length
      · subst ei
        rw [eb]
        simpa using hns
      · rw [List.length_append, List.length_singleton] at hi
        have := hc i (by omega)
        rwa [List.getD_eq_getElem?_getD, List.getElem?_append_left (by omega), ← List.getD_eq_getElem?_getD]
    | some b =>
      simp only [eON]
      refine ⟨rfl, vr w.vs nss.length, some b, rfl, okv_of h1 hlt, fun c e => by cases e; exact bgn_lt h1 hlt eb, fun ns hns => ?_⟩
      refine g1 _ _ ⟨rfl, nss ++ [ns], by rw [List.map_append] <;> rfl, by rw [List.length_append]; exact his, by rw [List.length_append]; exact hlt, fun i hi => ?_⟩
      by_cases ei : i = nss.length
      · subst ei
        rw [eb]
        simpa using hns
      · rw [List.length_append, List.length_singleton] at hi
        have := hc i (by omega)
        rwa [List.getD_eq_getElem?_getD, List.getElem?_append_left (by omega), ← List.getD_eq_getElem?_getD]
  · rintro acc S' ⟨rfl, nss, rfl, hi, hle, hc⟩
    walk_at "dsem"
    have hl : nss.length = w.vs.length := by
      have := congrArg List.length hi
      rw [List.length_drop, List.length_range, List.length_nil] at this
      omega
    exact h nss hl fun i hi => hc i (by omega)
abbrev s_accepts : Stmt := topS 21
abbrev N_accepts : List Str := ["mode", "number", "values"]
abbrev P_accepts : List Str := ["mode", "number", "values"]
theorem sc_accepts : FnScope N_accepts P_accepts (defScope s_accepts) := ⟨rfl, rfl, rfl, by decide +kernel, rfl, by decide +kernel, by decide +kernel⟩
theorem ok_accepts {f : Addr} {fd : FuncData} (F : Fun K "accepts" "accepts" s_accepts f fd) (T : Tx K mg) : FnOk P w K mg base CX0 1 f fd P_accepts (spOf K TT sp_accepts) := by
  refine fun_okD (k := 0) F sc_accepts len_accepts fun cdv A outer s H E hr => ?_
  have hu := hr.units
  have hu1 := hu_of hr
  have hu65 := hu65_of hr
  refine ⟨_, (pss_cons (ps_if (pt_cmpR (eqK (K := K) rfl hu) (pv 0) (pe_globS (by rfl) T.g_EXACT) (nomark _)) (pss_one (ps_ret (pe_cmpR (inSK (K := K) rfl) (pv 1) (pv 2) (by rfl)))) pss_nil)
    (pss_one (ps_ret (pe_and (pe_or (pe_cmpR (eqK (K := K) rfl hu) (pv 0) (pe_globS (by rfl) T.g_CEILING) (nomark _)) (pe_one (pe_cmpR op_le (pe_callB (minK (K := K) rfl rfl hu) (by rfl) T.nb_min (by decide +kernel) (pa_cons (pv 2) pa_nil)) (pv 1) (nomark _)))) (pe_one (pe_or (pe_cmpR (eqK (K := K) rfl hu) (pv 0) (pe_globS (by rfl) T.g_FLOOR) (nomark _)) (pe_one (pe_cmpR op_le (pv 1) (pe_callB (maxK (K := K) rfl rfl hu) (by rfl) T.nb_max (by decide +kernel) (pa_cons (pv 2) pa_nil)) (nomark _))))))))), ?_⟩
  try dsimp only [cxOf]
  refine ex_snd ?_
  intro ds S Qd h
  obtain ⟨m, x, ys, rfl, h1, h⟩ := h
  walk_at "dsem"
  obtain ⟨n, ns, rfl⟩ : ∃ n ns, ys = n :: ns := by
    cases ys with
    | nil => exact absurd rfl h1
    | cons n ns => exact ⟨n, ns, rfl⟩
  cases m with
  | ex =>
    rw [if_pos (by decide)]
    exact ⟨_, rfl, h⟩
  | bt =>
    rw [if_neg (by decide), if_neg (by decide)]
    refine ⟨n, ns, rfl, ?_⟩
    have h : Qd (.bl (decide (List.foldl min n ns ≤ x) && decide (x ≤ List.foldl max n ns))) S := h
    by_cases e : List.foldl min n ns ≤ x
    · rw [if_pos (decide_eq_true e), if_neg (by decide)]
      rw [decide_eq_true e, Bool.true_and] at h
      exact ⟨n, ns, rfl, h⟩
    · rw [if_neg (by simpa using e)]
      rw [decide_eq_false e, Bool.false_and] at h
      exact h
  | fl =>
    rw [if_neg (by decide), if_neg (by decide)]
    refine ⟨n, ns, rfl, ?_⟩
    have h : Qd (.bl (decide (List.foldl min n ns ≤ x))) S := h
    by_cases e : List.foldl min n ns ≤ x
    · rw [if_pos (decide_eq_true e), if_pos (by decide)]
      rw [decide_eq_true e] at h
      exact h
    · rw [if_neg (by simpa using e)]
      rw [decide_eq_false e] at h
      exact h
  | ce =>
    rw [if_neg (by decide), if_pos (by decide), if_neg (by decide)]
    exact ⟨n, ns, rfl, h⟩
theorem set_cut {s : List Nat} {i x : Nat} (h : i < s.length) : DL.cutD (List.map eN s) none (some ↑i) ++ [D.int ↑x] ++ DL.cutD (List.map eN s) (some (↑i + 1)) none = (s.set i x).map eN := by
  rw [cutD_ends _ i _ (by rw [List.length_map]; exact h), List.map_set] <;> rfl
theorem set_len {s : List Nat} {i x : Nat} (h : i < s.length) : (DL.cutD (List.map eN s) none (some ↑i) ++ [D.int ↑x]).length + (DL.cutD (List.map eN s) (some (↑i + 1)) none).length = s.length := by
  have := congrArg List.length (set_cut (x := x) h)
  rw [List.length_append, List.length_map, List.length_set] at this
  exact this
abbrev s_changed : Stmt := topS 22
abbrev N_changed : List Str := ["state", "variable", "value"]
abbrev P_changed : List Str := ["state", "variable", "value"]
theorem sc_changed : FnScope N_changed P_changed (defScope s_changed) := ⟨rfl, rfl, rfl, by decide +kernel, rfl, by decide +kernel, by decide +kernel⟩
theorem ok_changed {f : Addr} {fd : FuncData} (F : Fun K "changed" "changed" s_changed f fd) (T : Tx K mg) : FnOk P w K mg base CX0 1 f fd P_changed (spOf K TT sp_changed) := by
  refine fun_okD (k := 0) F sc_changed len_changed fun cdv A outer s H E hr => ?_
  have hu := hr.units
  have hu1 := hu_of hr
  have hu65 := hu65_of hr
  refine ⟨_, (pss_one (ps_ret (pe_op (addK (K := K) rfl) (pe_op (addK (K := K) rfl) (pe_slice (slK (K := K) rfl) (pv 0) po_none (po_some (pv 1))) (pe_tup (pa_cons (pv 2) pa_nil))) (pe_slice (slK (K := K) rfl) (pv 0) (po_some (pe_op (addK (K := K) rfl) (pv 1) pe_int)) po_none)))), ?_⟩
  try dsimp only [cxOf]
  refine ex_snd ?_
  intro ds S Qd h
  obtain ⟨s, i, x, rfl, h1, h2, h⟩ := h
  walk_at "dsem"
  have hl := set_len (x := x) h1
  have hl2 : (DL.cutD (List.map eN s) none (some ↑i)).length + 1 ≤ s.length := by
    rw [List.length_append] at hl
    simp only [List.length_singleton] at hl
    omega
  refine ⟨line_of (by omega), by rw [hl]; exact line_of (by omega), ?_⟩
  rw [set_cut h1]
  exact h
abbrev s_is_part : Stmt := topS 24
abbrev N_is_part : List Str := ["world", "state", "value"]
abbrev P_is_part : List Str := ["world", "state", "value"]
theorem sc_is_part : FnScope N_is_part P_is_part (defScope s_is_part) := ⟨rfl, rfl, rfl, by decide +kernel, rfl, by decide +kernel, by decide +kernel⟩
theorem ok_is_part {f : Addr} {fd : FuncData} (F : Fun K "is_part" "is_part" s_is_part f fd) (T : Tx K mg) (F_is_integer : Fk P w K mg base "is_integer" 2 P_is_integer (spOf K TT sp_is_integer)) : FnOk P w K mg base CX0 3 f fd P_is_part (spOf K TT sp_is_part) := by
  refine fun_okD (k := 2) F sc_is_part len_is_part fun cdv A outer s H E hr => ?_
  have hu := hr.units
  have hu1 := hu_of hr
  have hu65 := hu65_of hr
  refine ⟨_, (pss_cons (ps_if (PW.pt (pw_or (pt_not (pt_val (pe_callB (isiK (K := K) rfl) (by rfl) T.nb_isinstance (by decide +kernel) (pa_cons (pv 2) (pa_cons (pe_bltn (v := V.ty "tuple") (by rfl) T.nb_tuple (by decide +kernel) rfl) pa_nil))))) (pw_or1 (pt_cmpR (neK (K := K) rfl hu) (pe_callB (lenK (K := K) rfl) (by rfl) T.nb_len (by decide +kernel) (pa_cons (pv 2) pa_nil)) (pe_globI (by rfl) T.g_PART_SIZE) (nomark _))))) (pss_one (ps_ret pe_bl)) pss_nil)
    (pss_cons (ps_if (PW.pt (pw_or (pt_not (pt_val (pe_callF F_is_integer (hr.mono (by decide)) (by rfl) (pa_cons (pe_ix (ixK (K := K) rfl) (pv 2) pe_int (fun _ _ => rfl)) (pa_cons pe_int (pa_cons (pe_op op_sub (pe_callB (lenK (K := K) rfl) (by rfl) T.nb_len (by decide +kernel) (pa_cons (pv 1) pa_nil)) pe_int) pa_nil)))))) (pw_or1 (pt_not (pt_val (pe_callF F_is_integer (hr.mono (by decide)) (by rfl) (pa_cons (pe_ix (ixK (K := K) rfl) (pv 2) pe_int (fun _ _ => rfl)) (pa_cons pe_int (pa_cons (pe_op op_sub (pe_ix (ixK (K := K) rfl) (pe_ix (ixK (K := K) rfl) (pe_ix (ixK (K := K) rfl) (pv 0) pe_int (fun _ _ => rfl)) (pe_ix (ixK (K := K) rfl) (pv 2) pe_int (fun _ _ => rfl)) (fun _ _ => rfl)) pe_int (fun _ _ => rfl)) pe_int) pa_nil))))))))) (pss_one (ps_ret pe_bl)) pss_nil)
    (pss_one (ps_ret (pe_cmpR (inK (K := K) rfl hu65) (pe_tup (pa_cons (pe_ix (ixK (K := K) rfl) (pv 1) (pe_ix (ixK (K := K) rfl) (pv 2) pe_int (fun _ _ => rfl)) (fun _ _ => rfl)) (pa_cons (pe_ix (ixK (K := K) rfl) (pv 2) pe_int (fun _ _ => rfl)) pa_nil))) (pe_ix (ixK (K := K) rfl) (pe_ix (ixK (K := K) rfl) (pe_ix (ixK (K := K) rfl) (pv 0) pe_int (fun _ _ => rfl)) (pe_ix (ixK (K := K) rfl) (pv 2) pe_int (fun _ _ => rfl)) (fun _ _ => rfl)) pe_int (fun _ _ => rfl)) (by rfl)))))), ?_⟩
  try dsimp only [cxOf]
  refine ex_snd ?_
  intro ds S Qd h
  obtain ⟨w, s, p, rfl, h1, h2, h3, h⟩ := h
  walk_at "dsem"
  have hv := okv_of h1 h3.1
  have hp := hv.2.2 _ h3.2
  rw [if_neg (by simp)]
  refine ⟨_, _, _, rfl, ?_⟩
  rw [List.length_map, decide_eq_true (by omega), decide_eq_true (by have := h2.1; omega)]
  walk_at "dsem"
  refine at_vr h3.1 ?_
  walk_at "dsem"
  refine ⟨_, _, _, rfl, ?_⟩
  rw [decide_eq_true (by omega), decide_eq_true (by have := hp.2.1; omega)]
  walk_at "dsem"
  refine at_nth (by rw [h2.1]; exact h3.1) (at_vr h3.1 ?_)
  walk_at "dsem"
  have z := in_of eqe_P (by decide) false (nth s p.1, p.2) (vr w.vs p.1).2 (q := fun d => Qd d S) (by simp only [h3.2, decide_true, if_false, Bool.false_eq_true]; exact h)
  rw [f_inT] at z
  exact z
abbrev s_is_corner : Stmt := topS 25
abbrev N_is_corner : List Str := ["world", "value", "state", "first", "second", "one", "found"]
abbrev P_is_corner : List Str := ["world", "value"]
theorem sc_is_corner : FnScope N_is_corner P_is_corner (defScope s_is_corner) := ⟨rfl, rfl, rfl, by decide +kernel, rfl, by decide +kernel, by decide +kernel⟩
theorem ok_is_corner {f : Addr} {fd : FuncData} (F : Fun K "is_corner" "is_corner" s_is_corner f fd) (T : Tx K mg) (F_is_part : Fk P w K mg base "is_part" 3 P_is_part (spOf K TT sp_is_part)) (F_is_state : Fk P w K mg base "is_state" 4 P_is_state (spOf K TT sp_is_state)) (F_reachable : Fk P w K mg base "reachable" 3 P_reachable (spOf K TT sp_reachable)) : FnOk P w K mg base CX0 5 f fd P_is_corner (spOf K TT sp_is_corner) := by
  refine fun_okD (k := 4) F sc_is_corner len_is_corner fun cdv A outer s H E hr => ?_
  have hu := hr.units
  have hu1 := hu_of hr
  have hu65 := hu65_of hr
  refine ⟨_, (pss_cons (ps_if (PW.pt (pw_or (pt_not (pt_val (pe_callB (isiK (K := K) rfl) (by rfl) T.nb_isinstance (by decide +kernel) (pa_cons (pv 1) (pa_cons (pe_bltn (v := V.ty "tuple") (by rfl) T.nb_tuple (by decide +kernel) rfl) pa_nil))))) (pw_or (pt_cmpR (neK (K := K) rfl hu) (pe_callB (lenK (K := K) rfl) (by rfl) T.nb_len (by decide +kernel) (pa_cons (pv 1) pa_nil)) (pe_globI (by rfl) T.g_CORNER_PARTS) (nomark _)) (pw_or1 (pt_not (pt_val (pe_callF F_is_state (hr.mono (by decide)) (by rfl) (pa_cons (pv 0) (pa_cons (pe_ix (ixK (K := K) rfl) (pv 1) pe_int (fun _ _ => rfl)) pa_nil))))))))) (pss_one (ps_ret pe_bl)) pss_nil)
    (pss_cons (ps_asg (pv 1) (tgK 3 (K := K) rfl rfl (pgs_cons (pg_name (i := 2) sc_is_corner.nd rfl (by first | exact Or.inl rfl | exact Or.inr rfl)) (pgs_cons (pg_name (i := 3) sc_is_corner.nd rfl (by first | exact Or.inl rfl | exact Or.inr rfl)) (pgs_cons (pg_name (i := 4) sc_is_corner.nd rfl (by first | exact Or.inl rfl | exact Or.inr rfl)) pgs_nil)))))
    (pss_cons (ps_if (pt_not (pt_val (pe_callB (allK (K := K) rfl rfl) (by rfl) T.nb_all (by decide +kernel) (pa_cons (pe_lcV (vs := [5, 6]) [("one", 5), ("found", 6)] rfl sc_is_corner.nd (zipK (K := K) rfl (by rfl) T.nb_zip (pa_cons (pv 2) (pa_cons (pe_callF F_reachable (hr.mono (by decide)) (by rfl) (pa_cons (pv 0) pa_nil)) pa_nil))) (show blkC N_is_corner (defScope s_is_corner) _ [("one", 5), ("found", 6)] = true by decide +kernel) rfl (fun _ _ _ _ _ => (tgK 2 (K := K) rfl rfl (pgs_cons (pg_name (i := 5) sc_is_corner.nd rfl (by first | exact Or.inl rfl | exact Or.inr rfl)) (pgs_cons (pg_name (i := 6) sc_is_corner.nd rfl (by first | exact Or.inl rfl | exact Or.inr rfl)) pgs_nil)))) (fun _ _ _ _ _ => pts_nil) (fun _ _ _ _ _ => (pe_cmpR (inSK (K := K) rfl) (pv 5) (pv 6) (by rfl)))) pa_nil)))) (pss_one (ps_ret pe_bl)) pss_nil)
    (pss_one (ps_ret (pe_and (pe_callF F_is_part (hr.mono (by decide)) (by rfl) (pa_cons (pv 0) (pa_cons (pv 2) (pa_cons (pv 3) pa_nil)))) (pe_and (pe_callF F_is_part (hr.mono (by decide)) (by rfl) (pa_cons (pv 0) (pa_cons (pv 2) (pa_cons (pv 4) pa_nil)))) (pe_one (pe_cmpR (neK (K := K) rfl hu) (pe_ix (ixK (K := K) rfl) (pv 3) pe_int (fun _ _ => rfl)) (pe_ix (ixK (K := K) rfl) (pv 4) pe_int (fun _ _ => rfl)) (nomark _)))))))))), ?_⟩
  try dsimp only [cxOf]
  refine ex_snd ?_
  intro ds S Qd h
  obtain ⟨w, c, rfl, h1, h2, h⟩ := h
  walk_at "dsem"
  rw [if_neg (by simp)]
  refine ⟨w, c.1, rfl, h1, h2.s, ?_⟩
  walk_at "dsem"
  refine ⟨w, rfl, h1, fun nss hl hc => ?_⟩
  walk_at "dsem"
  rw [zipD_map]
  have := h1.few
  have hcl := h2.s.1
  refine ⟨by rw [List.length_map, List.length_zip]; exact lt_line (by omega), ?_⟩
  refine lcD_all _ (fun _ => D.bl true) _ (fun p hp k1 k2 hk => ?_) ?_
  · walk_at "dsem"
    refine ⟨p.2.map Int.ofNat, by rw [List.map_map] <;> rfl, ?_⟩
    obtain ⟨i, e1, e2⟩ := zip_mem hp
    have hi := (List.getElem?_eq_some_iff.mp e1).1
    rw [nth_get hi] at e1
    have hm := h2.r i (by omega) _ (hc i (by omega))
    rw [List.getD_eq_getElem?_getD, e2, Option.some.inj e1, Option.getD_some] at hm
    rw [List.contains_iff_mem.mpr (mem_ofNat.mpr hm)]
    exact hk
  · walk_at "dsem"
    refine ⟨(c.1.zip nss).map fun _ => true, by rw [List.map_map] <;> rfl, ?_⟩
    rw [all_true]
    walk_at "dsem"
    refine ⟨w, c.1, c.2.1, rfl, h1, h2.s, h2.a, ?_⟩
    walk_at "dsem"
    refine ⟨w, c.1, c.2.2, rfl, h1, h2.s, h2.b, ?_⟩
    walk_at "dsem"
    have hn := h2.ne
    rw [decide_eq_false (by omega)]
    exact h
abbrev s_corner_results : Stmt := topS 26
abbrev N_corner_results : List Str := ["world", "corner", "state", "first", "second", "stepped", "states", "one"]
abbrev P_corner_results : List Str := ["world", "corner"]
theorem sc_corner_results : FnScope N_corner_results P_corner_results (defScope s_corner_results) := ⟨rfl, rfl, rfl, by decide +kernel, rfl, by decide +kernel, by decide +kernel⟩
theorem ok_corner_results {f : Addr} {fd : FuncData} (F : Fun K "corner_results" "corner_results" s_corner_results f fd) (T : Tx K mg) (F_changed : Fk P w K mg base "changed_corners" 1 P_changed (spOf K TT sp_changed)) (F_result : Fk P w K mg base "result" 2 P_result (spOf K TT sp_result)) : FnOk P w K mg base CX0 3 f fd P_corner_results (spOf K TT sp_corner_results) := by
  refine fun_okD (k := 2) F sc_corner_results len_corner_results fun cdv A outer s H E hr => ?_
  have hu := hr.units
  have hu1 := hu_of hr
  have hu65 := hu65_of hr
  refine ⟨_, (pss_cons (ps_asg (pv 1) (tgK 3 (K := K) rfl rfl (pgs_cons (pg_name (i := 2) sc_corner_results.nd rfl (by first | exact Or.inl rfl | exact Or.inr rfl)) (pgs_cons (pg_name (i := 3) sc_corner_results.nd rfl (by first | exact Or.inl rfl | exact Or.inr rfl)) (pgs_cons (pg_name (i := 4) sc_corner_results.nd rfl (by first | exact Or.inl rfl | exact Or.inr rfl)) pgs_nil)))))
    (pss_cons (ps_set (i := 5) sc_corner_results.nd rfl (by first | exact Or.inl rfl | exact Or.inr rfl) (pe_callF F_changed (hr.mono (by decide)) (by rfl) (pa_cons (pv 2) (pa_cons (pe_ix (ixK (K := K) rfl) (pv 3) pe_int (fun _ _ => rfl)) (pa_cons (pe_ix (ixK (K := K) rfl) (pv 3) pe_int (fun _ _ => rfl)) pa_nil)))))
    (pss_cons (ps_set (i := 6) sc_corner_results.nd rfl (by first | exact Or.inl rfl | exact Or.inr rfl) (pe_tup (pa_cons (pe_callF F_changed (hr.mono (by decide)) (by rfl) (pa_cons (pv 2) (pa_cons (pe_ix (ixK (K := K) rfl) (pv 4) pe_int (fun _ _ => rfl)) (pa_cons (pe_ix (ixK (K := K) rfl) (pv 4) pe_int (fun _ _ => rfl)) pa_nil)))) (pa_cons (pv 2) (pa_cons (pv 5) (pa_cons (pe_callF F_changed (hr.mono (by decide)) (by rfl) (pa_cons (pv 5) (pa_cons (pe_ix (ixK (K := K) rfl) (pv 4) pe_int (fun _ _ => rfl)) (pa_cons (pe_ix (ixK (K := K) rfl) (pv 4) pe_int (fun _ _ => rfl)) pa_nil)))) pa_nil))))))
    (pss_one (ps_ret (pe_callTy (tupK (K := K) rfl) (by rfl) T.nb_tuple (by decide +kernel) (pa_cons (pe_lcV (vs := [7]) [("one", 7)] rfl sc_corner_results.nd (seqK (K := K) rfl (pv 6)) (show blkC N_corner_results (defScope s_corner_results) _ [("one", 7)] = true by decide +kernel) rfl (fun _ _ _ _ _ => (pg_name (i := 7) sc_corner_results.nd rfl (by first | exact Or.inl rfl | exact Or.inr rfl))) (fun _ _ _ _ _ => pts_nil) (fun _ _ _ _ _ => (pe_callF F_result (hr.mono (by decide)) (by rfl) (pa_cons (pv 0) (pa_cons (pv 7) pa_nil))))) pa_nil))))))), ?_⟩
  try dsimp only [cxOf]
  refine ex_snd ?_
  intro ds S Qd h
  obtain ⟨w, c, rfl, h1, h2, h⟩ := h
  walk_at "dsem"
  have hl := h2.s.1
  have hf := h1.few
  have ha := ((okv_of h1 h2.a.1).2.2 _ h2.a.2).2.1
  have hb := ((okv_of h1 h2.b.1).2.2 _ h2.b.2).2.1
  have o1 := oks_set h2.s h2.a.1 ha
  refine ⟨c.1, _, _, rfl, by rw [hl]; exact h2.a.1, by omega, c.1, _, _, rfl, by rw [hl]; exact h2.b.1, by omega, rfl, rfl, c.1.set c.2.1.1 c.2.1.2, _, _, rfl, by rw [List.length_set, hl]; exact h2.b.1, by rw [List.length_set]; omega, lt_line (by omega), ?_⟩
  refine lcD_all eNs (fun s => D.int (res w s)) [c.1.set c.2.2.1 c.2.2.2, c.1, c.1.set c.2.1.1 c.2.1.2, (c.1.set c.2.1.1 c.2.1.2).set c.2.2.1 c.2.2.2] (fun s hs k1 k2 hk => ?_) ?_
  · walk_at "dsem"
    refine ⟨w, s, rfl, h1, ?_, hk⟩
    simp only [List.mem_cons, List.not_mem_nil, or_false] at hs
    rcases hs with rfl | rfl | rfl | rfl
    · exact oks_set h2.s h2.b.1 hb
    · exact h2.s
    · exact o1
    · exact oks_set o1 h2.b.1 hb
  · walk_at "dsem"
    exact h
abbrev s_holds : Stmt := topS 27
abbrev N_holds : List Str := ["world", "mode", "corner", "skewed", "others"]
abbrev P_holds : List Str := ["world", "mode", "corner"]
theorem sc_holds : FnScope N_holds P_holds (defScope s_holds) := ⟨rfl, rfl, rfl, by decide +kernel, rfl, by decide +kernel, by decide +kernel⟩
theorem ok_holds {f : Addr} {fd : FuncData} (F : Fun K "holds" "holds" s_holds f fd) (T : Tx K mg) (F_accepts : Fk P w K mg base "accepts" 1 P_accepts (spOf K TT sp_accepts)) (F_corner_results : Fk P w K mg base "corner_results" 3 P_corner_results (spOf K TT sp_corner_results)) : FnOk P w K mg base CX0 4 f fd P_holds (spOf K TT sp_holds) := by
  refine fun_okD (k := 3) F sc_holds len_holds fun cdv A outer s H E hr => ?_
  have hu := hr.units
  have hu1 := hu_of hr
  have hu65 := hu65_of hr
  refine ⟨_, (pss_cons (ps_asg (pe_callF F_corner_results (hr.mono (by decide)) (by rfl) (pa_cons (pv 0) (pa_cons (pv 2) pa_nil))) (pg_star (K := K) rfl rfl (pgs_cons (pg_name (i := 3) sc_holds.nd rfl (by first | exact Or.inl rfl | exact Or.inr rfl)) (pgs_cons (pg_name (i := 4) sc_holds.nd rfl (by first | exact Or.inl rfl | exact Or.inr rfl)) pgs_nil))))
    (pss_one (ps_ret (pe_callF F_accepts (hr.mono (by decide)) (by rfl) (pa_cons (pv 1) (pa_cons (pv 3) (pa_cons (pe_callTy (tupK (K := K) rfl) (by rfl) T.nb_tuple (by decide +kernel) (pa_cons (pv 4) pa_nil)) pa_nil))))))), ?_⟩
  try dsimp only [cxOf]
  refine ex_snd ?_
  intro ds S Qd h
  obtain ⟨w, m, c, rfl, h1, h2, h⟩ := h
  walk_at "dsem"
  refine ⟨w, c, rfl, h1, h2, ?_⟩
  unfold corRes
  walk_at "dsem"
  exact ⟨m, _, [_, _, _], rfl, by simp, h⟩
end
end RS
end
section
set_option maxRecDepth 100000
namespace RS
open PySem PySem.Spec PyProof.Rows L2 DL
/-! ### plain facts of runs -/
def OkE (r : Rn) : Prop := r.1.length ≤ 40 ∧ r.2.length ≤ 900 ∧ ∀ i v, Ev.st i v ∈ r.2 → i < r.1.length
def nst : List Ev → Nat
  | [] => 0
  | .rd :: r => nst r
  | .st _ _ :: r => nst r + 1
theorem nst_le : ∀ l : List Ev, nst l ≤ l.length
  | [] => Nat.le_refl _
  | .rd :: r => by have := nst_le r; simp only [nst, List.length_cons]; omega
  | .st _ _ :: r => by have := nst_le r; simp only [nst, List.length_cons]; omega
theorem stsA_len : ∀ (s : List Nat) (l : List Ev), (stsA s l).length = nst l
  | _, [] => rfl
  | s, .rd :: r => by simp only [stsA, nst]; exact stsA_len s r
  | s, .st i v :: r => by simp only [stsA, nst, List.length_cons]; rw [stsA_len]
theorem sts_len (r : Rn) : (sts r).length = nst r.2 + 1 := by
  unfold sts
  rw [List.length_cons, stsA_len]
theorem readA_bd : ∀ (k : Nat) (l : List Ev), ∀ m ∈ readA k l, k ≤ m ∧ m ≤ k + nst l
  | _, [], m, h => by simp [readA] at h
  | k, .rd :: r, m, h => by
    simp only [readA, nst] at h ⊢
    rcases List.mem_cons.mp h with h | h
    · omega
    · exact readA_bd k r m h
  | k, .st i v :: r, m, h => by
    simp only [readA, nst] at h ⊢
    have := readA_bd (k + 1) r m h
    omega
theorem readA_inc : ∀ (k : Nat) (l : List Ev), (readA k l).Pairwise (· ≤ ·)
  | _, [] => List.Pairwise.nil
  | k, .rd :: r => List.Pairwise.cons (fun m h => (readA_bd k r m h).1) (readA_inc k r)
  | k, .st i v :: r => readA_inc (k + 1) r
theorem readA_len : ∀ (k : Nat) (l : List Ev), (readA k l).length + nst l = l.length
  | _, [] => rfl
  | k, .rd :: r => by simp only [readA, nst, List.length_cons]; have := readA_len k r; omega
  | k, .st i v :: r => by simp only [readA, nst, List.length_cons]; have := readA_len (k + 1) r; omega
theorem rds_len (r : Rn) : (rds r).length + nst r.2 = r.2.length := readA_len 0 r.2
theorem rds_le (r : Rn) {m : Nat} (h : m ∈ rds r) : m ≤ nst r.2 := by
  have := (readA_bd 0 r.2 m h).2
  omega
theorem getD_mem {l : List Nat} {k : Nat} (h : k < l.length) : l.getD k 0 ∈ l := by
  rw [List.getD_eq_getElem?_getD, List.getElem?_eq_getElem h]
  exact List.getElem_mem h
theorem sp0_mem {r : Rn} (h : rds r ≠ []) : sp0 r ∈ rds r := by
  unfold sp0
  cases e : rds r with
  | nil => exact absurd e h
  | cons a l => simp
theorem sp1_mem {r : Rn} (h : rds r ≠ []) : sp1 r ∈ rds r := by
  unfold sp1
  cases e : rds r with
  | nil => exact absurd e h
  | cons a l =>
    have := List.getLast_mem (List.cons_ne_nil a l)
    rw [List.getLast_eq_getLastD] at this
    rw [List.getLastD_cons]
    exact this
theorem sp_le {r : Rn} (h : rds r ≠ []) : sp0 r ≤ sp1 r := by
  have hp := readA_inc 0 r.2
  have hm := sp1_mem h
  unfold sp0
  unfold rds at *
  cases e : readA 0 r.2 with
  | nil => exact absurd e h
  | cons a l =>
    rw [e] at hp hm
    rcases List.mem_cons.mp hm with z | z
    · rw [z] <;> simp
    · exact (List.pairwise_cons.mp hp).1 _ z
theorem stsA_ok {vs : List Vr} : ∀ (s : List Nat) (l : List Ev), (∀ v ∈ vs, OkV v) → OkS vs s → Chain vs s l → ∀ x ∈ stsA s l, OkS vs x
  | s, [], _, _, _, x, h => by simp [stsA] at h
  | s, .rd :: r, hv, hs, hc, x, h => stsA_ok s r hv hs hc x h
  | s, .st i v :: r, hv, hs, hc, x, h => by
    have hm : vr vs i ∈ vs := List.mem_of_getElem? (vr_get hc.1.1)
    have h1 := oks_set hs hc.1.1 ((hv _ hm).2.2 _ hc.1.2).2.1
    simp only [stsA] at h
    rcases List.mem_cons.mp h with h | h
    · subst h; exact h1
    · exact stsA_ok _ r hv h1 hc.2 x h
theorem okvs {w : Wd} (h : OkW w) : ∀ v ∈ w.vs, OkV v := fun v hv => ⟨h.sz v hv, (h.stp v hv).1, (h.stp v hv).2⟩
theorem sts_ok {w : Wd} {p : Pl} {r : Rn} (h : OkR w p r) : ∀ x ∈ sts r, OkS w.vs x := fun x hx => by
  unfold sts at hx
  rcases List.mem_cons.mp hx with e | e
  · subst e; exact h.s0
  · exact stsA_ok r.1 r.2 (okvs h.okw) h.s0 h.ch x e
theorem stAt_get (r : Rn) {k : Nat} (h : k ≤ nst r.2) : (sts r)[k]? = some (stAt r k) := by
  have hl : k < (sts r).length := by rw [sts_len]; omega
  unfold stAt
  rw [List.getD_eq_getElem?_getD, List.getElem?_eq_getElem hl] <;> rfl
theorem stAt_ok {w : Wd} {p : Pl} {r : Rn} (h : OkR w p r) {k : Nat} (hk : k ≤ nst r.2) : OkS w.vs (stAt r k) := sts_ok h _ (List.mem_of_getElem? (stAt_get r hk))
theorem chain_ev {vs : List Vr} : ∀ (s : List Nat) (l : List Ev), Chain vs s l → ∀ i v, Ev.st i v ∈ l → i < vs.length
  | _, [], _, _, _, h => by simp at h
  | s, .rd :: r, hc, i, v, h => chain_ev s r hc i v (by simpa using h)
  | s, .st j u :: r, hc, i, v, h => by
    rcases List.mem_cons.mp h with e | e
    · cases e; exact hc.1.1
    · exact chain_ev _ r hc.2 i v e
theorem oke_of {w : Wd} {p : Pl} {r : Rn} (h : OkR w p r) : OkE r := ⟨by rw [h.s0.1]; exact h.okw.few, h.few, fun i v hm => by rw [h.s0.1]; exact chain_ev _ _ h.ch i v hm⟩
theorem rds_ne {w : Wd} {p : Pl} {r : Rn} (h : OkR w p r) : rds r ≠ [] := fun e => by
  have := h.nrd
  rw [e] at this
  exact h.okp.ne (List.eq_nil_of_length_eq_zero this.symm)
/-! the blocks -/
def fl (x : List Nat × Nat) : List (Nat × Nat) := x.1.map fun v => (v, x.2)
theorem flatP_zip : ∀ (k : Nat) (p : Pl), flatP k p = (p.zipIdx k).flatMap fl
  | _, [] => rfl
  | k, b :: p => by
    rw [List.zipIdx_cons, List.flatMap_cons, flatP, flatP_zip (k + 1) p] <;> rfl
theorem flatP_fst : ∀ (k : Nat) (p : Pl), (flatP k p).map (·.1) = p.flatten
  | _, [] => rfl
  | k, b :: p => by
    rw [flatP, List.map_append, flatP_fst (k + 1) p, List.flatten_cons, List.map_map]
    congr 1
    exact List.map_id b
theorem blk_find {n : Nat} {p : Pl} (h : OkPl n p) {v : Nat} (hv : v < n) : (flatP 0 p).find? (fun q => decide (q.1 = v)) = some (v, blk p v) := by
  have hm : v ∈ (flatP 0 p).map (·.1) := by rw [flatP_fst]; exact (h.mem v).mpr hv
  obtain ⟨q, hq, e⟩ := List.mem_map.mp hm
  cases hf : (flatP 0 p).find? (fun q => decide (q.1 = v)) with
  | none =>
    have := List.find?_eq_none.mp hf q hq
    exact absurd (decide_eq_true e) this
  | some x =>
    have h1 : x.1 = v := of_decide_eq_true (List.find?_some (p := fun q : Nat × Nat => decide (q.1 = v)) hf)
    unfold blk
    rw [hf]
    obtain ⟨a, b⟩ := x
    have h1 : a = v := h1
    rw [h1] <;> rfl
theorem flatP_lt : ∀ (k : Nat) (p : Pl), ∀ q ∈ flatP k p, k ≤ q.2 ∧ q.2 < k + p.length ∧ q.1 ∈ p.getD (q.2 - k) []
  | _, [], q, h => by simp [flatP] at h
  | k, b :: p, q, h => by
    rw [flatP] at h
    rcases List.mem_append.mp h with h | h
    · obtain ⟨v, hv, rfl⟩ := List.mem_map.mp h
      refine ⟨Nat.le_refl _, by rw [List.length_cons]; omega, ?_⟩
      simpa using hv
    · obtain ⟨h1, h2, h3⟩ := flatP_lt (k + 1) p q h
      refine ⟨by omega, by rw [List.length_cons]; omega, ?_⟩
      rw [show q.2 - k = (q.2 - (k + 1)) + 1 by omega]
      simpa using h3
theorem blk_lt {n : Nat} {p : Pl} (h : OkPl n p) {v : Nat} (hv : v < n) : blk p v < p.length := by
  have := flatP_lt 0 p _ (List.mem_of_find?_eq_some (blk_find h hv))
  omega
theorem getD_flat {l : List (Nat × Nat)} {f : Nat × Nat → D} {v : Nat} : getD' (l.map fun q => ((q.1 : Int), f q)) (v : Int) = (l.find? fun q => decide (q.1 = v)).map f := by
  unfold getD'
  induction l with
  | nil => rfl
  | cons q l ih =>
    rw [List.map_cons, List.find?_cons, List.find?_cons]
    by_cases e : q.1 = v
    · rw [decide_eq_true e, decide_eq_true (show (q.1 : Int) = v by omega)] <;> rfl
    · rw [decide_eq_false e, decide_eq_false (show ¬ (q.1 : Int) = v by omega)]
      exact ih
theorem perm_range {n : Nat} {l : List Nat} (nd : l.Nodup) (h : ∀ v, v ∈ l ↔ v < n) : l.Perm (List.range n) :=
  (List.perm_ext_iff_of_nodup nd List.nodup_range).mpr fun v => by rw [h, List.mem_range]
/-- what is sorted and holds 0 .. n - 1 -/
theorem sorted_range {n : Nat} {ys : List Int} (hp : ys.Perm ((List.range n).map Int.ofNat)) (hs : ys.Pairwise (· ≤ ·)) : ys = (List.range n).map Int.ofNat := by
  refine List.Perm.eq_of_pairwise (le := fun a b : Int => a ≤ b) (fun a b _ _ h1 h2 => Int.le_antisymm h1 h2) hs ?_ hp
  refine List.Pairwise.map (R := fun a b : Nat => a < b) Int.ofNat (fun a b h => ?_) List.pairwise_lt_range
  exact Int.ofNat_le.mpr (Nat.le_of_lt h)
end RS
end
section
set_option maxRecDepth 100000
namespace RS
open PySem PySem.Spec PyProof.Rows L2 DL
local macro_rules | `(tactic| walk_at "dsem") => `(tactic| simp only [dstart, dRet, dOp, dSl, dTup, dLst, dCons, dNil, dNoPart, dC, dCB, dUn, dCall, dAnd, dOr, dNot, dIf, dIsN, dNext, dSeq, dIfS, dDrop, dAsg, dgName, dFor, dYes, dLc, dLc2, dwipe, dPar, dPar3, dParT, dgTupN, setN, dLstM, dDNewM, dDisp1,
  asB_b, asI_i, asT_t, asL_l, asS_l, asS_t, zx_tt, zx_tl, ex_l, ex_t, e_test, e_andV, e_orV, e_notV, e_chain, e_gtup, e_gcons, e_gnil, e_zx, e_ex, e_seq, e_rg1, e_aug, e_get, e_part, e_inM, e_put, e_app, e_ext, e_ixM, e_lenM, e_frz, e_var, muAt_s, mdAt_s, frzAt_l, frzAt_d, vAt_s, atI_s,
  at0, at1, at2, f_repT, e_star, starX_t, f_add, f_addT, f_addL, f_mul, f_mulL, f_sub, f_mod, f_div, f_pow, f_lt, f_le, f_gt, f_ge, f_neg, f_isB, f_notB, f_eqI, f_eqS, f_eqB, f_eqT, f_eqL, f_neI, f_neS, f_neB, f_neT, f_neL, f_ixL, f_ixT, f_slL, f_slT, f_lenT, f_lenL, f_tupT, f_tupL, f_lstT, f_lstL, f_all, f_sum, f_bestL, f_bestT, f_min2, f_intB, f_sort, f_sortD, isi_ii, isi_ib, isi_tt, isi_ss, f_inT, f_inL, f_inIT, f_inIL,
  mut_int, mut_tup, mut_lst, mut_str, mut_bl, mut_non, mut_pot, mut_dct, mut_scr, isn_non, isn_int, isn_tup, isn_str,
  eN, eP, eNs, eIs, eVr, eW, eR, ePl, eCor, eXc, eEv_r, eEv_s, eFn_t, eFn_s, eFn_x, eFn_n, eSt_n, eSt_s, ev_ne, ev_eq, mut_ev, isi_ev, e_ir3, e_ir1, ir3_i, ir1_i,
  List.map_cons, List.map_nil, List.length_cons, List.length_nil, List.replicate, List.append_nil, List.nil_append, List.cons_append, List.set_cons_zero, List.set_cons_succ, List.getElem?_cons_zero, List.getElem?_cons_succ, List.getElem?_nil, List.zip_cons_cons, List.zip_nil_left, List.foldl_cons, List.foldl_nil, Nat.reduceAdd, Nat.reduceSub, Nat.reduceLeDiff, true_and, and_true, decide_true, if_true, if_false, Bool.false_eq_true, Bool.not_true, Bool.not_false])
/-! ### readskew.runs -/
def sp_is_step_event : DSp := fun ds S Q => ∃ w s i v, ds = [eW w, eNs s, eEv (.st i v)] ∧ OkW w ∧ OkS w.vs s ∧ (i < w.vs.length ∧ (nth s i, v) ∈ (vr w.vs i).2) ∧ Q (.bl true) S
theorem len_is_step_event : ∀ ds S Qd, sp_is_step_event ds S Qd → ds.length = 3 := fun ds S Q ⟨d, _, _, _, h, _⟩ => by rw [h] <;> rfl
def sp_is_read_event : DSp := fun ds S Q => ∃ e, ds = [eEv e] ∧ Q (.bl (decide (e = .rd))) S
theorem len_is_read_event : ∀ ds S Qd, sp_is_read_event ds S Qd → ds.length = 1 := fun ds S Q ⟨_, h, _⟩ => by rw [h] <;> rfl
def sp_may_begin : DSp := fun ds S Q => ∃ w s, ds = [eW w, eNs s] ∧ OkW w ∧ OkS w.vs s ∧ (∀ b, w.st = some b → s = b) ∧ Q (.bl true) S
theorem len_may_begin : ∀ ds S Qd, sp_may_begin ds S Qd → ds.length = 2 := fun ds S Q ⟨_, _, h, _⟩ => by rw [h] <;> rfl
def sp_is_run : DSp := fun ds S Q => ∃ w p r, ds = [eW w, ePl p, eR r] ∧ OkR w p r ∧ Q (.bl true) S
theorem len_is_run : ∀ ds S Qd, sp_is_run ds S Qd → ds.length = 3 := fun ds S Q ⟨_, _, _, h, _⟩ => by rw [h] <;> rfl
def sp_changed2 : DSp := sp_changed
theorem len_changed2 : ∀ ds S Qd, sp_changed2 ds S Qd → ds.length = 3 := len_changed
def sp_states : DSp := fun ds S Q => ∃ r, ds = [eR r] ∧ OkE r ∧ Q (.tup ((sts r).map eNs)) S
theorem len_states : ∀ ds S Qd, sp_states ds S Qd → ds.length = 1 := fun ds S Q ⟨_, h, _⟩ => by rw [h] <;> rfl
def sp_read_moments : DSp := fun ds S Q => ∃ r, ds = [eR r] ∧ OkE r ∧ Q (.lst ((rds r).map eN)) S
theorem len_read_moments : ∀ ds S Qd, sp_read_moments ds S Qd → ds.length = 1 := fun ds S Q ⟨_, h, _⟩ => by rw [h] <;> rfl
def sp_span : DSp := fun ds S Q => ∃ r, ds = [eR r] ∧ OkE r ∧ rds r ≠ [] ∧ Q (.tup [eN (sp0 r), eN (sp1 r)]) S
theorem len_span : ∀ ds S Qd, sp_span ds S Qd → ds.length = 1 := fun ds S Q ⟨_, h, _⟩ => by rw [h] <;> rfl
def sp_read_values : DSp := fun ds S Q => ∃ w p r, ds = [ePl p, eR r] ∧ OkR w p r ∧ Q (eNs (rdVals w.vs.length p r)) S
theorem len_read_values : ∀ ds S Qd, sp_read_values ds S Qd → ds.length = 2 := fun ds S Q ⟨_, _, _, h, _⟩ => by rw [h] <;> rfl
def sp_run_result : DSp := fun ds S Q => ∃ w p r, ds = [eW w, ePl p, eR r] ∧ OkR w p r ∧ Q (.int (rRes w p r)) S
theorem len_run_result : ∀ ds S Qd, sp_run_result ds S Qd → ds.length = 3 := fun ds S Q ⟨_, _, _, h, _⟩ => by rw [h] <;> rfl
def sp_span_results : DSp := fun ds S Q => ∃ w p r, ds = [eW w, eR r] ∧ OkR w p r ∧ Q (eIs (spRes w r)) S
theorem len_span_results : ∀ ds S Qd, sp_span_results ds S Qd → ds.length = 2 := fun ds S Q ⟨_, _, _, h, _⟩ => by rw [h] <;> rfl
def sp_is_accepted : DSp := fun ds S Q => ∃ w m p r, ds = [eW w, .str (eMd m), ePl p, eR r] ∧ OkR w p r ∧ Q (.bl (isAcc w m p r)) S
theorem len_is_accepted : ∀ ds S Qd, sp_is_accepted ds S Qd → ds.length = 4 := fun ds S Q ⟨_, _, _, _, h, _⟩ => by rw [h] <;> rfl
section
variable {P : Program} {w : World} {K : PySem.W.Frag} {mg : Str → Option Value} {base : Heap} {TT : Tb}
theorem within_take (r : Rn) : within r = ((sts r).drop (sp0 r)).take (sp1 r + 1 - sp0 r) := rfl
abbrev s_is_step_event : Stmt := topS 33
abbrev N_is_step_event : List Str := ["world", "here", "event", "variables", "size", "steps"]
abbrev P_is_step_event : List Str := ["world", "here", "event"]
theorem sc_is_step_event : FnScope N_is_step_event P_is_step_event (defScope s_is_step_event) := ⟨rfl, rfl, rfl, by decide +kernel, rfl, by decide +kernel, by decide +kernel⟩
theorem ok_is_step_event {f : Addr} {fd : FuncData} (F : Fun K "is_step_event" "is_step_event" s_is_step_event f fd) (T : Tx K mg) (F_is_integer : Fk P w K mg base "is_integer" 2 P_is_integer (spOf K TT sp_is_integer)) : FnOk P w K mg base CX0 3 f fd P_is_step_event (spOf K TT sp_is_step_event) := by
  refine fun_okD (k := 2) F sc_is_step_event len_is_step_event fun cdv A outer s H E hr => ?_
  have hu := hr.units
  have hu1 := hu_of hr
  have hu65 := hu65_of hr
  refine ⟨_, (pss_cons (ps_if (PW.pt (pw_or (pt_not (pt_val (pe_callB (isiK (K := K) rfl) (by rfl) T.nb_isinstance (by decide +kernel) (pa_cons (pv 2) (pa_cons (pe_bltn (v := V.ty "tuple") (by rfl) T.nb_tuple (by decide +kernel) rfl) pa_nil))))) (pw_or (pt_cmpR (neK (K := K) rfl hu) (pe_callB (lenK (K := K) rfl) (by rfl) T.nb_len (by decide +kernel) (pa_cons (pv 2) pa_nil)) (pe_globI (by rfl) T.g_STEP_PARTS) (nomark _)) (pw_or (pt_not (pt_val (pe_callB (isiK (K := K) rfl) (by rfl) T.nb_isinstance (by decide +kernel) (pa_cons (pe_ix (ixK (K := K) rfl) (pv 2) pe_int (fun _ _ => rfl)) (pa_cons (pe_bltn (v := V.ty "str") (by rfl) T.nb_str (by decide +kernel) rfl) pa_nil))))) (pw_or1 (pt_cmpR (neK (K := K) rfl hu) (pe_ix (ixK (K := K) rfl) (pv 2) pe_int (fun _ _ => rfl)) (pe_globS (by rfl) T.g_STEP) (nomark _))))))) (pss_one (ps_ret pe_bl)) pss_nil)
    (pss_cons (ps_set (i := 3) sc_is_step_event.nd rfl (by first | exact Or.inl rfl | exact Or.inr rfl) (pe_ix (ixK (K := K) rfl) (pv 0) pe_int (fun _ _ => rfl)))
    (pss_cons (ps_if (pt_not (pt_val (pe_callF F_is_integer (hr.mono (by decide)) (by rfl) (pa_cons (pe_ix (ixK (K := K) rfl) (pv 2) pe_int (fun _ _ => rfl)) (pa_cons pe_int (pa_cons (pe_op op_sub (pe_callB (lenK (K := K) rfl) (by rfl) T.nb_len (by decide +kernel) (pa_cons (pv 3) pa_nil)) pe_int) pa_nil)))))) (pss_one (ps_ret pe_bl)) pss_nil)
    (pss_cons (ps_asg (pe_ix (ixK (K := K) rfl) (pv 3) (pe_ix (ixK (K := K) rfl) (pv 2) pe_int (fun _ _ => rfl)) (fun _ _ => rfl)) (tgK 2 (K := K) rfl rfl (pgs_cons (pg_name (i := 4) sc_is_step_event.nd rfl (by first | exact Or.inl rfl | exact Or.inr rfl)) (pgs_cons (pg_name (i := 5) sc_is_step_event.nd rfl (by first | exact Or.inl rfl | exact Or.inr rfl)) pgs_nil))))
    (pss_one (ps_ret (pe_and (pe_callF F_is_integer (hr.mono (by decide)) (by rfl) (pa_cons (pe_ix (ixK (K := K) rfl) (pv 2) pe_int (fun _ _ => rfl)) (pa_cons pe_int (pa_cons (pe_op op_sub (pv 4) pe_int) pa_nil)))) (pe_one (pe_cmpR (inK (K := K) rfl hu65) (pe_tup (pa_cons (pe_ix (ixK (K := K) rfl) (pv 1) (pe_ix (ixK (K := K) rfl) (pv 2) pe_int (fun _ _ => rfl)) (fun _ _ => rfl)) (pa_cons (pe_ix (ixK (K := K) rfl) (pv 2) pe_int (fun _ _ => rfl)) pa_nil))) (pv 5) (by rfl)))))))))), ?_⟩
  try dsimp only [cxOf]
  refine ex_snd ?_
  intro ds S Qd h
  obtain ⟨w, s, i, v, rfl, h1, h2, h3, h⟩ := h
  walk_at "dsem"
  have hv := okv_of h1 h3.1
  have hp := hv.2.2 _ h3.2
  refine ⟨_, _, _, rfl, ?_⟩
  rw [List.length_map, decide_eq_true (by omega), decide_eq_true (by have := h3.1; omega)]
  walk_at "dsem"
  refine at_vr h3.1 ?_
  walk_at "dsem"
  refine ⟨_, _, _, rfl, ?_⟩
  rw [decide_eq_true (by omega), decide_eq_true (by have := hp.2.1; omega)]
  walk_at "dsem"
  refine at_nth (by rw [h2.1]; exact h3.1) ?_
  walk_at "dsem"
  have z := in_of eqe_P (by decide) false (nth s i, v) (vr w.vs i).2 (q := fun d => Qd d S) (by simp only [h3.2, decide_true, if_false, Bool.false_eq_true]; exact h)
  rw [f_inT] at z
  exact z
abbrev s_is_read_event : Stmt := topS 34
abbrev N_is_read_event : List Str := ["event"]
abbrev P_is_read_event : List Str := ["event"]
theorem sc_is_read_event : FnScope N_is_read_event P_is_read_event (defScope s_is_read_event) := ⟨rfl, rfl, rfl, by decide +kernel, rfl, by decide +kernel, by decide +kernel⟩
theorem ok_is_read_event {f : Addr} {fd : FuncData} (F : Fun K "is_read_event" "is_read_event" s_is_read_event f fd) (T : Tx K mg) : FnOk P w K mg base CX0 1 f fd P_is_read_event (spOf K TT sp_is_read_event) := by
  refine fun_okD (k := 0) F sc_is_read_event len_is_read_event fun cdv A outer s H E hr => ?_
  have hu := hr.units
  have hu1 := hu_of hr
  have hu65 := hu65_of hr
  refine ⟨_, (pss_one (ps_ret (pe_and (pe_callB (isiK (K := K) rfl) (by rfl) T.nb_isinstance (by decide +kernel) (pa_cons (pv 0) (pa_cons (pe_bltn (v := V.ty "tuple") (by rfl) T.nb_tuple (by decide +kernel) rfl) pa_nil))) (pe_and (pe_cmpR (eqK (K := K) rfl hu) (pe_callB (lenK (K := K) rfl) (by rfl) T.nb_len (by decide +kernel) (pa_cons (pv 0) pa_nil)) pe_int (nomark _)) (pe_and (pe_callB (isiK (K := K) rfl) (by rfl) T.nb_isinstance (by decide +kernel) (pa_cons (pe_ix (ixK (K := K) rfl) (pv 0) pe_int (fun _ _ => rfl)) (pa_cons (pe_bltn (v := V.ty "str") (by rfl) T.nb_str (by decide +kernel) rfl) pa_nil))) (pe_one (pe_cmpR (eqK (K := K) rfl hu) (pe_ix (ixK (K := K) rfl) (pv 0) pe_int (fun _ _ => rfl)) (pe_ix (ixK (K := K) rfl) (readK (K := K) rfl (by rfl) T.g_READ) pe_int (fun _ _ => rfl)) (nomark _)))))))), ?_⟩
  try dsimp only [cxOf]
  refine ex_snd ?_
  intro ds S Qd h
  obtain ⟨e, rfl, h⟩ := h
  walk_at "dsem"
  cases e with
  | rd =>
    walk_at "dsem"
    rw [if_pos (by decide)]
    exact h
  | st i v =>
    walk_at "dsem"
    rw [if_neg (by decide)]
    exact h
abbrev s_may_begin : Stmt := topS 35
abbrev N_may_begin : List Str := ["world", "value"]
abbrev P_may_begin : List Str := ["world", "value"]
theorem sc_may_begin : FnScope N_may_begin P_may_begin (defScope s_may_begin) := ⟨rfl, rfl, rfl, by decide +kernel, rfl, by decide +kernel, by decide +kernel⟩
theorem ok_may_begin {f : Addr} {fd : FuncData} (F : Fun K "may_begin" "may_begin" s_may_begin f fd) (T : Tx K mg) (F_is_state : Fk P w K mg base "is_state" 4 P_is_state (spOf K TT sp_is_state)) : FnOk P w K mg base CX0 5 f fd P_may_begin (spOf K TT sp_may_begin) := by
  refine fun_okD (k := 4) F sc_may_begin len_may_begin fun cdv A outer s H E hr => ?_
  have hu := hr.units
  have hu1 := hu_of hr
  have hu65 := hu65_of hr
  refine ⟨_, (pss_one (ps_ret (pe_and (pe_callF F_is_state (hr.mono (by decide)) (by rfl) (pa_cons (pv 0) (pa_cons (pv 1) pa_nil))) (pe_one (pe_or (pe_cmp (pc_isN (pe_ix (ixK (K := K) rfl) (pv 0) pe_int (fun _ _ => rfl))) (by rfl)) (pe_one (pe_cmpR (eqK (K := K) rfl hu) (pv 1) (pe_ix (ixK (K := K) rfl) (pv 0) pe_int (fun _ _ => rfl)) (nomark _)))))))), ?_⟩
  try dsimp only [cxOf]
  refine ex_snd ?_
  intro ds S Qd h
  obtain ⟨w, s, rfl, h1, h2, h3, h⟩ := h
  walk_at "dsem"
  refine ⟨w, s, rfl, h1, h2, ?_⟩
  walk_at "dsem"
  cases hs : w.st with
  | none =>
    walk_at "dsem"
    exact h
  | some b =>
    walk_at "dsem"
    have e := h3 b hs
    subst e
    have e1 : eqD (D.tup (List.map eN s)) (D.tup (List.map eN s)) = true := (eqe_Ns.eq s s).trans (decide_eq_true rfl)
    have e2 := (eqe_Ns.sh s).ok (by decide)
    exact ⟨⟨e2, e2⟩, by rw [e1]; exact h⟩
abbrev s_is_run : Stmt := topS 36
abbrev N_is_run : List Str := ["world", "plan", "value", "here", "reads", "event"]
abbrev P_is_run : List Str := ["world", "plan", "value"]
theorem sc_is_run : FnScope N_is_run P_is_run (defScope s_is_run) := ⟨rfl, rfl, rfl, by decide +kernel, rfl, by decide +kernel, by decide +kernel⟩
theorem ok_is_run {f : Addr} {fd : FuncData} (F : Fun K "is_run" "is_run" s_is_run f fd) (T : Tx K mg) (F_changed2 : Fk P w K mg base "changed_runs" 1 P_changed2 (spOf K TT sp_changed2)) (F_is_read_event : Fk P w K mg base "is_read_event" 1 P_is_read_event (spOf K TT sp_is_read_event)) (F_is_step_event : Fk P w K mg base "is_step_event" 3 P_is_step_event (spOf K TT sp_is_step_event)) (F_may_begin : Fk P w K mg base "may_begin" 5 P_may_begin (spOf K TT sp_may_begin)) : FnOk P w K mg base CX0 6 f fd P_is_run (spOf K TT sp_is_run) := by
  refine fun_okD (k := 5) F sc_is_run len_is_run fun cdv A outer s H E hr => ?_
  have hu := hr.units
  have hu1 := hu_of hr
  have hu65 := hu65_of hr
  refine ⟨_, (pss_cons (ps_if (PW.pt (pw_or (pt_not (pt_val (pe_callB (isiK (K := K) rfl) (by rfl) T.nb_isinstance (by decide +kernel) (pa_cons (pv 2) (pa_cons (pe_bltn (v := V.ty "tuple") (by rfl) T.nb_tuple (by decide +kernel) rfl) pa_nil))))) (pw_or (pt_cmpR (neK (K := K) rfl hu) (pe_callB (lenK (K := K) rfl) (by rfl) T.nb_len (by decide +kernel) (pa_cons (pv 2) pa_nil)) (pe_globI (by rfl) T.g_RUN_PARTS) (nomark _)) (pw_or1 (pt_not (pt_val (pe_callF F_may_begin (hr.mono (by decide)) (by rfl) (pa_cons (pv 0) (pa_cons (pe_ix (ixK (K := K) rfl) (pv 2) pe_int (fun _ _ => rfl)) pa_nil))))))))) (pss_one (ps_ret pe_bl)) pss_nil)
    (pss_cons (ps_if (pt_not (pt_val (pe_callB (isiK (K := K) rfl) (by rfl) T.nb_isinstance (by decide +kernel) (pa_cons (pe_ix (ixK (K := K) rfl) (pv 2) pe_int (fun _ _ => rfl)) (pa_cons (pe_bltn (v := V.ty "tuple") (by rfl) T.nb_tuple (by decide +kernel) rfl) pa_nil))))) (pss_one (ps_ret pe_bl)) pss_nil)
    (pss_cons (ps_par (i := 3) (j := 4) rfl sc_is_run.nd rfl rfl (by decide) rfl rfl (pa_cons (pe_ix (ixK (K := K) rfl) (pv 2) pe_int (fun _ _ => rfl)) (pa_cons pe_int pa_nil)) (by rfl))
    (pss_cons (ps_for PassesOwn.never rfl (seqK (K := K) rfl (pe_ix (ixK (K := K) rfl) (pv 2) pe_int (fun _ _ => rfl))) (pg_name (i := 5) sc_is_run.nd rfl (by first | exact Or.inl rfl | exact Or.inr rfl))
      (pss_one (ps_if (pt_val (pe_callF F_is_read_event (hr.mono (by decide)) (by rfl) (pa_cons (pv 5) pa_nil))) (pss_one (ps_aug (i := 4) sc_is_run.nd rfl (by first | exact Or.inl rfl | exact Or.inr rfl) pe_int ip_add)) (pss_one (ps_if (pt_val (pe_callF F_is_step_event (hr.mono (by decide)) (by rfl) (pa_cons (pv 0) (pa_cons (pv 3) (pa_cons (pv 5) pa_nil))))) (pss_one (ps_set (i := 3) sc_is_run.nd rfl (by first | exact Or.inl rfl | exact Or.inr rfl) (pe_callF F_changed2 (hr.mono (by decide)) (by rfl) (pa_cons (pv 3) (pa_cons (pe_ix (ixK (K := K) rfl) (pv 5) pe_int (fun _ _ => rfl)) (pa_cons (pe_ix (ixK (K := K) rfl) (pv 5) pe_int (fun _ _ => rfl)) pa_nil)))))) (pss_one (ps_ret pe_bl)))))))
    (pss_one (ps_ret (pe_cmpR (eqK (K := K) rfl hu) (pv 4) (pe_callB (lenK (K := K) rfl) (by rfl) T.nb_len (by decide +kernel) (pa_cons (pv 1) pa_nil)) (nomark _)))))))), ?_⟩
  try dsimp only [cxOf]
  refine ex_snd ?_
  intro ds S Qd h
  obtain ⟨w, p, r, rfl, h1, h⟩ := h
  walk_at "dsem"
  rw [if_neg (by simp)]
  refine ⟨w, r.1, rfl, h1.okw, h1.s0, fun b hb => h1.beg b hb, ?_⟩
  walk_at "dsem"
  intro _
  have hrl := rds_len r
  refine forD_ind eEv (fun evs ρ S' => S' = S ∧ ∃ (s : List Nat) (k : Nat) (x : Option D), ρ = [some (D.tup [D.tup (List.map eVr w.vs), eSt w.st, eFn w.fn]), some (D.tup (List.map eNs p)),
                some (D.tup [D.tup (List.map eN r.fst), D.tup (List.map eEv r.snd)]), some (D.tup (List.map eN s)), some (D.int k), x] ∧ Chain w.vs s evs ∧ OkS w.vs s ∧ k + (evs.length - nst evs) = p.length)
    ?_ ?_ _ _ _ ⟨rfl, r.1, 0, none, rfl, h1.ch, h1.s0, by have := h1.nrd; omega⟩
  · rintro e evs ρ S' nx ⟨rfl, s, k, x, rfl, hc, hs, hk⟩ hnx
    have hle := nst_le evs
    cases e with
    | rd =>
      walk_at "dsem"
      refine ⟨.rd, rfl, ?_⟩
      walk_at "dsem"
      refine hnx _ _ ⟨rfl, s, k + 1, _, rfl, hc, hs, ?_⟩
      simp only [List.length_cons, nst] at hk
      omega
    | st i v =>
      walk_at "dsem"
      refine ⟨.st i v, rfl, ?_⟩
      rw [decide_eq_false (fun z => by cases z)]
      walk_at "dsem"
      refine ⟨w, s, i, v, rfl, h1.okw, hs, hc.1, ?_⟩
      walk_at "dsem"
      have hm : vr w.vs i ∈ w.vs := List.mem_of_getElem? (vr_get hc.1.1)
      refine ⟨s, i, v, rfl, by rw [hs.1]; exact hc.1.1, by rw [hs.1]; exact h1.okw.few, ?_⟩
      refine hnx _ _ ⟨rfl, s.set i v, k, _, rfl, hc.2, oks_set hs hc.1.1 ((okvs h1.okw _ hm).2.2 _ hc.1.2).2.1, ?_⟩
      simp only [List.length_cons, nst] at hk
      omega
  · rintro ρ S' ⟨rfl, s, k, x, rfl, hc, hs, hk⟩
    walk_at "dsem"
    simp only [List.length_nil, nst] at hk
    rw [List.length_map, decide_eq_true (by omega)]
    exact h
abbrev s_changed2 : Stmt := topS 37
abbrev N_changed2 : List Str := ["here", "variable", "value"]
abbrev P_changed2 : List Str := ["here", "variable", "value"]
theorem sc_changed2 : FnScope N_changed2 P_changed2 (defScope s_changed2) := ⟨rfl, rfl, rfl, by decide +kernel, rfl, by decide +kernel, by decide +kernel⟩
theorem ok_changed2 {f : Addr} {fd : FuncData} (F : Fun K "changed" "changed" s_changed2 f fd) (T : Tx K mg) : FnOk P w K mg base CX0 1 f fd P_changed2 (spOf K TT sp_changed2) := by
  refine fun_okD (k := 0) F sc_changed2 len_changed2 fun cdv A outer s H E hr => ?_
  have hu := hr.units
  have hu1 := hu_of hr
  have hu65 := hu65_of hr
  refine ⟨_, (pss_one (ps_ret (pe_op (addK (K := K) rfl) (pe_op (addK (K := K) rfl) (pe_slice (slK (K := K) rfl) (pv 0) po_none (po_some (pv 1))) (pe_tup (pa_cons (pv 2) pa_nil))) (pe_slice (slK (K := K) rfl) (pv 0) (po_some (pe_op (addK (K := K) rfl) (pv 1) pe_int)) po_none)))), ?_⟩
  try dsimp only [cxOf]
  refine ex_snd ?_
  intro ds S Qd h
  obtain ⟨s, i, x, rfl, h1, h2, h⟩ := h
  walk_at "dsem"
  have hl := set_len (x := x) h1
  have hl2 : (DL.cutD (List.map eN s) none (some ↑i)).length + 1 ≤ s.length := by
    rw [List.length_append] at hl
    simp only [List.length_singleton] at hl
    omega
  refine ⟨line_of (by omega), by rw [hl]; exact line_of (by omega), ?_⟩
  rw [set_cut h1]
  exact h
abbrev s_states : Stmt := topS 39
abbrev N_states : List Str := ["run", "found", "event"]
abbrev P_states : List Str := ["run"]
theorem sc_states : FnScope N_states P_states (defScope s_states) := ⟨rfl, rfl, rfl, by decide +kernel, rfl, by decide +kernel, by decide +kernel⟩
theorem ok_states {f : Addr} {fd : FuncData} (F : Fun K "states" "states" s_states f fd) (T : Tx K mg) (F_changed2 : Fk P w K mg base "changed_runs" 1 P_changed2 (spOf K TT sp_changed2)) : FnOk P w K mg base CX0 2 f fd P_states (spOf K TT sp_states) := by
  refine fun_okD (k := 1) F sc_states len_states fun cdv A outer s H E hr => ?_
  have hu := hr.units
  have hu1 := hu_of hr
  have hu65 := hu65_of hr
  refine ⟨_, (pss_cons (ps_set (i := 1) sc_states.nd rfl (by first | exact Or.inl rfl | exact Or.inr rfl) (pe_lstM (pa_cons (pe_ix (ixK (K := K) rfl) (pv 0) pe_int (fun _ _ => rfl)) pa_nil)))
    (pss_cons (ps_for PassesOwn.never rfl (seqK (K := K) rfl (pe_ix (ixK (K := K) rfl) (pv 0) pe_int (fun _ _ => rfl))) (pg_name (i := 2) sc_states.nd rfl (by first | exact Or.inl rfl | exact Or.inr rfl))
      (pss_one (ps_if (pt_cmpR (neK (K := K) rfl hu) (pv 2) (readK (K := K) rfl (by rfl) T.g_READ) (nomark _)) (pss_one (ps_expr (pe_bm PySem.F.plainAttrs_list PySem.F.slot_list_append PySem.F.type_list_append mt_append (pvM 1) (pa_cons (pe_callF F_changed2 (hr.mono (by decide)) (by rfl) (pa_cons (pe_ix (ixK (K := K) rfl) (pvM 1) (pe_un un_neg pe_int) (fun _ _ => rfl)) (pa_cons (pe_ix (ixK (K := K) rfl) (pv 2) pe_int (fun _ _ => rfl)) (pa_cons (pe_ix (ixK (K := K) rfl) (pv 2) pe_int (fun _ _ => rfl)) pa_nil)))) pa_nil)))) pss_nil)))
    (pss_frz 1 (pss_one (ps_ret (pe_callTy (tupK (K := K) rfl) (by rfl) T.nb_tuple (by decide +kernel) (pa_cons (pv 1) pa_nil))))))), ?_⟩
  try dsimp only [cxOf]
  refine ex_snd ?_
  intro ds S Qd h
  obtain ⟨r, rfl, h1, h⟩ := h
  walk_at "dsem"
  intro _
  have hln := sts_len r
  have hnl := nst_le r.2
  have hfew := h1.2.1
  refine forD_ind eEv (fun evs ρ S' => S' = S ∧ ∃ (pre : List (List Nat)) (s : List Nat) (x : Option D), ρ = [some (D.tup [D.tup (List.map eN r.fst), D.tup (List.map eEv r.snd)]), some (D.mu (pre.map eNs ++ [eNs s])), x] ∧ pre ++ s :: stsA s evs = sts r ∧ s.length = r.1.length ∧ ∀ e ∈ evs, e ∈ r.2)
    ?_ ?_ _ _ _ ⟨rfl, [], r.1, none, rfl, rfl, rfl, fun e he => he⟩
  · rintro e evs ρ S' nx ⟨rfl, pre, s, x, rfl, hc, hs, hm⟩ hnx
    have hlen := congrArg List.length hc
    rw [List.length_append, List.length_cons] at hlen
    walk_at "dsem"
    cases e with
    | rd =>
      walk_at "dsem"
      exact hnx _ _ ⟨rfl, pre, s, _, rfl, hc, hs, fun e he => hm e (List.mem_cons_of_mem _ he)⟩
    | st i v =>
      rw [decide_eq_false (fun z => by cases z)]
      walk_at "dsem"
      refine atD_last ?_
      refine ⟨s, i, v, rfl, by rw [hs]; exact h1.2.2 i v (hm _ List.mem_cons_self), by rw [hs]; exact h1.1, ?_⟩
      refine ⟨by rw [List.length_append, List.length_map]; simp only [List.length_singleton]; omega, hnx _ _ ⟨rfl, pre ++ [s], s.set i v, some (eEv (.st i v)), ?_, by rw [← hc, List.append_assoc] <;> rfl, by rw [List.length_set]; exact hs, fun e he => hm e (List.mem_cons_of_mem _ he)⟩⟩
      rw [map_snoc] <;> rfl
  · rintro ρ S' ⟨rfl, pre, s, x, rfl, hc, hs, hm⟩
    walk_at "dsem"
    have e : (sts r).map eNs = pre.map eNs ++ [D.tup (s.map eN)] := by rw [← hc, stsA, List.map_append] <;> rfl
    rw [e] at h
    exact h
abbrev s_read_moments : Stmt := topS 40
abbrev N_read_moments : List Str := ["run", "found", "moment", "event"]
abbrev P_read_moments : List Str := ["run"]
theorem sc_read_moments : FnScope N_read_moments P_read_moments (defScope s_read_moments) := ⟨rfl, rfl, rfl, by decide +kernel, rfl, by decide +kernel, by decide +kernel⟩
theorem ok_read_moments {f : Addr} {fd : FuncData} (F : Fun K "read_moments" "read_moments" s_read_moments f fd) (T : Tx K mg) : FnOk P w K mg base CX0 1 f fd P_read_moments (spOf K TT sp_read_moments) := by
  refine fun_okD (k := 0) F sc_read_moments len_read_moments fun cdv A outer s H E hr => ?_
  have hu := hr.units
  have hu1 := hu_of hr
  have hu65 := hu65_of hr
  refine ⟨_, (pss_cons (ps_par (i := 1) (j := 2) rfl sc_read_moments.nd rfl rfl (by decide) rfl rfl (pa_cons (pe_lstM pa_nil) (pa_cons pe_int pa_nil)) (by rfl))
    (pss_cons (ps_for PassesOwn.never rfl (seqK (K := K) rfl (pe_ix (ixK (K := K) rfl) (pv 0) pe_int (fun _ _ => rfl))) (pg_name (i := 3) sc_read_moments.nd rfl (by first | exact Or.inl rfl | exact Or.inr rfl))
      (pss_one (ps_if (pt_cmpR (eqK (K := K) rfl hu) (pv 3) (readK (K := K) rfl (by rfl) T.g_READ) (nomark _)) (pss_one (ps_expr (pe_bm PySem.F.plainAttrs_list PySem.F.slot_list_append PySem.F.type_list_append mt_append (pvM 1) (pa_cons (pv 2) pa_nil)))) (pss_one (ps_aug (i := 2) sc_read_moments.nd rfl (by first | exact Or.inl rfl | exact Or.inr rfl) pe_int ip_add)))))
    (pss_frz 1 (pss_one (ps_ret (pv 1)))))), ?_⟩
  try dsimp only [cxOf]
  refine ex_snd ?_
  intro ds S Qd h
  obtain ⟨r, rfl, h1, h⟩ := h
  walk_at "dsem"
  intro _
  have hrl := rds_len r
  have hfew := h1.2.1
  refine forD_ind eEv (fun evs ρ S' => S' = S ∧ ∃ (acc : List Nat) (k : Nat) (x : Option D), ρ = [some (D.tup [D.tup (List.map eN r.fst), D.tup (List.map eEv r.snd)]), some (D.mu (acc.map eN)), some (D.int k), x] ∧ acc ++ readA k evs = rds r)
    ?_ ?_ _ _ _ ⟨rfl, [], 0, none, rfl, rfl⟩
  · rintro e evs ρ S' nx ⟨rfl, acc, k, x, rfl, hc⟩ hnx
    have hlen := congrArg List.length hc
    rw [List.length_append] at hlen
    walk_at "dsem"
    cases e with
    | rd =>
      walk_at "dsem"
      rw [readA, List.length_cons] at hlen
      refine ⟨by rw [List.length_map]; omega, hnx _ _ ⟨rfl, acc ++ [k], k, _, by rw [map_snoc] <;> rfl, by rw [← hc, List.append_assoc] <;> rfl⟩⟩
    | st i v =>
      rw [decide_eq_false (fun z => by cases z)]
      walk_at "dsem"
      exact hnx _ _ ⟨rfl, acc, k + 1, _, rfl, hc⟩
  · rintro ρ S' ⟨rfl, acc, k, x, rfl, hc⟩
    walk_at "dsem"
    rw [readA, List.append_nil] at hc
    rw [hc]
    exact h
theorem at_head {l : List Nat} (h : l ≠ []) {q : D → Prop} (w : q (eN (l.headD 0))) : atD (l.map eN) 0 q := by
  cases l with
  | nil => exact absurd rfl h
  | cons a l =>
    rw [List.map_cons, at0]
    exact w
theorem at_end {α : Type} {e : α → D} {l : List α} {d : α} (h : l ≠ []) {q : D → Prop} (w : q (e (l.getLastD d))) : atD (l.map e) (-1) q := by
  cases l with
  | nil => exact absurd rfl h
  | cons a l =>
    have e1 := List.dropLast_concat_getLast h
    have e2 : (a :: l).map e = (a :: l).dropLast.map e ++ [e ((a :: l).getLast h)] := by rw [← map_snoc, e1]
    rw [e2]
    refine atD_last ?_
    rw [List.getLastD_cons] at w
    rw [List.getLast_eq_getLastD]
    exact w
abbrev s_span : Stmt := topS 41
abbrev N_span : List Str := ["run", "moments"]
abbrev P_span : List Str := ["run"]
theorem sc_span : FnScope N_span P_span (defScope s_span) := ⟨rfl, rfl, rfl, by decide +kernel, rfl, by decide +kernel, by decide +kernel⟩
theorem ok_span {f : Addr} {fd : FuncData} (F : Fun K "span" "span" s_span f fd) (T : Tx K mg) (F_read_moments : Fk P w K mg base "read_moments" 1 P_read_moments (spOf K TT sp_read_moments)) : FnOk P w K mg base CX0 2 f fd P_span (spOf K TT sp_span) := by
  refine fun_okD (k := 1) F sc_span len_span fun cdv A outer s H E hr => ?_
  have hu := hr.units
  have hu1 := hu_of hr
  have hu65 := hu65_of hr
  refine ⟨_, (pss_cons (ps_set (i := 1) sc_span.nd rfl (by first | exact Or.inl rfl | exact Or.inr rfl) (pe_callF F_read_moments (hr.mono (by decide)) (by rfl) (pa_cons (pv 0) pa_nil)))
    (pss_one (ps_ret (pe_tup (pa_cons (pe_ix (ixK (K := K) rfl) (pv 1) pe_int (fun _ _ => rfl)) (pa_cons (pe_ix (ixK (K := K) rfl) (pv 1) (pe_un un_neg pe_int) (fun _ _ => rfl)) pa_nil)))))), ?_⟩
  try dsimp only [cxOf]
  refine ex_snd ?_
  intro ds S Qd h
  obtain ⟨r, rfl, h1, h2, h⟩ := h
  walk_at "dsem"
  refine ⟨r, rfl, h1, ?_⟩
  walk_at "dsem"
  refine at_head h2 ?_
  refine at_end (d := 0) h2 ?_
  exact h
theorem at_sts (r : Rn) {k : Nat} (h : k ≤ nst r.2) {q : D → Prop} (w : q (eNs (stAt r k))) : atD ((sts r).map eNs) (k : Int) q := atD_nat (by rw [List.getElem?_map, stAt_get r h] <;> rfl) w
abbrev s_read_values : Stmt := topS 42
abbrev N_read_values : List Str := ["plan", "run", "passed", "found", "block", "moment", "variable"]
abbrev P_read_values : List Str := ["plan", "run"]
theorem sc_read_values : FnScope N_read_values P_read_values (defScope s_read_values) := ⟨rfl, rfl, rfl, by decide +kernel, rfl, by decide +kernel, by decide +kernel⟩
theorem ok_read_values {f : Addr} {fd : FuncData} (F : Fun K "read_values" "read_values" s_read_values f fd) (T : Tx K mg) (F_read_moments : Fk P w K mg base "read_moments" 1 P_read_moments (spOf K TT sp_read_moments)) (F_states : Fk P w K mg base "states" 2 P_states (spOf K TT sp_states)) : FnOk P w K mg base CX0 3 f fd P_read_values (spOf K TT sp_read_values) := by
  refine fun_okD (k := 2) F sc_read_values len_read_values fun cdv A outer s H E hr => ?_
  have hu := hr.units
  have hu1 := hu_of hr
  have hu65 := hu65_of hr
  refine ⟨_, (pss_cons (ps_asg (pe_tup (pa_cons (pe_callF F_states (hr.mono (by decide)) (by rfl) (pa_cons (pv 1) pa_nil)) (pa_cons pe_dnewM pa_nil))) (tgK 2 (K := K) rfl rfl (pgs_cons (pg_name (i := 2) sc_read_values.nd rfl (by first | exact Or.inl rfl | exact Or.inr rfl)) (pgs_cons (pg_name (i := 3) sc_read_values.nd rfl (by first | exact Or.inl rfl | exact Or.inr rfl)) pgs_nil))))
    (pss_cons (ps_for PassesOwn.never rfl (zipK (K := K) rfl (by rfl) T.nb_zip (pa_cons (pv 0) (pa_cons (pe_callF F_read_moments (hr.mono (by decide)) (by rfl) (pa_cons (pv 1) pa_nil)) pa_nil))) (tgK 2 (K := K) rfl rfl (pgs_cons (pg_name (i := 4) sc_read_values.nd rfl (by first | exact Or.inl rfl | exact Or.inr rfl)) (pgs_cons (pg_name (i := 5) sc_read_values.nd rfl (by first | exact Or.inl rfl | exact Or.inr rfl)) pgs_nil)))
      (pss_one (ps_for PassesOwn.never rfl (seqK (K := K) rfl (pv 4)) (pg_name (i := 6) sc_read_values.nd rfl (by first | exact Or.inl rfl | exact Or.inr rfl))
      (pss_one (ps_dput hu1 (pvM 3) (pv 6) (pe_ix (ixK (K := K) rfl) (pe_ix (ixK (K := K) rfl) (pv 2) (pv 5) (fun _ _ => rfl)) (pv 6) (fun _ _ => rfl)) rfl)))))
    (pss_frz 3 (pss_one (ps_ret (pe_callTy (tupK (K := K) rfl) (by rfl) T.nb_tuple (by decide +kernel) (pa_cons (pe_lcV (vs := [6]) [("variable", 6)] rfl sc_read_values.nd (seqK (K := K) rfl (pe_callB (sortK (K := K) rfl rfl) (by rfl) T.nb_sorted (by decide +kernel) (pa_cons (pv 3) pa_nil))) (show blkC N_read_values (defScope s_read_values) _ [("variable", 6)] = true by decide +kernel) rfl (fun _ _ _ _ _ => (pg_name (i := 6) sc_read_values.nd rfl (by first | exact Or.inl rfl | exact Or.inr rfl))) (fun _ _ _ _ _ => pts_nil) (fun _ _ _ _ _ => (pe_dget hu1 (pv 3) (pv 6) (fun _ _ => rfl)))) pa_nil))))))), ?_⟩
  try dsimp only [cxOf]
  refine ex_snd ?_
  intro ds S Qd h
  obtain ⟨w, p, r, rfl, h1, h⟩ := h
  walk_at "dsem"
  have hE := oke_of h1
  refine ⟨r, rfl, hE, r, rfl, hE, ?_⟩
  walk_at "dsem"
  intro _
  have hz : zipD (p.map eNs) ((rds r).map eN) = p.zipIdx.map fun x => D.tup [eNs x.1, eN ((rds r).getD x.2 0)] := by
    rw [zipD_map]
    apply List.ext_getElem?
    intro i
    rw [List.getElem?_map, List.getElem?_map, List.getElem?_zipIdx]
    by_cases hi : i < p.length
    · have hi2 : i < (rds r).length := by rw [h1.nrd]; exact hi
      rw [List.getElem?_eq_getElem (by rw [List.length_zip]; omega), List.getElem_zip, List.getElem?_eq_getElem hi]
      simp [hi2]
    · rw [List.getElem?_eq_none (by rw [List.length_zip]; omega), List.getElem?_eq_none (by omega)] <;> rfl
  rw [hz]
  have hflat : (flatP 0 p).length ≤ 40 := by
    have e := congrArg List.length (flatP_fst 0 p)
    rw [List.length_map] at e
    have := (perm_range h1.okp.nd h1.okp.mem).length_eq
    rw [List.length_range] at this
    have := h1.okw.few
    omega
  have hbd : ∀ q ∈ flatP 0 p, q.1 < w.vs.length := fun q hq => (h1.okp.mem _).mp (by rw [← flatP_fst 0 p]; exact List.mem_map.mpr ⟨q, hq, rfl⟩)
  have hnd : ((flatP 0 p).map (·.1)).Nodup := by rw [flatP_fst]; exact h1.okp.nd
  have hpz := flatP_zip 0 p
  have hfl : (fun q : Nat × Nat => ((q.1 : Int), eN (nth (stAt r ((rds r).getD q.2 0)) q.1))) = fun q : Nat × Nat => ((q.1 : Int), D.int (nth (stAt r ((rds r).getD q.2 0)) q.1)) := rfl
  refine forD_ind _ (fun rem ρ S' => S' = S ∧ ∃ (done : List (List Nat × Nat)) (x y z : Option D), ρ = [some (D.tup (List.map eNs p)), some (D.tup [D.tup (List.map eN r.fst), D.tup (List.map eEv r.snd)]), some (D.tup (List.map eNs (sts r))),
      some (D.md ((done.flatMap fl).map fun q => ((q.1 : Int), eN (nth (stAt r ((rds r).getD q.2 0)) q.1)))), x, y, z] ∧ done ++ rem = p.zipIdx) ?_ ?_ _ _ _ ⟨rfl, [], none, none, none, rfl, rfl⟩
  · rintro b rem ρ S' nx ⟨rfl, done, x, y, z, rfl, hd⟩ hnx
    have hpre : done.flatMap fl ++ (fl b ++ rem.flatMap fl) = flatP 0 p := by
      rw [hpz, ← hd, List.flatMap_append, List.flatMap_cons]
    have hb2 : b.2 < p.length := by
      have hm : b ∈ p.zipIdx := by rw [← hd]; simp
      obtain ⟨i, hi, e⟩ := List.mem_iff_getElem.mp hm
      rw [List.getElem_zipIdx] at e
      rw [List.length_zipIdx] at hi
      rw [← e]
      simpa using hi
    have hmom : (rds r).getD b.2 0 ≤ nst r.2 := rds_le r (getD_mem (by rw [h1.nrd]; exact hb2))
    have hst := stAt_ok h1 hmom
    walk_at "dsem"
    intro _
    refine forD_ind eN (fun vs ρ S'' => S'' = S' ∧ ∃ (us : List Nat) (z : Option D), ρ = [some (D.tup (List.map eNs p)), some (D.tup [D.tup (List.map eN r.fst), D.tup (List.map eEv r.snd)]), some (D.tup (List.map eNs (sts r))),
      some (D.md ((done.flatMap fl ++ us.map fun v => (v, b.2)).map fun q => ((q.1 : Int), eN (nth (stAt r ((rds r).getD q.2 0)) q.1)))), some (D.tup (b.1.map eN)), some (D.int ((rds r).getD b.2 0 : Nat)), z] ∧ us ++ vs = b.1) ?_ ?_ _ _ _ ⟨rfl, [], z, by rw [List.map_nil, List.append_nil] <;> rfl, rfl⟩
    · rintro v vs ρ S'' nx2 ⟨rfl, us, z, rfl, hu⟩ hnx2
      have hmem : (v, b.2) ∈ fl b := List.mem_map.mpr ⟨v, by rw [← hu]; simp, rfl⟩
      have hv : v < w.vs.length := hbd (v, b.2) (by rw [← hpre]; exact List.mem_append_right _ (List.mem_append_left _ hmem))
      walk_at "dsem"
      refine at_sts r hmom ?_
      walk_at "dsem"
      refine at_nth (by rw [hst.1]; exact hv) ?_
      walk_at "dsem"
      have hsub : done.flatMap fl ++ us.map (fun v => (v, b.2)) ++ ((v, b.2) :: (vs.map fun v => (v, b.2)) ++ rem.flatMap fl) = flatP 0 p := by
        rw [← hpre, show fl b = b.1.map fun v => (v, b.2) from rfl, ← hu, List.map_append, List.map_cons]
        simp
      have hlen := congrArg List.length hsub
      rw [List.length_append, List.length_append] at hlen
      refine ⟨by rw [List.length_map, List.length_append]; omega, ?_⟩
      rw [putD_new]
      · refine hnx2 _ _ ⟨rfl, us ++ [v], some (D.int v), ?_, by rw [← hu]; simp⟩
        rw [map_snoc (fun v => (v, b.2)), ← List.append_assoc, map_snoc] <;> rfl
      · intro hin
        rw [List.map_map] at hin
        obtain ⟨q, hq, e⟩ := List.mem_map.mp hin
        have e : (q.1 : Int) = v := e
        rw [← hsub, List.map_append] at hnd
        have := (List.nodup_append.mp hnd).2.2 q.1 (List.mem_map.mpr ⟨q, hq, rfl⟩) v (by simp)
        exact this (by omega)
    · rintro ρ S'' ⟨rfl, us, z, rfl, hu⟩
      rw [List.append_nil] at hu
      subst hu
      refine hnx _ _ ⟨rfl, done ++ [b], some (D.tup (b.1.map eN)), some (D.int ((rds r).getD b.2 0 : Nat)), z, ?_, by rw [← hd]; simp⟩
      rw [List.flatMap_append, List.flatMap_singleton] <;> rfl
  · rintro ρ S' ⟨rfl, done, x, y, z, rfl, hd⟩
    rw [List.append_nil] at hd
    subst hd
    rw [← hpz]
    walk_at "dsem"
    refine ⟨by rw [List.length_map]; omega, fun ys hp hs => ?_⟩
    have hk : ((flatP 0 p).map fun q => ((q.1 : Int), D.int (nth (stAt r ((rds r).getD q.2 0)) q.1))).map (·.1) = p.flatten.map Int.ofNat := by
      rw [List.map_map, ← flatP_fst 0 p, List.map_map] <;> rfl
    have hk2 : (p.flatten.map Int.ofNat).Perm ((List.range w.vs.length).map Int.ofNat) := (perm_range h1.okp.nd h1.okp.mem).map _
    have hys := sorted_range ((hk ▸ hp).trans hk2) hs
    subst hys
    rw [List.map_map, List.length_map, List.length_range]
    refine ⟨lt_line (by have := h1.okw.few; omega), ?_⟩
    refine lcD_all (D.int ∘ Int.ofNat) (fun v => eN (nth (stAt r ((rds r).getD (blk p v) 0)) v)) _ (fun v hv k1 k2 hk => ?_) ?_
    · walk_at "dsem"
      have hg : getD' ((flatP 0 p).map fun q => ((q.1 : Int), D.int (nth (stAt r ((rds r).getD q.2 0)) q.1))) (v : Int) = some (eN (nth (stAt r ((rds r).getD (blk p v) 0)) v)) := by
        rw [getD_flat (f := fun q => D.int (nth (stAt r ((rds r).getD q.2 0)) q.1)), blk_find h1.okp (List.mem_range.mp hv)] <;> rfl
      refine ⟨rfl, ?_⟩
      show gx (.dct _) (.int (v : Int)) _
      rw [gx_i _ _ _ hg]
      exact hk
    · walk_at "dsem"
      unfold rdVals eNs at h
      rw [List.map_map] at h
      exact h
theorem rd_oks {w : Wd} {p : Pl} {r : Rn} (h : OkR w p r) : OkS w.vs (rdVals w.vs.length p r) := by
  unfold rdVals
  refine ⟨by rw [List.length_map, List.length_range], fun i hi => ?_⟩
  have e : nth ((List.range w.vs.length).map fun v => nth (stAt r ((rds r).getD (blk p v) 0)) v) i = nth (stAt r ((rds r).getD (blk p i) 0)) i := by
    simp [hi]
  rw [e]
  exact (stAt_ok h (rds_le r (getD_mem (by rw [h.nrd]; exact blk_lt h.okp hi)))).2 i hi
abbrev s_run_result : Stmt := topS 43
abbrev N_run_result : List Str := ["world", "plan", "run"]
abbrev P_run_result : List Str := ["world", "plan", "run"]
theorem sc_run_result : FnScope N_run_result P_run_result (defScope s_run_result) := ⟨rfl, rfl, rfl, by decide +kernel, rfl, by decide +kernel, by decide +kernel⟩
theorem ok_run_result {f : Addr} {fd : FuncData} (F : Fun K "run_result" "run_result" s_run_result f fd) (T : Tx K mg) (F_read_values : Fk P w K mg base "read_values" 3 P_read_values (spOf K TT sp_read_values)) (F_result : Fk P w K mg base "result" 2 P_result (spOf K TT sp_result)) : FnOk P w K mg base CX0 4 f fd P_run_result (spOf K TT sp_run_result) := by
  refine fun_okD (k := 3) F sc_run_result len_run_result fun cdv A outer s H E hr => ?_
  have hu := hr.units
  have hu1 := hu_of hr
  have hu65 := hu65_of hr
  refine ⟨_, (pss_one (ps_ret (pe_callF F_result (hr.mono (by decide)) (by rfl) (pa_cons (pv 0) (pa_cons (pe_callF F_read_values (hr.mono (by decide)) (by rfl) (pa_cons (pv 1) (pa_cons (pv 2) pa_nil))) pa_nil))))), ?_⟩
  try dsimp only [cxOf]
  refine ex_snd ?_
  intro ds S Qd h
  obtain ⟨w, p, r, rfl, h1, h⟩ := h
  walk_at "dsem"
  exact ⟨w, p, r, rfl, h1, w, _, rfl, h1.okw, rd_oks h1, h⟩
abbrev s_span_results : Stmt := topS 44
abbrev N_span_results : List Str := ["world", "run", "first", "last", "here"]
abbrev P_span_results : List Str := ["world", "run"]
theorem sc_span_results : FnScope N_span_results P_span_results (defScope s_span_results) := ⟨rfl, rfl, rfl, by decide +kernel, rfl, by decide +kernel, by decide +kernel⟩
theorem ok_span_results {f : Addr} {fd : FuncData} (F : Fun K "span_results" "span_results" s_span_results f fd) (T : Tx K mg) (F_result : Fk P w K mg base "result" 2 P_result (spOf K TT sp_result)) (F_span : Fk P w K mg base "span" 2 P_span (spOf K TT sp_span)) (F_states : Fk P w K mg base "states" 2 P_states (spOf K TT sp_states)) : FnOk P w K mg base CX0 3 f fd P_span_results (spOf K TT sp_span_results) := by
  refine fun_okD (k := 2) F sc_span_results len_span_results fun cdv A outer s H E hr => ?_
  have hu := hr.units
  have hu1 := hu_of hr
  have hu65 := hu65_of hr
  refine ⟨_, (pss_cons (ps_asg (pe_callF F_span (hr.mono (by decide)) (by rfl) (pa_cons (pv 1) pa_nil)) (tgK 2 (K := K) rfl rfl (pgs_cons (pg_name (i := 2) sc_span_results.nd rfl (by first | exact Or.inl rfl | exact Or.inr rfl)) (pgs_cons (pg_name (i := 3) sc_span_results.nd rfl (by first | exact Or.inl rfl | exact Or.inr rfl)) pgs_nil))))
    (pss_one (ps_ret (pe_callTy (tupK (K := K) rfl) (by rfl) T.nb_tuple (by decide +kernel) (pa_cons (pe_lcV (vs := [4]) [("here", 4)] rfl sc_span_results.nd (seqK (K := K) rfl (pe_slice (slK (K := K) rfl) (pe_callF F_states (hr.mono (by decide)) (by rfl) (pa_cons (pv 1) pa_nil)) (po_some (pv 2)) (po_some (pe_op (addK (K := K) rfl) (pv 3) pe_int)))) (show blkC N_span_results (defScope s_span_results) _ [("here", 4)] = true by decide +kernel) rfl (fun _ _ _ _ _ => (pg_name (i := 4) sc_span_results.nd rfl (by first | exact Or.inl rfl | exact Or.inr rfl))) (fun _ _ _ _ _ => pts_nil) (fun _ _ _ _ _ => (pe_callF F_result (hr.mono (by decide)) (by rfl) (pa_cons (pv 0) (pa_cons (pv 4) pa_nil))))) pa_nil))))), ?_⟩
  try dsimp only [cxOf]
  refine ex_snd ?_
  intro ds S Qd h
  obtain ⟨w, p, r, rfl, h1, h⟩ := h
  walk_at "dsem"
  have hE := oke_of h1
  refine ⟨r, rfl, hE, rds_ne h1, ?_⟩
  walk_at "dsem"
  refine ⟨r, rfl, hE, ?_⟩
  walk_at "dsem"
  have e : ((sp1 r : Nat) : Int) + 1 = ((sp1 r + 1 : Nat) : Int) := by omega
  rw [e, cutD_mid, ← List.map_drop, ← List.map_take, List.length_map]
  have hl := sts_len r
  have hn := nst_le r.2
  have hf := hE.2.1
  refine ⟨lt_line (by rw [List.length_take, List.length_drop]; omega), ?_⟩
  refine lcD_all eNs (fun s => D.int (res w s)) _ (fun s hs k1 k2 hk => ?_) ?_
  · walk_at "dsem"
    exact ⟨w, s, rfl, h1.okw, sts_ok h1 s (List.mem_of_mem_drop (List.mem_of_mem_take hs)), hk⟩
  · walk_at "dsem"
    unfold spRes within eIs at h
    rw [List.map_map] at h
    exact h
theorem within_ne {w : Wd} {p : Pl} {r : Rn} (h : OkR w p r) : within r ≠ [] := fun e => by
  have hl := congrArg List.length e
  have h1 := sts_len r
  have h2 := sp_le (rds_ne h)
  have h3 := rds_le r (sp1_mem (rds_ne h))
  rw [within_take, List.length_take, List.length_drop, List.length_nil] at hl
  omega
theorem spRes_ne {w : Wd} {p : Pl} {r : Rn} (h : OkR w p r) : spRes w r ≠ [] := fun e => within_ne h (List.map_eq_nil_iff.mp e)
abbrev s_is_accepted : Stmt := topS 47
abbrev N_is_accepted : List Str := ["world", "mode", "plan", "run"]
abbrev P_is_accepted : List Str := ["world", "mode", "plan", "run"]
theorem sc_is_accepted : FnScope N_is_accepted P_is_accepted (defScope s_is_accepted) := ⟨rfl, rfl, rfl, by decide +kernel, rfl, by decide +kernel, by decide +kernel⟩
theorem ok_is_accepted {f : Addr} {fd : FuncData} (F : Fun K "is_accepted" "is_accepted" s_is_accepted f fd) (T : Tx K mg) (F_accepts : Fk P w K mg base "accepts" 1 P_accepts (spOf K TT sp_accepts)) (F_run_result : Fk P w K mg base "run_result" 4 P_run_result (spOf K TT sp_run_result)) (F_span_results : Fk P w K mg base "span_results" 3 P_span_results (spOf K TT sp_span_results)) : FnOk P w K mg base CX0 5 f fd P_is_accepted (spOf K TT sp_is_accepted) := by
  refine fun_okD (k := 4) F sc_is_accepted len_is_accepted fun cdv A outer s H E hr => ?_
  have hu := hr.units
  have hu1 := hu_of hr
  have hu65 := hu65_of hr
  refine ⟨_, (pss_one (ps_ret (pe_callF F_accepts (hr.mono (by decide)) (by rfl) (pa_cons (pv 1) (pa_cons (pe_callF F_run_result (hr.mono (by decide)) (by rfl) (pa_cons (pv 0) (pa_cons (pv 2) (pa_cons (pv 3) pa_nil)))) (pa_cons (pe_callF F_span_results (hr.mono (by decide)) (by rfl) (pa_cons (pv 0) (pa_cons (pv 3) pa_nil))) pa_nil)))))), ?_⟩
  try dsimp only [cxOf]
  refine ex_snd ?_
  intro ds S Qd h
  obtain ⟨w, m, p, r, rfl, h1, h⟩ := h
  walk_at "dsem"
  exact ⟨w, p, r, rfl, h1, w, p, r, rfl, h1, m, _, _, rfl, spRes_ne h1, h⟩
end
end RS
end
section
set_option maxRecDepth 100000
namespace RS
open PySem PySem.Spec PyProof.Rows L2 DL
/-! ### the steps of a run, and what they make -/
def stv : List Ev → List (Nat × Nat)
  | [] => []
  | .rd :: r => stv r
  | .st i v :: r => (i, v) :: stv r
theorem stR_map : ∀ (j : Nat) (l : List Ev), (stR j l).map (fun x => (x.1, x.2.1)) = stv l
  | _, [] => rfl
  | j, .rd :: r => stR_map (j + 1) r
  | j, .st i v :: r => by rw [stR, List.map_cons, stR_map j r] <;> rfl
theorem stR_len (j : Nat) (l : List Ev) : (stR j l).length = nst l := by
  induction l generalizing j with
  | nil => rfl
  | cons e l ih => cases e with
    | rd => exact ih (j + 1)
    | st i v => rw [stR, List.length_cons, ih j] <;> rfl
theorem stps_len (r : Rn) : (stps r).length = nst r.2 := stR_len 0 r.2
theorem stp_eq (r : Rn) (k : Nat) : stp r k = (stv r.2).getD k (0, 0) := by
  unfold stp stps
  rw [← stR_map 0 r.2, List.getD_eq_getElem?_getD, List.getD_eq_getElem?_getD, List.getElem?_map]
  cases (stR 0 r.2)[k]? <;> rfl
theorem stsG_succ : ∀ (s : List Nat) (l : List Ev) (k : Nat), k < nst l → (s :: stsA s l).getD (k + 1) [] = setS ((s :: stsA s l).getD k []) ((stv l).getD k (0, 0))
  | _, [], k, h => by simp [nst] at h
  | s, .rd :: r, k, h => stsG_succ s r k h
  | s, .st i v :: r, 0, h => by simp [stsA, stv, setS]
  | s, .st i v :: r, k + 1, h => by
    have ih := stsG_succ (s.set i v) r k (by simp only [nst] at h; omega)
    simpa [stsA, stv] using ih
theorem stAt_succ {r : Rn} {k : Nat} (h : k < nst r.2) : stAt r (k + 1) = setS (stAt r k) (stp r k) := by
  rw [stp_eq]
  exact stsG_succ r.1 r.2 k h
theorem stR_ge : ∀ (j : Nat) (l : List Ev), ∀ x ∈ stR j l, j ≤ x.2.2
  | _, [], x, h => by simp [stR] at h
  | j, .rd :: r, x, h => by
    have := stR_ge (j + 1) r x h
    omega
  | j, .st i v :: r, x, h => by
    rw [stR] at h
    rcases List.mem_cons.mp h with e | e
    · rw [e] <;> exact Nat.le_refl _
    · exact stR_ge j r x e
abbrev rkA (j : Nat) (l : List Ev) (k : Nat) : Nat := ((stR j l).getD k (0, 0, 0)).2.2
theorem rkA_ge (j : Nat) (l : List Ev) (k : Nat) (h : k < nst l) : j ≤ rkA j l k := by
  have hk : k < (stR j l).length := by rw [stR_len]; exact h
  unfold rkA
  rw [List.getD_eq_getElem?_getD, List.getElem?_eq_getElem hk]
  exact stR_ge j l _ (List.getElem_mem hk)
theorem readA_ge (k0 : Nat) (l : List Ev) (b : Nat) (h : b < (readA k0 l).length) : k0 ≤ (readA k0 l).getD b 0 := (readA_bd k0 l _ (getD_mem h)).1
theorem mom_iffA : ∀ (l : List Ev) (k0 j b k : Nat), b < (readA k0 l).length → k < nst l → ((readA k0 l).getD b 0 ≤ k0 + k ↔ b + j < rkA j l k)
  | [], _, _, b, _, h, _ => by simp [readA] at h
  | .rd :: r, k0, j, 0, k, h, hk => by
    have := rkA_ge (j + 1) r k hk
    have e : rkA j (.rd :: r) k = rkA (j + 1) r k := rfl
    rw [e]
    constructor
    · intro _; omega
    · intro _; simp [readA]
  | .rd :: r, k0, j, b + 1, k, h, hk => by
    have ih := mom_iffA r k0 (j + 1) b k (by simpa [readA] using h) hk
    have e : rkA j (.rd :: r) k = rkA (j + 1) r k := rfl
    have e2 : (readA k0 (.rd :: r)).getD (b + 1) 0 = (readA k0 r).getD b 0 := by simp [readA]
    rw [e, e2, ih]
    omega
  | .st i v :: r, k0, j, b, 0, h, hk => by
    have h1 := readA_ge (k0 + 1) r b h
    have e : rkA j (.st i v :: r) 0 = j := rfl
    have e2 : (readA k0 (.st i v :: r)).getD b 0 = (readA (k0 + 1) r).getD b 0 := rfl
    rw [e, e2]
    omega
  | .st i v :: r, k0, j, b, k + 1, h, hk => by
    have ih := mom_iffA r (k0 + 1) j b k h (by simp only [nst] at hk; omega)
    have e : rkA j (.st i v :: r) (k + 1) = rkA j r k := by simp [rkA, stR]
    have e2 : (readA k0 (.st i v :: r)).getD b 0 = (readA (k0 + 1) r).getD b 0 := rfl
    rw [e, e2, ← ih]
    omega
abbrev rk (r : Rn) (k : Nat) : Nat := rkA 0 r.2 k
theorem mom_iff {r : Rn} {b k : Nat} (hb : b < (rds r).length) (hk : k < nst r.2) : (rds r).getD b 0 ≤ k ↔ b < rk r k := by
  have := mom_iffA r.2 0 0 b k hb hk
  rw [Nat.zero_add, Nat.add_zero] at this
  exact this
theorem headD_get {l : List Nat} (h : l ≠ []) : l.headD 0 = l.getD 0 0 := by
  cases l with
  | nil => exact absurd rfl h
  | cons a l => rfl
theorem lastD_get {l : List Nat} (h : l ≠ []) : l.getLastD 0 = l.getD (l.length - 1) 0 := by
  cases l with
  | nil => exact absurd rfl h
  | cons a l =>
    rw [List.getLastD_cons, ← List.getLast_eq_getLastD (List.cons_ne_nil a l), List.getLast_eq_getElem]
    simp
/-- where a variable is read -/
abbrev tOf (p : Pl) (r : Rn) (v : Nat) : Nat := (rds r).getD (blk p v) 0
section
variable {w : Wd} {p : Pl} {r : Rn}
theorem var_lt (h : OkR w p r) {k : Nat} (hk : k < nst r.2) : (stp r k).1 < w.vs.length ∧ (nth (stAt r k) (stp r k).1, (stp r k).2) ∈ (vr w.vs (stp r k).1).2 := by
  rw [stp_eq]
  have go : ∀ (l : List Ev) (s : List Nat) (k : Nat), Chain w.vs s l → k < nst l → ((stv l).getD k (0, 0)).1 < w.vs.length ∧ (nth ((s :: stsA s l).getD k []) ((stv l).getD k (0, 0)).1, ((stv l).getD k (0, 0)).2) ∈ (vr w.vs ((stv l).getD k (0, 0)).1).2 := by
    intro l
    induction l with
    | nil => intro s k _ hk; simp [nst] at hk
    | cons e l ih =>
      intro s k hc hk
      cases e with
      | rd => exact ih s k hc hk
      | st i v =>
        cases k with
        | zero => exact hc.1
        | succ k =>
          have := ih (s.set i v) k hc.2 (by simp only [nst] at hk; omega)
          simpa [stsA, stv] using this
  exact go r.2 r.1 k h.ch hk
theorem inner_of (h : OkR w p r) {k : Nat} (hk : k < nst r.2) : (0 < rk r k ↔ sp0 r ≤ k) ∧ (rk r k < p.length ↔ k < sp1 r) := by
  have hn := rds_ne h
  have hl : 0 < (rds r).length := List.length_pos_iff.mpr hn
  have h1 := mom_iff (r := r) (b := 0) hl hk
  have h2 := mom_iff (r := r) (b := (rds r).length - 1) (by omega) hk
  rw [← headD_get hn] at h1
  rw [← lastD_get hn] at h2
  have hnr := h.nrd
  refine ⟨h1.symm, ?_⟩
  have h3 : sp1 r ≤ k ↔ (rds r).length - 1 < rk r k := h2
  omega
theorem t_bd (h : OkR w p r) {v : Nat} (hv : v < w.vs.length) : sp0 r ≤ tOf p r v ∧ tOf p r v ≤ sp1 r := by
  have hb := blk_lt h.okp hv
  have hn := rds_ne h
  have hinc := readA_inc 0 r.2
  have hlen := h.nrd
  have get : ∀ i j, i ≤ j → j < (rds r).length → (rds r).getD i 0 ≤ (rds r).getD j 0 := fun i j hij hj => by
    rw [List.getD_eq_getElem?_getD, List.getD_eq_getElem?_getD, List.getElem?_eq_getElem (by omega), List.getElem?_eq_getElem hj]
    show (rds r)[i] ≤ (rds r)[j]
    rcases Nat.lt_or_eq_of_le hij with e | e
    · exact List.pairwise_iff_getElem.mp hinc i j _ _ e
    · subst e; exact Nat.le_refl _
  constructor
  · unfold sp0
    rw [headD_get hn]
    exact get _ _ (Nat.zero_le _) (by omega)
  · unfold sp1
    rw [lastD_get hn]
    exact get _ _ (by omega) (by omega)
theorem late_iff (h : OkR w p r) {k : Nat} (hk : k < nst r.2) : blk p (stp r k).1 < rk r k ↔ tOf p r (stp r k).1 ≤ k := by
  have hv := (var_lt h hk).1
  exact (mom_iff (by rw [h.nrd]; exact blk_lt h.okp hv) hk).symm
theorem mem_inner (h : OkR w p r) (late : Bool) (k : Nat) : k ∈ inner p r late ↔ (sp0 r ≤ k ∧ k < sp1 r) ∧ decide (tOf p r (stp r k).1 ≤ k) = late := by
  unfold inner
  rw [List.mem_map]
  have hsp : sp1 r ≤ nst r.2 := rds_le r (sp1_mem (rds_ne h))
  constructor
  · rintro ⟨x, hx, rfl⟩
    obtain ⟨hm, hb⟩ := List.mem_filter.mp hx
    obtain ⟨i, hi, e⟩ := List.mem_iff_getElem.mp hm
    rw [List.length_zipIdx, stps_len] at hi
    rw [List.getElem_zipIdx] at e
    subst e
    simp only [innB, Bool.and_eq_true, decide_eq_true_eq, Nat.zero_add] at hb ⊢
    obtain ⟨⟨h1, h2⟩, h3⟩ := hb
    have hl : i < (stps r).length := by rw [stps_len]; exact hi
    have e1 : (stps r)[i].2.2 = rk r i := by
      unfold rk rkA
      rw [List.getD_eq_getElem?_getD, List.getElem?_eq_getElem (by rw [stR_len]; exact hi)] <;> rfl
    have e2 : (stps r)[i].1 = (stp r i).1 := by
      unfold stp
      rw [List.getD_eq_getElem?_getD, List.getElem?_eq_getElem (by rw [stps_len]; exact hi)] <;> rfl
    rw [e1] at h1 h2 h3
    rw [e2] at h3
    have a := inner_of h hi
    refine ⟨⟨a.1.mp h1, a.2.mp h2⟩, ?_⟩
    rw [← h3]
    by_cases c : blk p (stp r i).1 < rk r i
    · rw [decide_eq_true c, decide_eq_true ((late_iff h hi).mp c)]
    · rw [decide_eq_false c, decide_eq_false fun z => c ((late_iff h hi).mpr z)]
  · rintro ⟨⟨h1, h2⟩, h3⟩
    have hi : k < nst r.2 := by omega
    have hl : k < (stps r).length := by rw [stps_len]; exact hi
    refine ⟨((stps r)[k], k), List.mem_filter.mpr ⟨?_, ?_⟩, rfl⟩
    · exact List.mem_iff_getElem.mpr ⟨k, by rw [List.length_zipIdx]; exact hl, by rw [List.getElem_zipIdx]; simp⟩
    · have a := inner_of h hi
      have e1 : (stps r)[k].2.2 = rk r k := by
        unfold rk rkA
        rw [List.getD_eq_getElem?_getD, List.getElem?_eq_getElem (by rw [stR_len]; exact hi)] <;> rfl
      have e2 : (stps r)[k].1 = (stp r k).1 := by
        unfold stp
        rw [List.getD_eq_getElem?_getD, List.getElem?_eq_getElem hl] <;> rfl
      simp only [innB, Bool.and_eq_true, decide_eq_true_eq]
      rw [e1, e2]
      refine ⟨⟨a.1.mpr h1, a.2.mpr h2⟩, ?_⟩
      rw [← h3]
      by_cases c : blk p (stp r k).1 < rk r k
      · rw [decide_eq_true c, decide_eq_true ((late_iff h hi).mp c)]
      · rw [decide_eq_false c, decide_eq_false fun z => c ((late_iff h hi).mpr z)]
theorem inner_asc (late : Bool) : (inner p r late).Pairwise (· < ·) := by
  unfold inner
  refine List.Pairwise.map (R := fun a b : (Nat × Nat × Nat) × Nat => a.2 < b.2) (·.2) (fun a b h => h) (List.Pairwise.filter _ ?_)
  rw [List.pairwise_iff_getElem]
  intro i j hi hj hij
  rw [List.getElem_zipIdx, List.getElem_zipIdx]
  simpa using hij
theorem mem_lates (h : OkR w p r) (k : Nat) : k ∈ lates p r ↔ (sp0 r ≤ k ∧ k < sp1 r) ∧ tOf p r (stp r k).1 ≤ k := by
  rw [mem_inner h]
  simp
theorem mem_earls (h : OkR w p r) (k : Nat) : k ∈ earls p r ↔ (sp0 r ≤ k ∧ k < sp1 r) ∧ k < tOf p r (stp r k).1 := by
  rw [mem_inner h]
  simp
/-! the states between: a variable as it stood at the time l, or where it was read if that is behind l, but ahead of e -/
def mid (w : Wd) (p : Pl) (r : Rn) (l e : Nat) : List Nat := (List.range w.vs.length).map fun v => nth (stAt r (max l (min e (tOf p r v)))) v
theorem nth_ext {a b : List Nat} {n : Nat} (ha : a.length = n) (hb : b.length = n) (h : ∀ v, v < n → nth a v = nth b v) : a = b := by
  apply List.ext_getElem?
  intro i
  by_cases hi : i < n
  · rw [nth_get (by rw [ha]; exact hi), nth_get (by rw [hb]; exact hi), h i hi]
  · rw [List.getElem?_eq_none (by omega), List.getElem?_eq_none (by omega)]
theorem mid_len (l e : Nat) : (mid w p r l e).length = w.vs.length := by unfold mid; rw [List.length_map, List.length_range]
theorem nth_mid {l e v : Nat} (hv : v < w.vs.length) : nth (mid w p r l e) v = nth (stAt r (max l (min e (tOf p r v)))) v := by
  unfold mid
  simp [hv]
theorem nth_set {s : List Nat} {i v j : Nat} (hi : i < s.length) : nth (s.set i v) j = if i = j then v else nth s j := by
  by_cases e : i = j
  · subst e
    simp [hi]
  · simp [e]
theorem stAt_len (h : OkR w p r) {k : Nat} (hk : k ≤ nst r.2) : (stAt r k).length = w.vs.length := (stAt_ok h hk).1
theorem nth_succ (h : OkR w p r) {k v : Nat} (hk : k < nst r.2) : nth (stAt r (k + 1)) v = if (stp r k).1 = v then (stp r k).2 else nth (stAt r k) v := by
  rw [stAt_succ hk]
  exact nth_set (by rw [stAt_len h (by omega)]; exact (var_lt h hk).1)
theorem mid_diag (h : OkR w p r) {l : Nat} (hl : l ≤ nst r.2) : mid w p r l l = stAt r l := nth_ext (mid_len l l) (stAt_len h hl) fun v hv => by
  rw [nth_mid hv, Nat.max_eq_left (Nat.min_le_left _ _)]
theorem mid_read (h : OkR w p r) : mid w p r (sp0 r) (sp1 r) = rdVals w.vs.length p r := by
  unfold mid rdVals
  apply List.map_congr_left
  intro v hv
  have := t_bd h (List.mem_range.mp hv)
  rw [Nat.min_eq_right this.2, Nat.max_eq_right this.1]
theorem mid_early (h : OkR w p r) {l e : Nat} (hle : l ≤ e) (he : e < nst r.2) (ht : e < tOf p r (stp r e).1) : mid w p r l (e + 1) = setS (mid w p r l e) (stp r e) := by
  have hv := (var_lt h he).1
  refine nth_ext (mid_len _ _) (by unfold setS; rw [List.length_set, mid_len]) fun v hv' => ?_
  unfold setS
  rw [nth_mid hv', nth_set (by rw [mid_len]; exact hv), nth_mid hv']
  by_cases c : (stp r e).1 = v
  · rw [if_pos c]
    subst c
    rw [show max l (min (e + 1) (tOf p r (stp r e).1)) = e + 1 by omega, nth_succ h he, if_pos rfl]
  · rw [if_neg c]
    by_cases d : e < tOf p r v
    · rw [show max l (min (e + 1) (tOf p r v)) = e + 1 by omega, show max l (min e (tOf p r v)) = e by omega, nth_succ h he, if_neg c]
    · rw [show min (e + 1) (tOf p r v) = min e (tOf p r v) by omega]
theorem mid_skipE (h : OkR w p r) {l e : Nat} (hle : l ≤ e) (he : e < nst r.2) (ht : tOf p r (stp r e).1 ≤ e) : mid w p r l (e + 1) = mid w p r l e := by
  refine nth_ext (mid_len _ _) (mid_len _ _) fun v hv' => ?_
  rw [nth_mid hv', nth_mid hv']
  by_cases d : e < tOf p r v
  · have c : ¬ (stp r e).1 = v := fun z => by rw [z] at ht; omega
    rw [show max l (min (e + 1) (tOf p r v)) = e + 1 by omega, show max l (min e (tOf p r v)) = e by omega, nth_succ h he, if_neg c]
  · rw [show min (e + 1) (tOf p r v) = min e (tOf p r v) by omega]
theorem mid_late (h : OkR w p r) {l e : Nat} (hle : l < e) (he : l < nst r.2) (ht : tOf p r (stp r l).1 ≤ l) : mid w p r (l + 1) e = setS (mid w p r l e) (stp r l) := by
  have hv := (var_lt h he).1
  refine nth_ext (mid_len _ _) (by unfold setS; rw [List.length_set, mid_len]) fun v hv' => ?_
  unfold setS
  rw [nth_mid hv', nth_set (by rw [mid_len]; exact hv), nth_mid hv']
  by_cases c : (stp r l).1 = v
  · rw [if_pos c]
    subst c
    rw [show max (l + 1) (min e (tOf p r (stp r l).1)) = l + 1 by omega, nth_succ h he, if_pos rfl]
  · rw [if_neg c]
    by_cases d : min e (tOf p r v) ≤ l
    · rw [show max (l + 1) (min e (tOf p r v)) = l + 1 by omega, show max l (min e (tOf p r v)) = l by omega, nth_succ h he, if_neg c]
    · rw [show max (l + 1) (min e (tOf p r v)) = max l (min e (tOf p r v)) by omega]
theorem mid_skipL (h : OkR w p r) {l e : Nat} (hle : l < e) (he : l < nst r.2) (ht : l < tOf p r (stp r l).1) : mid w p r (l + 1) e = mid w p r l e := by
  refine nth_ext (mid_len _ _) (mid_len _ _) fun v hv' => ?_
  rw [nth_mid hv', nth_mid hv']
  by_cases d : min e (tOf p r v) ≤ l
  · have c : ¬ (stp r l).1 = v := fun z => by rw [z] at ht; omega
    rw [show max (l + 1) (min e (tOf p r v)) = l + 1 by omega, show max l (min e (tOf p r v)) = l by omega, nth_succ h he, if_neg c]
  · rw [show max (l + 1) (min e (tOf p r v)) = max l (min e (tOf p r v)) by omega]
/-! the exchanges -/
/-- an exchange of the late step a and the early step b -/
def xcOf (w : Wd) (p : Pl) (r : Rn) (a b : Nat) : Xc := ((mid w p r a b, stp r a, stp r b), a, b)
theorem still (Z : Nat → List Nat) (t a : Nat) (h : t ≤ a) (hz : ∀ k, t ≤ k → k < a → Z (k + 1) = Z k) : Z a = Z t := by
  induction a with
  | zero => rw [Nat.le_zero.mp h]
  | succ a ih =>
    by_cases e : t = a + 1
    · rw [e]
    · rw [hz a (by omega) (by omega)]
      exact ih (by omega) fun k h1 h2 => hz k h1 (by omega)
theorem exIn_eq (h : OkR w p r) {q : Nat} (hq : q < sp1 r) : ∀ (l : List Nat) (t : Nat), sp0 r ≤ t → t ≤ q → l.Pairwise (· < ·) → (∀ k ∈ l, k ∈ lates p r ∧ t ≤ k) → (∀ k ∈ lates p r, t ≤ k → k ∈ l) →
    exIn (stp r) q (mid w p r t q) l = (l.filter fun a => decide (a < q)).map fun a => xcOf w p r a q
  | [], t, _, _, _, _, _ => by simp [exIn]
  | a :: l, t, h0, ht, hp, hm, hc => by
    have hsp : sp1 r ≤ nst r.2 := rds_le r (sp1_mem (rds_ne h))
    obtain ⟨hal, hta⟩ := hm a List.mem_cons_self
    have ha := (mem_lates h a).mp hal
    rw [exIn]
    by_cases e : a < q
    · rw [if_pos e, List.filter_cons_of_pos (p := fun a => decide (a < q)) (decide_eq_true e), List.map_cons]
      have e1 : mid w p r t q = mid w p r a q := by
        refine (still (fun k => mid w p r k q) t a hta fun k h1 h2 => ?_).symm
        refine mid_skipL h (by omega) (by omega) ?_
        by_cases d : k < tOf p r (stp r k).1
        · exact d
        · have := hc k ((mem_lates h k).mpr ⟨by omega, by omega⟩) h1
          rcases List.mem_cons.mp this with z | z
          · omega
          · have := (List.pairwise_cons.mp hp).1 k z
            omega
      rw [e1, ← mid_late h e (by omega) ha.2]
      rw [exIn_eq h hq l (a + 1) (by omega) (by omega) (List.pairwise_cons.mp hp).2 (fun k hk => ⟨(hm k (List.mem_cons_of_mem _ hk)).1, (List.pairwise_cons.mp hp).1 k hk⟩) fun k hk hk2 => ?_]
      · rfl
      · rcases List.mem_cons.mp (hc k hk (by omega)) with z | z
        · omega
        · exact z
    · rw [if_neg e, List.filter_cons_of_neg (p := fun a => decide (a < q)) (by rw [decide_eq_true_eq]; exact e)]
      have nil : l.filter (fun a => decide (a < q)) = [] := by
        rw [List.filter_eq_nil_iff]
        intro k hk
        have := (List.pairwise_cons.mp hp).1 k hk
        rw [decide_eq_true_eq]
        omega
      rw [nil, List.map_nil]
      have stop : ∀ (l : List Nat) (s : List Nat), (∀ k ∈ l, ¬ k < q) → exIn (stp r) q s l = [] := by
        intro l
        induction l with
        | nil => intro s _; rfl
        | cons b l ih =>
          intro s hb
          rw [exIn, if_neg (hb b List.mem_cons_self)]
          exact ih s fun k hk => hb k (List.mem_cons_of_mem _ hk)
      exact stop l _ fun k hk => by have := (List.pairwise_cons.mp hp).1 k hk; omega
theorem ah_get (h : OkR w p r) : ∀ (l : List Nat) (t i : Nat), sp0 r ≤ t → l.Pairwise (· < ·) → (∀ k ∈ l, k ∈ earls p r ∧ t ≤ k) → (∀ k ∈ earls p r, t ≤ k → k ∈ l) → (hi : i < l.length) →
    (mid w p r (sp0 r) t :: ahA (mid w p r (sp0 r) t) (l.map (stp r))).getD i [] = mid w p r (sp0 r) l[i]
  | [], _, _, _, _, _, _, hi => absurd hi (by simp)
  | a :: l, t, i, h0, hp, hm, hc, hi => by
    have hsp : sp1 r ≤ nst r.2 := rds_le r (sp1_mem (rds_ne h))
    obtain ⟨hal, hta⟩ := hm a List.mem_cons_self
    have ha := (mem_earls h a).mp hal
    have e1 : mid w p r (sp0 r) t = mid w p r (sp0 r) a := by
      refine (still (fun k => mid w p r (sp0 r) k) t a hta fun k h1 h2 => ?_).symm
      refine mid_skipE h (by omega) (by omega) ?_
      by_cases d : k < tOf p r (stp r k).1
      · have := hc k ((mem_earls h k).mpr ⟨by omega, d⟩) h1
        rcases List.mem_cons.mp this with z | z
        · omega
        · have := (List.pairwise_cons.mp hp).1 k z
          omega
      · omega
    rw [e1]
    cases i with
    | zero => rfl
    | succ i =>
      rw [List.map_cons, ahA, ← mid_early h (by omega) (by omega) ha.2]
      have ih := ah_get h l (a + 1) i (by omega) (List.pairwise_cons.mp hp).2 (fun k hk => ⟨(hm k (List.mem_cons_of_mem _ hk)).1, (List.pairwise_cons.mp hp).1 k hk⟩) (fun k hk hk2 => by
        rcases List.mem_cons.mp (hc k hk (by omega)) with z | z
        · omega
        · exact z) (by simpa using hi)
      simpa using ih
theorem ahd_get (h : OkR w p r) {i : Nat} (hi : i < (earls p r).length) : (ahd p r).getD i [] = mid w p r (sp0 r) (earls p r)[i] := by
  have hsp : sp0 r ≤ nst r.2 := rds_le r (sp0_mem (rds_ne h))
  unfold ahd
  rw [← mid_diag h hsp]
  exact ah_get h _ _ _ (Nat.le_refl _) (inner_asc false) (fun k hk => ⟨hk, ((mem_earls h k).mp hk).1.1⟩) (fun k hk _ => hk) hi
theorem exch_eq (h : OkR w p r) : exch p r = (earls p r).reverse.flatMap fun b => ((lates p r).filter fun a => decide (a < b)).map fun a => xcOf w p r a b := by
  unfold exch
  have e : (earls p r).reverse = (List.range (earls p r).length).reverse.map fun k => (earls p r).getD k 0 := by
    rw [List.map_reverse]
    congr 1
    apply List.ext_getElem?
    intro i
    rw [List.getElem?_map]
    by_cases hi : i < (earls p r).length
    · rw [List.getElem?_range hi]
      simp [hi]
    · rw [List.getElem?_eq_none (by omega), List.getElem?_eq_none (by rw [List.length_range]; omega)] <;> rfl
  rw [e, List.flatMap_map]
  have cong : ∀ (l : List Nat) (f g : Nat → List Xc), (∀ k ∈ l, f k = g k) → l.flatMap f = l.flatMap g := by
    intro l f g
    induction l with
    | nil => intro _; rfl
    | cons a l ih => intro hfg; rw [List.flatMap_cons, List.flatMap_cons, hfg a List.mem_cons_self, ih fun k hk => hfg k (List.mem_cons_of_mem _ hk)]
  refine cong _ _ _ fun k hk => ?_
  have hk : k < (earls p r).length := List.mem_range.mp (List.mem_reverse.mp hk)
  have e2 : (earls p r).getD k 0 = (earls p r)[k] := by simp [hk]
  have hm := (mem_earls h _).mp (List.getElem_mem hk)
  rw [ahd_get h hk, e2]
  exact exIn_eq h hm.1.2 _ (sp0 r) (Nat.le_refl _) hm.1.1 (inner_asc true) (fun k hk => ⟨hk, ((mem_lates h k).mp hk).1.1⟩) fun k hk _ => hk
theorem mem_exch (h : OkR w p r) (x : Xc) : x ∈ exch p r ↔ ∃ a b, a ∈ lates p r ∧ b ∈ earls p r ∧ a < b ∧ x = xcOf w p r a b := by
  rw [exch_eq h, List.mem_flatMap]
  constructor
  · rintro ⟨b, hb, hx⟩
    obtain ⟨a, ha, rfl⟩ := List.mem_map.mp hx
    obtain ⟨h1, h2⟩ := List.mem_filter.mp ha
    exact ⟨a, b, h1, List.mem_reverse.mp hb, of_decide_eq_true h2, rfl⟩
  · rintro ⟨a, b, ha, hb, hab, rfl⟩
    exact ⟨b, List.mem_reverse.mpr hb, List.mem_map.mpr ⟨a, List.mem_filter.mpr ⟨ha, decide_eq_true hab⟩, rfl⟩⟩
/-! the corners -/
theorem reach_at (h : OkR w p r) : ∀ k, k ≤ nst r.2 → Reach w (stAt r k) := by
  intro k
  induction k with
  | zero =>
    intro _ i hi ns hc
    have e : stAt r 0 = r.1 := rfl
    rw [e]
    cases hb : bgn w i with
    | none => exact hc.2.1 hb _ (h.s0.2 i hi)
    | some b =>
      have h1 := hc.1 b hb
      unfold bgn at hb
      cases hs : w.st with
      | none => rw [hs] at hb; cases hb
      | some s =>
        rw [hs] at hb
        have e2 := h.beg s hs
        rw [e2]
        have hb : some (nth s i) = some b := hb
        rw [Option.some.inj hb]
        exact h1
  | succ k ih =>
    intro hk i hi ns hc
    have ihk := ih (by omega) i hi ns hc
    rw [nth_succ h (by omega)]
    split
    · rename_i e
      have hv := (var_lt h (k := k) (by omega)).2
      rw [e] at hv
      exact hc.2.2.1 (nth (stAt r k) i, (stp r k).2) hv ihk
    · exact ihk
theorem mid_bd (h : OkR w p r) {l e v : Nat} (h0 : sp0 r ≤ l) (he : e ≤ sp1 r) (hle : l ≤ e) (hv : v < w.vs.length) : sp0 r ≤ max l (min e (tOf p r v)) ∧ max l (min e (tOf p r v)) ≤ sp1 r := by
  omega
theorem mid_ok (h : OkR w p r) {l e : Nat} (h0 : sp0 r ≤ l) (he : e ≤ sp1 r) (hle : l ≤ e) : OkS w.vs (mid w p r l e) := by
  have hsp : sp1 r ≤ nst r.2 := rds_le r (sp1_mem (rds_ne h))
  refine ⟨mid_len _ _, fun v hv => ?_⟩
  rw [nth_mid hv]
  have := mid_bd h h0 he hle hv
  exact (stAt_ok h (by omega)).2 v hv
theorem xc_facts (h : OkR w p r) {a b : Nat} (ha : a ∈ lates p r) (hb : b ∈ earls p r) (hab : a < b) : nth (mid w p r a b) (stp r a).1 = nth (stAt r a) (stp r a).1 ∧ nth (mid w p r a b) (stp r b).1 = nth (stAt r b) (stp r b).1 ∧ (stp r a).1 ≠ (stp r b).1 := by
  have hsp : sp1 r ≤ nst r.2 := rds_le r (sp1_mem (rds_ne h))
  have h1 := (mem_lates h a).mp ha
  have h2 := (mem_earls h b).mp hb
  have va := (var_lt h (k := a) (by omega)).1
  have vb := (var_lt h (k := b) (by omega)).1
  refine ⟨?_, ?_, fun e => ?_⟩
  · rw [nth_mid va, show max a (min b (tOf p r (stp r a).1)) = a by omega]
  · rw [nth_mid vb, show max a (min b (tOf p r (stp r b).1)) = b by omega]
  · rw [← e] at h2
    omega
theorem xc_cor (h : OkR w p r) {a b : Nat} (ha : a ∈ lates p r) (hb : b ∈ earls p r) (hab : a < b) : OkCor w (xcOf w p r a b).1 := by
  have hsp : sp1 r ≤ nst r.2 := rds_le r (sp1_mem (rds_ne h))
  have h1 := (mem_lates h a).mp ha
  have h2 := (mem_earls h b).mp hb
  have va := var_lt h (k := a) (by omega)
  have vb := var_lt h (k := b) (by omega)
  obtain ⟨f1, f2, f3⟩ := xc_facts h ha hb hab
  refine ⟨mid_ok h (by omega) (by omega) (by omega), fun i hi ns hc => ?_, ⟨va.1, ?_⟩, ⟨vb.1, ?_⟩, f3⟩
  · show nth (mid w p r a b) i ∈ ns
    rw [nth_mid hi]
    have := mid_bd h (l := a) (e := b) (by omega) (by omega) (by omega) hi
    exact reach_at h _ (by omega) i hi ns hc
  · show (nth (mid w p r a b) (stp r a).1, (stp r a).2) ∈ _
    rw [f1]
    exact va.2
  · show (nth (mid w p r a b) (stp r b).1, (stp r b).2) ∈ _
    rw [f2]
    exact vb.2
theorem exch_cor (h : OkR w p r) {x : Xc} (hx : x ∈ exch p r) : OkCor w x.1 := by
  obtain ⟨a, b, ha, hb, hab, rfl⟩ := (mem_exch h x).mp hx
  exact xc_cor h ha hb hab
end
/-! ### least, greatest -/
theorem le_mx : ∀ (ns : List Int) (n y : Int), y ∈ n :: ns → y ≤ ns.foldl max n
  | [], n, y, h => by rw [List.mem_singleton.mp h]; exact Int.le_refl _
  | m :: ns, n, y, h => by
    rw [List.foldl_cons]
    have mono := le_mx ns (max n m) (max n m) List.mem_cons_self
    rcases List.mem_cons.mp h with e | e
    · subst e; exact Int.le_trans (Int.le_max_left _ _) mono
    · rcases List.mem_cons.mp e with e | e
      · subst e; exact Int.le_trans (Int.le_max_right _ _) mono
      · exact le_mx ns _ y (List.mem_cons_of_mem _ e)
theorem mx_mem : ∀ (ns : List Int) (n : Int), ns.foldl max n ∈ n :: ns
  | [], n => by simp
  | m :: ns, n => by
    rw [List.foldl_cons]
    rcases List.mem_cons.mp (mx_mem ns (max n m)) with e | e
    · rw [e]
      rcases Int.le_total n m with z | z
      · rw [Int.max_eq_right z]; simp
      · rw [Int.max_eq_left z]; simp
    · exact List.mem_cons_of_mem _ (List.mem_cons_of_mem _ e)
theorem mn_le : ∀ (ns : List Int) (n y : Int), y ∈ n :: ns → ns.foldl min n ≤ y
  | [], n, y, h => by rw [List.mem_singleton.mp h]; exact Int.le_refl _
  | m :: ns, n, y, h => by
    rw [List.foldl_cons]
    have mono := mn_le ns (min n m) (min n m) List.mem_cons_self
    rcases List.mem_cons.mp h with e | e
    · subst e; exact Int.le_trans mono (Int.min_le_left _ _)
    · rcases List.mem_cons.mp e with e | e
      · subst e; exact Int.le_trans mono (Int.min_le_right _ _)
      · exact mn_le ns _ y (List.mem_cons_of_mem _ e)
theorem mn_mem : ∀ (ns : List Int) (n : Int), ns.foldl min n ∈ n :: ns
  | [], n => by simp
  | m :: ns, n => by
    rw [List.foldl_cons]
    rcases List.mem_cons.mp (mn_mem ns (min n m)) with e | e
    · rw [e]
      rcases Int.le_total n m with z | z
      · rw [Int.min_eq_left z]; simp
      · rw [Int.min_eq_right z]; simp
    · exact List.mem_cons_of_mem _ (List.mem_cons_of_mem _ e)
theorem le_mxL {ys : List Int} {x : Int} (h : ys ≠ []) : x ≤ mxL ys ↔ ∃ y ∈ ys, x ≤ y := by
  cases ys with
  | nil => exact absurd rfl h
  | cons n ns => exact ⟨fun e => ⟨_, mx_mem ns n, e⟩, fun ⟨y, hy, e⟩ => Int.le_trans e (le_mx ns n y hy)⟩
theorem mnL_le {ys : List Int} {x : Int} (h : ys ≠ []) : mnL ys ≤ x ↔ ∃ y ∈ ys, y ≤ x := by
  cases ys with
  | nil => exact absurd rfl h
  | cons n ns => exact ⟨fun e => ⟨_, mn_mem ns n, e⟩, fun ⟨y, hy, e⟩ => Int.le_trans (mn_le ns n y hy) e⟩
theorem acc_iff {m : Md} {x : Int} {ys : List Int} (h : ys ≠ []) : acc m x ys = true ↔ match m with
    | .ex => x ∈ ys
    | .bt => (∃ y ∈ ys, y ≤ x) ∧ ∃ y ∈ ys, x ≤ y
    | .fl => ∃ y ∈ ys, y ≤ x
    | .ce => ∃ y ∈ ys, x ≤ y := by
  cases m with
  | ex => simp [acc]
  | bt => simp only [acc, Bool.and_eq_true, decide_eq_true_eq]; rw [mnL_le h, le_mxL h]
  | fl => simp only [acc, decide_eq_true_eq]; rw [mnL_le h]
  | ce => simp only [acc, decide_eq_true_eq]; rw [le_mxL h]
theorem acc_mem {m : Md} {x : Int} {ys : List Int} (h : x ∈ ys) : acc m x ys = true := by
  have hn : ys ≠ [] := fun e => by rw [e] at h; simp at h
  rw [acc_iff hn]
  cases m with
  | ex => exact h
  | bt => exact ⟨⟨x, h, Int.le_refl _⟩, x, h, Int.le_refl _⟩
  | fl => exact ⟨x, h, Int.le_refl _⟩
  | ce => exact ⟨x, h, Int.le_refl _⟩
theorem acc_trans {m : Md} {x : Int} {ys zs : List Int} (hy : ys ≠ []) (hz : zs ≠ []) (h : acc m x ys = true) (h2 : ∀ y ∈ ys, acc m y zs = true) : acc m x zs = true := by
  rw [acc_iff hy] at h
  rw [acc_iff hz]
  cases m with
  | ex =>
    have := h2 x h
    rwa [acc_iff hz] at this
  | bt =>
    obtain ⟨⟨y, h1, h3⟩, z, h4, h5⟩ := h
    have a := h2 y h1
    have b := h2 z h4
    rw [acc_iff hz] at a b
    obtain ⟨⟨y', h6, h7⟩, _⟩ := a
    obtain ⟨_, z', h8, h9⟩ := b
    exact ⟨⟨y', h6, Int.le_trans h7 h3⟩, z', h8, Int.le_trans h5 h9⟩
  | fl =>
    obtain ⟨y, h1, h3⟩ := h
    have a := h2 y h1
    rw [acc_iff hz] at a
    obtain ⟨y', h6, h7⟩ := a
    exact ⟨y', h6, Int.le_trans h7 h3⟩
  | ce =>
    obtain ⟨y, h1, h3⟩ := h
    have a := h2 y h1
    rw [acc_iff hz] at a
    obtain ⟨y', h6, h7⟩ := a
    exact ⟨y', h6, Int.le_trans h3 h7⟩
/-! ### the chain of exchanges -/
section
variable {w : Wd} {p : Pl} {r : Rn}
theorem mem_within (h : OkR w p r) {k : Nat} (h0 : sp0 r ≤ k) (h1 : k ≤ sp1 r) : stAt r k ∈ within r := by
  have hsp : sp1 r ≤ nst r.2 := rds_le r (sp1_mem (rds_ne h))
  refine List.mem_of_getElem? (i := k - sp0 r) ?_
  unfold within
  rw [List.getElem?_take_of_lt (by omega), List.getElem?_drop, show sp0 r + (k - sp0 r) = k by omega]
  exact stAt_get r (by omega)
theorem chain_acc (h : OkR w p r) {m : Md} (hx : ∀ x ∈ exch p r, hld w m x.1 = true) : ∀ (d l e : Nat), e = l + d → sp0 r ≤ l → e ≤ sp1 r → acc m (res w (mid w p r l e)) (spRes w r) = true := by
  have hsp : sp1 r ≤ nst r.2 := rds_le r (sp1_mem (rds_ne h))
  have hne : spRes w r ≠ [] := fun z => by
    have := mem_within h (k := sp0 r) (Nat.le_refl _) (sp_le (rds_ne h))
    rw [List.map_eq_nil_iff.mp z] at this
    simp at this
  intro d
  induction d using Nat.strongRecOn with
  | ind d ih =>
    intro l e hd h0 h1
    by_cases hz : d = 0
    · subst hz
      have : e = l := by omega
      subst this
      rw [mid_diag h (by omega)]
      exact acc_mem (List.mem_map.mpr ⟨_, mem_within h h0 h1, rfl⟩)
    · by_cases hl : tOf p r (stp r l).1 ≤ l
      · obtain ⟨q, rfl⟩ : ∃ q, e = q + 1 := ⟨e - 1, by omega⟩
        by_cases he : tOf p r (stp r q).1 ≤ q
        · rw [mid_skipE h (by omega) (by omega) he]
          exact ih (d - 1) (by omega) l q (by omega) h0 (by omega)
        · have hlq : l ≠ q := fun z => by rw [z] at hl; omega
          have ml : l ∈ lates p r := (mem_lates h l).mpr ⟨by omega, hl⟩
          have mq : q ∈ earls p r := (mem_earls h q).mpr ⟨by omega, by omega⟩
          have hc := hx _ ((mem_exch h _).mpr ⟨l, q, ml, mq, by omega, rfl⟩)
          unfold hld xcOf at hc
          dsimp only at hc
          rw [← mid_early h (l := l) (e := q) (by omega) (by omega) (by omega), ← mid_late h (l := l) (e := q) (by omega) (by omega) hl, ← mid_early h (l := l + 1) (e := q) (by omega) (by omega) (by omega)] at hc
          refine acc_trans (by simp) hne hc fun y hy => ?_
          simp only [List.mem_cons, List.not_mem_nil, or_false] at hy
          rcases hy with rfl | rfl | rfl
          · exact ih (d - 1) (by omega) l q (by omega) h0 (by omega)
          · exact ih (d - 2) (by omega) (l + 1) q (by omega) (by omega) (by omega)
          · exact ih (d - 1) (by omega) (l + 1) (q + 1) (by omega) (by omega) (by omega)
      · rw [← mid_skipL h (l := l) (e := e) (by omega) (by omega) (by omega)]
        exact ih (d - 1) (by omega) (l + 1) e (by omega) (by omega) h1
/-- if every exchange's corner holds then the run is accepted -/
theorem acc_of_exch (h : OkR w p r) {m : Md} (hx : ∀ x ∈ exch p r, hld w m x.1 = true) : isAcc w m p r = true := by
  unfold isAcc rRes
  rw [← mid_read h]
  have := sp_le (rds_ne h)
  exact chain_acc h hx (sp1 r - sp0 r) _ _ (by omega) (Nat.le_refl _) (Nat.le_refl _)
theorem blm_none (h : OkR w p r) {m : Md} : blm w m p r = none ↔ isAcc w m p r = true := by
  unfold blm
  constructor
  · intro e
    by_cases c : isAcc w m p r = true
    · exact c
    · rw [if_neg c] at e
      refine acc_of_exch h fun x hx => ?_
      have := List.find?_eq_none.mp e x hx
      simpa using this
  · intro c
    rw [if_pos c]
theorem blm_some (h : OkR w p r) {m : Md} {x : Xc} (e : blm w m p r = some x) : x ∈ exch p r ∧ hld w m x.1 = false := by
  unfold blm at e
  split at e
  · cases e
  · exact ⟨List.mem_of_find?_eq_some e, by simpa using List.find?_some e⟩
/-! ### the exchanges' pairs are the inversions -/
theorem mem_invs (x : Nat × Nat) : x ∈ invs p r ↔ x.1 ∈ lates p r ∧ x.2 ∈ earls p r ∧ x.1 < x.2 := by
  unfold invs
  rw [List.mem_flatMap]
  constructor
  · rintro ⟨a, ha, hx⟩
    obtain ⟨b, hb, rfl⟩ := List.mem_map.mp hx
    obtain ⟨h1, h2⟩ := List.mem_filter.mp hb
    exact ⟨ha, h1, of_decide_eq_true h2⟩
  · rintro ⟨h1, h2, h3⟩
    exact ⟨x.1, h1, List.mem_map.mpr ⟨x.2, List.mem_filter.mpr ⟨h2, decide_eq_true h3⟩, rfl⟩⟩
theorem pw_flatMap {α β : Type} {R : α → α → Prop} {S : β → β → Prop} {f : α → List β} : ∀ {l : List α}, l.Pairwise R → (∀ a ∈ l, (f a).Pairwise S) → (∀ a b, R a b → ∀ x ∈ f a, ∀ y ∈ f b, S x y) → (l.flatMap f).Pairwise S
  | [], _, _, _ => List.Pairwise.nil
  | a :: l, hp, h1, h2 => by
    rw [List.flatMap_cons, List.pairwise_append]
    refine ⟨h1 a List.mem_cons_self, pw_flatMap (List.pairwise_cons.mp hp).2 (fun b hb => h1 b (List.mem_cons_of_mem _ hb)) h2, fun x hx y hy => ?_⟩
    obtain ⟨b, hb, hy⟩ := List.mem_flatMap.mp hy
    exact h2 a b ((List.pairwise_cons.mp hp).1 b hb) x hx y hy
def lexN (x y : Nat × Nat) : Prop := x.1 < y.1 ∨ (x.1 = y.1 ∧ x.2 < y.2)
theorem invs_asc : (invs p r).Pairwise lexN := by
  unfold invs
  refine pw_flatMap (inner_asc true) (fun a ha => ?_) fun a b hab x hx y hy => ?_
  · exact List.Pairwise.map (R := fun x y : Nat => x < y) _ (fun x y h => .inr ⟨rfl, h⟩) (List.Pairwise.filter _ (inner_asc false))
  · obtain ⟨_, _, rfl⟩ := List.mem_map.mp hx
    obtain ⟨_, _, rfl⟩ := List.mem_map.mp hy
    exact .inl hab
theorem exch_pairs (h : OkR w p r) : ((exch p r).map (·.2)).Perm (invs p r) := by
  refine (List.perm_ext_iff_of_nodup ?_ ?_).mpr fun x => ?_
  · rw [exch_eq h, List.map_flatMap]
    refine pw_flatMap (R := fun a b : Nat => a ≠ b) (List.pairwise_reverse.mpr ((inner_asc false).imp fun h => by omega)) (fun b hb => ?_) fun a b hab x hx y hy e => ?_
    · rw [List.map_map]
      exact List.Pairwise.map (R := fun x y : Nat => x < y) _ (fun x y h e => by
        have : x = y := congrArg Prod.fst e
        omega) (List.Pairwise.filter _ (inner_asc true))
    · rw [List.map_map] at hx hy
      obtain ⟨_, _, rfl⟩ := List.mem_map.mp hx
      obtain ⟨_, _, rfl⟩ := List.mem_map.mp hy
      exact hab (congrArg Prod.snd e)
  · exact invs_asc.imp fun h e => by
      subst e
      rcases h with h | ⟨_, h⟩ <;> omega
  · rw [List.mem_map, mem_invs]
    constructor
    · rintro ⟨y, hy, rfl⟩
      obtain ⟨a, b, h1, h2, h3, rfl⟩ := (mem_exch h y).mp hy
      exact ⟨h1, h2, h3⟩
    · rintro ⟨h1, h2, h3⟩
      exact ⟨_, (mem_exch h _).mpr ⟨x.1, x.2, h1, h2, h3, rfl⟩, rfl⟩
end
end RS
end
section
set_option maxRecDepth 100000
set_option synthInstance.maxHeartbeats 2000000
set_option synthInstance.maxSize 4000
set_option maxHeartbeats 2000000
namespace RS
open PySem PySem.Spec PyProof.Rows L2 DL
local macro_rules | `(tactic| walk_at "dsem") => `(tactic| simp only [dstart, dRet, dOp, dSl, dTup, dLst, dCons, dNil, dNoPart, dC, dCB, dUn, dCall, dAnd, dOr, dNot, dIf, dIsN, dNext, dSeq, dIfS, dDrop, dAsg, dgName, dFor, dYes, dLc, dLc2, dwipe, dPar, dPar3, dParT, dgTupN, setN, dLstM, dDNewM, dDisp1,
  asB_b, asI_i, asT_t, asL_l, asS_l, asS_t, zx_tt, zx_tl, ex_l, ex_t, e_test, e_andV, e_orV, e_notV, e_chain, e_gtup, e_gcons, e_gnil, e_zx, e_ex, e_seq, e_rg1, e_aug, e_get, e_part, e_inM, e_put, e_app, e_ext, e_ixM, e_lenM, e_frz, e_var, muAt_s, mdAt_s, frzAt_l, frzAt_d, vAt_s, atI_s,
  at0, at1, at2, f_repT, e_star, starX_t, f_add, f_addT, f_addL, f_mul, f_mulL, f_sub, f_mod, f_div, f_pow, f_lt, f_le, f_gt, f_ge, f_neg, f_isB, f_notB, f_eqI, f_eqS, f_eqB, f_eqT, f_eqL, f_neI, f_neS, f_neB, f_neT, f_neL, f_ixL, f_ixT, f_slL, f_slT, f_lenT, f_lenL, f_tupT, f_tupL, f_lstT, f_lstL, f_all, f_sum, f_bestL, f_bestT, f_min2, f_intB, f_sort, f_sortD, isi_ii, isi_ib, isi_tt, isi_ss, f_inT, f_inL, f_inIT, f_inIL,
  mut_int, mut_tup, mut_lst, mut_str, mut_bl, mut_non, mut_pot, mut_dct, mut_scr, isn_non, isn_int, isn_tup, isn_str,
  eN, eP, eNs, eIs, eVr, eW, eR, ePl, eCor, eXc, eEv_r, eEv_s, eFn_t, eFn_s, eFn_x, eFn_n, eSt_n, eSt_s, ev_ne, ev_eq, mut_ev, isi_ev, e_ir3, e_ir1, ir3_i, ir1_i,
  List.map_cons, List.map_nil, List.length_cons, List.length_nil, List.replicate, List.append_nil, List.nil_append, List.cons_append, List.set_cons_zero, List.set_cons_succ, List.getElem?_cons_zero, List.getElem?_cons_succ, List.getElem?_nil, List.zip_cons_cons, List.zip_nil_left, List.foldl_cons, List.foldl_nil, Nat.reduceAdd, Nat.reduceSub, Nat.reduceLeDiff, true_and, and_true, decide_true, if_true, if_false, Bool.false_eq_true, Bool.not_true, Bool.not_false])
/-! ### readskew.blame -/
def eT (x : Nat × Nat × Nat) : D := .tup [eN x.1, eN x.2.1, eN x.2.2]
def eBlk (p : Pl) : D := .dct ((flatP 0 p).map fun q => ((q.1 : Int), eN q.2))
def sp_block_numbers : DSp := fun ds S Q => ∃ n p, ds = [ePl p] ∧ OkPl n p ∧ n ≤ 40 ∧ Q (eBlk p) S
theorem len_block_numbers : ∀ ds S Qd, sp_block_numbers ds S Qd → ds.length = 1 := fun ds S Q ⟨_, _, h, _⟩ => by rw [h] <;> rfl
def sp_steps_with_reads : DSp := fun ds S Q => ∃ r, ds = [eR r] ∧ OkE r ∧ Q (.lst ((stps r).map eT)) S
theorem len_steps_with_reads : ∀ ds S Qd, sp_steps_with_reads ds S Qd → ds.length = 1 := fun ds S Q ⟨_, h, _⟩ => by rw [h] <;> rfl
def sp_inner_steps : DSp := fun ds S Q => ∃ w p r b, ds = [ePl p, eR r, .bl b] ∧ OkR w p r ∧ Q (eNs (inner p r b)) S
theorem len_inner_steps : ∀ ds S Qd, sp_inner_steps ds S Qd → ds.length = 3 := fun ds S Q ⟨_, _, _, _, h, _⟩ => by rw [h] <;> rfl
def sp_late_steps : DSp := fun ds S Q => ∃ w p r, ds = [ePl p, eR r] ∧ OkR w p r ∧ Q (eNs (lates p r)) S
theorem len_late_steps : ∀ ds S Qd, sp_late_steps ds S Qd → ds.length = 2 := fun ds S Q ⟨_, _, _, h, _⟩ => by rw [h] <;> rfl
def sp_early_steps : DSp := fun ds S Q => ∃ w p r, ds = [ePl p, eR r] ∧ OkR w p r ∧ Q (eNs (earls p r)) S
theorem len_early_steps : ∀ ds S Qd, sp_early_steps ds S Qd → ds.length = 2 := fun ds S Q ⟨_, _, _, h, _⟩ => by rw [h] <;> rfl
def sp_inversions : DSp := fun ds S Q => ∃ w p r, ds = [ePl p, eR r] ∧ OkR w p r ∧ Q (.tup ((invs p r).map eP)) S
theorem len_inversions : ∀ ds S Qd, sp_inversions ds S Qd → ds.length = 2 := fun ds S Q ⟨_, _, _, h, _⟩ => by rw [h] <;> rfl
def sp_exchanges : DSp := fun ds S Q => ∃ w p r, ds = [ePl p, eR r] ∧ OkR w p r ∧ Q (.tup ((exch p r).map eXc)) S
theorem len_exchanges : ∀ ds S Qd, sp_exchanges ds S Qd → ds.length = 2 := fun ds S Q ⟨_, _, _, h, _⟩ => by rw [h] <;> rfl
def sp_blame : DSp := fun ds S Q => ∃ w m p r, ds = [eW w, .str (eMd m), ePl p, eR r] ∧ OkR w p r ∧ Q (eOpt eXc (blm w m p r)) S
theorem len_blame : ∀ ds S Qd, sp_blame ds S Qd → ds.length = 4 := fun ds S Q ⟨_, _, _, _, h, _⟩ => by rw [h] <;> rfl
def sp_values_ahead : DSp := fun ds S Q => ∃ r k, ds = [eR r, eN k] ∧ OkE r ∧ k ≤ nst r.2 ∧ Q (eNs (stAt r k)) S
theorem len_values_ahead : ∀ ds S Qd, sp_values_ahead ds S Qd → ds.length = 2 := fun ds S Q ⟨_, _, h, _⟩ => by rw [h] <;> rfl
def sp_fits_run : DSp := fun ds S Q => ∃ w p r x, ds = [ePl p, eR r, eCor x.1, eN x.2.1, eN x.2.2] ∧ OkR w p r ∧ x ∈ exch p r ∧ Q (.bl true) S
theorem len_fits_run : ∀ ds S Qd, sp_fits_run ds S Qd → ds.length = 5 := fun ds S Q ⟨_, _, _, _, h, _⟩ => by rw [h] <;> rfl
def sp_shows_blame : DSp := fun ds S Q => ∃ w m p r x, ds = [eW w, .str (eMd m), ePl p, eR r, eXc x] ∧ OkR w p r ∧ x ∈ exch p r ∧ hld w m x.1 = false ∧ Q (.bl true) S
theorem len_shows_blame : ∀ ds S Qd, sp_shows_blame ds S Qd → ds.length = 5 := fun ds S Q ⟨_, _, _, _, _, h, _⟩ => by rw [h] <;> rfl
theorem lcI_map {α : Type} {g : DTG} {tt : DTT} {te : DTE} {ρ : DEnv} {kk : List D → Nat → Prop} {S : Nat} (enc : α → D) (ok : α → Bool) (val : α → D) :
    ∀ (as : List α) (acc : List D), (∀ a ∈ as, ∀ (k1 : D → Nat → Prop) (k2 : Nat → Prop), (ok a = true → k1 (val a) S) → (ok a = false → k2 S) → g (enc a) ρ fun ρ2 => tt ρ2 S fun b S2 => if b = true then te ρ2 S2 k1 else k2 S2) →
    acc.length + ((as.filter ok).map val).length ≤ 1000000 → kk (acc ++ (as.filter ok).map val) S → lcI g tt te ρ kk (as.map enc) acc S
  | [], acc, _, _, h => by simpa [lcI] using h
  | a :: as, acc, turn, hb, h => by
    refine turn a List.mem_cons_self _ _ (fun e => ?_) (fun e => ?_)
    · rw [List.filter_cons_of_pos e, List.map_cons] at h hb
      rw [List.length_cons] at hb
      refine ⟨by omega, lcI_map enc ok val as (acc ++ [val a]) (fun b hb => turn b (List.mem_cons_of_mem _ hb)) ?_ ?_⟩
      · rw [List.length_append, List.length_singleton]; omega
      · rw [List.append_assoc]
        exact h
    · rw [List.filter_cons_of_neg (by rw [e]; decide)] at h hb
      exact lcI_map enc ok val as acc (fun b hb => turn b (List.mem_cons_of_mem _ hb)) hb h
theorem lc2_map {α : Type} {g : DTG} {tt : DTT} {ti1 : DTA} {g1 : DTG} {tt1 : DTT} {te : DTE} {vs1 : List Nat} {ρ : DEnv} {Q : D → Nat → Prop} {S : Nat} (enc : α → D) (vals : α → List D) :
    ∀ (as : List α) (acc : List D), (∀ a ∈ as, ∀ (acc : List D) (kk : List D → Nat → Prop), acc.length + (vals a).length ≤ 1000000 → kk (acc ++ vals a) S → g (enc a) ρ fun ρ2 => tt ρ2 S fun b S2 => if b = true then ti1 ρ2 S2 fun es S3 => lcI g1 tt1 te (dwipe ρ2 vs1) kk es acc S3 else kk acc S2) →
    acc.length + (as.flatMap vals).length ≤ 1000000 → Q (.lst (acc ++ as.flatMap vals)) S → lc2D g tt ti1 g1 tt1 te vs1 ρ Q (as.map enc) acc S
  | [], acc, _, _, h => by simpa [lc2D] using h
  | a :: as, acc, turn, hb, h => by
    rw [List.flatMap_cons] at h hb
    rw [List.length_append] at hb
    refine turn a List.mem_cons_self acc _ (by omega) ?_
    refine lc2_map enc vals as _ (fun b hb => turn b (List.mem_cons_of_mem _ hb)) (by rw [List.length_append]; omega) ?_
    rw [List.append_assoc]
    exact h
theorem flat_len {α β : Type} (f : α → List β) (c : Nat) : ∀ l : List α, (∀ a ∈ l, (f a).length ≤ c) → (l.flatMap f).length ≤ l.length * c
  | [], _ => by simp
  | a :: l, h => by
    rw [List.flatMap_cons, List.length_append, List.length_cons, Nat.add_mul, Nat.one_mul]
    have := flat_len f c l fun b hb => h b (List.mem_cons_of_mem _ hb)
    have := h a List.mem_cons_self
    omega
theorem at_steps {r : Rn} {k : Nat} (hk : k < nst r.2) {q : D → Prop} (w : q (.tup [.int (stp r k).1, .int (stp r k).2, .int (rk r k)])) : atD ((stps r).map eT) (k : Int) q := by
  have hl : k < (stps r).length := by rw [stps_len]; exact hk
  refine atD_nat ?_ w
  rw [List.getElem?_map, List.getElem?_eq_getElem hl]
  unfold stp rk rkA
  have e : (stps r).getD k (0, 0, 0) = (stps r)[k] := by simp [hl]
  rw [e, show (stR 0 r.2).getD k (0, 0, 0) = (stps r)[k] from e] <;> rfl
theorem inner_len (p : Pl) (r : Rn) (b : Bool) : (inner p r b).length ≤ nst r.2 := by
  unfold inner
  rw [List.length_map]
  have := List.length_filter_le (innB p b) (stps r).zipIdx
  rw [List.length_zipIdx, stps_len] at this
  exact this
theorem fin_len {w : Wd} {p : Pl} {r : Rn} (h : OkR w p r) : nst r.2 ≤ 900 := Nat.le_trans (nst_le r.2) h.few
theorem at_get {l : List Nat} {k : Nat} (hk : k < l.length) {q : D → Prop} (w : q (eN (l.getD k 0))) : atD (l.map eN) (k : Int) q := at_nth hk w
theorem rgDown_map (n : Nat) : rgDown ((n : Int) - 1) (-1) = (List.range n).reverse.map eN := by
  unfold rgDown
  have e : ((n : Int) - 1 - -1).toNat = n := by omega
  rw [e]
  apply List.ext_getElem?
  intro i
  rw [List.getElem?_map, List.getElem?_map]
  by_cases hi : i < n
  · rw [List.getElem?_range hi, List.getElem?_reverse (by rw [List.length_range]; exact hi), List.length_range, List.getElem?_range (by omega)]
    show some (D.int _) = some (D.int _)
    congr 2
    omega
  · rw [List.getElem?_eq_none (by rw [List.length_range]; omega), List.getElem?_eq_none (by rw [List.length_reverse, List.length_range]; omega)] <;> rfl
theorem cut2 (a b c : D) : DL.cutD [a, b, c] none (some 2) = [a, b] := cutD_to [a, b, c] 2
theorem eqe_Cor : EqE eCor 2 := EqE.trip eqe_Ns eqe_P eqe_P
section
variable {P : Program} {w : World} {K : PySem.W.Frag} {mg : Str → Option Value} {base : Heap} {TT : Tb}
abbrev s_steps_with_reads : Stmt := topS 52
abbrev N_steps_with_reads : List Str := ["run", "found", "reads", "event"]
abbrev P_steps_with_reads : List Str := ["run"]
theorem sc_steps_with_reads : FnScope N_steps_with_reads P_steps_with_reads (defScope s_steps_with_reads) := ⟨rfl, rfl, rfl, by decide +kernel, rfl, by decide +kernel, by decide +kernel⟩
theorem ok_steps_with_reads {f : Addr} {fd : FuncData} (F : Fun K "steps_with_reads" "steps_with_reads" s_steps_with_reads f fd) (T : Tx K mg) : FnOk P w K mg base CX0 1 f fd P_steps_with_reads (spOf K TT sp_steps_with_reads) := by
  refine fun_okD (k := 0) F sc_steps_with_reads len_steps_with_reads fun cdv A outer s H E hr => ?_
  have hu := hr.units
  have hu1 := hu_of hr
  have hu65 := hu65_of hr
  refine ⟨_, (pss_cons (ps_par (i := 1) (j := 2) rfl sc_steps_with_reads.nd rfl rfl (by decide) rfl rfl (pa_cons (pe_lstM pa_nil) (pa_cons pe_int pa_nil)) (by rfl))
    (pss_cons (ps_for PassesOwn.never rfl (seqK (K := K) rfl (pe_ix (ixK (K := K) rfl) (pv 0) pe_int (fun _ _ => rfl))) (pg_name (i := 3) sc_steps_with_reads.nd rfl (by first | exact Or.inl rfl | exact Or.inr rfl))
      (pss_one (ps_if (pt_cmpR (eqK (K := K) rfl hu) (pv 3) (readK (K := K) rfl (by rfl) T.g_READ) (nomark _)) (pss_one (ps_aug (i := 2) sc_steps_with_reads.nd rfl (by first | exact Or.inl rfl | exact Or.inr rfl) pe_int ip_add)) (pss_one (ps_expr (pe_bm PySem.F.plainAttrs_list PySem.F.slot_list_append PySem.F.type_list_append mt_append (pvM 1) (pa_cons (pe_tup (pa_cons (pe_ix (ixK (K := K) rfl) (pv 3) pe_int (fun _ _ => rfl)) (pa_cons (pe_ix (ixK (K := K) rfl) (pv 3) pe_int (fun _ _ => rfl)) (pa_cons (pv 2) pa_nil)))) pa_nil)))))))
    (pss_frz 1 (pss_one (ps_ret (pv 1)))))), ?_⟩
  try dsimp only [cxOf]
  refine ex_snd ?_
  intro ds S Qd h
  obtain ⟨r, rfl, h1, h⟩ := h
  walk_at "dsem"
  intro _
  have hsl := stps_len r
  have hnl := nst_le r.2
  have hfew := h1.2.1
  refine forD_ind eEv (fun evs ρ S' => S' = S ∧ ∃ (acc : List (Nat × Nat × Nat)) (k : Nat) (x : Option D), ρ = [some (D.tup [D.tup (List.map eN r.fst), D.tup (List.map eEv r.snd)]), some (D.mu (acc.map eT)), some (D.int k), x] ∧ acc ++ stR k evs = stps r)
    ?_ ?_ _ _ _ ⟨rfl, [], 0, none, rfl, rfl⟩
  · rintro e evs ρ S' nx ⟨rfl, acc, k, x, rfl, hc⟩ hnx
    have hlen := congrArg List.length hc
    rw [List.length_append] at hlen
    walk_at "dsem"
    cases e with
    | rd =>
      walk_at "dsem"
      exact hnx _ _ ⟨rfl, acc, k + 1, _, rfl, hc⟩
    | st i v =>
      rw [decide_eq_false (fun z => by cases z)]
      walk_at "dsem"
      rw [stR, List.length_cons] at hlen
      refine ⟨by rw [List.length_map]; omega, hnx _ _ ⟨rfl, acc ++ [(i, v, k)], k, some (eEv (.st i v)), by rw [map_snoc] <;> rfl, by rw [← hc, List.append_assoc] <;> rfl⟩⟩
  · rintro ρ S' ⟨rfl, acc, k, x, rfl, hc⟩
    walk_at "dsem"
    rw [stR, List.append_nil] at hc
    rw [hc]
    exact h
abbrev s_inner_steps : Stmt := topS 53
abbrev N_inner_steps : List Str := ["plan", "run", "is_late", "block_of", "found", "number", "variable", "value", "reads"]
abbrev P_inner_steps : List Str := ["plan", "run", "is_late"]
theorem sc_inner_steps : FnScope N_inner_steps P_inner_steps (defScope s_inner_steps) := ⟨rfl, rfl, rfl, by decide +kernel, rfl, by decide +kernel, by decide +kernel⟩
theorem ok_inner_steps {f : Addr} {fd : FuncData} (F : Fun K "inner_steps" "inner_steps" s_inner_steps f fd) (T : Tx K mg) (F_block_numbers : Fk P w K mg base "block_numbers" 1 P_block_numbers (spOf K TT sp_block_numbers)) (F_steps_with_reads : Fk P w K mg base "steps_with_reads" 1 P_steps_with_reads (spOf K TT sp_steps_with_reads)) : FnOk P w K mg base CX0 2 f fd P_inner_steps (spOf K TT sp_inner_steps) := by
  refine fun_okD (k := 1) F sc_inner_steps len_inner_steps fun cdv A outer s H E hr => ?_
  have hu := hr.units
  have hu1 := hu_of hr
  have hu65 := hu65_of hr
  refine ⟨_, (pss_cons (ps_par (i := 3) (j := 4) rfl sc_inner_steps.nd rfl rfl (by decide) rfl rfl (pa_cons (pe_callF F_block_numbers (hr.mono (by decide)) (by rfl) (pa_cons (pv 0) pa_nil)) (pa_cons (pe_lstM pa_nil) pa_nil)) (by rfl))
    (pss_cons (ps_for PassesOwn.never rfl (enumK (K := K) rfl (by rfl) T.nb_enumerate (pa_cons (pe_callF F_steps_with_reads (hr.mono (by decide)) (by rfl) (pa_cons (pv 1) pa_nil)) pa_nil)) (tgK 2 (K := K) rfl rfl (pgs_cons (pg_name (i := 5) sc_inner_steps.nd rfl (by first | exact Or.inl rfl | exact Or.inr rfl)) (pgs_cons (tgK 3 (K := K) rfl rfl (pgs_cons (pg_name (i := 6) sc_inner_steps.nd rfl (by first | exact Or.inl rfl | exact Or.inr rfl)) (pgs_cons (pg_name (i := 7) sc_inner_steps.nd rfl (by first | exact Or.inl rfl | exact Or.inr rfl)) (pgs_cons (pg_name (i := 8) sc_inner_steps.nd rfl (by first | exact Or.inl rfl | exact Or.inr rfl)) pgs_nil)))) pgs_nil)))
      (pss_one (ps_if (PW.pt (pw_and (pt_chain op_lt op_lt pe_int (pv 8) (pe_callB (lenK (K := K) rfl) (by rfl) T.nb_len (by decide +kernel) (pa_cons (pv 0) pa_nil))) (pw_and1 (pt_cmpR (eqK (K := K) rfl hu) (pe_cmpR op_lt (pe_dget hu1 (pv 3) (pv 6) (fun _ _ => rfl)) (pv 8) (nomark _)) (pv 2) (nomark _))))) (pss_one (ps_expr (pe_bm PySem.F.plainAttrs_list PySem.F.slot_list_append PySem.F.type_list_append mt_append (pvM 4) (pa_cons (pv 5) pa_nil)))) pss_nil)))
    (pss_frz 4 (pss_one (ps_ret (pe_callTy (tupK (K := K) rfl) (by rfl) T.nb_tuple (by decide +kernel) (pa_cons (pv 4) pa_nil))))))), ?_⟩
  try dsimp only [cxOf]
  refine ex_snd ?_
  intro ds S Qd h
  obtain ⟨w, p, r, b, rfl, h1, h⟩ := h
  walk_at "dsem"
  have hE := oke_of h1
  refine ⟨_, p, rfl, h1.okp, h1.okw.few, r, rfl, hE, ?_⟩
  walk_at "dsem"
  intro _
  rw [enumD_map]
  have hsl := stps_len r
  have hn := fin_len h1
  refine forD_ind _ (fun rem ρ S' => S' = S ∧ ∃ (done : List ((Nat × Nat × Nat) × Nat)) (x y z u : Option D), ρ = [some (D.tup (List.map eNs p)), some (D.tup [D.tup (List.map eN r.fst), D.tup (List.map eEv r.snd)]),
              some (D.bl b), some (eBlk p), some (D.mu (((done.filter (innB p b)).map (·.2)).map eN)), x, y, z, u] ∧ done ++ rem = (stps r).zipIdx) ?_ ?_ _ _ _ ⟨rfl, [], none, none, none, none, rfl, rfl⟩
  · rintro x rem ρ S' nx ⟨rfl, done, y1, y2, y3, y4, rfl, hd⟩ hnx
    have hdl : done.length < (stps r).length := by
      have := congrArg List.length hd
      rw [List.length_append, List.length_cons, List.length_zipIdx] at this
      omega
    have hfl := List.length_filter_le (innB p b) done
    have hv : x.1.1 < w.vs.length := by
      have hm : x ∈ (stps r).zipIdx := by rw [← hd]; simp
      obtain ⟨i, hi, e⟩ := List.mem_iff_getElem.mp hm
      rw [List.length_zipIdx, hsl] at hi
      rw [List.getElem_zipIdx] at e
      have := (var_lt h1 hi).1
      rw [← e]
      unfold stp at this
      simpa [show i < (stps r).length by rw [hsl]; exact hi] using this
    have hg : getD' ((flatP 0 p).map fun q => ((q.1 : Int), eN q.2)) (x.1.1 : Int) = some (eN (blk p x.1.1)) := by
      rw [getD_flat (f := fun q => eN q.2), blk_find h1.okp hv] <;> rfl
    have yes : innB p b x = true → nx [some (D.tup (List.map eNs p)), some (D.tup [D.tup (List.map eN r.fst), D.tup (List.map eEv r.snd)]), some (D.bl b), some (eBlk p), some (D.mu (((done.filter (innB p b)).map (·.2)).map eN ++ [D.int x.2])), some (D.int x.2), some (D.int x.1.1), some (D.int x.1.2.1), some (D.int x.1.2.2)] S' := fun e =>
      hnx _ _ ⟨rfl, done ++ [x], some (D.int x.2), some (D.int x.1.1), some (D.int x.1.2.1), some (D.int x.1.2.2), by rw [List.filter_append, List.filter_cons_of_pos e, List.filter_nil, map_snoc, map_snoc] <;> rfl, by rw [← hd]; simp⟩
    have no : innB p b x = false → nx [some (D.tup (List.map eNs p)), some (D.tup [D.tup (List.map eN r.fst), D.tup (List.map eEv r.snd)]), some (D.bl b), some (eBlk p), some (D.mu (((done.filter (innB p b)).map (·.2)).map eN)), some (D.int x.2), some (D.int x.1.1), some (D.int x.1.2.1), some (D.int x.1.2.2)] S' := fun e =>
      hnx _ _ ⟨rfl, done ++ [x], some (D.int x.2), some (D.int x.1.1), some (D.int x.1.2.1), some (D.int x.1.2.2), by rw [List.filter_append, List.filter_cons_of_neg (by rw [e]; decide), List.filter_nil, List.append_nil], by rw [← hd]; simp⟩
    simp only [eT]
    walk_at "dsem"
    rw [List.length_map]
    by_cases c1 : 0 < x.1.2.2
    · rw [if_pos (decide_eq_true (by omega))]
      by_cases c2 : x.1.2.2 < p.length
      · rw [if_pos (decide_eq_true (by omega))]
        refine ⟨rfl, ?_⟩
        unfold eBlk
        rw [gx_i _ _ _ hg]
        walk_at "dsem"
        have e3 : decide ((blk p x.1.1 : Int) < (x.1.2.2 : Int)) = decide (blk p x.1.1 < x.1.2.2) := by
          by_cases c : blk p x.1.1 < x.1.2.2
          · rw [decide_eq_true c, decide_eq_true (by omega)]
          · rw [decide_eq_false c, decide_eq_false (by omega)]
        rw [e3]
        by_cases c3 : decide (blk p x.1.1 < x.1.2.2) = b
        · rw [if_pos (decide_eq_true c3)]
          refine ⟨by rw [List.length_map, List.length_map]; omega, ?_⟩
          exact yes (by simp only [innB, decide_eq_true c1, decide_eq_true c2, decide_eq_true c3, Bool.and_self])
        · rw [if_neg (by rw [decide_eq_true_eq]; exact c3)]
          exact no (by simp only [innB, decide_eq_false c3, Bool.and_false])
      · rw [if_neg (by rw [decide_eq_true_eq]; omega)]
        exact no (by simp only [innB, decide_eq_false c2, Bool.and_false, Bool.false_and])
    · rw [if_neg (by rw [decide_eq_true_eq]; omega)]
      exact no (by simp only [innB, decide_eq_false c1, Bool.false_and])
  · rintro ρ S' ⟨rfl, done, x, y, z, u, rfl, hd⟩
    walk_at "dsem"
    rw [List.append_nil] at hd
    subst hd
    exact h
abbrev s_late_steps : Stmt := topS 54
abbrev N_late_steps : List Str := ["plan", "run"]
abbrev P_late_steps : List Str := ["plan", "run"]
theorem sc_late_steps : FnScope N_late_steps P_late_steps (defScope s_late_steps) := ⟨rfl, rfl, rfl, by decide +kernel, rfl, by decide +kernel, by decide +kernel⟩
theorem ok_late_steps {f : Addr} {fd : FuncData} (F : Fun K "late_steps" "late_steps" s_late_steps f fd) (T : Tx K mg) (F_inner_steps : Fk P w K mg base "inner_steps" 2 P_inner_steps (spOf K TT sp_inner_steps)) : FnOk P w K mg base CX0 3 f fd P_late_steps (spOf K TT sp_late_steps) := by
  refine fun_okD (k := 2) F sc_late_steps len_late_steps fun cdv A outer s H E hr => ?_
  have hu := hr.units
  have hu1 := hu_of hr
  have hu65 := hu65_of hr
  refine ⟨_, (pss_one (ps_ret (pe_callF F_inner_steps (hr.mono (by decide)) (by rfl) (pa_cons (pv 0) (pa_cons (pv 1) (pa_cons pe_bl pa_nil)))))), ?_⟩
  try dsimp only [cxOf]
  refine ex_snd ?_
  intro ds S Qd h
  obtain ⟨w, p, r, rfl, h1, h⟩ := h
  walk_at "dsem"
  exact ⟨w, p, r, true, rfl, h1, h⟩
abbrev s_early_steps : Stmt := topS 55
abbrev N_early_steps : List Str := ["plan", "run"]
abbrev P_early_steps : List Str := ["plan", "run"]
theorem sc_early_steps : FnScope N_early_steps P_early_steps (defScope s_early_steps) := ⟨rfl, rfl, rfl, by decide +kernel, rfl, by decide +kernel, by decide +kernel⟩
theorem ok_early_steps {f : Addr} {fd : FuncData} (F : Fun K "early_steps" "early_steps" s_early_steps f fd) (T : Tx K mg) (F_inner_steps : Fk P w K mg base "inner_steps" 2 P_inner_steps (spOf K TT sp_inner_steps)) : FnOk P w K mg base CX0 3 f fd P_early_steps (spOf K TT sp_early_steps) := by
  refine fun_okD (k := 2) F sc_early_steps len_early_steps fun cdv A outer s H E hr => ?_
  have hu := hr.units
  have hu1 := hu_of hr
  have hu65 := hu65_of hr
  refine ⟨_, (pss_one (ps_ret (pe_callF F_inner_steps (hr.mono (by decide)) (by rfl) (pa_cons (pv 0) (pa_cons (pv 1) (pa_cons pe_bl pa_nil)))))), ?_⟩
  try dsimp only [cxOf]
  refine ex_snd ?_
  intro ds S Qd h
  obtain ⟨w, p, r, rfl, h1, h⟩ := h
  walk_at "dsem"
  exact ⟨w, p, r, false, rfl, h1, h⟩
theorem invs_len {w : Wd} {p : Pl} {r : Rn} (h : OkR w p r) : (invs p r).length ≤ 810000 := by
  have h1 := fin_len h
  have h2 : (lates p r).length ≤ nst r.2 := inner_len p r true
  have h3 : (earls p r).length ≤ nst r.2 := inner_len p r false
  unfold invs
  refine Nat.le_trans (flat_len _ 900 _ fun a _ => ?_) ?_
  · rw [List.length_map]
    exact Nat.le_trans (List.length_filter_le _ _) (by omega)
  · have : (lates p r).length * 900 ≤ 900 * 900 := Nat.mul_le_mul_right _ (by omega)
    omega
theorem exch_len {w : Wd} {p : Pl} {r : Rn} (h : OkR w p r) : (exch p r).length ≤ 810000 := by
  have := (exch_pairs h).length_eq
  rw [List.length_map] at this
  rw [this]
  exact invs_len h
abbrev s_inversions : Stmt := topS 56
abbrev N_inversions : List Str := ["plan", "run", "late", "early", "p", "q"]
abbrev P_inversions : List Str := ["plan", "run"]
theorem sc_inversions : FnScope N_inversions P_inversions (defScope s_inversions) := ⟨rfl, rfl, rfl, by decide +kernel, rfl, by decide +kernel, by decide +kernel⟩
theorem ok_inversions {f : Addr} {fd : FuncData} (F : Fun K "inversions" "inversions" s_inversions f fd) (T : Tx K mg) (F_early_steps : Fk P w K mg base "early_steps" 3 P_early_steps (spOf K TT sp_early_steps)) (F_late_steps : Fk P w K mg base "late_steps" 3 P_late_steps (spOf K TT sp_late_steps)) : FnOk P w K mg base CX0 4 f fd P_inversions (spOf K TT sp_inversions) := by
  refine fun_okD (k := 3) F sc_inversions len_inversions fun cdv A outer s H E hr => ?_
  have hu := hr.units
  have hu1 := hu_of hr
  have hu65 := hu65_of hr
  refine ⟨_, (pss_cons (ps_asg (pe_tup (pa_cons (pe_callF F_late_steps (hr.mono (by decide)) (by rfl) (pa_cons (pv 0) (pa_cons (pv 1) pa_nil))) (pa_cons (pe_callF F_early_steps (hr.mono (by decide)) (by rfl) (pa_cons (pv 0) (pa_cons (pv 1) pa_nil))) pa_nil))) (tgK 2 (K := K) rfl rfl (pgs_cons (pg_name (i := 2) sc_inversions.nd rfl (by first | exact Or.inl rfl | exact Or.inr rfl)) (pgs_cons (pg_name (i := 3) sc_inversions.nd rfl (by first | exact Or.inl rfl | exact Or.inr rfl)) pgs_nil))))
    (pss_one (ps_ret (pe_callTy (tupK (K := K) rfl) (by rfl) T.nb_tuple (by decide +kernel) (pa_cons (pe_lc2V (vs := [4, 5]) [("p", 4), ("q", 5)] [5] rfl sc_inversions.nd (seqK (K := K) rfl (pv 2)) (show blkC N_inversions (defScope s_inversions) _ [("p", 4), ("q", 5)] = true by decide +kernel) rfl (by decide) (fun _ _ _ _ _ => (pg_name (i := 4) sc_inversions.nd rfl (by first | exact Or.inl rfl | exact Or.inr rfl))) (fun _ _ _ _ _ => pts_nil) (fun _ _ _ _ _ => (seqK (K := K) rfl (pv 3))) (fun _ _ _ _ _ => (pg_name (i := 5) sc_inversions.nd rfl (by first | exact Or.inl rfl | exact Or.inr rfl))) (fun _ _ _ _ _ => (pts_one (pt_cmpR op_lt (pv 4) (pv 5) (nomark _)))) (fun _ _ _ _ _ => (pe_tup (pa_cons (pv 4) (pa_cons (pv 5) pa_nil))))) pa_nil))))), ?_⟩
  try dsimp only [cxOf]
  refine ex_snd ?_
  intro ds S Qd h
  obtain ⟨w, p, r, rfl, h1, h⟩ := h
  walk_at "dsem"
  refine ⟨w, p, r, rfl, h1, w, p, r, rfl, h1, ?_⟩
  walk_at "dsem"
  have hil := invs_len h1
  have hm : (lates p r).flatMap (fun a => (((earls p r).filter fun b => decide (a < b)).map fun b => eP (a, b))) = (invs p r).map eP := by
    unfold invs
    rw [List.map_flatMap]
    congr 1
    funext a
    rw [List.map_map] <;> rfl
  refine lc2_map eN (fun a => ((earls p r).filter fun b => decide (a < b)).map fun b => eP (a, b)) _ [] (fun a ha acc kk hb hk => ?_) ?_ ?_
  · walk_at "dsem"
    refine lcI_map eN (fun b => decide (a < b)) (fun b => eP (a, b)) _ acc (fun b hb k1 k2 g1 g2 => ?_) hb hk
    walk_at "dsem"
    by_cases c : a < b
    · rw [if_pos (decide_eq_true (by omega))]
      exact g1 (decide_eq_true c)
    · rw [if_neg (by rw [decide_eq_true_eq]; omega)]
      exact g2 (decide_eq_false c)
  · rw [hm, List.length_map]
    simp only [List.length_nil]
    omega
  · rw [hm]
    walk_at "dsem"
    exact h
theorem at_ahd {w : Wd} {p : Pl} {r : Rn} (h : OkR w p r) {k : Nat} (hk : k < (earls p r).length) : (ahd p r)[k]? = some ((ahd p r).getD k []) := by
  have hl : (ahd p r).length = (earls p r).length + 1 := by
    unfold ahd
    have go : ∀ (l : List (Nat × Nat)) (s : List Nat), (ahA s l).length = l.length := by
      intro l
      induction l with
      | nil => intro s; rfl
      | cons x l ih => intro s; rw [ahA, List.length_cons, List.length_cons, ih]
    rw [List.length_cons, go, List.length_map]
  have hk2 : k < (ahd p r).length := by omega
  rw [List.getElem?_eq_getElem hk2]
  simp [hk2]
abbrev s_exchanges : Stmt := topS 57
abbrev N_exchanges : List Str := ["plan", "run", "steps", "early", "late", "ahead", "number", "found", "index", "q", "here", "p"]
abbrev P_exchanges : List Str := ["plan", "run"]
theorem sc_exchanges : FnScope N_exchanges P_exchanges (defScope s_exchanges) := ⟨rfl, rfl, rfl, by decide +kernel, rfl, by decide +kernel, by decide +kernel⟩
theorem ok_exchanges {f : Addr} {fd : FuncData} (F : Fun K "exchanges" "exchanges" s_exchanges f fd) (T : Tx K mg) (F_changed2 : Fk P w K mg base "changed_runs" 1 P_changed2 (spOf K TT sp_changed2)) (F_early_steps : Fk P w K mg base "early_steps" 3 P_early_steps (spOf K TT sp_early_steps)) (F_late_steps : Fk P w K mg base "late_steps" 3 P_late_steps (spOf K TT sp_late_steps)) (F_span : Fk P w K mg base "span" 2 P_span (spOf K TT sp_span)) (F_states : Fk P w K mg base "states" 2 P_states (spOf K TT sp_states)) (F_steps_with_reads : Fk P w K mg base "steps_with_reads" 1 P_steps_with_reads (spOf K TT sp_steps_with_reads)) : FnOk P w K mg base CX0 4 f fd P_exchanges (spOf K TT sp_exchanges) := by
  refine fun_okD (k := 3) F sc_exchanges len_exchanges fun cdv A outer s H E hr => ?_
  have hu := hr.units
  have hu1 := hu_of hr
  have hu65 := hu65_of hr
  refine ⟨_, (pss_cons (ps_par3 (i := 2) (j := 3) (l := 4) rfl sc_exchanges.nd rfl rfl rfl (by decide) (by decide) (by decide) rfl rfl rfl (pa_cons (pe_callF F_steps_with_reads (hr.mono (by decide)) (by rfl) (pa_cons (pv 1) pa_nil)) (pa_cons (pe_callF F_early_steps (hr.mono (by decide)) (by rfl) (pa_cons (pv 0) (pa_cons (pv 1) pa_nil))) (pa_cons (pe_callF F_late_steps (hr.mono (by decide)) (by rfl) (pa_cons (pv 0) (pa_cons (pv 1) pa_nil))) pa_nil))) (by rfl))
    (pss_cons (ps_set (i := 5) sc_exchanges.nd rfl (by first | exact Or.inl rfl | exact Or.inr rfl) (pe_lstM (pa_cons (pe_ix (ixK (K := K) rfl) (pe_callF F_states (hr.mono (by decide)) (by rfl) (pa_cons (pv 1) pa_nil)) (pe_ix (ixK (K := K) rfl) (pe_callF F_span (hr.mono (by decide)) (by rfl) (pa_cons (pv 1) pa_nil)) pe_int (fun _ _ => rfl)) (fun _ _ => rfl)) pa_nil)))
    (pss_cons (ps_for PassesOwn.never rfl (seqK (K := K) rfl (pv 3)) (pg_name (i := 6) sc_exchanges.nd rfl (by first | exact Or.inl rfl | exact Or.inr rfl))
      (pss_one (ps_expr (pe_bm PySem.F.plainAttrs_list PySem.F.slot_list_append PySem.F.type_list_append mt_append (pvM 5) (pa_cons (pe_callF F_changed2 (hr.mono (by decide)) (by rfl) (pa_cons (pe_ix (ixK (K := K) rfl) (pvM 5) (pe_un un_neg pe_int) (fun _ _ => rfl)) (pa_cons (pe_ix (ixK (K := K) rfl) (pe_ix (ixK (K := K) rfl) (pv 2) (pv 6) (fun _ _ => rfl)) pe_int (fun _ _ => rfl)) (pa_cons (pe_ix (ixK (K := K) rfl) (pe_ix (ixK (K := K) rfl) (pv 2) (pv 6) (fun _ _ => rfl)) pe_int (fun _ _ => rfl)) pa_nil)))) pa_nil)))))
    (pss_frz 5 (pss_cons (ps_set (i := 7) sc_exchanges.nd rfl (by first | exact Or.inl rfl | exact Or.inr rfl) (pe_lstM pa_nil))
    (pss_cons (ps_for PassesOwn.never rfl (pi_range3 (by rfl) T.nb_range (pa_cons (pe_op op_sub (pe_callB (lenK (K := K) rfl) (by rfl) T.nb_len (by decide +kernel) (pa_cons (pv 3) pa_nil)) pe_int) (pa_cons (pe_un un_neg pe_int) (pa_cons (pe_un un_neg pe_int) pa_nil)))) (pg_name (i := 8) sc_exchanges.nd rfl (by first | exact Or.inl rfl | exact Or.inr rfl))
      (pss_cons (ps_par (i := 9) (j := 10) rfl sc_exchanges.nd rfl rfl (by decide) rfl rfl (pa_cons (pe_ix (ixK (K := K) rfl) (pv 3) (pv 8) (fun _ _ => rfl)) (pa_cons (pe_ix (ixK (K := K) rfl) (pv 5) (pv 8) (fun _ _ => rfl)) pa_nil)) (by rfl))
    (pss_one (ps_for PassesOwn.never rfl (seqK (K := K) rfl (pv 4)) (pg_name (i := 11) sc_exchanges.nd rfl (by first | exact Or.inl rfl | exact Or.inr rfl))
      (pss_one (ps_if (pt_cmpR op_lt (pv 11) (pv 9) (nomark _)) (pss_cons (ps_expr (pe_bm PySem.F.plainAttrs_list PySem.F.slot_list_append PySem.F.type_list_append mt_append (pvM 7) (pa_cons (pe_tup (pa_cons (pe_tup (pa_cons (pv 10) (pa_cons (pe_slice (slK (K := K) rfl) (pe_ix (ixK (K := K) rfl) (pv 2) (pv 11) (fun _ _ => rfl)) po_none (po_some pe_int)) (pa_cons (pe_slice (slK (K := K) rfl) (pe_ix (ixK (K := K) rfl) (pv 2) (pv 9) (fun _ _ => rfl)) po_none (po_some pe_int)) pa_nil)))) (pa_cons (pv 11) (pa_cons (pv 9) pa_nil)))) pa_nil)))
    (pss_one (ps_set (i := 10) sc_exchanges.nd rfl (by first | exact Or.inl rfl | exact Or.inr rfl) (pe_callF F_changed2 (hr.mono (by decide)) (by rfl) (pa_cons (pv 10) (pa_cons (pe_ix (ixK (K := K) rfl) (pe_ix (ixK (K := K) rfl) (pv 2) (pv 11) (fun _ _ => rfl)) pe_int (fun _ _ => rfl)) (pa_cons (pe_ix (ixK (K := K) rfl) (pe_ix (ixK (K := K) rfl) (pv 2) (pv 11) (fun _ _ => rfl)) pe_int (fun _ _ => rfl)) pa_nil))))))) pss_nil))))))
    (pss_frz 7 (pss_one (ps_ret (pe_callTy (tupK (K := K) rfl) (by rfl) T.nb_tuple (by decide +kernel) (pa_cons (pv 7) pa_nil))))))))))), ?_⟩
  try dsimp only [cxOf]
  refine ex_snd ?_
  intro ds S Qd h
  obtain ⟨w, p, r, rfl, h1, h⟩ := h
  walk_at "dsem"
  have hE := oke_of h1
  have hn := fin_len h1
  have hel : (earls p r).length ≤ nst r.2 := inner_len p r false
  have hxl := exch_len h1
  have hsp : sp1 r ≤ nst r.2 := rds_le r (sp1_mem (rds_ne h1))
  have hsp0 := sp_le (rds_ne h1)
  have hfew := h1.okw.few
  refine ⟨r, rfl, hE, w, p, r, rfl, h1, w, p, r, rfl, h1, r, rfl, hE, ?_⟩
  refine ⟨r, rfl, hE, rds_ne h1, ?_⟩
  walk_at "dsem"
  refine at_sts r (by omega) ?_
  walk_at "dsem"
  intro _
  have hvar : ∀ k, k < nst r.2 → (stp r k).1 < w.vs.length := fun k hk => (var_lt h1 hk).1
  refine forD_ind eN (fun rem ρ S' => S' = S ∧ ∃ (pre : List (List Nat)) (s : List Nat) (x : Option D), ρ = [some (D.tup (List.map eNs p)), some (D.tup [D.tup (List.map eN r.fst), D.tup (List.map eEv r.snd)]), some (D.lst ((stps r).map eT)), some (D.tup ((earls p r).map eN)), some (D.tup ((lates p r).map eN)),
      some (D.mu (pre.map eNs ++ [eNs s])), x, none, none, none, none, none] ∧ pre ++ s :: ahA s (rem.map (stp r)) = ahd p r ∧ s.length = w.vs.length ∧ ∀ k ∈ rem, k < nst r.2) ?_ ?_ _ _ _ ⟨rfl, [], stAt r (sp0 r), none, rfl, rfl, stAt_len h1 (by omega), fun k hk => by have := (mem_earls h1 k).mp hk; omega⟩
  · rintro k rem ρ S' nx ⟨rfl, pre, s, x, rfl, hc, hs, hm⟩ hnx
    have hk := hm k List.mem_cons_self
    have hlen := congrArg List.length hc
    rw [List.length_append, List.length_cons] at hlen
    have hal : (ahd p r).length ≤ 901 := by
      unfold ahd
      have go : ∀ (l : List (Nat × Nat)) (s : List Nat), (ahA s l).length = l.length := by
        intro l
        induction l with
        | nil => intro s; rfl
        | cons x l ih => intro s; rw [ahA, List.length_cons, List.length_cons, ih]
      rw [List.length_cons, go, List.length_map]
      omega
    walk_at "dsem"
    refine atD_last ?_
    refine at_steps hk ?_
    walk_at "dsem"
    refine at_steps hk ?_
    walk_at "dsem"
    refine ⟨s, (stp r k).1, (stp r k).2, rfl, by rw [hs]; exact hvar k hk, by omega, ?_⟩
    refine ⟨by rw [List.length_append, List.length_map]; simp only [List.length_singleton]; omega, hnx _ _ ⟨rfl, pre ++ [s], setS s (stp r k), some (D.int k), ?_, by rw [← hc, List.append_assoc] <;> rfl, by unfold setS; rw [List.length_set]; exact hs, fun j hj => hm j (List.mem_cons_of_mem _ hj)⟩⟩
    rw [map_snoc] <;> rfl
  · rintro ρ S' ⟨rfl, pre, s, x, rfl, hc, _, _⟩
    walk_at "dsem"
    have e : pre.map eNs ++ [eNs s] = (ahd p r).map eNs := by rw [← hc, List.map_nil, ahA, List.map_append] <;> rfl
    have e : pre.map eNs ++ [D.tup (s.map eN)] = (ahd p r).map eNs := e
    rw [e, List.length_map]
    refine ⟨by omega, ?_⟩
    rw [rgDown_map]
    intro _
    refine forD_ind eN (fun rem ρ S'' => S'' = S' ∧ ∃ (done : List Nat) (a b c d : Option D), ρ = [some (D.tup (List.map eNs p)), some (D.tup [D.tup (List.map eN r.fst), D.tup (List.map eEv r.snd)]), some (D.lst ((stps r).map eT)), some (D.tup ((earls p r).map eN)), some (D.tup ((lates p r).map eN)),
        some (D.lst ((ahd p r).map eNs)), x, some (D.mu ((done.flatMap fun k => exIn (stp r) ((earls p r).getD k 0) ((ahd p r).getD k []) (lates p r)).map eXc)), a, b, c, d] ∧ done ++ rem = (List.range (earls p r).length).reverse) ?_ ?_ _ _ _ ⟨rfl, [], none, none, none, none, rfl, rfl⟩
    · rintro k rem ρ S'' nx ⟨rfl, done, a, b, c, d, rfl, hd⟩ hnx
      have hk : k < (earls p r).length := by
        have : k ∈ (List.range (earls p r).length).reverse := by rw [← hd]; simp
        exact List.mem_range.mp (List.mem_reverse.mp this)
      have hq : (earls p r).getD k 0 ∈ earls p r := getD_mem hk
      have hq2 := (mem_earls h1 _).mp hq
      have hexl : (exch p r) = (done.flatMap fun k => exIn (stp r) ((earls p r).getD k 0) ((ahd p r).getD k []) (lates p r)) ++ (exIn (stp r) ((earls p r).getD k 0) ((ahd p r).getD k []) (lates p r) ++ rem.flatMap fun k => exIn (stp r) ((earls p r).getD k 0) ((ahd p r).getD k []) (lates p r)) := by
        unfold exch
        rw [← hd, List.flatMap_append, List.flatMap_cons]
      have hah : ((ahd p r).getD k []).length = w.vs.length := by rw [ahd_get h1 hk, mid_len]
      have hxl2 := congrArg List.length hexl
      rw [List.length_append, List.length_append] at hxl2
      walk_at "dsem"
      refine at_get hk (atD_nat (by rw [List.getElem?_map, at_ahd h1 hk] <;> rfl) ?_)
      walk_at "dsem"
      intro _
      refine forD_ind eN (fun rem2 ρ S3 => S3 = S'' ∧ ∃ (part : List Xc) (s : List Nat) (d : Option D), ρ = [some (D.tup (List.map eNs p)), some (D.tup [D.tup (List.map eN r.fst), D.tup (List.map eEv r.snd)]), some (D.lst ((stps r).map eT)), some (D.tup ((earls p r).map eN)), some (D.tup ((lates p r).map eN)),
        some (D.lst ((ahd p r).map eNs)), x, some (D.mu (((done.flatMap fun k => exIn (stp r) ((earls p r).getD k 0) ((ahd p r).getD k []) (lates p r)) ++ part).map eXc)), some (D.int k), some (D.int ((earls p r).getD k 0 : Nat)), some (D.tup (s.map eN)), d] ∧
          part ++ exIn (stp r) ((earls p r).getD k 0) s rem2 = exIn (stp r) ((earls p r).getD k 0) ((ahd p r).getD k []) (lates p r) ∧ s.length = w.vs.length ∧ ∀ j ∈ rem2, j < nst r.2) ?_ ?_ _ _ _ ⟨rfl, [], (ahd p r).getD k [], d, by rw [List.append_nil] <;> rfl, rfl, hah, fun j hj => by have := (mem_lates h1 j).mp hj; omega⟩
      · rintro j rem2 ρ S3 nx2 ⟨rfl, part, s, d, rfl, hp, hs, hm⟩ hnx2
        have hj := hm j List.mem_cons_self
        have hpl := congrArg List.length hp
        rw [List.length_append] at hpl
        walk_at "dsem"
        by_cases cj : j < (earls p r).getD k 0
        · rw [if_pos (decide_eq_true (by omega))]
          refine at_steps hj ?_
          walk_at "dsem"
          refine at_steps (by omega) ?_
          walk_at "dsem"
          rw [cut2, cut2]
          rw [exIn, if_pos cj, List.length_cons] at hpl
          refine ⟨by rw [List.length_map, List.length_append]; omega, ?_⟩
          refine at_steps hj ?_
          walk_at "dsem"
          refine at_steps hj ?_
          walk_at "dsem"
          refine ⟨s, (stp r j).1, (stp r j).2, rfl, by rw [hs]; exact hvar j hj, by omega, ?_⟩
          refine hnx2 _ _ ⟨rfl, part ++ [((s, stp r j, stp r ((earls p r).getD k 0)), j, (earls p r).getD k 0)], setS s (stp r j), some (D.int j), ?_, ?_, by unfold setS; rw [List.length_set]; exact hs, fun i hi => hm i (List.mem_cons_of_mem _ hi)⟩
          · rw [← List.append_assoc, map_snoc] <;> rfl
          · rw [← hp, exIn, if_pos cj, List.append_assoc] <;> rfl
        · rw [if_neg (by rw [decide_eq_true_eq]; omega)]
          refine hnx2 _ _ ⟨rfl, part, s, some (D.int j), rfl, ?_, hs, fun i hi => hm i (List.mem_cons_of_mem _ hi)⟩
          rw [← hp, exIn, if_neg cj]
      · rintro ρ S3 ⟨rfl, part, s, d, rfl, hp, hs, hm⟩
        rw [exIn, List.append_nil] at hp
        subst hp
        refine hnx _ _ ⟨rfl, done ++ [k], some (D.int k), some (D.int ((earls p r).getD k 0 : Nat)), some (D.tup (s.map eN)), d, ?_, by rw [← hd]; simp⟩
        rw [List.flatMap_append, List.flatMap_singleton]
    · rintro ρ S'' ⟨rfl, done, a, b, c, d, rfl, hd⟩
      rw [List.append_nil] at hd
      subst hd
      walk_at "dsem"
      exact h
abbrev s_blame : Stmt := topS 58
abbrev N_blame : List Str := ["world", "mode", "plan", "run", "corner", "p", "q"]
abbrev P_blame : List Str := ["world", "mode", "plan", "run"]
theorem sc_blame : FnScope N_blame P_blame (defScope s_blame) := ⟨rfl, rfl, rfl, by decide +kernel, rfl, by decide +kernel, by decide +kernel⟩
theorem ok_blame {f : Addr} {fd : FuncData} (F : Fun K "blame" "blame" s_blame f fd) (T : Tx K mg) (F_exchanges : Fk P w K mg base "exchanges" 4 P_exchanges (spOf K TT sp_exchanges)) (F_holds : Fk P w K mg base "holds" 4 P_holds (spOf K TT sp_holds)) (F_is_accepted : Fk P w K mg base "is_accepted" 5 P_is_accepted (spOf K TT sp_is_accepted)) : FnOk P w K mg base CX0 6 f fd P_blame (spOf K TT sp_blame) := by
  refine fun_okD (k := 5) F sc_blame len_blame fun cdv A outer s H E hr => ?_
  have hu := hr.units
  have hu1 := hu_of hr
  have hu65 := hu65_of hr
  refine ⟨_, (pss_cons (ps_if (pt_val (pe_callF F_is_accepted (hr.mono (by decide)) (by rfl) (pa_cons (pv 0) (pa_cons (pv 1) (pa_cons (pv 2) (pa_cons (pv 3) pa_nil)))))) (pss_one (ps_ret pe_non)) pss_nil)
    (pss_cons (ps_for PassesOwn.never rfl (seqK (K := K) rfl (pe_callF F_exchanges (hr.mono (by decide)) (by rfl) (pa_cons (pv 2) (pa_cons (pv 3) pa_nil)))) (tgK 3 (K := K) rfl rfl (pgs_cons (pg_name (i := 4) sc_blame.nd rfl (by first | exact Or.inl rfl | exact Or.inr rfl)) (pgs_cons (pg_name (i := 5) sc_blame.nd rfl (by first | exact Or.inl rfl | exact Or.inr rfl)) (pgs_cons (pg_name (i := 6) sc_blame.nd rfl (by first | exact Or.inl rfl | exact Or.inr rfl)) pgs_nil))))
      (pss_one (ps_if (pt_not (pt_val (pe_callF F_holds (hr.mono (by decide)) (by rfl) (pa_cons (pv 0) (pa_cons (pv 1) (pa_cons (pv 4) pa_nil)))))) (pss_one (ps_ret (pe_tup (pa_cons (pv 4) (pa_cons (pv 5) (pa_cons (pv 6) pa_nil)))))) pss_nil)))
    (pss_one (ps_ret pe_non)))), ?_⟩
  try dsimp only [cxOf]
  refine ex_snd ?_
  intro ds S Qd h
  obtain ⟨w, m, p, r, rfl, h1, h⟩ := h
  walk_at "dsem"
  refine ⟨w, m, p, r, rfl, h1, ?_⟩
  walk_at "dsem"
  unfold blm at h
  by_cases c : isAcc w m p r = true
  · rw [if_pos c] at h ⊢
    exact h
  · rw [if_neg c] at h ⊢
    refine ⟨w, p, r, rfl, h1, ?_⟩
    walk_at "dsem"
    intro _
    refine forD_ind eXc (fun rem ρ S' => S' = S ∧ ∃ (x y z : Option D), ρ = [some (D.tup [D.tup (List.map eVr w.vs), eSt w.st, eFn w.fn]), some (D.str (eMd m)),
                  some (D.tup (List.map eNs p)), some (D.tup [D.tup (List.map eN r.fst), D.tup (List.map eEv r.snd)]), x, y, z] ∧ rem.find? (fun x => !hld w m x.1) = (exch p r).find? (fun x => !hld w m x.1) ∧ ∀ x ∈ rem, x ∈ exch p r) ?_ ?_ _ _ _ ⟨rfl, none, none, none, rfl, rfl, fun x hx => hx⟩
    · rintro x rem ρ S' nx ⟨rfl, a, b, c, rfl, hf, hm⟩ hnx
      walk_at "dsem"
      refine ⟨w, m, x.1, rfl, h1.okw, exch_cor h1 (hm x List.mem_cons_self), ?_⟩
      walk_at "dsem"
      cases e : hld w m x.1 with
      | true =>
        walk_at "dsem"
        rw [List.find?_cons_of_neg (by rw [e]; decide)] at hf
        exact hnx _ _ ⟨rfl, _, _, _, rfl, hf, fun y hy => hm y (List.mem_cons_of_mem _ hy)⟩
      | false =>
        walk_at "dsem"
        rw [List.find?_cons_of_pos (by rw [e]; decide)] at hf
        rw [← hf] at h
        exact h
    · rintro ρ S' ⟨rfl, a, b, c, rfl, hf, hm⟩
      walk_at "dsem"
      rw [← hf] at h
      exact h
abbrev s_values_ahead : Stmt := topS 59
abbrev N_values_ahead : List Str := ["run", "number"]
abbrev P_values_ahead : List Str := ["run", "number"]
theorem sc_values_ahead : FnScope N_values_ahead P_values_ahead (defScope s_values_ahead) := ⟨rfl, rfl, rfl, by decide +kernel, rfl, by decide +kernel, by decide +kernel⟩
theorem ok_values_ahead {f : Addr} {fd : FuncData} (F : Fun K "values_ahead" "values_ahead" s_values_ahead f fd) (T : Tx K mg) (F_states : Fk P w K mg base "states" 2 P_states (spOf K TT sp_states)) : FnOk P w K mg base CX0 3 f fd P_values_ahead (spOf K TT sp_values_ahead) := by
  refine fun_okD (k := 2) F sc_values_ahead len_values_ahead fun cdv A outer s H E hr => ?_
  have hu := hr.units
  have hu1 := hu_of hr
  have hu65 := hu65_of hr
  refine ⟨_, (pss_one (ps_ret (pe_ix (ixK (K := K) rfl) (pe_callF F_states (hr.mono (by decide)) (by rfl) (pa_cons (pv 0) pa_nil)) (pv 1) (fun _ _ => rfl)))), ?_⟩
  try dsimp only [cxOf]
  refine ex_snd ?_
  intro ds S Qd h
  obtain ⟨r, k, rfl, h1, h2, h⟩ := h
  walk_at "dsem"
  exact ⟨r, rfl, h1, at_sts r h2 h⟩
abbrev s_fits_run : Stmt := topS 60
abbrev N_fits_run : List Str := ["plan", "run", "corner", "p", "q", "steps", "here", "first", "last", "passed", "variable", "value", "seen", "state"]
abbrev P_fits_run : List Str := ["plan", "run", "corner", "p", "q"]
theorem sc_fits_run : FnScope N_fits_run P_fits_run (defScope s_fits_run) := ⟨rfl, rfl, rfl, by decide +kernel, rfl, by decide +kernel, by decide +kernel⟩
theorem ok_fits_run {f : Addr} {fd : FuncData} (F : Fun K "fits_run" "fits_run" s_fits_run f fd) (T : Tx K mg) (F_span : Fk P w K mg base "span" 2 P_span (spOf K TT sp_span)) (F_states : Fk P w K mg base "states" 2 P_states (spOf K TT sp_states)) (F_steps_with_reads : Fk P w K mg base "steps_with_reads" 1 P_steps_with_reads (spOf K TT sp_steps_with_reads)) (F_values_ahead : Fk P w K mg base "values_ahead" 3 P_values_ahead (spOf K TT sp_values_ahead)) : FnOk P w K mg base CX0 4 f fd P_fits_run (spOf K TT sp_fits_run) := by
  refine fun_okD (k := 3) F sc_fits_run len_fits_run fun cdv A outer s H E hr => ?_
  have hu := hr.units
  have hu1 := hu_of hr
  have hu65 := hu65_of hr
  refine ⟨_, (pss_cons (ps_par (i := 5) (j := 6) rfl sc_fits_run.nd rfl rfl (by decide) rfl rfl (pa_cons (pe_callF F_steps_with_reads (hr.mono (by decide)) (by rfl) (pa_cons (pv 1) pa_nil)) (pa_cons (pe_ix (ixK (K := K) rfl) (pv 2) pe_int (fun _ _ => rfl)) pa_nil)) (by rfl))
    (pss_cons (ps_if (PW.pt (pw_or (pt_cmpR (neK (K := K) rfl hu) (pe_ix (ixK (K := K) rfl) (pv 2) pe_int (fun _ _ => rfl)) (pe_slice (slK (K := K) rfl) (pe_ix (ixK (K := K) rfl) (pv 5) (pv 3) (fun _ _ => rfl)) po_none (po_some pe_int)) (nomark _)) (pw_or1 (pt_cmpR (neK (K := K) rfl hu) (pe_ix (ixK (K := K) rfl) (pv 2) pe_int (fun _ _ => rfl)) (pe_slice (slK (K := K) rfl) (pe_ix (ixK (K := K) rfl) (pv 5) (pv 4) (fun _ _ => rfl)) po_none (po_some pe_int)) (nomark _))))) (pss_one (ps_ret pe_bl)) pss_nil)
    (pss_cons (ps_asg (pe_callF F_span (hr.mono (by decide)) (by rfl) (pa_cons (pv 1) pa_nil)) (tgK 2 (K := K) rfl rfl (pgs_cons (pg_name (i := 7) sc_fits_run.nd rfl (by first | exact Or.inl rfl | exact Or.inr rfl)) (pgs_cons (pg_name (i := 8) sc_fits_run.nd rfl (by first | exact Or.inl rfl | exact Or.inr rfl)) pgs_nil))))
    (pss_cons (ps_set (i := 9) sc_fits_run.nd rfl (by first | exact Or.inl rfl | exact Or.inr rfl) (pe_slice (slK (K := K) rfl) (pe_callF F_states (hr.mono (by decide)) (by rfl) (pa_cons (pv 1) pa_nil)) (po_some (pv 7)) (po_some (pe_op (addK (K := K) rfl) (pv 8) pe_int))))
    (pss_cons (ps_for PassesOwn.never rfl (enumK (K := K) rfl (by rfl) T.nb_enumerate (pa_cons (pv 6) pa_nil)) (tgK 2 (K := K) rfl rfl (pgs_cons (pg_name (i := 10) sc_fits_run.nd rfl (by first | exact Or.inl rfl | exact Or.inr rfl)) (pgs_cons (pg_name (i := 11) sc_fits_run.nd rfl (by first | exact Or.inl rfl | exact Or.inr rfl)) pgs_nil)))
      (pss_cons (ps_setLcV (vs := [13]) (i := 12) [("state", 13)] rfl sc_fits_run.nd rfl rfl (sw_true rfl rfl rfl (by decide +kernel)) (seqK (K := K) rfl (pv 9)) (show blkC N_fits_run (defScope s_fits_run) _ [("state", 13)] = true by decide +kernel) rfl (fun _ _ _ _ _ => (pg_name (i := 13) sc_fits_run.nd rfl (by first | exact Or.inl rfl | exact Or.inr rfl))) (fun _ _ _ _ _ => pts_nil) (fun _ _ _ _ _ => (pe_ix (ixK (K := K) rfl) (pv 13) (pv 10) (fun _ _ => rfl))))
    (pss_cons (ps_if (pt_cmpR (eqK (K := K) rfl hu) (pv 10) (pe_ix (ixK (K := K) rfl) (pe_ix (ixK (K := K) rfl) (pv 5) (pv 3) (fun _ _ => rfl)) pe_int (fun _ _ => rfl)) (nomark _)) (pss_one (ps_set (i := 12) sc_fits_run.nd rfl (by first | exact Or.inl rfl | exact Or.inr rfl) (pe_lst (pa_cons (pe_ix (ixK (K := K) rfl) (pe_callF F_values_ahead (hr.mono (by decide)) (by rfl) (pa_cons (pv 1) (pa_cons (pv 3) pa_nil))) (pv 10) (fun _ _ => rfl)) pa_nil)))) pss_nil)
    (pss_cons (ps_if (pt_cmpR (eqK (K := K) rfl hu) (pv 10) (pe_ix (ixK (K := K) rfl) (pe_ix (ixK (K := K) rfl) (pv 5) (pv 4) (fun _ _ => rfl)) pe_int (fun _ _ => rfl)) (nomark _)) (pss_one (ps_set (i := 12) sc_fits_run.nd rfl (by first | exact Or.inl rfl | exact Or.inr rfl) (pe_lst (pa_cons (pe_ix (ixK (K := K) rfl) (pe_callF F_values_ahead (hr.mono (by decide)) (by rfl) (pa_cons (pv 1) (pa_cons (pv 4) pa_nil))) (pv 10) (fun _ _ => rfl)) pa_nil)))) pss_nil)
    (pss_one (ps_if (pt_cmpR (notInSK (K := K) rfl) (pv 11) (pv 12) (by rfl)) (pss_one (ps_ret pe_bl)) pss_nil))))))
    (pss_one (ps_ret pe_bl))))))), ?_⟩
  try dsimp only [cxOf]
  refine ex_snd ?_
  intro ds S Qd h
  obtain ⟨w, p, r, x, rfl, h1, h2, h⟩ := h
  obtain ⟨a, b, ha, hb, hab, rfl⟩ := (mem_exch h1 x).mp h2
  unfold xcOf
  walk_at "dsem"
  have hn := fin_len h1
  have hE := oke_of h1
  have hsp : sp1 r ≤ nst r.2 := rds_le r (sp1_mem (rds_ne h1))
  have hsp0 := sp_le (rds_ne h1)
  have hfew := h1.okw.few
  have j1 := (mem_lates h1 _).mp ha
  have j2 := (mem_earls h1 _).mp hb
  obtain ⟨f1, f2, f3⟩ := xc_facts h1 ha hb hab
  refine ⟨r, rfl, hE, ?_⟩
  walk_at "dsem"
  refine at_steps (by omega) ?_
  walk_at "dsem"
  rw [cut2]
  have same : ∀ x : Nat × Nat, okD (D.tup [D.int x.1, D.int x.2]) = true ∧ eqD (D.tup [D.int x.1, D.int x.2]) (D.tup [D.int x.1, D.int x.2]) = true := fun x => ⟨(eqe_P.sh x).ok (by decide), (eqe_P.eq x x).trans (decide_eq_true rfl)⟩
  rw [(same (stp r a)).1, (same (stp r a)).2]
  walk_at "dsem"
  refine at_steps (by omega) ?_
  walk_at "dsem"
  rw [cut2, (same (stp r b)).1, (same (stp r b)).2]
  walk_at "dsem"
  refine ⟨r, rfl, hE, rds_ne h1, ?_⟩
  walk_at "dsem"
  refine ⟨r, rfl, hE, ?_⟩
  walk_at "dsem"
  have e : ((sp1 r : Nat) : Int) + 1 = ((sp1 r + 1 : Nat) : Int) := by omega
  rw [e, cutD_mid, ← List.map_drop, ← List.map_take, ← within_take]
  intro _
  rw [enumD_map]
  have hwl : (within r).length ≤ 901 := by
    have := sts_len r
    rw [within_take, List.length_take, List.length_drop]
    omega
  have hmem : ∀ x ∈ (mid w p r a b).zipIdx, x.2 < w.vs.length ∧ x.1 = nth (mid w p r a b) x.2 := fun x hx => by
    obtain ⟨i, hi, e⟩ := List.mem_iff_getElem.mp hx
    rw [List.length_zipIdx, mid_len] at hi
    rw [List.getElem_zipIdx] at e
    rw [← e]
    refine ⟨by simpa using hi, ?_⟩
    simp [show i < (mid w p r a b).length by rw [mid_len]; exact hi]
  refine forD_ind _ (fun rem ρ S' => S' = S ∧ ∃ (x y z u : Option D), ρ = [some (D.tup (List.map eNs p)), some (D.tup [D.tup (List.map eN r.fst), D.tup (List.map eEv r.snd)]), some (D.tup [D.tup (List.map eN (mid w p r a b)), D.tup [D.int ↑(stp r a).fst, D.int ↑(stp r a).snd], D.tup [D.int ↑(stp r b).fst, D.int ↑(stp r b).snd]]),
      some (D.int ↑a), some (D.int ↑b), some (D.lst (List.map eT (stps r))), some (D.tup (List.map eN (mid w p r a b))), some (D.int (sp0 r)), some (D.int (sp1 r)), some (D.tup ((within r).map eNs)), x, y, z, u] ∧ ∀ x ∈ rem, x.2 < w.vs.length ∧ x.1 = nth (mid w p r a b) x.2) ?_ ?_ _ _ _ ⟨rfl, none, none, none, none, rfl, hmem⟩
  · rintro x rem ρ S' nx ⟨rfl, y1, y2, y3, y4, rfl, hm⟩ hnx
    obtain ⟨hv, hx⟩ := hm x List.mem_cons_self
    have hwv : ∀ s ∈ within r, x.2 < s.length := fun s hs => by
      have := sts_ok h1 s (List.mem_of_mem_drop (List.mem_of_mem_take hs))
      rw [this.1]
      exact hv
    walk_at "dsem"
    rw [List.length_map]
    refine ⟨lt_line (by omega), ?_⟩
    refine lcD_all eNs (fun s => D.int (nth s x.2)) _ (fun s hs k1 k2 hk => ?_) ?_
    · walk_at "dsem"
      exact at_nth (hwv s hs) hk
    have key : ∀ (seen : List Int), (nth (mid w p r a b) x.2 : Int) ∈ seen → ∀ y4 : Option D, ∃ ns : List Int, seen.map D.int = ns.map D.int ∧ if (!ns.contains (x.1 : Int)) = true then Qd (D.bl false) S' else nx [some (D.tup (List.map eNs p)), some (D.tup [D.tup (List.map eN r.fst), D.tup (List.map eEv r.snd)]), some (D.tup [D.tup (List.map eN (mid w p r a b)), D.tup [D.int ↑(stp r a).fst, D.int ↑(stp r a).snd], D.tup [D.int ↑(stp r b).fst, D.int ↑(stp r b).snd]]),
      some (D.int ↑a), some (D.int ↑b), some (D.lst (List.map eT (stps r))), some (D.tup (List.map eN (mid w p r a b))), some (D.int (sp0 r)), some (D.int (sp1 r)), some (D.tup ((within r).map eNs)), some (D.int x.2), some (D.int x.1), some (.lst (seen.map D.int)), y4] S' := fun seen hin y4 => by
      refine ⟨seen, rfl, ?_⟩
      rw [hx, List.contains_iff_mem.mpr hin, if_neg (by simp)]
      exact hnx _ _ ⟨rfl, _, _, _, _, rfl, fun y hy => hm y (List.mem_cons_of_mem _ hy)⟩
    walk_at "dsem"
    refine at_steps (by omega) ?_
    walk_at "dsem"
    by_cases ca : x.2 = (stp r a).1
    · rw [if_pos (decide_eq_true (by omega))]
      refine ⟨r, a, rfl, hE, by omega, ?_⟩
      walk_at "dsem"
      refine at_nth (by rw [stAt_len h1 (by omega)]; exact hv) ?_
      walk_at "dsem"
      refine at_steps (by omega) ?_
      walk_at "dsem"
      rw [if_neg (by rw [decide_eq_true_eq]; omega)]
      exact key [(nth (stAt r a) x.2 : Int)] (by rw [ca, f1]; simp) _
    · rw [if_neg (by rw [decide_eq_true_eq]; omega)]
      refine at_steps (by omega) ?_
      walk_at "dsem"
      by_cases cb : x.2 = (stp r b).1
      · rw [if_pos (decide_eq_true (by omega))]
        refine ⟨r, b, rfl, hE, by omega, ?_⟩
        walk_at "dsem"
        refine at_nth (by rw [stAt_len h1 (by omega)]; exact hv) ?_
        walk_at "dsem"
        exact key [(nth (stAt r b) x.2 : Int)] (by rw [cb, f2]; simp) _
      · rw [if_neg (by rw [decide_eq_true_eq]; omega)]
        have em : List.map (fun s => D.int (nth s x.2 : Nat)) (within r) = ((within r).map fun s => (nth s x.2 : Int)).map D.int := by rw [List.map_map] <;> rfl
        rw [em]
        refine key _ ?_ _
        have hbd := mid_bd h1 (l := a) (e := b) (by omega) (by omega) (by omega) hv
        rw [nth_mid hv]
        exact List.mem_map.mpr ⟨_, mem_within h1 hbd.1 hbd.2, rfl⟩
  · rintro ρ S' ⟨rfl, y1, y2, y3, y4, rfl, hm⟩
    walk_at "dsem"
    exact h
abbrev s_shows_blame : Stmt := topS 61
abbrev N_shows_blame : List Str := ["world", "mode", "plan", "run", "value", "corner", "p", "q", "most"]
abbrev P_shows_blame : List Str := ["world", "mode", "plan", "run", "value"]
theorem sc_shows_blame : FnScope N_shows_blame P_shows_blame (defScope s_shows_blame) := ⟨rfl, rfl, rfl, by decide +kernel, rfl, by decide +kernel, by decide +kernel⟩
theorem ok_shows_blame {f : Addr} {fd : FuncData} (F : Fun K "shows_blame" "shows_blame" s_shows_blame f fd) (T : Tx K mg) (F_fits_run : Fk P w K mg base "fits_run" 4 P_fits_run (spOf K TT sp_fits_run)) (F_holds : Fk P w K mg base "holds" 4 P_holds (spOf K TT sp_holds)) (F_inversions : Fk P w K mg base "inversions" 4 P_inversions (spOf K TT sp_inversions)) (F_is_corner : Fk P w K mg base "is_corner" 5 P_is_corner (spOf K TT sp_is_corner)) (F_is_integer : Fk P w K mg base "is_integer" 2 P_is_integer (spOf K TT sp_is_integer)) (F_states : Fk P w K mg base "states" 2 P_states (spOf K TT sp_states)) : FnOk P w K mg base CX0 6 f fd P_shows_blame (spOf K TT sp_shows_blame) := by
  refine fun_okD (k := 5) F sc_shows_blame len_shows_blame fun cdv A outer s H E hr => ?_
  have hu := hr.units
  have hu1 := hu_of hr
  have hu65 := hu65_of hr
  refine ⟨_, (pss_cons (ps_if (PW.pt (pw_or (pt_not (pt_val (pe_callB (isiK (K := K) rfl) (by rfl) T.nb_isinstance (by decide +kernel) (pa_cons (pv 4) (pa_cons (pe_bltn (v := V.ty "tuple") (by rfl) T.nb_tuple (by decide +kernel) rfl) pa_nil))))) (pw_or (pt_cmpR (neK (K := K) rfl hu) (pe_callB (lenK (K := K) rfl) (by rfl) T.nb_len (by decide +kernel) (pa_cons (pv 4) pa_nil)) (pe_globI (by rfl) T.g_TRIPLE_PARTS) (nomark _)) (pw_or1 (pt_not (pt_val (pe_callF F_is_corner (hr.mono (by decide)) (by rfl) (pa_cons (pv 0) (pa_cons (pe_ix (ixK (K := K) rfl) (pv 4) pe_int (fun _ _ => rfl)) pa_nil))))))))) (pss_one (ps_ret pe_bl)) pss_nil)
    (pss_cons (ps_asg (pv 4) (tgK 3 (K := K) rfl rfl (pgs_cons (pg_name (i := 5) sc_shows_blame.nd rfl (by first | exact Or.inl rfl | exact Or.inr rfl)) (pgs_cons (pg_name (i := 6) sc_shows_blame.nd rfl (by first | exact Or.inl rfl | exact Or.inr rfl)) (pgs_cons (pg_name (i := 7) sc_shows_blame.nd rfl (by first | exact Or.inl rfl | exact Or.inr rfl)) pgs_nil)))))
    (pss_cons (ps_set (i := 8) sc_shows_blame.nd rfl (by first | exact Or.inl rfl | exact Or.inr rfl) (pe_callB (lenK (K := K) rfl) (by rfl) T.nb_len (by decide +kernel) (pa_cons (pe_callF F_states (hr.mono (by decide)) (by rfl) (pa_cons (pv 3) pa_nil)) pa_nil)))
    (pss_cons (ps_if (PW.pt (pw_or (pt_not (pt_val (pe_callF F_is_integer (hr.mono (by decide)) (by rfl) (pa_cons (pv 6) (pa_cons pe_int (pa_cons (pv 8) pa_nil)))))) (pw_or (pt_not (pt_val (pe_callF F_is_integer (hr.mono (by decide)) (by rfl) (pa_cons (pv 7) (pa_cons pe_int (pa_cons (pv 8) pa_nil)))))) (pw_or1 (pt_cmpR (notInK (K := K) rfl hu65) (pe_tup (pa_cons (pv 6) (pa_cons (pv 7) pa_nil))) (pe_callF F_inversions (hr.mono (by decide)) (by rfl) (pa_cons (pv 2) (pa_cons (pv 3) pa_nil))) (by rfl)))))) (pss_one (ps_ret pe_bl)) pss_nil)
    (pss_one (ps_ret (pe_and (pe_not (pe_callF F_holds (hr.mono (by decide)) (by rfl) (pa_cons (pv 0) (pa_cons (pv 1) (pa_cons (pv 5) pa_nil))))) (pe_one (pe_callF F_fits_run (hr.mono (by decide)) (by rfl) (pa_cons (pv 2) (pa_cons (pv 3) (pa_cons (pv 5) (pa_cons (pv 6) (pa_cons (pv 7) pa_nil)))))))))))))), ?_⟩
  try dsimp only [cxOf]
  refine ex_snd ?_
  intro ds S Qd h
  obtain ⟨w, m, p, r, x, rfl, h1, h2, h3, h⟩ := h
  walk_at "dsem"
  rw [if_neg (by simp)]
  have hn := fin_len h1
  have hE := oke_of h1
  have hln := sts_len r
  refine ⟨w, x.1, rfl, h1.okw, exch_cor h1 h2, ?_⟩
  walk_at "dsem"
  refine ⟨r, rfl, hE, ?_⟩
  walk_at "dsem"
  have hx : x.2 ∈ invs p r := (exch_pairs h1).mem_iff.mp (List.mem_map.mpr ⟨x, h2, rfl⟩)
  obtain ⟨i1, i2, i3⟩ := (mem_invs x.2).mp hx
  have hsp : sp1 r ≤ nst r.2 := rds_le r (sp1_mem (rds_ne h1))
  have j1 := (mem_lates h1 _).mp i1
  have j2 := (mem_earls h1 _).mp i2
  rw [List.length_map]
  refine ⟨_, _, _, rfl, ?_⟩
  rw [decide_eq_true (by omega), decide_eq_true (by omega)]
  walk_at "dsem"
  refine ⟨_, _, _, rfl, ?_⟩
  rw [decide_eq_true (by omega), decide_eq_true (by omega)]
  walk_at "dsem"
  refine ⟨w, p, r, rfl, h1, ?_⟩
  have z := in_of eqe_P (by decide) true x.2 (invs p r) (q := fun d => asB d fun b => if b = true then Qd (D.bl false) S
                                    else
                                      sp_holds
                                        [D.tup [D.tup (List.map eVr w.vs), eSt w.st, eFn w.fn], D.str (eMd m),
                                          D.tup
                                            [D.tup (List.map eN x.fst.fst),
                                              D.tup [D.int ↑x.fst.snd.fst.fst, D.int ↑x.fst.snd.fst.snd],
                                              D.tup [D.int ↑x.fst.snd.snd.fst, D.int ↑x.fst.snd.snd.snd]]]
                                        S fun x_2 S1 =>
                                        asB x_2 fun c =>
                                          if (!c) = true then
                                            sp_fits_run
                                              [D.tup (List.map eNs p),
                                                D.tup [D.tup (List.map eN r.fst), D.tup (List.map eEv r.snd)],
                                                D.tup
                                                  [D.tup (List.map eN x.fst.fst),
                                                    D.tup [D.int ↑x.fst.snd.fst.fst, D.int ↑x.fst.snd.fst.snd],
                                                    D.tup [D.int ↑x.fst.snd.snd.fst, D.int ↑x.fst.snd.snd.snd]],
                                                D.int ↑x.snd.fst, D.int ↑x.snd.snd]
                                              S1 fun d S1 => Qd d S1
                                          else Qd (D.bl false) S1) ?_
  · exact z
  · simp only [hx, decide_true]
    walk_at "dsem"
    refine ⟨w, m, x.1, rfl, h1.okw, exch_cor h1 h2, ?_⟩
    rw [h3]
    walk_at "dsem"
    exact ⟨w, p, r, x, rfl, h1, h2, h⟩
end
end RS
end
section
set_option maxRecDepth 100000
set_option synthInstance.maxHeartbeats 2000000
set_option synthInstance.maxSize 4000
set_option maxHeartbeats 2000000
namespace RS
open PySem PySem.Spec PyProof.Rows L2 DL
local macro_rules | `(tactic| walk_at "dsem") => `(tactic| simp only [dstart, dRet, dOp, dSl, dTup, dLst, dCons, dNil, dNoPart, dC, dCB, dUn, dCall, dAnd, dOr, dNot, dIf, dIsN, dNext, dSeq, dIfS, dDrop, dAsg, dgName, dFor, dYes, dLc, dLc2, dwipe, dPar, dPar3, dParT, dgTupN, setN, dLstM, dDNewM, dDisp1,
  asB_b, asI_i, asT_t, asL_l, asS_l, asS_t, zx_tt, zx_tl, ex_l, ex_t, e_test, e_andV, e_orV, e_notV, e_chain, e_gtup, e_gcons, e_gnil, e_zx, e_ex, e_seq, e_rg1, e_aug, e_get, e_part, e_inM, e_put, e_app, e_ext, e_ixM, e_lenM, e_frz, e_var, muAt_s, mdAt_s, frzAt_l, frzAt_d, vAt_s, atI_s,
  at0, at1, at2, f_repT, e_star, starX_t, f_add, f_addT, f_addL, f_mul, f_mulL, f_sub, f_mod, f_div, f_pow, f_lt, f_le, f_gt, f_ge, f_neg, f_isB, f_notB, f_eqI, f_eqS, f_eqB, f_eqT, f_eqL, f_neI, f_neS, f_neB, f_neT, f_neL, f_ixL, f_ixT, f_slL, f_slT, f_lenT, f_lenL, f_tupT, f_tupL, f_lstT, f_lstL, f_all, f_sum, f_bestL, f_bestT, f_min2, f_intB, f_sort, f_sortD, isi_ii, isi_ib, isi_tt, isi_ss, f_inT, f_inL, f_inIT, f_inIL,
  mut_int, mut_tup, mut_lst, mut_str, mut_bl, mut_non, mut_pot, mut_dct, mut_scr, isn_non, isn_int, isn_tup, isn_str,
  eN, eP, eNs, eIs, eVr, eW, eR, ePl, eCor, eXc, eEv_r, eEv_s, eFn_t, eFn_s, eFn_x, eFn_n, eSt_n, eSt_s, ev_ne, ev_eq, mut_ev, isi_ev, e_ir3, e_ir1, ir3_i, ir1_i,
  List.map_cons, List.map_nil, List.length_cons, List.length_nil, List.replicate, List.append_nil, List.nil_append, List.cons_append, List.set_cons_zero, List.set_cons_succ, List.getElem?_cons_zero, List.getElem?_cons_succ, List.getElem?_nil, List.zip_cons_cons, List.zip_nil_left, List.foldl_cons, List.foldl_nil, Nat.reduceAdd, Nat.reduceSub, Nat.reduceLeDiff, true_and, and_true, decide_true, if_true, if_false, Bool.false_eq_true, Bool.not_true, Bool.not_false])
/-! ### the law's own readings of a run -/
inductive Wo where
  | be | la | ea | af
  deriving DecidableEq
def eWo : Wo → Str
  | .be => "before"
  | .la => "late"
  | .ea => "early"
  | .af => "after"
def wo (p : Pl) (x : Nat × Nat × Nat) : Wo := if x.2.2 = 0 then .be else if x.2.2 = p.length then .af else if blk p x.1 < x.2.2 then .la else .ea
abbrev Mk := Nat × Nat × Wo
def marks (p : Pl) (r : Rn) : List Mk := (stps r).map fun x => (x.1, x.2.1, wo p x)
def eMk (x : Mk) : D := .tup [eN x.1, eN x.2.1, .str (eWo x.2.2)]
def sp__law_index : DSp := sp_state_number
theorem len__law_index : ∀ ds S Qd, sp__law_index ds S Qd → ds.length = 2 := len_state_number
def sp__law_told : DSp := sp_result
theorem len__law_told : ∀ ds S Qd, sp__law_told ds S Qd → ds.length = 2 := len_result
def sp__law_put : DSp := sp_changed
theorem len__law_put : ∀ ds S Qd, sp__law_put ds S Qd → ds.length = 3 := len_changed
def sp__law_walked : DSp := fun ds S Q => ∃ r, ds = [eR r] ∧ OkE r ∧ Q (.tup [.lst ((sts r).map eNs), .lst ((rds r).map eN)]) S
theorem len__law_walked : ∀ ds S Qd, sp__law_walked ds S Qd → ds.length = 1 := fun ds S Q ⟨_, h, _⟩ => by rw [h] <;> rfl
def sp__law_seen : DSp := sp_read_values
theorem len__law_seen : ∀ ds S Qd, sp__law_seen ds S Qd → ds.length = 2 := len_read_values
def sp__law_within : DSp := fun ds S Q => ∃ w p r, ds = [eW w, eR r] ∧ OkR w p r ∧ Q (.lst ((spRes w r).map D.int)) S
theorem len__law_within : ∀ ds S Qd, sp__law_within ds S Qd → ds.length = 2 := fun ds S Q ⟨_, _, _, h, _⟩ => by rw [h] <;> rfl
def sp__law_let : DSp := fun ds S Q => ∃ m x ys, ds = [.str (eMd m), .int x, .lst (ys.map D.int)] ∧ ys ≠ [] ∧ Q (.bl (acc m x ys)) S
theorem len__law_let : ∀ ds S Qd, sp__law_let ds S Qd → ds.length = 3 := fun ds S Q ⟨_, _, _, h, _⟩ => by rw [h] <;> rfl
def sp__law_is_let : DSp := fun ds S Q => ∃ w m p r, ds = [eW w, .str (eMd m), ePl p, eR r] ∧ OkR w p r ∧ Q (.bl (isAcc w m p r)) S
theorem len__law_is_let : ∀ ds S Qd, sp__law_is_let ds S Qd → ds.length = 4 := fun ds S Q ⟨_, _, _, _, h, _⟩ => by rw [h] <;> rfl
def sp__law_is_int : DSp := sp_is_number
theorem len__law_is_int : ∀ ds S Qd, sp__law_is_int ds S Qd → ds.length = 1 := len_is_number
def sp__law_marked : DSp := fun ds S Q => ∃ w p r, ds = [ePl p, eR r] ∧ OkR w p r ∧ Q (.lst ((marks p r).map eMk)) S
theorem len__law_marked : ∀ ds S Qd, sp__law_marked ds S Qd → ds.length = 2 := fun ds S Q ⟨_, _, _, h, _⟩ => by rw [h] <;> rfl
def sp__law_inverted : DSp := fun ds S Q => ∃ w p r, ds = [ePl p, eR r] ∧ OkR w p r ∧ Q (.lst ((invs p r).map eP)) S
theorem len__law_inverted : ∀ ds S Qd, sp__law_inverted ds S Qd → ds.length = 2 := fun ds S Q ⟨_, _, _, h, _⟩ => by rw [h] <;> rfl
def sp__law_skewed : DSp := fun ds S Q => ∃ w m c, ds = [eW w, .str (eMd m), eCor c] ∧ OkW w ∧ OkCor w c ∧ Q (.bl (!hld w m c)) S
theorem len__law_skewed : ∀ ds S Qd, sp__law_skewed ds S Qd → ds.length = 3 := fun ds S Q ⟨_, _, _, h, _⟩ => by rw [h] <;> rfl
def sp__law_corners : DSp := fun ds S Q => ∃ w p r, ds = [ePl p, eR r] ∧ OkR w p r ∧ Q (.lst ((exch p r).map eXc)) S
theorem len__law_corners : ∀ ds S Qd, sp__law_corners ds S Qd → ds.length = 2 := fun ds S Q ⟨_, _, _, h, _⟩ => by rw [h] <;> rfl
theorem stR_rle : ∀ (j : Nat) (l : List Ev) (k0 : Nat), ∀ x ∈ stR j l, x.2.2 ≤ j + (readA k0 l).length
  | _, [], _, x, h => by simp [stR] at h
  | j, .rd :: r, k0, x, h => by
    have := stR_rle (j + 1) r k0 x h
    simp only [readA, List.length_cons]
    omega
  | j, .st i v :: r, k0, x, h => by
    rw [stR] at h
    rcases List.mem_cons.mp h with e | e
    · rw [e]; exact Nat.le_add_right _ _
    · exact stR_rle j r (k0 + 1) x e
theorem rk_le {w : Wd} {p : Pl} {r : Rn} (h : OkR w p r) {x : Nat × Nat × Nat} (hx : x ∈ stps r) : x.2.2 ≤ p.length := by
  have := stR_rle 0 r.2 0 x hx
  rw [Nat.zero_add] at this
  rw [← h.nrd]
  exact this
theorem zipIdx_map {α β : Type} (f : α → β) : ∀ (l : List α) (k : Nat), (l.map f).zipIdx k = (l.zipIdx k).map fun x => (f x.1, x.2)
  | [], _ => rfl
  | a :: l, k => by rw [List.map_cons, List.zipIdx_cons, List.zipIdx_cons, List.map_cons, zipIdx_map f l (k + 1)]
theorem mem_zipIdx1 {α : Type} {l : List α} {x : α × Nat} (h : x ∈ l.zipIdx) : x.1 ∈ l := by
  obtain ⟨i, hi, e⟩ := List.mem_iff_getElem.mp h
  rw [List.length_zipIdx] at hi
  rw [List.getElem_zipIdx] at e
  rw [← e]
  exact List.getElem_mem hi
theorem wo_la {p : Pl} {x : Nat × Nat × Nat} (h : x.2.2 ≤ p.length) (k : Nat) : decide (wo p x = .la) = innB p true (x, k) := by
  unfold wo innB
  by_cases c1 : x.2.2 = 0
  · rw [if_pos c1, c1] <;> rfl
  · rw [if_neg c1]
    by_cases c2 : x.2.2 = p.length
    · rw [if_pos c2, c2] <;> simp
    · rw [if_neg c2]
      by_cases c3 : blk p x.1 < x.2.2
      · rw [if_pos c3]
        have a : 0 < x.2.2 := by omega
        have b : x.2.2 < p.length := by omega
        simp [a, b, c3]
      · rw [if_neg c3]
        simp [c3]
theorem wo_ea {p : Pl} {x : Nat × Nat × Nat} (h : x.2.2 ≤ p.length) (k : Nat) : decide (wo p x = .ea) = innB p false (x, k) := by
  unfold wo innB
  by_cases c1 : x.2.2 = 0
  · rw [if_pos c1, c1] <;> rfl
  · rw [if_neg c1]
    by_cases c2 : x.2.2 = p.length
    · rw [if_pos c2, c2] <;> simp
    · rw [if_neg c2]
      have a : 0 < x.2.2 := by omega
      have b : x.2.2 < p.length := by omega
      by_cases c3 : blk p x.1 < x.2.2
      · rw [if_pos c3]
        simp [c3]
      · rw [if_neg c3]
        have c4 : ¬ blk p x.1 < x.2.2 := c3
        have d : decide (blk p x.1 < x.2.2) = false := decide_eq_false c4
        rw [d]
        simp [a, b]
/-- the marked steps with their numbers -/
abbrev mz (p : Pl) (r : Rn) : List (Mk × Nat) := (marks p r).zipIdx
theorem mz_eq (p : Pl) (r : Rn) : mz p r = (stps r).zipIdx.map fun x => ((x.1.1, x.1.2.1, wo p x.1), x.2) := by
  unfold mz marks
  rw [zipIdx_map]
section
variable {w : Wd} {p : Pl} {r : Rn}
theorem mz_la (h : OkR w p r) : ((mz p r).filter fun x => decide (x.1.2.2 = .la)).map (·.2) = lates p r := by
  rw [mz_eq, List.filter_map, List.map_map]
  show _ = inner p r true
  unfold inner
  rw [List.filter_congr (q := innB p true) fun x hx => ?_]
  · rfl
  · exact wo_la (rk_le h (mem_zipIdx1 hx)) x.2
theorem mz_ea (h : OkR w p r) : ((mz p r).filter fun x => decide (x.1.2.2 = .ea)).map (·.2) = earls p r := by
  rw [mz_eq, List.filter_map, List.map_map]
  show _ = inner p r false
  unfold inner
  rw [List.filter_congr (q := innB p false) fun x hx => ?_]
  · rfl
  · exact wo_ea (rk_le h (mem_zipIdx1 hx)) x.2
theorem marks_len : (marks p r).length = nst r.2 := by
  unfold marks
  rw [List.length_map, stps_len]
theorem at_marks {k : Nat} (hk : k < nst r.2) {q : D → Prop} (hw : q (.tup [.int (stp r k).1, .int (stp r k).2, .str (eWo (wo p ((stps r).getD k (0, 0, 0))))])) : atD ((marks p r).map eMk) (k : Int) q := by
  have hl : k < (stps r).length := by rw [stps_len]; exact hk
  refine atD_nat ?_ hw
  unfold marks stp
  rw [List.map_map, List.getElem?_map, List.getElem?_eq_getElem hl]
  have e : (stps r).getD k (0, 0, 0) = (stps r)[k] := by simp [hl]
  rw [e] <;> rfl
theorem wo_late (x : Wo) : decide (eWo x = ("late" : Str)) = decide (x = .la) := by cases x <;> decide
theorem wo_early (x : Wo) : decide (eWo x = ("early" : Str)) = decide (x = .ea) := by cases x <;> decide
theorem flatMap_if {α β : Type} (P : α → Bool) (f : α → List β) : ∀ l : List α, (l.filter P).flatMap f = l.flatMap fun x => if P x = true then f x else []
  | [] => rfl
  | a :: l => by
    rw [List.flatMap_cons]
    by_cases c : P a = true
    · rw [List.filter_cons_of_pos c, if_pos c, List.flatMap_cons, flatMap_if P f l]
    · rw [List.filter_cons_of_neg c, if_neg c, flatMap_if P f l] <;> rfl
theorem invs_mz (h : OkR w p r) : invs p r = (mz p r).flatMap fun x => if decide (x.1.2.2 = .la) = true then ((mz p r).filter fun y => decide (x.2 < y.2) && decide (y.1.2.2 = .ea)).map fun y => (x.2, y.2) else [] := by
  unfold invs
  rw [← mz_la h, ← mz_ea h, List.flatMap_map, flatMap_if]
  congr 1
  funext x
  split
  · rw [List.filter_map, List.map_map, List.filter_filter]
    rfl
  · rfl
theorem flat_mem (h : OkPl w.vs.length p) {q : Nat × Nat} (hq : q ∈ flatP 0 p) : q = (q.1, blk p q.1) ∧ q.1 < w.vs.length := by
  have hv : q.1 < w.vs.length := (h.mem _).mp (by rw [← flatP_fst 0 p]; exact List.mem_map.mpr ⟨q, hq, rfl⟩)
  have hm := List.mem_of_find?_eq_some (blk_find h hv)
  have hnd : ((flatP 0 p).map (·.1)).Nodup := by rw [flatP_fst]; exact h.nd
  have inj : ∀ (l : List (Nat × Nat)), (l.map (·.1)).Nodup → ∀ x ∈ l, ∀ y ∈ l, x.1 = y.1 → x = y := by
    intro l
    induction l with
    | nil => intro _ x hx; simp at hx
    | cons a l ih =>
      intro nd x hx y hy e
      rw [List.map_cons, List.nodup_cons] at nd
      rcases List.mem_cons.mp hx with rfl | hx1
      · rcases List.mem_cons.mp hy with rfl | hy1
        · rfl
        · exact absurd (List.mem_map.mpr ⟨y, hy1, e.symm⟩) nd.1
      · rcases List.mem_cons.mp hy with rfl | hy1
        · exact absurd (show y.1 ∈ l.map (·.1) from List.mem_map.mpr ⟨x, hx1, e⟩) nd.1
        · exact ih nd.2 x hx1 y hy1 e
  exact ⟨inj _ hnd _ hq _ hm rfl, hv⟩
theorem flat_perm (h : OkPl w.vs.length p) : (flatP 0 p).Perm ((List.range w.vs.length).map fun v => (v, blk p v)) := by
  have hnd : ((flatP 0 p).map (·.1)).Nodup := by rw [flatP_fst]; exact h.nd
  refine (List.perm_ext_iff_of_nodup ?_ ?_).mpr fun q => ?_
  · exact (List.pairwise_map.mp hnd).imp fun hne e => hne (congrArg Prod.fst e)
  · exact List.Pairwise.map (R := fun a b : Nat => a < b) _ (fun a b hlt e => by
      have : a = b := congrArg Prod.fst e
      omega) List.pairwise_lt_range
  · rw [List.mem_map]
    constructor
    · intro hq
      have := flat_mem h hq
      exact ⟨q.1, List.mem_range.mpr this.2, this.1.symm⟩
    · rintro ⟨v, hv, rfl⟩
      exact List.mem_of_find?_eq_some (blk_find h (List.mem_range.mp hv))
end
theorem sorted_pairs {ps qs : List (Int × Int)} (hp : qs.Perm ps) (h1 : qs.Pairwise lexLe) (h2 : ps.Pairwise lexLe) : qs = ps :=
  List.Perm.eq_of_pairwise (le := lexLe) (fun a b _ _ x y => by
    unfold lexLe at x y
    obtain ⟨a1, a2⟩ := a
    obtain ⟨b1, b2⟩ := b
    simp only at x y
    have e1 : a1 = b1 := by omega
    have e2 : a2 = b2 := by omega
    rw [e1, e2]) h1 h2 hp
section
variable {P : Program} {w : World} {K : PySem.W.Frag} {mg : Str → Option Value} {base : Heap} {TT : Tb}
abbrev s__law_index : Stmt := topS 70
abbrev N__law_index : List Str := ["_law_web", "_law_here", "_law_number_here", "_law_size", "_law_pairs", "_law_one"]
abbrev P__law_index : List Str := ["_law_web", "_law_here"]
theorem sc__law_index : FnScope N__law_index P__law_index (defScope s__law_index) := ⟨rfl, rfl, rfl, by decide +kernel, rfl, by decide +kernel, by decide +kernel⟩
theorem ok__law_index {f : Addr} {fd : FuncData} (F : Fun K "_law_index" "_law_index" s__law_index f fd) (T : Tx K mg) : FnOk P w K mg base CX0 1 f fd P__law_index (spOf K TT sp__law_index) := by
  refine fun_okD (k := 0) F sc__law_index len__law_index fun cdv A outer s H E hr => ?_
  have hu := hr.units
  have hu1 := hu_of hr
  have hu65 := hu65_of hr
  refine ⟨_, (pss_cons (ps_set (i := 2) sc__law_index.nd rfl (by first | exact Or.inl rfl | exact Or.inr rfl) pe_int)
    (pss_cons (ps_for PassesOwn.never rfl (zipK (K := K) rfl (by rfl) T.nb_zip (pa_cons (pe_ix (ixK (K := K) rfl) (pv 0) pe_int (fun _ _ => rfl)) (pa_cons (pv 1) pa_nil))) (tgK 2 (K := K) rfl rfl (pgs_cons (tgK 2 (K := K) rfl rfl (pgs_cons (pg_name (i := 3) sc__law_index.nd rfl (by first | exact Or.inl rfl | exact Or.inr rfl)) (pgs_cons (pg_name (i := 4) sc__law_index.nd rfl (by first | exact Or.inl rfl | exact Or.inr rfl)) pgs_nil))) (pgs_cons (pg_name (i := 5) sc__law_index.nd rfl (by first | exact Or.inl rfl | exact Or.inr rfl)) pgs_nil)))
      (pss_one (ps_set (i := 2) sc__law_index.nd rfl (by first | exact Or.inl rfl | exact Or.inr rfl) (pe_op (addK (K := K) rfl) (pe_op op_mulX (pv 2) (pv 3)) (pv 5)))))
    (pss_one (ps_ret (pv 2))))), ?_⟩
  try dsimp only [cxOf]
  refine ex_snd ?_
  intro ds S Qd h
  obtain ⟨w, s, rfl, h1, h2, h⟩ := h
  walk_at "dsem"
  rw [zipD_map]
  intro _
  have hsw : ∀ (vs : List Vr) (s : List Nat) (f : Nat), (vs.zip s).foldl (fun f p => f * p.1.1 + p.2) f = (s.zip vs).foldl (fun f p => f * p.2.1 + p.1) f := by
    intro vs
    induction vs with
    | nil => intro s f; simp
    | cons v vs ih =>
      intro s f
      cases s with
      | nil => simp
      | cons x s => simpa using ih s _
  refine forD_ind (fun p : Vr × Nat => D.tup [eVr p.1, eN p.2]) (fun l ρ S' => S' = S ∧ ∃ (f : Nat) (a b c x y : Option D), ρ = [a, b, some (eN f), c, x, y] ∧ l.foldl (fun f p => f * p.1.1 + p.2) f = stNum w.vs s ∧ ∀ p ∈ l, p.1 ∈ w.vs)
    ?_ ?_ _ _ _ ⟨rfl, 0, _, _, _, _, _, rfl, hsw _ _ _, fun p hp => ?_⟩
  · rintro p as ρ S' nx ⟨rfl, f, a, b, c, x, y, rfl, e, hm⟩ hnx
    walk_at "dsem"
    refine ⟨?_, ?_⟩
    · have := (h1.sz p.1 (hm p List.mem_cons_self)).2
      exact .inr ⟨by omega, by omega⟩
    · exact hnx _ _ ⟨rfl, f * p.1.1 + p.2, _, _, _, _, _, rfl, e, fun q hq => hm q (List.mem_cons_of_mem _ hq)⟩
  · rintro ρ S' ⟨rfl, f, a, b, c, x, y, rfl, e, hm⟩
    walk_at "dsem"
    rw [List.foldl_nil] at e
    rw [e]
    exact h
  · exact (List.of_mem_zip hp).1
theorem ents_rows {w : Wd} {s : List Nat} (h1 : OkW w) (h2 : OkS w.vs s) (r : List (List Int)) (hr : r.length = w.vs.length ∧ ∀ i, i < w.vs.length → (r.getD i []).length = (vr w.vs i).1) : ∀ p ∈ r.zip s, p.1[p.2]? = some (p.1.getD p.2 0) := fun p hp => by
  obtain ⟨i, e1, e2⟩ := zip_mem hp
  have hi := (List.getElem?_eq_some_iff.mp e1).1
  have a := hr.2 i (by omega)
  have b := h2.2 i (by omega)
  rw [List.getD_eq_getElem?_getD, e1] at a
  rw [nth_get (by rw [h2.1]; omega)] at e2
  rw [Option.some.inj e2] at b
  rw [Option.getD_some] at a
  have hp2 : p.2 < p.1.length := by omega
  rw [List.getElem?_eq_getElem hp2]
  simp [hp2]
theorem ents_run {w : Wd} {s : List Nat} (h1 : OkW w) (h2 : OkS w.vs s) {S : Nat} (r : List (List Int)) (Q : D → Nat → Prop) (ρ : DEnv) (hr : r.length = w.vs.length ∧ ∀ i, i < w.vs.length → (r.getD i []).length = (vr w.vs i).1) (hρ : ρ.length = 7) (hQ : Q (.lst ((ents r s).map D.int)) S) :
    lcD (dgTup 2 (dgCons (dgName 5) (dgCons (dgName 6) dgNil))) dYes (dOp fIxX (dVar 5) (dVar 6)) ρ Q (zipD (r.map eIs) (s.map eN)) [] S := by
  rw [zipD_map]
  refine lcD_all _ (fun p : List Int × Nat => D.int (p.1.getD p.2 0)) _ (fun p hp k1 k2 hk => ?_) (by unfold ents at hQ; rw [List.map_map] at hQ; exact hQ)
  obtain ⟨a0, a1, a2, a3, a4, a5, a6, rfl⟩ : ∃ a0 a1 a2 a3 a4 a5 a6, ρ = [a0, a1, a2, a3, a4, a5, a6] := by
    match ρ, hρ with
    | [a0, a1, a2, a3, a4, a5, a6], _ => exact ⟨_, _, _, _, _, _, _, rfl⟩
  walk_at "dsem"
  refine atD_nat ?_ hk
  rw [List.getElem?_map, ents_rows h1 h2 r hr p hp] <;> rfl
abbrev s__law_told : Stmt := topS 71
abbrev N__law_told : List Str := ["_law_web", "_law_here", "_law_word", "_law_rows", "_law_parts", "_law_row", "_law_one"]
abbrev P__law_told : List Str := ["_law_web", "_law_here"]
theorem sc__law_told : FnScope N__law_told P__law_told (defScope s__law_told) := ⟨rfl, rfl, rfl, by decide +kernel, rfl, by decide +kernel, by decide +kernel⟩
theorem ok__law_told {f : Addr} {fd : FuncData} (F : Fun K "_law_told" "_law_told" s__law_told f fd) (T : Tx K mg) (F__law_index : Fk P w K mg base "_law_index" 1 P__law_index (spOf K TT sp__law_index)) : FnOk P w K mg base CX0 2 f fd P__law_told (spOf K TT sp__law_told) := by
  refine fun_okD (k := 1) F sc__law_told len__law_told fun cdv A outer s H E hr => ?_
  have hu := hr.units
  have hu1 := hu_of hr
  have hu65 := hu65_of hr
  refine ⟨_, (pss_cons (ps_asg (pe_ix (ixK (K := K) rfl) (pv 0) pe_int (fun _ _ => rfl)) (tgK 2 (K := K) rfl rfl (pgs_cons (pg_name (i := 2) sc__law_told.nd rfl (by first | exact Or.inl rfl | exact Or.inr rfl)) (pgs_cons (pg_name (i := 3) sc__law_told.nd rfl (by first | exact Or.inl rfl | exact Or.inr rfl)) pgs_nil))))
    (pss_cons (ps_if (pt_cmpR (eqK (K := K) rfl hu) (pv 2) pe_str (nomark _)) (pss_one (ps_ret (pe_ix (ixK (K := K) rfl) (pv 3) (pe_callF F__law_index (hr.mono (by decide)) (by rfl) (pa_cons (pv 0) (pa_cons (pv 1) pa_nil))) (fun _ _ => rfl)))) pss_nil)
    (pss_cons (ps_setLcV (vs := [5, 6]) (i := 4) [("_law_row", 5), ("_law_one", 6)] rfl sc__law_told.nd rfl rfl (sw_true rfl rfl rfl (by decide +kernel)) (zipK (K := K) rfl (by rfl) T.nb_zip (pa_cons (pv 3) (pa_cons (pv 1) pa_nil))) (show blkC N__law_told (defScope s__law_told) _ [("_law_row", 5), ("_law_one", 6)] = true by decide +kernel) rfl (fun _ _ _ _ _ => (tgK 2 (K := K) rfl rfl (pgs_cons (pg_name (i := 5) sc__law_told.nd rfl (by first | exact Or.inl rfl | exact Or.inr rfl)) (pgs_cons (pg_name (i := 6) sc__law_told.nd rfl (by first | exact Or.inl rfl | exact Or.inr rfl)) pgs_nil)))) (fun _ _ _ _ _ => pts_nil) (fun _ _ _ _ _ => (pe_ix (ixK (K := K) rfl) (pv 5) (pv 6) (fun _ _ => rfl))))
    (pss_one (ps_ret (pe_ifExp (pt_cmpR (eqK (K := K) rfl hu) (pv 2) pe_str (nomark _)) (pe_callB (sumK (K := K) rfl rfl) (by rfl) T.nb_sum (by decide +kernel) (pa_cons (pv 4) pa_nil)) (pe_ifExp (pt_cmpR (eqK (K := K) rfl hu) (pv 2) pe_str (nomark _)) (pe_callB (maxK (K := K) rfl rfl hu) (by rfl) T.nb_max (by decide +kernel) (pa_cons (pv 4) pa_nil)) (pe_callB (minK (K := K) rfl rfl hu) (by rfl) T.nb_min (by decide +kernel) (pa_cons (pv 4) pa_nil))))))))), ?_⟩
  try dsimp only [cxOf]
  refine ex_snd ?_
  intro ds S Qd h
  obtain ⟨w, s, rfl, h1, h2, h⟩ := h
  walk_at "dsem"
  have few : ∀ r : List (List Int), r.length = w.vs.length → (zipD (r.map eIs) (s.map eN)).length < sizeLine := fun r hr => by
    rw [zipD_len, List.length_map, List.length_map]
    have := h1.few
    exact lt_line (by omega)
  have hf := h1.fn
  have nonil : ∀ r : List (List Int), r.length = w.vs.length → ents r s ≠ [] := fun r hr e => by
    have z := congrArg List.length e
    unfold ents at z
    rw [List.length_map, List.length_zip, List.length_nil] at z
    have := h1.ne
    have := h2.1
    omega
  cases hw : w.fn with
  | tab t =>
    rw [hw] at hf
    simp only [res, hw] at h
    walk_at "dsem"
    refine ⟨w, s, by rw [eW, hw] <;> rfl, h1, h2, ?_⟩
    walk_at "dsem"
    have hlt : stNum w.vs s < t.length := by rw [hf.1]; exact stNum_lt h2
    refine atD_nat (d := .int (t.getD (stNum w.vs s) 0)) ?_ h
    rw [List.getElem?_map, List.getElem?_eq_getElem hlt]
    simp [hlt]
  | sm r =>
    rw [hw] at hf
    simp only [res, hw] at h
    walk_at "dsem"
    rw [if_neg (by decide)]
    refine ⟨few r hf.1, ents_run h1 h2 r _ _ hf rfl ?_⟩
    walk_at "dsem"
    exact ⟨_, rfl, h⟩
  | mx r =>
    rw [hw] at hf
    simp only [res, hw] at h
    walk_at "dsem"
    rw [if_neg (by decide)]
    refine ⟨few r hf.1, ents_run h1 h2 r _ _ hf rfl ?_⟩
    walk_at "dsem"
    rw [if_neg (by decide)]
    obtain ⟨n, ns, e, e2⟩ := bestE (f := max) (nonil r hf.1)
    rw [e] at h ⊢
    exact ⟨_, _, rfl, h⟩
  | mn r =>
    rw [hw] at hf
    simp only [res, hw] at h
    walk_at "dsem"
    rw [if_neg (by decide)]
    refine ⟨few r hf.1, ents_run h1 h2 r _ _ hf rfl ?_⟩
    walk_at "dsem"
    rw [if_neg (by decide), if_neg (by decide)]
    obtain ⟨n, ns, e, e2⟩ := bestE (f := min) (nonil r hf.1)
    rw [e] at h ⊢
    exact ⟨_, _, rfl, h⟩
abbrev s__law_put : Stmt := topS 74
abbrev N__law_put : List Str := ["_law_here", "_law_spot", "_law_one"]
abbrev P__law_put : List Str := ["_law_here", "_law_spot", "_law_one"]
theorem sc__law_put : FnScope N__law_put P__law_put (defScope s__law_put) := ⟨rfl, rfl, rfl, by decide +kernel, rfl, by decide +kernel, by decide +kernel⟩
theorem ok__law_put {f : Addr} {fd : FuncData} (F : Fun K "_law_put" "_law_put" s__law_put f fd) (T : Tx K mg) : FnOk P w K mg base CX0 1 f fd P__law_put (spOf K TT sp__law_put) := by
  refine fun_okD (k := 0) F sc__law_put len__law_put fun cdv A outer s H E hr => ?_
  have hu := hr.units
  have hu1 := hu_of hr
  have hu65 := hu65_of hr
  refine ⟨_, (pss_one (ps_ret (pe_op (addK (K := K) rfl) (pe_op (addK (K := K) rfl) (pe_slice (slK (K := K) rfl) (pv 0) po_none (po_some (pv 1))) (pe_tup (pa_cons (pv 2) pa_nil))) (pe_slice (slK (K := K) rfl) (pv 0) (po_some (pe_op (addK (K := K) rfl) (pv 1) pe_int)) po_none)))), ?_⟩
  try dsimp only [cxOf]
  refine ex_snd ?_
  intro ds S Qd h
  obtain ⟨s, i, x, rfl, h1, h2, h⟩ := h
  walk_at "dsem"
  have hl := set_len (x := x) h1
  have hl2 : (DL.cutD (List.map eN s) none (some ↑i)).length + 1 ≤ s.length := by
    rw [List.length_append] at hl
    simp only [List.length_singleton] at hl
    omega
  refine ⟨line_of (by omega), by rw [hl]; exact line_of (by omega), ?_⟩
  rw [set_cut h1]
  exact h
abbrev s__law_walked : Stmt := topS 77
abbrev N__law_walked : List Str := ["_law_tape_here", "_law_passed", "_law_reads", "_law_deed"]
abbrev P__law_walked : List Str := ["_law_tape_here"]
theorem sc__law_walked : FnScope N__law_walked P__law_walked (defScope s__law_walked) := ⟨rfl, rfl, rfl, by decide +kernel, rfl, by decide +kernel, by decide +kernel⟩
theorem ok__law_walked {f : Addr} {fd : FuncData} (F : Fun K "_law_walked" "_law_walked" s__law_walked f fd) (T : Tx K mg) (F__law_put : Fk P w K mg base "_law_put" 1 P__law_put (spOf K TT sp__law_put)) : FnOk P w K mg base CX0 2 f fd P__law_walked (spOf K TT sp__law_walked) := by
  refine fun_okD (k := 1) F sc__law_walked len__law_walked fun cdv A outer s H E hr => ?_
  have hu := hr.units
  have hu1 := hu_of hr
  have hu65 := hu65_of hr
  refine ⟨_, (pss_cons (ps_par (i := 1) (j := 2) rfl sc__law_walked.nd rfl rfl (by decide) rfl rfl (pa_cons (pe_lstM (pa_cons (pe_ix (ixK (K := K) rfl) (pv 0) pe_int (fun _ _ => rfl)) pa_nil)) (pa_cons (pe_lstM pa_nil) pa_nil)) (by rfl))
    (pss_cons (ps_for PassesOwn.never rfl (seqK (K := K) rfl (pe_ix (ixK (K := K) rfl) (pv 0) pe_int (fun _ _ => rfl))) (pg_name (i := 3) sc__law_walked.nd rfl (by first | exact Or.inl rfl | exact Or.inr rfl))
      (pss_one (ps_if (pt_cmpR (eqK (K := K) rfl hu) (pe_ix (ixK (K := K) rfl) (pv 3) pe_int (fun _ _ => rfl)) pe_str (nomark _)) (pss_one (ps_expr (pe_bm PySem.F.plainAttrs_list PySem.F.slot_list_append PySem.F.type_list_append mt_append (pvM 2) (pa_cons (pe_op op_sub (pe_callB (lenK (K := K) rfl) (by rfl) T.nb_len (by decide +kernel) (pa_cons (pvM 1) pa_nil)) pe_int) pa_nil)))) (pss_one (ps_expr (pe_bm PySem.F.plainAttrs_list PySem.F.slot_list_append PySem.F.type_list_append mt_append (pvM 1) (pa_cons (pe_callF F__law_put (hr.mono (by decide)) (by rfl) (pa_cons (pe_ix (ixK (K := K) rfl) (pvM 1) (pe_un un_neg pe_int) (fun _ _ => rfl)) (pa_cons (pe_ix (ixK (K := K) rfl) (pv 3) pe_int (fun _ _ => rfl)) (pa_cons (pe_ix (ixK (K := K) rfl) (pv 3) pe_int (fun _ _ => rfl)) pa_nil)))) pa_nil)))))))
    (pss_frz 1 (pss_frz 2 (pss_one (ps_ret (pe_tup (pa_cons (pv 1) (pa_cons (pv 2) pa_nil))))))))), ?_⟩
  try dsimp only [cxOf]
  refine ex_snd ?_
  intro ds S Qd h
  obtain ⟨r, rfl, h1, h⟩ := h
  walk_at "dsem"
  intro _
  have hln := sts_len r
  have hnl := nst_le r.2
  have hfew := h1.2.1
  have hrl := rds_len r
  refine forD_ind eEv (fun evs ρ S' => S' = S ∧ ∃ (pre : List (List Nat)) (s : List Nat) (acc : List Nat) (x : Option D), ρ = [some (D.tup [D.tup (List.map eN r.fst), D.tup (List.map eEv r.snd)]), some (D.mu (pre.map eNs ++ [eNs s])), some (D.mu (acc.map eN)), x] ∧ pre ++ s :: stsA s evs = sts r ∧ s.length = r.1.length ∧ (∀ e ∈ evs, e ∈ r.2) ∧ acc ++ readA pre.length evs = rds r)
    ?_ ?_ _ _ _ ⟨rfl, [], r.1, [], none, rfl, rfl, rfl, fun e he => he, rfl⟩
  · rintro e evs ρ S' nx ⟨rfl, pre, s, acc, x, rfl, hc, hs, hm, hr⟩ hnx
    have hlen := congrArg List.length hc
    rw [List.length_append, List.length_cons] at hlen
    have hlen2 := congrArg List.length hr
    rw [List.length_append] at hlen2
    cases e with
    | rd =>
      walk_at "dsem"
      rw [readA, List.length_cons] at hlen2
      refine ⟨by rw [List.length_map]; omega, hnx _ _ ⟨rfl, pre, s, acc ++ [pre.length], some (eEv .rd), ?_, hc, hs, fun e he => hm e (List.mem_cons_of_mem _ he), by rw [← hr, List.append_assoc] <;> rfl⟩⟩
      have e1 : (((pre.map eNs ++ [D.tup (s.map eN)]).length : Nat) : Int) - 1 = (pre.length : Nat) := by
        rw [List.length_append, List.length_map, List.length_singleton]
        omega
      have e2 : D.int ((((pre.map eNs ++ [D.tup (s.map eN)]).length : Nat) : Int) - 1) = eN pre.length := congrArg D.int e1
      rw [map_snoc, ← e2] <;> rfl
    | st i v =>
      walk_at "dsem"
      rw [if_neg (by decide)]
      refine atD_last ?_
      refine ⟨s, i, v, rfl, by rw [hs]; exact h1.2.2 i v (hm _ List.mem_cons_self), by rw [hs]; exact h1.1, ?_⟩
      refine ⟨by rw [List.length_append, List.length_map]; simp only [List.length_singleton]; omega, hnx _ _ ⟨rfl, pre ++ [s], s.set i v, acc, some (eEv (.st i v)), ?_, by rw [← hc, List.append_assoc] <;> rfl, by rw [List.length_set]; exact hs, fun e he => hm e (List.mem_cons_of_mem _ he), by rw [← hr, List.length_append] <;> rfl⟩⟩
      rw [map_snoc] <;> rfl
  · rintro ρ S' ⟨rfl, pre, s, acc, x, rfl, hc, hs, hm, hr⟩
    walk_at "dsem"
    have e : (sts r).map eNs = pre.map eNs ++ [D.tup (s.map eN)] := by rw [← hc, stsA, List.map_append] <;> rfl
    rw [readA, List.append_nil] at hr
    rw [e, ← hr] at h
    exact h
abbrev s__law_seen : Stmt := topS 78
abbrev N__law_seen : List Str := ["_law_scheme_here", "_law_tape_here", "_law_passed", "_law_reads", "_law_pairs", "_law_block", "_law_spot", "_law_variable_here", "_law_one"]
abbrev P__law_seen : List Str := ["_law_scheme_here", "_law_tape_here"]
theorem sc__law_seen : FnScope N__law_seen P__law_seen (defScope s__law_seen) := ⟨rfl, rfl, rfl, by decide +kernel, rfl, by decide +kernel, by decide +kernel⟩
theorem ok__law_seen {f : Addr} {fd : FuncData} (F : Fun K "_law_seen" "_law_seen" s__law_seen f fd) (T : Tx K mg) (F__law_walked : Fk P w K mg base "_law_walked" 2 P__law_walked (spOf K TT sp__law_walked)) : FnOk P w K mg base CX0 3 f fd P__law_seen (spOf K TT sp__law_seen) := by
  refine fun_okD (k := 2) F sc__law_seen len__law_seen fun cdv A outer s H E hr => ?_
  have hu := hr.units
  have hu1 := hu_of hr
  have hu65 := hu65_of hr
  refine ⟨_, (pss_cons (ps_asg (pe_callF F__law_walked (hr.mono (by decide)) (by rfl) (pa_cons (pv 1) pa_nil)) (tgK 2 (K := K) rfl rfl (pgs_cons (pg_name (i := 2) sc__law_seen.nd rfl (by first | exact Or.inl rfl | exact Or.inr rfl)) (pgs_cons (pg_name (i := 3) sc__law_seen.nd rfl (by first | exact Or.inl rfl | exact Or.inr rfl)) pgs_nil))))
    (pss_cons (ps_set (i := 4) sc__law_seen.nd rfl (by first | exact Or.inl rfl | exact Or.inr rfl) (pe_lstM pa_nil))
    (pss_cons (ps_for PassesOwn.never rfl (zipK (K := K) rfl (by rfl) T.nb_zip (pa_cons (pv 0) (pa_cons (pv 3) pa_nil))) (tgK 2 (K := K) rfl rfl (pgs_cons (pg_name (i := 5) sc__law_seen.nd rfl (by first | exact Or.inl rfl | exact Or.inr rfl)) (pgs_cons (pg_name (i := 6) sc__law_seen.nd rfl (by first | exact Or.inl rfl | exact Or.inr rfl)) pgs_nil)))
      (pss_one (ps_expr (pe_bm PySem.F.plainAttrs_list PySem.F.slot_list_extend PySem.F.type_list_extend mt_extend (pvM 4) (pa_cons (pe_lcV (vs := [7]) [("_law_variable_here", 7)] rfl sc__law_seen.nd (seqK (K := K) rfl (pv 5)) (show blkC N__law_seen (defScope s__law_seen) _ [("_law_variable_here", 7)] = true by decide +kernel) rfl (fun _ _ _ _ _ => (pg_name (i := 7) sc__law_seen.nd rfl (by first | exact Or.inl rfl | exact Or.inr rfl))) (fun _ _ _ _ _ => pts_nil) (fun _ _ _ _ _ => (pe_tup (pa_cons (pv 7) (pa_cons (pe_ix (ixK (K := K) rfl) (pe_ix (ixK (K := K) rfl) (pv 2) (pv 6) (fun _ _ => rfl)) (pv 7) (fun _ _ => rfl)) pa_nil))))) pa_nil)))))
    (pss_frz 4 (pss_one (ps_ret (pe_callTy (tupK (K := K) rfl) (by rfl) T.nb_tuple (by decide +kernel) (pa_cons (pe_lcV (vs := [7, 8]) [("_law_variable_here", 7), ("_law_one", 8)] rfl sc__law_seen.nd (seqK (K := K) rfl (pe_callB (sortK (K := K) rfl rfl) (by rfl) T.nb_sorted (by decide +kernel) (pa_cons (pv 4) pa_nil))) (show blkC N__law_seen (defScope s__law_seen) _ [("_law_variable_here", 7), ("_law_one", 8)] = true by decide +kernel) rfl (fun _ _ _ _ _ => (tgK 2 (K := K) rfl rfl (pgs_cons (pg_name (i := 7) sc__law_seen.nd rfl (by first | exact Or.inl rfl | exact Or.inr rfl)) (pgs_cons (pg_name (i := 8) sc__law_seen.nd rfl (by first | exact Or.inl rfl | exact Or.inr rfl)) pgs_nil)))) (fun _ _ _ _ _ => pts_nil) (fun _ _ _ _ _ => (pv 8))) pa_nil)))))))), ?_⟩
  try dsimp only [cxOf]
  refine ex_snd ?_
  intro ds S Qd h
  obtain ⟨w, p, r, rfl, h1, h⟩ := h
  walk_at "dsem"
  have hE := oke_of h1
  refine ⟨r, rfl, hE, ?_⟩
  walk_at "dsem"
  intro _
  have hz : zipD (p.map eNs) ((rds r).map eN) = p.zipIdx.map fun x => D.tup [eNs x.1, eN ((rds r).getD x.2 0)] := by
    rw [zipD_map]
    apply List.ext_getElem?
    intro i
    rw [List.getElem?_map, List.getElem?_map, List.getElem?_zipIdx]
    by_cases hi : i < p.length
    · have hi2 : i < (rds r).length := by rw [h1.nrd]; exact hi
      rw [List.getElem?_eq_getElem (by rw [List.length_zip]; omega), List.getElem_zip, List.getElem?_eq_getElem hi]
      simp [hi2]
    · rw [List.getElem?_eq_none (by rw [List.length_zip]; omega), List.getElem?_eq_none (by omega)] <;> rfl
  rw [hz]
  have hflat : (flatP 0 p).length ≤ 40 := by
    have := (flat_perm h1.okp).length_eq
    rw [List.length_map, List.length_range] at this
    have := h1.okw.few
    omega
  have hpz := flatP_zip 0 p
  refine forD_ind _ (fun rem ρ S' => S' = S ∧ ∃ (done : List (List Nat × Nat)) (x y z u : Option D), ρ = [some (D.tup (List.map eNs p)), some (D.tup [D.tup (List.map eN r.fst), D.tup (List.map eEv r.snd)]), some (D.lst (List.map eNs (sts r))), some (D.lst ((rds r).map eN)),
      some (D.mu ((done.flatMap fl).map fun q => D.tup [D.int q.1, D.int (nth (stAt r ((rds r).getD q.2 0)) q.1)])), x, y, z, u] ∧ done ++ rem = p.zipIdx) ?_ ?_ _ _ _ ⟨rfl, [], none, none, none, none, rfl, rfl⟩
  · rintro b rem ρ S' nx ⟨rfl, done, x, y, z, u, rfl, hd⟩ hnx
    have hpre : done.flatMap fl ++ (fl b ++ rem.flatMap fl) = flatP 0 p := by
      rw [hpz, ← hd, List.flatMap_append, List.flatMap_cons]
    have hlen := congrArg List.length hpre
    rw [List.length_append, List.length_append] at hlen
    have hfb : (fl b).length = b.1.length := by unfold fl; rw [List.length_map]
    have hb2 : b.2 < p.length := by
      have hm : b ∈ p.zipIdx := by rw [← hd]; simp
      obtain ⟨i, hi, e⟩ := List.mem_iff_getElem.mp hm
      rw [List.getElem_zipIdx] at e
      rw [List.length_zipIdx] at hi
      rw [← e]
      simpa using hi
    have hmom : (rds r).getD b.2 0 ≤ nst r.2 := rds_le r (getD_mem (by rw [h1.nrd]; exact hb2))
    have hst := stAt_ok h1 hmom
    walk_at "dsem"
    rw [List.length_map]
    refine ⟨lt_line (by omega), ?_⟩
    refine lcD_all eN (fun v => D.tup [D.int v, D.int (nth (stAt r ((rds r).getD b.2 0)) v)]) _ (fun v hv k1 k2 hk => ?_) ?_
    · have hvn : v < w.vs.length := (flat_mem h1.okp (q := (v, b.2)) (by rw [← hpre]; exact List.mem_append_right _ (List.mem_append_left _ (List.mem_map.mpr ⟨v, hv, rfl⟩)))).2
      walk_at "dsem"
      refine at_sts r hmom ?_
      walk_at "dsem"
      refine at_nth (by rw [hst.1]; exact hvn) ?_
      exact hk
    · walk_at "dsem"
      refine ⟨by rw [List.length_map, List.length_map]; omega, hnx _ _ ⟨rfl, done ++ [b], some (D.tup (b.1.map eN)), some (D.int ((rds r).getD b.2 0 : Nat)), z, u, ?_, by rw [← hd]; simp⟩⟩
      rw [List.flatMap_append, List.flatMap_singleton, List.map_append, show fl b = b.1.map fun v => (v, b.2) from rfl, List.map_map] <;> rfl
  · rintro ρ S' ⟨rfl, done, x, y, z, u, rfl, hd⟩
    rw [List.append_nil] at hd
    subst hd
    rw [← hpz]
    walk_at "dsem"
    refine .inr ⟨(flatP 0 p).map fun q => ((q.1 : Int), (nth (stAt r ((rds r).getD q.2 0)) q.1 : Int)), by rw [List.map_map] <;> rfl, fun qs hp hs => ?_⟩
    have hp2 := hp.trans ((flat_perm h1.okp).map fun q => ((q.1 : Int), (nth (stAt r ((rds r).getD q.2 0)) q.1 : Int)))
    rw [List.map_map] at hp2
    have hq := sorted_pairs hp2 hs (List.Pairwise.map (R := fun a b : Nat => a < b) _ (fun a b hlt => .inl (Int.ofNat_lt.mpr hlt)) List.pairwise_lt_range)
    subst hq
    rw [List.map_map, List.length_map, List.length_range]
    refine ⟨lt_line (by have := h1.okw.few; omega), ?_⟩
    refine lcD_all (prD ∘ ((fun q : Nat × Nat => ((q.1 : Int), (nth (stAt r ((rds r).getD q.2 0)) q.1 : Int))) ∘ fun v => (v, blk p v))) (fun v => eN (nth (stAt r ((rds r).getD (blk p v) 0)) v)) _ (fun v hv k1 k2 hk => ?_) ?_
    · show dgTup _ _ (D.tup [_, _]) _ _
      walk_at "dsem"
      exact hk
    · walk_at "dsem"
      unfold rdVals eNs at h
      rw [List.map_map] at h
      exact h
abbrev s__law_within : Stmt := topS 79
abbrev N__law_within : List Str := ["_law_web", "_law_tape_here", "_law_passed", "_law_reads", "_law_here"]
abbrev P__law_within : List Str := ["_law_web", "_law_tape_here"]
theorem sc__law_within : FnScope N__law_within P__law_within (defScope s__law_within) := ⟨rfl, rfl, rfl, by decide +kernel, rfl, by decide +kernel, by decide +kernel⟩
theorem ok__law_within {f : Addr} {fd : FuncData} (F : Fun K "_law_within" "_law_within" s__law_within f fd) (T : Tx K mg) (F__law_told : Fk P w K mg base "_law_told" 2 P__law_told (spOf K TT sp__law_told)) (F__law_walked : Fk P w K mg base "_law_walked" 2 P__law_walked (spOf K TT sp__law_walked)) : FnOk P w K mg base CX0 3 f fd P__law_within (spOf K TT sp__law_within) := by
  refine fun_okD (k := 2) F sc__law_within len__law_within fun cdv A outer s H E hr => ?_
  have hu := hr.units
  have hu1 := hu_of hr
  have hu65 := hu65_of hr
  refine ⟨_, (pss_cons (ps_asg (pe_callF F__law_walked (hr.mono (by decide)) (by rfl) (pa_cons (pv 1) pa_nil)) (tgK 2 (K := K) rfl rfl (pgs_cons (pg_name (i := 2) sc__law_within.nd rfl (by first | exact Or.inl rfl | exact Or.inr rfl)) (pgs_cons (pg_name (i := 3) sc__law_within.nd rfl (by first | exact Or.inl rfl | exact Or.inr rfl)) pgs_nil))))
    (pss_one (ps_ret (pe_lcV (vs := [4]) [("_law_here", 4)] rfl sc__law_within.nd (seqK (K := K) rfl (pe_slice (slK (K := K) rfl) (pv 2) (po_some (pe_ix (ixK (K := K) rfl) (pv 3) pe_int (fun _ _ => rfl))) (po_some (pe_op (addK (K := K) rfl) (pe_ix (ixK (K := K) rfl) (pv 3) (pe_un un_neg pe_int) (fun _ _ => rfl)) pe_int)))) (show blkC N__law_within (defScope s__law_within) _ [("_law_here", 4)] = true by decide +kernel) rfl (fun _ _ _ _ _ => (pg_name (i := 4) sc__law_within.nd rfl (by first | exact Or.inl rfl | exact Or.inr rfl))) (fun _ _ _ _ _ => pts_nil) (fun _ _ _ _ _ => (pe_callF F__law_told (hr.mono (by decide)) (by rfl) (pa_cons (pv 0) (pa_cons (pv 4) pa_nil)))))))), ?_⟩
  try dsimp only [cxOf]
  refine ex_snd ?_
  intro ds S Qd h
  obtain ⟨w, p, r, rfl, h1, h⟩ := h
  walk_at "dsem"
  have hE := oke_of h1
  have hne := rds_ne h1
  refine ⟨r, rfl, hE, ?_⟩
  walk_at "dsem"
  refine at_head hne ?_
  walk_at "dsem"
  refine at_end (d := 0) hne ?_
  walk_at "dsem"
  have e : (((rds r).getLastD 0 : Nat) : Int) + 1 = ((sp1 r + 1 : Nat) : Int) := by unfold sp1; omega
  rw [e, show (rds r).headD 0 = sp0 r from rfl, cutD_mid, ← List.map_drop, ← List.map_take, List.length_map]
  have hl := sts_len r
  have hn := nst_le r.2
  have hf := hE.2.1
  refine ⟨lt_line (by rw [List.length_take, List.length_drop]; omega), ?_⟩
  refine lcD_all eNs (fun s => D.int (res w s)) _ (fun s hs k1 k2 hk => ?_) ?_
  · walk_at "dsem"
    exact ⟨w, s, rfl, h1.okw, sts_ok h1 s (List.mem_of_mem_drop (List.mem_of_mem_take hs)), hk⟩
  · unfold spRes within at h
    rw [List.map_map] at h
    exact h
abbrev s__law_let : Stmt := topS 80
abbrev N__law_let : List Str := ["_law_word", "_law_number_here", "_law_numbers", "_law_low", "_law_high"]
abbrev P__law_let : List Str := ["_law_word", "_law_number_here", "_law_numbers"]
theorem sc__law_let : FnScope N__law_let P__law_let (defScope s__law_let) := ⟨rfl, rfl, rfl, by decide +kernel, rfl, by decide +kernel, by decide +kernel⟩
theorem ok__law_let {f : Addr} {fd : FuncData} (F : Fun K "_law_let" "_law_let" s__law_let f fd) (T : Tx K mg) : FnOk P w K mg base CX0 1 f fd P__law_let (spOf K TT sp__law_let) := by
  refine fun_okD (k := 0) F sc__law_let len__law_let fun cdv A outer s H E hr => ?_
  have hu := hr.units
  have hu1 := hu_of hr
  have hu65 := hu65_of hr
  refine ⟨_, (pss_cons (ps_par (i := 3) (j := 4) rfl sc__law_let.nd rfl rfl (by decide) rfl rfl (pa_cons (pe_cmpR op_le (pe_callB (minK (K := K) rfl rfl hu) (by rfl) T.nb_min (by decide +kernel) (pa_cons (pv 2) pa_nil)) (pv 1) (nomark _)) (pa_cons (pe_cmpR op_ge (pe_callB (maxK (K := K) rfl rfl hu) (by rfl) T.nb_max (by decide +kernel) (pa_cons (pv 2) pa_nil)) (pv 1) (nomark _)) pa_nil)) (by rfl))
    (pss_cons (ps_if (pt_cmpR (eqK (K := K) rfl hu) (pv 0) pe_str (nomark _)) (pss_one (ps_ret (pe_cmpR (inSK (K := K) rfl) (pv 1) (pv 2) (by rfl)))) pss_nil)
    (pss_cons (ps_if (pt_cmpR (eqK (K := K) rfl hu) (pv 0) pe_str (nomark _)) (pss_one (ps_ret (pe_and (pv 3) (pe_one (pv 4))))) pss_nil)
    (pss_one (ps_ret (pe_ifExp (pt_cmpR (eqK (K := K) rfl hu) (pv 0) pe_str (nomark _)) (pv 3) (pv 4))))))), ?_⟩
  try dsimp only [cxOf]
  refine ex_snd ?_
  intro ds S Qd h
  obtain ⟨m, x, ys, rfl, h1, h⟩ := h
  walk_at "dsem"
  obtain ⟨n, ns, rfl⟩ : ∃ n ns, ys = n :: ns := by
    cases ys with
    | nil => exact absurd rfl h1
    | cons n ns => exact ⟨n, ns, rfl⟩
  refine ⟨n, ns, rfl, n, ns, rfl, ?_⟩
  cases m with
  | ex =>
    rw [if_pos (by decide)]
    exact ⟨_, rfl, h⟩
  | bt =>
    rw [if_neg (by decide), if_pos (by decide)]
    have h : Qd (.bl (decide (List.foldl min n ns ≤ x) && decide (x ≤ List.foldl max n ns))) S := h
    by_cases e : List.foldl min n ns ≤ x
    · rw [if_pos (decide_eq_true e)]
      rw [decide_eq_true e, Bool.true_and] at h
      exact h
    · rw [if_neg (by simpa using e)]
      rw [decide_eq_false e, Bool.false_and] at h
      exact h
  | fl =>
    rw [if_neg (by decide), if_neg (by decide), if_pos (by decide)]
    exact h
  | ce =>
    rw [if_neg (by decide), if_neg (by decide), if_neg (by decide)]
    exact h
abbrev s__law_is_let : Stmt := topS 81
abbrev N__law_is_let : List Str := ["_law_web", "_law_word", "_law_scheme_here", "_law_tape_here"]
abbrev P__law_is_let : List Str := ["_law_web", "_law_word", "_law_scheme_here", "_law_tape_here"]
theorem sc__law_is_let : FnScope N__law_is_let P__law_is_let (defScope s__law_is_let) := ⟨rfl, rfl, rfl, by decide +kernel, rfl, by decide +kernel, by decide +kernel⟩
theorem ok__law_is_let {f : Addr} {fd : FuncData} (F : Fun K "_law_is_let" "_law_is_let" s__law_is_let f fd) (T : Tx K mg) (F__law_let : Fk P w K mg base "_law_let" 1 P__law_let (spOf K TT sp__law_let)) (F__law_seen : Fk P w K mg base "_law_seen" 3 P__law_seen (spOf K TT sp__law_seen)) (F__law_told : Fk P w K mg base "_law_told" 2 P__law_told (spOf K TT sp__law_told)) (F__law_within : Fk P w K mg base "_law_within" 3 P__law_within (spOf K TT sp__law_within)) : FnOk P w K mg base CX0 4 f fd P__law_is_let (spOf K TT sp__law_is_let) := by
  refine fun_okD (k := 3) F sc__law_is_let len__law_is_let fun cdv A outer s H E hr => ?_
  have hu := hr.units
  have hu1 := hu_of hr
  have hu65 := hu65_of hr
  refine ⟨_, (pss_one (ps_ret (pe_callF F__law_let (hr.mono (by decide)) (by rfl) (pa_cons (pv 1) (pa_cons (pe_callF F__law_told (hr.mono (by decide)) (by rfl) (pa_cons (pv 0) (pa_cons (pe_callF F__law_seen (hr.mono (by decide)) (by rfl) (pa_cons (pv 2) (pa_cons (pv 3) pa_nil))) pa_nil))) (pa_cons (pe_callF F__law_within (hr.mono (by decide)) (by rfl) (pa_cons (pv 0) (pa_cons (pv 3) pa_nil))) pa_nil)))))), ?_⟩
  try dsimp only [cxOf]
  refine ex_snd ?_
  intro ds S Qd h
  obtain ⟨w, m, p, r, rfl, h1, h⟩ := h
  walk_at "dsem"
  exact ⟨w, p, r, rfl, h1, w, _, rfl, h1.okw, rd_oks h1, w, p, r, rfl, h1, m, _, _, rfl, spRes_ne h1, h⟩
abbrev s__law_is_int : Stmt := topS 82
abbrev N__law_is_int : List Str := ["_law_thing"]
abbrev P__law_is_int : List Str := ["_law_thing"]
theorem sc__law_is_int : FnScope N__law_is_int P__law_is_int (defScope s__law_is_int) := ⟨rfl, rfl, rfl, by decide +kernel, rfl, by decide +kernel, by decide +kernel⟩
theorem ok__law_is_int {f : Addr} {fd : FuncData} (F : Fun K "_law_is_int" "_law_is_int" s__law_is_int f fd) (T : Tx K mg) : FnOk P w K mg base CX0 1 f fd P__law_is_int (spOf K TT sp__law_is_int) := by
  refine fun_okD (k := 0) F sc__law_is_int len__law_is_int fun cdv A outer s H E hr => ?_
  have hu := hr.units
  have hu1 := hu_of hr
  have hu65 := hu65_of hr
  refine ⟨_, (pss_one (ps_ret (pe_and (pe_callB (isiK (K := K) rfl) (by rfl) T.nb_isinstance (by decide +kernel) (pa_cons (pv 0) (pa_cons (pe_bltn (v := V.ty "int") (by rfl) T.nb_int (by decide +kernel) rfl) pa_nil))) (pe_one (pe_not (pe_callB (isiK (K := K) rfl) (by rfl) T.nb_isinstance (by decide +kernel) (pa_cons (pv 0) (pa_cons (pe_bltn (v := V.ty "bool") (by rfl) T.nb_bool (by decide +kernel) rfl) pa_nil)))))))), ?_⟩
  try dsimp only [cxOf]
  refine ex_snd ?_
  intro ds S Qd h
  obtain ⟨i, rfl, h⟩ := h
  walk_at "dsem"
  exact h
abbrev s__law_inverted : Stmt := topS 84
abbrev N__law_inverted : List Str := ["_law_scheme_here", "_law_tape_here", "_law_marked_here", "_law_found", "_law_p", "_law_one", "_law_q", "_law_other"]
abbrev P__law_inverted : List Str := ["_law_scheme_here", "_law_tape_here"]
theorem sc__law_inverted : FnScope N__law_inverted P__law_inverted (defScope s__law_inverted) := ⟨rfl, rfl, rfl, by decide +kernel, rfl, by decide +kernel, by decide +kernel⟩
theorem ok__law_inverted {f : Addr} {fd : FuncData} (F : Fun K "_law_inverted" "_law_inverted" s__law_inverted f fd) (T : Tx K mg) (F__law_marked : Fk P w K mg base "_law_marked" 1 P__law_marked (spOf K TT sp__law_marked)) : FnOk P w K mg base CX0 2 f fd P__law_inverted (spOf K TT sp__law_inverted) := by
  refine fun_okD (k := 1) F sc__law_inverted len__law_inverted fun cdv A outer s H E hr => ?_
  have hu := hr.units
  have hu1 := hu_of hr
  have hu65 := hu65_of hr
  refine ⟨_, (pss_cons (ps_par (i := 2) (j := 3) rfl sc__law_inverted.nd rfl rfl (by decide) rfl rfl (pa_cons (pe_callF F__law_marked (hr.mono (by decide)) (by rfl) (pa_cons (pv 0) (pa_cons (pv 1) pa_nil))) (pa_cons (pe_lstM pa_nil) pa_nil)) (by rfl))
    (pss_cons (ps_for PassesOwn.never rfl (enumK (K := K) rfl (by rfl) T.nb_enumerate (pa_cons (pv 2) pa_nil)) (tgK 2 (K := K) rfl rfl (pgs_cons (pg_name (i := 4) sc__law_inverted.nd rfl (by first | exact Or.inl rfl | exact Or.inr rfl)) (pgs_cons (pg_name (i := 5) sc__law_inverted.nd rfl (by first | exact Or.inl rfl | exact Or.inr rfl)) pgs_nil)))
      (pss_one (ps_if (pt_cmpR (eqK (K := K) rfl hu) (pe_ix (ixK (K := K) rfl) (pv 5) pe_int (fun _ _ => rfl)) pe_str (nomark _)) (pss_one (ps_expr (pe_bm PySem.F.plainAttrs_list PySem.F.slot_list_extend PySem.F.type_list_extend mt_extend (pvM 3) (pa_cons (pe_lcV (vs := [6, 7]) [("_law_q", 6), ("_law_other", 7)] rfl sc__law_inverted.nd (enumK (K := K) rfl (by rfl) T.nb_enumerate (pa_cons (pv 2) pa_nil)) (show blkC N__law_inverted (defScope s__law_inverted) _ [("_law_q", 6), ("_law_other", 7)] = true by decide +kernel) rfl (fun _ _ _ _ _ => (tgK 2 (K := K) rfl rfl (pgs_cons (pg_name (i := 6) sc__law_inverted.nd rfl (by first | exact Or.inl rfl | exact Or.inr rfl)) (pgs_cons (pg_name (i := 7) sc__law_inverted.nd rfl (by first | exact Or.inl rfl | exact Or.inr rfl)) pgs_nil)))) (fun _ _ _ _ _ => (pts_one (PW.pt (pw_and (pt_cmpR op_gt (pv 6) (pv 4) (nomark _)) (pw_and1 (pt_cmpR (eqK (K := K) rfl hu) (pe_ix (ixK (K := K) rfl) (pv 7) pe_int (fun _ _ => rfl)) pe_str (nomark _))))))) (fun _ _ _ _ _ => (pe_tup (pa_cons (pv 4) (pa_cons (pv 6) pa_nil))))) pa_nil)))) pss_nil)))
    (pss_frz 3 (pss_one (ps_ret (pv 3)))))), ?_⟩
  try dsimp only [cxOf]
  refine ex_snd ?_
  intro ds S Qd h
  obtain ⟨w, p, r, rfl, h1, h⟩ := h
  walk_at "dsem"
  have hn := fin_len h1
  have hml : (marks p r).length = nst r.2 := marks_len
  have hil := invs_len h1
  refine ⟨w, p, r, rfl, h1, ?_⟩
  walk_at "dsem"
  intro _
  rw [enumD_map]
  have hiz := invs_mz h1
  refine forD_ind _ (fun rem ρ S' => S' = S ∧ ∃ (done : List (Mk × Nat)) (a b c d : Option D), ρ = [some (D.tup (List.map eNs p)), some (D.tup [D.tup (List.map eN r.fst), D.tup (List.map eEv r.snd)]), some (D.lst ((marks p r).map eMk)),
      some (D.mu ((done.flatMap fun x => if decide (x.1.2.2 = .la) = true then ((mz p r).filter fun y => decide (x.2 < y.2) && decide (y.1.2.2 = .ea)).map fun y => (x.2, y.2) else []).map eP)), a, b, c, d] ∧ done ++ rem = mz p r) ?_ ?_ _ _ _ ⟨rfl, [], none, none, none, none, rfl, rfl⟩
  · rintro x rem ρ S' nx ⟨rfl, done, a, b, c, d, rfl, hd⟩ hnx
    have hlen := congrArg List.length hiz
    rw [← hd, List.flatMap_append, List.flatMap_cons, List.length_append, List.length_append] at hlen
    have ex : eMk x.1 = .tup [.int x.1.1, .int x.1.2.1, .str (eWo x.1.2.2)] := rfl
    rw [ex]
    walk_at "dsem"
    rw [wo_late]
    by_cases cl : x.1.2.2 = .la
    · rw [if_pos (decide_eq_true cl)]
      rw [if_pos (decide_eq_true cl), hd] at hlen
      rw [enumD_map, List.length_map, List.length_zipIdx]
      refine ⟨lt_line (by omega), ?_⟩
      refine lcD_map _ (fun y : Mk × Nat => decide (x.2 < y.2) && decide (y.1.2.2 = .ea)) (fun y => eP (x.2, y.2)) _ [] (fun y hy k1 k2 g1 g2 => ?_) ?_
      · have ey : eMk y.1 = .tup [.int y.1.1, .int y.1.2.1, .str (eWo y.1.2.2)] := rfl
        rw [ey]
        walk_at "dsem"
        rw [wo_early]
        by_cases c1 : x.2 < y.2
        · rw [if_pos (decide_eq_true (by omega))]
          by_cases c2 : y.1.2.2 = .ea
          · rw [if_pos (decide_eq_true c2)]
            exact g1 (by rw [decide_eq_true c1, decide_eq_true c2] <;> rfl)
          · rw [if_neg (by rw [decide_eq_true_eq]; exact c2)]
            exact g2 (by rw [decide_eq_false c2, Bool.and_false])
        · rw [if_neg (by rw [decide_eq_true_eq]; omega)]
          exact g2 (by rw [decide_eq_false c1, Bool.false_and])
      · walk_at "dsem"
        refine ⟨by rw [List.length_map, List.length_map]; rw [List.length_map] at hlen; change _ + (List.filter _ (mz p r)).length < _; omega, hnx _ _ ⟨rfl, done ++ [x], some (D.int x.2), some (eMk x.1), c, d, ?_, by rw [← hd]; simp⟩⟩
        rw [List.flatMap_append, List.flatMap_singleton, if_pos (decide_eq_true cl), List.map_append, List.map_map] <;> rfl
    · rw [if_neg (by rw [decide_eq_true_eq]; exact cl)]
      refine hnx _ _ ⟨rfl, done ++ [x], some (D.int x.2), some (eMk x.1), c, d, ?_, by rw [← hd]; simp⟩
      rw [List.flatMap_append, List.flatMap_singleton, if_neg (by rw [decide_eq_true_eq]; exact cl), List.append_nil] <;> rfl
  · rintro ρ S' ⟨rfl, done, a, b, c, d, rfl, hd⟩
    rw [List.append_nil] at hd
    subst hd
    walk_at "dsem"
    rw [hiz] at h
    exact h
abbrev s__law_skewed : Stmt := topS 85
abbrev N__law_skewed : List Str := ["_law_web", "_law_word", "_law_corner", "_law_here", "_law_first", "_law_second", "_law_one", "_law_other", "_law_both", "_law_at"]
abbrev P__law_skewed : List Str := ["_law_web", "_law_word", "_law_corner"]
theorem sc__law_skewed : FnScope N__law_skewed P__law_skewed (defScope s__law_skewed) := ⟨rfl, rfl, rfl, by decide +kernel, rfl, by decide +kernel, by decide +kernel⟩
theorem ok__law_skewed {f : Addr} {fd : FuncData} (F : Fun K "_law_skewed" "_law_skewed" s__law_skewed f fd) (T : Tx K mg) (F__law_let : Fk P w K mg base "_law_let" 1 P__law_let (spOf K TT sp__law_let)) (F__law_put : Fk P w K mg base "_law_put" 1 P__law_put (spOf K TT sp__law_put)) (F__law_told : Fk P w K mg base "_law_told" 2 P__law_told (spOf K TT sp__law_told)) : FnOk P w K mg base CX0 3 f fd P__law_skewed (spOf K TT sp__law_skewed) := by
  refine fun_okD (k := 2) F sc__law_skewed len__law_skewed fun cdv A outer s H E hr => ?_
  have hu := hr.units
  have hu1 := hu_of hr
  have hu65 := hu65_of hr
  refine ⟨_, (pss_cons (ps_asg (pv 2) (tgK 3 (K := K) rfl rfl (pgs_cons (pg_name (i := 3) sc__law_skewed.nd rfl (by first | exact Or.inl rfl | exact Or.inr rfl)) (pgs_cons (pg_name (i := 4) sc__law_skewed.nd rfl (by first | exact Or.inl rfl | exact Or.inr rfl)) (pgs_cons (pg_name (i := 5) sc__law_skewed.nd rfl (by first | exact Or.inl rfl | exact Or.inr rfl)) pgs_nil)))))
    (pss_cons (ps_par (i := 6) (j := 7) rfl sc__law_skewed.nd rfl rfl (by decide) rfl rfl (pa_cons (pe_callF F__law_put (hr.mono (by decide)) (by rfl) (pa_cons (pv 3) (pa_cons (pe_ix (ixK (K := K) rfl) (pv 4) pe_int (fun _ _ => rfl)) (pa_cons (pe_ix (ixK (K := K) rfl) (pv 4) pe_int (fun _ _ => rfl)) pa_nil)))) (pa_cons (pe_callF F__law_put (hr.mono (by decide)) (by rfl) (pa_cons (pv 3) (pa_cons (pe_ix (ixK (K := K) rfl) (pv 5) pe_int (fun _ _ => rfl)) (pa_cons (pe_ix (ixK (K := K) rfl) (pv 5) pe_int (fun _ _ => rfl)) pa_nil)))) pa_nil)) (by rfl))
    (pss_cons (ps_set (i := 8) sc__law_skewed.nd rfl (by first | exact Or.inl rfl | exact Or.inr rfl) (pe_callF F__law_put (hr.mono (by decide)) (by rfl) (pa_cons (pv 6) (pa_cons (pe_ix (ixK (K := K) rfl) (pv 5) pe_int (fun _ _ => rfl)) (pa_cons (pe_ix (ixK (K := K) rfl) (pv 5) pe_int (fun _ _ => rfl)) pa_nil)))))
    (pss_one (ps_ret (pe_not (pe_callF F__law_let (hr.mono (by decide)) (by rfl) (pa_cons (pv 1) (pa_cons (pe_callF F__law_told (hr.mono (by decide)) (by rfl) (pa_cons (pv 0) (pa_cons (pv 7) pa_nil))) (pa_cons (pe_lcV (vs := [9]) [("_law_at", 9)] rfl sc__law_skewed.nd (seqK (K := K) rfl (pe_tup (pa_cons (pv 3) (pa_cons (pv 6) (pa_cons (pv 8) pa_nil))))) (show blkC N__law_skewed (defScope s__law_skewed) _ [("_law_at", 9)] = true by decide +kernel) rfl (fun _ _ _ _ _ => (pg_name (i := 9) sc__law_skewed.nd rfl (by first | exact Or.inl rfl | exact Or.inr rfl))) (fun _ _ _ _ _ => pts_nil) (fun _ _ _ _ _ => (pe_callF F__law_told (hr.mono (by decide)) (by rfl) (pa_cons (pv 0) (pa_cons (pv 9) pa_nil))))) pa_nil)))))))))), ?_⟩
  try dsimp only [cxOf]
  refine ex_snd ?_
  intro ds S Qd h
  obtain ⟨w, m, c, rfl, h1, h2, h⟩ := h
  walk_at "dsem"
  have hl := h2.s.1
  have hf := h1.few
  have ha := ((okv_of h1 h2.a.1).2.2 _ h2.a.2).2.1
  have hb := ((okv_of h1 h2.b.1).2.2 _ h2.b.2).2.1
  have o1 := oks_set h2.s h2.a.1 ha
  have o2 := oks_set h2.s h2.b.1 hb
  refine ⟨c.1, _, _, rfl, by rw [hl]; exact h2.a.1, by omega, c.1, _, _, rfl, by rw [hl]; exact h2.b.1, by omega, rfl, c.1.set c.2.1.1 c.2.1.2, _, _, rfl, by rw [List.length_set, hl]; exact h2.b.1, by rw [List.length_set]; omega, rfl, w, _, rfl, h1, o2, rfl, rfl, lt_line (by omega), ?_⟩
  refine lcD_all eNs (fun s => D.int (res w s)) [c.1, c.1.set c.2.1.1 c.2.1.2, (c.1.set c.2.1.1 c.2.1.2).set c.2.2.1 c.2.2.2] (fun s hs k1 k2 hk => ?_) ?_
  · walk_at "dsem"
    refine ⟨w, s, rfl, h1, ?_, hk⟩
    simp only [List.mem_cons, List.not_mem_nil, or_false] at hs
    rcases hs with rfl | rfl | rfl
    · exact h2.s
    · exact o1
    · exact oks_set o1 h2.b.1 hb
  · refine ⟨m, _, [_, _, _], rfl, by simp, ?_⟩
    walk_at "dsem"
    exact h
abbrev s__law_corners : Stmt := topS 92
abbrev N__law_corners : List Str := ["_law_scheme_here", "_law_tape_here", "_law_marked_here", "_law_passed", "_law_reads", "_law_found", "_law_at", "_law_early", "_law_late", "_law_ahead", "_law_place", "_law_here", "_law_q", "_law_p", "_law_one"]
abbrev P__law_corners : List Str := ["_law_scheme_here", "_law_tape_here"]
theorem sc__law_corners : FnScope N__law_corners P__law_corners (defScope s__law_corners) := ⟨rfl, rfl, rfl, by decide +kernel, rfl, by decide +kernel, by decide +kernel⟩
theorem ok__law_corners {f : Addr} {fd : FuncData} (F : Fun K "_law_corners" "_law_corners" s__law_corners f fd) (T : Tx K mg) (F__law_marked : Fk P w K mg base "_law_marked" 1 P__law_marked (spOf K TT sp__law_marked)) (F__law_put : Fk P w K mg base "_law_put" 1 P__law_put (spOf K TT sp__law_put)) (F__law_walked : Fk P w K mg base "_law_walked" 2 P__law_walked (spOf K TT sp__law_walked)) : FnOk P w K mg base CX0 3 f fd P__law_corners (spOf K TT sp__law_corners) := by
  refine fun_okD (k := 2) F sc__law_corners len__law_corners fun cdv A outer s H E hr => ?_
  have hu := hr.units
  have hu1 := hu_of hr
  have hu65 := hu65_of hr
  refine ⟨_, (pss_cons (ps_asg (pe_tup (pa_cons (pe_callF F__law_marked (hr.mono (by decide)) (by rfl) (pa_cons (pv 0) (pa_cons (pv 1) pa_nil))) (pa_cons (pe_callF F__law_walked (hr.mono (by decide)) (by rfl) (pa_cons (pv 1) pa_nil)) (pa_cons (pe_lstM pa_nil) pa_nil)))) (tgK 3 (K := K) rfl rfl (pgs_cons (pg_name (i := 2) sc__law_corners.nd rfl (by first | exact Or.inl rfl | exact Or.inr rfl)) (pgs_cons (tgK 2 (K := K) rfl rfl (pgs_cons (pg_name (i := 3) sc__law_corners.nd rfl (by first | exact Or.inl rfl | exact Or.inr rfl)) (pgs_cons (pg_name (i := 4) sc__law_corners.nd rfl (by first | exact Or.inl rfl | exact Or.inr rfl)) pgs_nil))) (pgs_cons (pg_name (i := 5) sc__law_corners.nd rfl (by first | exact Or.inl rfl | exact Or.inr rfl)) pgs_nil)))))
    (pss_cons (ps_setLcV (vs := [6, 14]) (i := 7) [("_law_at", 6), ("_law_one", 14)] rfl sc__law_corners.nd rfl rfl (sw_true rfl rfl rfl (by decide +kernel)) (enumK (K := K) rfl (by rfl) T.nb_enumerate (pa_cons (pv 2) pa_nil)) (show blkC N__law_corners (defScope s__law_corners) _ [("_law_at", 6), ("_law_one", 14)] = true by decide +kernel) rfl (fun _ _ _ _ _ => (tgK 2 (K := K) rfl rfl (pgs_cons (pg_name (i := 6) sc__law_corners.nd rfl (by first | exact Or.inl rfl | exact Or.inr rfl)) (pgs_cons (pg_name (i := 14) sc__law_corners.nd rfl (by first | exact Or.inl rfl | exact Or.inr rfl)) pgs_nil)))) (fun _ _ _ _ _ => (pts_one (pt_cmpR (eqK (K := K) rfl hu) (pe_ix (ixK (K := K) rfl) (pv 14) pe_int (fun _ _ => rfl)) pe_str (nomark _)))) (fun _ _ _ _ _ => (pv 6)))
    (pss_cons (ps_setLcV (vs := [6, 14]) (i := 8) [("_law_at", 6), ("_law_one", 14)] rfl sc__law_corners.nd rfl rfl (sw_true rfl rfl rfl (by decide +kernel)) (enumK (K := K) rfl (by rfl) T.nb_enumerate (pa_cons (pv 2) pa_nil)) (show blkC N__law_corners (defScope s__law_corners) _ [("_law_at", 6), ("_law_one", 14)] = true by decide +kernel) rfl (fun _ _ _ _ _ => (tgK 2 (K := K) rfl rfl (pgs_cons (pg_name (i := 6) sc__law_corners.nd rfl (by first | exact Or.inl rfl | exact Or.inr rfl)) (pgs_cons (pg_name (i := 14) sc__law_corners.nd rfl (by first | exact Or.inl rfl | exact Or.inr rfl)) pgs_nil)))) (fun _ _ _ _ _ => (pts_one (pt_cmpR (eqK (K := K) rfl hu) (pe_ix (ixK (K := K) rfl) (pv 14) pe_int (fun _ _ => rfl)) pe_str (nomark _)))) (fun _ _ _ _ _ => (pv 6)))
    (pss_cons (ps_set (i := 9) sc__law_corners.nd rfl (by first | exact Or.inl rfl | exact Or.inr rfl) (pe_lstM (pa_cons (pe_ix (ixK (K := K) rfl) (pv 3) (pe_ix (ixK (K := K) rfl) (pv 4) pe_int (fun _ _ => rfl)) (fun _ _ => rfl)) pa_nil)))
    (pss_cons (ps_for PassesOwn.never rfl (seqK (K := K) rfl (pv 7)) (pg_name (i := 6) sc__law_corners.nd rfl (by first | exact Or.inl rfl | exact Or.inr rfl))
      (pss_one (ps_expr (pe_bm PySem.F.plainAttrs_list PySem.F.slot_list_append PySem.F.type_list_append mt_append (pvM 9) (pa_cons (pe_callF F__law_put (hr.mono (by decide)) (by rfl) (pa_cons (pe_ix (ixK (K := K) rfl) (pvM 9) (pe_un un_neg pe_int) (fun _ _ => rfl)) (pa_cons (pe_ix (ixK (K := K) rfl) (pe_ix (ixK (K := K) rfl) (pv 2) (pv 6) (fun _ _ => rfl)) pe_int (fun _ _ => rfl)) (pa_cons (pe_ix (ixK (K := K) rfl) (pe_ix (ixK (K := K) rfl) (pv 2) (pv 6) (fun _ _ => rfl)) pe_int (fun _ _ => rfl)) pa_nil)))) pa_nil)))))
    (pss_frz 9 (pss_cons (ps_for PassesOwn.never rfl (pi_range3 (by rfl) T.nb_range (pa_cons (pe_op op_sub (pe_callB (lenK (K := K) rfl) (by rfl) T.nb_len (by decide +kernel) (pa_cons (pv 7) pa_nil)) pe_int) (pa_cons (pe_un un_neg pe_int) (pa_cons (pe_un un_neg pe_int) pa_nil)))) (pg_name (i := 10) sc__law_corners.nd rfl (by first | exact Or.inl rfl | exact Or.inr rfl))
      (pss_cons (ps_asg (pe_tup (pa_cons (pe_ix (ixK (K := K) rfl) (pv 9) (pv 10) (fun _ _ => rfl)) (pa_cons (pe_ix (ixK (K := K) rfl) (pv 7) (pv 10) (fun _ _ => rfl)) pa_nil))) (tgK 2 (K := K) rfl rfl (pgs_cons (pg_name (i := 11) sc__law_corners.nd rfl (by first | exact Or.inl rfl | exact Or.inr rfl)) (pgs_cons (pg_name (i := 12) sc__law_corners.nd rfl (by first | exact Or.inl rfl | exact Or.inr rfl)) pgs_nil))))
    (pss_one (ps_for PassesOwn.never rfl (seqK (K := K) rfl (pe_lcV (vs := [6]) [("_law_at", 6)] rfl sc__law_corners.nd (seqK (K := K) rfl (pv 8)) (show blkC N__law_corners (defScope s__law_corners) _ [("_law_at", 6)] = true by decide +kernel) rfl (fun _ _ _ _ _ => (pg_name (i := 6) sc__law_corners.nd rfl (by first | exact Or.inl rfl | exact Or.inr rfl))) (fun _ _ _ _ _ => (pts_one (pt_cmpR op_lt (pv 6) (pv 12) (nomark _)))) (fun _ _ _ _ _ => (pv 6)))) (pg_name (i := 13) sc__law_corners.nd rfl (by first | exact Or.inl rfl | exact Or.inr rfl))
      (pss_cons (ps_expr (pe_bm PySem.F.plainAttrs_list PySem.F.slot_list_append PySem.F.type_list_append mt_append (pvM 5) (pa_cons (pe_tup (pa_cons (pe_tup (pa_cons (pv 11) (pa_cons (pe_slice (slK (K := K) rfl) (pe_ix (ixK (K := K) rfl) (pv 2) (pv 13) (fun _ _ => rfl)) po_none (po_some pe_int)) (pa_cons (pe_slice (slK (K := K) rfl) (pe_ix (ixK (K := K) rfl) (pv 2) (pv 12) (fun _ _ => rfl)) po_none (po_some pe_int)) pa_nil)))) (pa_cons (pv 13) (pa_cons (pv 12) pa_nil)))) pa_nil)))
    (pss_one (ps_set (i := 11) sc__law_corners.nd rfl (by first | exact Or.inl rfl | exact Or.inr rfl) (pe_callF F__law_put (hr.mono (by decide)) (by rfl) (pa_cons (pv 11) (pa_cons (pe_ix (ixK (K := K) rfl) (pe_ix (ixK (K := K) rfl) (pv 2) (pv 13) (fun _ _ => rfl)) pe_int (fun _ _ => rfl)) (pa_cons (pe_ix (ixK (K := K) rfl) (pe_ix (ixK (K := K) rfl) (pv 2) (pv 13) (fun _ _ => rfl)) pe_int (fun _ _ => rfl)) pa_nil)))))))))))
    (pss_frz 5 (pss_one (ps_ret (pv 5))))))))))), ?_⟩
  try dsimp only [cxOf]
  refine ex_snd ?_
  intro ds S Qd h
  obtain ⟨w, p, r, rfl, h1, h⟩ := h
  walk_at "dsem"
  have hE := oke_of h1
  have hn := fin_len h1
  have hml : (marks p r).length = nst r.2 := marks_len
  have hel : (earls p r).length ≤ nst r.2 := inner_len p r false
  have hxl := exch_len h1
  have hsp : sp1 r ≤ nst r.2 := rds_le r (sp1_mem (rds_ne h1))
  have hsp0 := sp_le (rds_ne h1)
  have hfew := h1.okw.few
  have hvar : ∀ k, k < nst r.2 → (stp r k).1 < w.vs.length := fun k hk => (var_lt h1 hk).1
  refine ⟨w, p, r, rfl, h1, r, rfl, hE, ?_⟩
  walk_at "dsem"
  refine ⟨by decide, ?_⟩
  rw [enumD_map, List.length_map, List.length_zipIdx]
  refine ⟨lt_line (by omega), ?_⟩
  refine lcD_map _ (fun y : Mk × Nat => decide (y.1.2.2 = .ea)) (fun y => eN y.2) _ [] (fun y hy k1 k2 g1 g2 => ?_) ?_
  · have ey : eMk y.1 = .tup [.int y.1.1, .int y.1.2.1, .str (eWo y.1.2.2)] := rfl
    rw [ey]
    walk_at "dsem"
    rw [wo_early]
    by_cases c2 : y.1.2.2 = .ea
    · rw [if_pos (decide_eq_true c2)]
      exact g1 (decide_eq_true c2)
    · rw [if_neg (by rw [decide_eq_true_eq]; exact c2)]
      exact g2 (decide_eq_false c2)
  have em : (((marks p r).zipIdx.filter fun y => decide (y.1.2.2 = .ea)).map fun y => eN y.2) = (earls p r).map eN := by rw [← mz_ea h1, List.map_map] <;> rfl
  rw [em]
  walk_at "dsem"
  refine ⟨lt_line (by omega), ?_⟩
  refine lcD_map _ (fun y : Mk × Nat => decide (y.1.2.2 = .la)) (fun y => eN y.2) _ [] (fun y hy k1 k2 g1 g2 => ?_) ?_
  · have ey : eMk y.1 = .tup [.int y.1.1, .int y.1.2.1, .str (eWo y.1.2.2)] := rfl
    rw [ey]
    walk_at "dsem"
    rw [wo_late]
    by_cases c2 : y.1.2.2 = .la
    · rw [if_pos (decide_eq_true c2)]
      exact g1 (decide_eq_true c2)
    · rw [if_neg (by rw [decide_eq_true_eq]; exact c2)]
      exact g2 (decide_eq_false c2)
  have el : (((marks p r).zipIdx.filter fun y => decide (y.1.2.2 = .la)).map fun y => eN y.2) = (lates p r).map eN := by rw [← mz_la h1, List.map_map] <;> rfl
  rw [el]
  walk_at "dsem"
  refine at_head (rds_ne h1) ?_
  walk_at "dsem"
  refine at_sts r (k := sp0 r) (by omega) ?_
  walk_at "dsem"
  intro _
  have hal : (ahd p r).length = (earls p r).length + 1 := by
    unfold ahd
    have go : ∀ (l : List (Nat × Nat)) (s : List Nat), (ahA s l).length = l.length := by
      intro l
      induction l with
      | nil => intro s; rfl
      | cons x l ih => intro s; rw [ahA, List.length_cons, List.length_cons, ih]
    rw [List.length_cons, go, List.length_map]
  refine forD_ind eN (fun rem ρ S' => S' = S ∧ ∃ (pre : List (List Nat)) (s : List Nat) (x y : Option D), ρ = [some (D.tup (List.map eNs p)), some (D.tup [D.tup (List.map eN r.fst), D.tup (List.map eEv r.snd)]), some (D.lst ((marks p r).map eMk)), some (D.lst ((sts r).map eNs)), some (D.lst ((rds r).map eN)), some (D.mu []), x, some (D.lst ((earls p r).map eN)), some (D.lst ((lates p r).map eN)),
      some (D.mu (pre.map eNs ++ [eNs s])), none, none, none, none, y] ∧ pre ++ s :: ahA s (rem.map (stp r)) = ahd p r ∧ s.length = w.vs.length ∧ ∀ k ∈ rem, k < nst r.2) ?_ ?_ _ _ _ ⟨rfl, [], stAt r (sp0 r), none, none, rfl, rfl, stAt_len h1 (by omega), fun k hk => by have := (mem_earls h1 k).mp hk; omega⟩
  · rintro k rem ρ S' nx ⟨rfl, pre, s, x, y, rfl, hc, hs, hm⟩ hnx
    have hk := hm k List.mem_cons_self
    have hlen := congrArg List.length hc
    rw [List.length_append, List.length_cons] at hlen
    walk_at "dsem"
    refine atD_last ?_
    refine at_marks hk ?_
    walk_at "dsem"
    refine at_marks hk ?_
    walk_at "dsem"
    refine ⟨s, (stp r k).1, (stp r k).2, rfl, by rw [hs]; exact hvar k hk, by omega, ?_⟩
    refine ⟨by rw [List.length_append, List.length_map]; simp only [List.length_singleton]; omega, hnx _ _ ⟨rfl, pre ++ [s], setS s (stp r k), some (D.int k), y, ?_, by rw [← hc, List.append_assoc] <;> rfl, by unfold setS; rw [List.length_set]; exact hs, fun j hj => hm j (List.mem_cons_of_mem _ hj)⟩⟩
    rw [map_snoc] <;> rfl
  · rintro ρ S' ⟨rfl, pre, s, x, y, rfl, hc, _, _⟩
    walk_at "dsem"
    have e : pre.map eNs ++ [D.tup (s.map eN)] = (ahd p r).map eNs := by rw [← hc, List.map_nil, ahA, List.map_append] <;> rfl
    rw [e, List.length_map]
    refine ⟨by omega, ?_⟩
    rw [rgDown_map]
    intro _
    refine forD_ind eN (fun rem ρ S'' => S'' = S' ∧ ∃ (done : List Nat) (x a b c d y : Option D), ρ = [some (D.tup (List.map eNs p)), some (D.tup [D.tup (List.map eN r.fst), D.tup (List.map eEv r.snd)]), some (D.lst ((marks p r).map eMk)), some (D.lst ((sts r).map eNs)), some (D.lst ((rds r).map eN)),
        some (D.mu ((done.flatMap fun k => exIn (stp r) ((earls p r).getD k 0) ((ahd p r).getD k []) (lates p r)).map eXc)), x, some (D.lst ((earls p r).map eN)), some (D.lst ((lates p r).map eN)), some (D.lst ((ahd p r).map eNs)), a, b, c, d, y] ∧ done ++ rem = (List.range (earls p r).length).reverse) ?_ ?_ _ _ _ ⟨rfl, [], x, none, none, none, none, y, rfl, rfl⟩
    · rintro k rem ρ S'' nx ⟨rfl, done, x, a, b, c, d, y, rfl, hd⟩ hnx
      have hk : k < (earls p r).length := by
        have : k ∈ (List.range (earls p r).length).reverse := by rw [← hd]; simp
        exact List.mem_range.mp (List.mem_reverse.mp this)
      have hq : (earls p r).getD k 0 ∈ earls p r := getD_mem hk
      have hq2 := (mem_earls h1 _).mp hq
      have hexl : (exch p r) = (done.flatMap fun k => exIn (stp r) ((earls p r).getD k 0) ((ahd p r).getD k []) (lates p r)) ++ (exIn (stp r) ((earls p r).getD k 0) ((ahd p r).getD k []) (lates p r) ++ rem.flatMap fun k => exIn (stp r) ((earls p r).getD k 0) ((ahd p r).getD k []) (lates p r)) := by
        unfold exch
        rw [← hd, List.flatMap_append, List.flatMap_cons]
      have hah : ((ahd p r).getD k []).length = w.vs.length := by rw [ahd_get h1 hk, mid_len]
      have hxl2 := congrArg List.length hexl
      rw [List.length_append, List.length_append] at hxl2
      walk_at "dsem"
      refine atD_nat (by rw [List.getElem?_map, at_ahd h1 hk] <;> rfl) (at_get hk ?_)
      walk_at "dsem"
      have hll : (lates p r).length ≤ nst r.2 := inner_len p r true
      rw [List.length_map]
      refine ⟨lt_line (by omega), ?_⟩
      refine lcD_map eN (fun j => decide (j < (earls p r).getD k 0)) eN _ [] (fun j hj k1 k2 g1 g2 => ?_) ?_
      · walk_at "dsem"
        by_cases c2 : j < (earls p r).getD k 0
        · rw [if_pos (decide_eq_true (by omega))]
          exact g1 (decide_eq_true c2)
        · rw [if_neg (by rw [decide_eq_true_eq]; omega)]
          exact g2 (decide_eq_false c2)
      walk_at "dsem"
      intro _
      have hfil : ∀ (l : List Nat) (s : List Nat), exIn (stp r) ((earls p r).getD k 0) s (l.filter fun j => decide (j < (earls p r).getD k 0)) = exIn (stp r) ((earls p r).getD k 0) s l := by
        intro l
        induction l with
        | nil => intro s; rfl
        | cons j l ih =>
          intro s
          by_cases cj : j < (earls p r).getD k 0
          · rw [List.filter_cons_of_pos (p := fun j => decide (j < (earls p r).getD k 0)) (decide_eq_true cj), exIn, exIn, if_pos cj, if_pos cj, ih]
          · rw [List.filter_cons_of_neg (p := fun j => decide (j < (earls p r).getD k 0)) (by rw [decide_eq_true_eq]; exact cj), exIn, if_neg cj, ih]
      refine forD_ind eN (fun rem2 ρ S3 => S3 = S'' ∧ ∃ (part : List Xc) (s : List Nat) (d : Option D), ρ = [some (D.tup (List.map eNs p)), some (D.tup [D.tup (List.map eN r.fst), D.tup (List.map eEv r.snd)]), some (D.lst ((marks p r).map eMk)), some (D.lst ((sts r).map eNs)), some (D.lst ((rds r).map eN)),
        some (D.mu (((done.flatMap fun k => exIn (stp r) ((earls p r).getD k 0) ((ahd p r).getD k []) (lates p r)) ++ part).map eXc)), x, some (D.lst ((earls p r).map eN)), some (D.lst ((lates p r).map eN)), some (D.lst ((ahd p r).map eNs)), some (D.int k), some (D.tup (s.map eN)), some (D.int ((earls p r).getD k 0 : Nat)), d, y] ∧
          part ++ exIn (stp r) ((earls p r).getD k 0) s rem2 = exIn (stp r) ((earls p r).getD k 0) ((ahd p r).getD k []) (lates p r) ∧ s.length = w.vs.length ∧ ∀ j ∈ rem2, j < nst r.2 ∧ j < (earls p r).getD k 0) ?_ ?_ _ _ _ ⟨rfl, [], (ahd p r).getD k [], d, by rw [List.append_nil] <;> rfl, hfil _ _, hah, fun j hj => by
            obtain ⟨m1, m2⟩ := List.mem_filter.mp hj
            have := (mem_lates h1 j).mp m1
            exact ⟨by omega, of_decide_eq_true m2⟩⟩
      · rintro j rem2 ρ S3 nx2 ⟨rfl, part, s, d, rfl, hp, hs, hm⟩ hnx2
        obtain ⟨hj, cj⟩ := hm j List.mem_cons_self
        have hpl := congrArg List.length hp
        rw [List.length_append] at hpl
        walk_at "dsem"
        refine at_marks hj ?_
        walk_at "dsem"
        refine at_marks (by omega) ?_
        walk_at "dsem"
        rw [cut2, cut2]
        rw [exIn, if_pos cj, List.length_cons] at hpl
        refine ⟨by rw [List.length_map, List.length_append]; omega, ?_⟩
        refine at_marks hj ?_
        walk_at "dsem"
        refine at_marks hj ?_
        walk_at "dsem"
        refine ⟨s, (stp r j).1, (stp r j).2, rfl, by rw [hs]; exact hvar j hj, by omega, ?_⟩
        refine hnx2 _ _ ⟨rfl, part ++ [((s, stp r j, stp r ((earls p r).getD k 0)), j, (earls p r).getD k 0)], setS s (stp r j), some (D.int j), ?_, ?_, by unfold setS; rw [List.length_set]; exact hs, fun i hi => hm i (List.mem_cons_of_mem _ hi)⟩
        · rw [← List.append_assoc, map_snoc] <;> rfl
        · rw [← hp, exIn, if_pos cj, List.append_assoc] <;> rfl
      · rintro ρ S3 ⟨rfl, part, s, d, rfl, hp, hs, hm⟩
        rw [exIn, List.append_nil] at hp
        subst hp
        refine hnx _ _ ⟨rfl, done ++ [k], x, some (D.int k), some (D.tup (s.map eN)), some (D.int ((earls p r).getD k 0 : Nat)), d, y, ?_, by rw [← hd]; simp⟩
        rw [List.flatMap_append, List.flatMap_singleton]
    · rintro ρ S'' ⟨rfl, done, x, a, b, c, d, y, rfl, hd⟩
      rw [List.append_nil] at hd
      subst hd
      walk_at "dsem"
      exact h
end
end RS
end
section
set_option maxRecDepth 100000
set_option synthInstance.maxHeartbeats 2000000
set_option synthInstance.maxSize 4000
set_option maxHeartbeats 2000000
namespace RS
open PySem PySem.Spec PyProof.Rows L2 DL
local macro_rules | `(tactic| walk_at "dsem") => `(tactic| simp only [dstart, dRet, dOp, dSl, dTup, dLst, dCons, dNil, dNoPart, dC, dCB, dUn, dCall, dAnd, dOr, dNot, dIf, dIsN, dNext, dSeq, dIfS, dDrop, dAsg, dgName, dFor, dYes, dLc, dLc2, dwipe, dPar, dPar3, dParT, dgTupN, setN, dLstM, dDNewM, dDisp1,
  asB_b, asI_i, asT_t, asL_l, asS_l, asS_t, zx_tt, zx_tl, ex_l, ex_t, e_test, e_andV, e_orV, e_notV, e_chain, e_gtup, e_gcons, e_gnil, e_zx, e_ex, e_seq, e_rg1, e_aug, e_get, e_part, e_inM, e_put, e_app, e_ext, e_ixM, e_lenM, e_frz, e_var, muAt_s, mdAt_s, frzAt_l, frzAt_d, vAt_s, atI_s,
  at0, at1, at2, f_repT, e_star, starX_t, f_add, f_addT, f_addL, f_mul, f_mulL, f_sub, f_mod, f_div, f_pow, f_lt, f_le, f_gt, f_ge, f_neg, f_isB, f_notB, f_eqI, f_eqS, f_eqB, f_eqT, f_eqL, f_neI, f_neS, f_neB, f_neT, f_neL, f_ixL, f_ixT, f_slL, f_slT, f_lenT, f_lenL, f_tupT, f_tupL, f_lstT, f_lstL, f_all, f_sum, f_bestL, f_bestT, f_min2, f_intB, f_sort, f_sortD, isi_ii, isi_ib, isi_tt, isi_ss, f_inT, f_inL, f_inIT, f_inIL,
  mut_int, mut_tup, mut_lst, mut_str, mut_bl, mut_non, mut_pot, mut_dct, mut_scr, isn_non, isn_int, isn_tup, isn_str,
  eN, eP, eNs, eIs, eVr, eW, eR, ePl, eCor, eXc, eEv_r, eEv_s, eFn_t, eFn_s, eFn_x, eFn_n, eSt_n, eSt_s, ev_ne, ev_eq, mut_ev, isi_ev, e_ir3, e_ir1, ir3_i, ir1_i,
  List.map_cons, List.map_nil, List.length_cons, List.length_nil, List.replicate, List.append_nil, List.nil_append, List.cons_append, List.set_cons_zero, List.set_cons_succ, List.getElem?_cons_zero, List.getElem?_cons_succ, List.getElem?_nil, List.zip_cons_cons, List.zip_nil_left, List.foldl_cons, List.foldl_nil, Nat.reduceAdd, Nat.reduceSub, Nat.reduceLeDiff, true_and, and_true, decide_true, if_true, if_false, Bool.false_eq_true, Bool.not_true, Bool.not_false])
/-! ### what the law draws -/
abbrev Bd : Nat := 1000000000
def sp__law_take : DSp := fun ds S Q => ∃ n : Nat, ds = [.pot, eN n] ∧ 1 ≤ n ∧ n ≤ 1000000 ∧ S + 1 ≤ Bd ∧ ∀ v S', v < n → S' ≤ S + 1 → Q (eN v) S'
theorem len__law_take : ∀ ds S Qd, sp__law_take ds S Qd → ds.length = 2 := fun ds S Q ⟨_, h, _⟩ => by rw [h] <;> rfl
def sp__law_of : DSp := fun ds S Q => ∃ xs, ds = [.pot, .lst xs] ∧ xs ≠ [] ∧ xs.length ≤ 1000000 ∧ S + 1 ≤ Bd ∧ ∀ x S', x ∈ xs → S' ≤ S + 1 → Q x S'
theorem len__law_of : ∀ ds S Qd, sp__law_of ds S Qd → ds.length = 2 := fun ds S Q ⟨_, h, _⟩ => by rw [h] <;> rfl
def sp__law_variable : DSp := fun ds S Q => ∃ n : Nat, ds = [.pot, eN n] ∧ 1 ≤ n ∧ n ≤ 4 ∧ S + 18 ≤ Bd ∧ ∀ v S', OkV v → S' ≤ S + 18 → Q (eVr v) S'
theorem len__law_variable : ∀ ds S Qd, sp__law_variable ds S Qd → ds.length = 2 := fun ds S Q ⟨_, h, _⟩ => by rw [h] <;> rfl
def sp__law_number : DSp := fun ds S Q => ds = [.pot] ∧ S + 3 ≤ Bd ∧ ∀ (i : Int) S', S' ≤ S + 3 → Q (.int i) S'
theorem len__law_number : ∀ ds S Qd, sp__law_number ds S Qd → ds.length = 1 := fun ds S Q ⟨h, _⟩ => by rw [h] <;> rfl
def sp__law_function : DSp := fun ds S Q => ∃ vs : List Vr, ds = [.pot, .tup (vs.map eVr)] ∧ (∀ v ∈ vs, OkV v) ∧ vs.length ≤ 5 ∧ S + 1000 ≤ Bd ∧ ∀ fn S', OkFn vs fn → S' ≤ S + 1000 → Q (eFn fn) S'
theorem len__law_function : ∀ ds S Qd, sp__law_function ds S Qd → ds.length = 2 := fun ds S Q ⟨_, h, _⟩ => by rw [h] <;> rfl
def sp__law_world : DSp := fun ds S Q => ds = [.pot, .int 5, .int 4] ∧ S + 2000 ≤ Bd ∧ ∀ w S', OkW w → w.vs.length ≤ 5 → S' ≤ S + 2000 → Q (eW w) S'
theorem len__law_world : ∀ ds S Qd, sp__law_world ds S Qd → ds.length = 3 := fun ds S Q ⟨h, _⟩ => by rw [h] <;> rfl
def moves (vs : List Vr) (s : List Nat) : List (Nat × Nat) := vs.zipIdx.flatMap fun x => (x.1.2.filter fun q => decide (q.1 = nth s x.2)).map fun q => (x.2, q.2)
def sp__law_moves : DSp := fun ds S Q => ∃ w s, ds = [eW w, eNs s] ∧ OkW w ∧ OkS w.vs s ∧ Q (.lst ((moves w.vs s).map eP)) S
theorem len__law_moves : ∀ ds S Qd, sp__law_moves ds S Qd → ds.length = 2 := fun ds S Q ⟨_, _, h, _⟩ => by rw [h] <;> rfl
def sp__law_begin : DSp := fun ds S Q => ∃ w, ds = [.pot, eW w] ∧ OkW w ∧ S + 40 ≤ Bd ∧ ∀ s S', OkS w.vs s → (∀ b, w.st = some b → s = b) → S' ≤ S + 40 → Q (eNs s) S'
theorem len__law_begin : ∀ ds S Qd, sp__law_begin ds S Qd → ds.length = 2 := fun ds S Q ⟨_, h, _⟩ => by rw [h] <;> rfl
def sp__law_put' : DSp := sp_changed
def sp__law_tape : DSp := fun ds S Q => ∃ w p n, ds = [.pot, eW w, ePl p, eN n] ∧ OkW w ∧ OkPl w.vs.length p ∧ n + p.length ≤ 900 ∧ S + 100000 ≤ Bd ∧ ∀ r S', OkR w p r → S' ≤ S + 100000 → Q (eR r) S'
theorem len__law_tape : ∀ ds S Qd, sp__law_tape ds S Qd → ds.length = 4 := fun ds S Q ⟨_, _, _, h, _⟩ => by rw [h] <;> rfl
/-- from every value there is a step -/
def Live (w : Wd) : Prop := ∀ i, i < w.vs.length → ∀ x, x < (vr w.vs i).1 → ∃ q ∈ (vr w.vs i).2, q.1 = x
def sp__law_wide_sum : DSp := fun ds S Q => ds = [.pot] ∧ S + 1000 ≤ Bd ∧ ∀ w S', OkW w → w.st = none → Live w → S' ≤ S + 1000 → Q (eW w) S'
theorem len__law_wide_sum : ∀ ds S Qd, sp__law_wide_sum ds S Qd → ds.length = 1 := fun ds S Q ⟨h, _⟩ => by rw [h] <;> rfl
def sp__law_spread_tape : DSp := fun ds S Q => ∃ w p n, ds = [.pot, eW w, eN (List.length p), eN n] ∧ OkW w ∧ w.st = none ∧ Live w ∧ OkPl w.vs.length p ∧ (p.length + 1) * n ≤ 400 ∧ p.length ≤ 40 ∧ S + 10000 ≤ Bd ∧ ∀ r S', OkR w p r → S' ≤ S + 10000 → Q (eR r) S'
theorem len__law_spread_tape : ∀ ds S Qd, sp__law_spread_tape ds S Qd → ds.length = 4 := fun ds S Q ⟨_, _, _, h, _⟩ => by rw [h] <;> rfl
theorem lcD_draw {α β : Type} {g : DTG} {tt : DTT} {te : DTE} {ρ : DEnv} {Q : D → Nat → Prop} {S : Nat} (enc : α → D) (eb : β → D) (R : α → β → Prop) (c : Nat) (as : List α)
    (turn : ∀ a ∈ as, ∀ (S' : Nat) (k1 : D → Nat → Prop) (k2 : Nat → Prop), S' + c ≤ S + as.length * c → (∀ y S2, R a y → S2 ≤ S' + c → k1 (eb y) S2) → g (enc a) ρ fun ρ2 => tt ρ2 S' fun b S2 => if b = true then te ρ2 S2 k1 else k2 S2)
    (fin : ∀ (ys : List β) (S' : Nat), ys.length = as.length → (∀ q ∈ as.zip ys, R q.1 q.2) → S' ≤ S + as.length * c → Q (.lst (ys.map eb)) S') : lcD g tt te ρ Q (as.map enc) [] S := by
  refine lcD_ind enc (fun rem acc S' => ∃ (done : List α) (ys : List β), done ++ rem = as ∧ acc = ys.map eb ∧ ys.length = done.length ∧ (∀ q ∈ done.zip ys, R q.1 q.2) ∧ S' ≤ S + done.length * c) ?_ ?_ as [] S ⟨[], [], rfl, rfl, rfl, fun q hq => by simp at hq, Nat.le_add_right _ _⟩
  · rintro a rem acc S' k1 k2 ⟨done, ys, hd, rfl, hl, hr, hS⟩ g1 g2
    have hlen := congrArg List.length hd
    rw [List.length_append, List.length_cons] at hlen
    have hmul : done.length * c + c ≤ as.length * c := by
      have : (done.length + 1) * c ≤ as.length * c := Nat.mul_le_mul_right _ (by omega)
      rw [Nat.add_mul, Nat.one_mul] at this
      exact this
    refine turn a (by rw [← hd]; simp) S' k1 k2 (by omega) fun y S2 hy hS2 => ?_
    refine g1 _ _ ⟨done ++ [a], ys ++ [y], by rw [← hd]; simp, by rw [map_snoc], by rw [List.length_append, List.length_append, hl] <;> rfl, fun q hq => ?_, ?_⟩
    · rw [List.zip_append hl.symm] at hq
      rcases List.mem_append.mp hq with z | z
      · exact hr q z
      · have : q = (a, y) := by simpa using z
        rw [this]
        exact hy
    · rw [List.length_append, List.length_singleton, Nat.add_mul, Nat.one_mul]
      omega
  · rintro acc S' ⟨done, ys, hd, rfl, hl, hr, hS⟩
    rw [List.append_nil] at hd
    subst hd
    exact fin ys S' hl hr hS
theorem at_bls (l : List Bool) {t : Nat} (ht : t < l.length) {q : D → Prop} (h : ∀ b, q (.bl b)) : atD (l.map D.bl) (t : Int) q := atD_nat (by rw [List.getElem?_map, List.getElem?_eq_getElem ht] <;> rfl) (h _)
theorem zip_get {α β : Type} {as : List α} {bs : List β} {i : Nat} {a : α} {b : β} (h1 : as[i]? = some a) (h2 : bs[i]? = some b) : (a, b) ∈ as.zip bs := by
  obtain ⟨i1, e1⟩ := List.getElem?_eq_some_iff.mp h1
  obtain ⟨i2, e2⟩ := List.getElem?_eq_some_iff.mp h2
  refine List.mem_iff_getElem.mpr ⟨i, by rw [List.length_zip]; omega, ?_⟩
  rw [List.getElem_zip, e1, e2]
section
variable {P : Program} {w : World} {K : PySem.W.Frag} {mg : Str → Option Value} {base : Heap} {TT : Tb}
abbrev s__law_of : Stmt := topS 65
abbrev N__law_of : List Str := ["_law_pot_here", "_law_some"]
abbrev P__law_of : List Str := ["_law_pot_here", "_law_some"]
theorem sc__law_of : FnScope N__law_of P__law_of (defScope s__law_of) := ⟨rfl, rfl, rfl, by decide +kernel, rfl, by decide +kernel, by decide +kernel⟩
theorem ok__law_of {f : Addr} {fd : FuncData} (F : Fun K "_law_of" "_law_of" s__law_of f fd) (T : Tx K mg) (F__law_take : Fk P w K mg base "_law_take" 1 P__law_take (spOf K TT sp__law_take)) : FnOk P w K mg base CX0 2 f fd P__law_of (spOf K TT sp__law_of) := by
  refine fun_okD (k := 1) F sc__law_of len__law_of fun cdv A outer s H E hr => ?_
  have hu := hr.units
  have hu1 := hu_of hr
  have hu65 := hu65_of hr
  refine ⟨_, (pss_one (ps_ret (pe_ix (ixK (K := K) rfl) (pv 1) (pe_callF F__law_take (hr.mono (by decide)) (by rfl) (pa_cons (pv 0) (pa_cons (pe_callB (lenK (K := K) rfl) (by rfl) T.nb_len (by decide +kernel) (pa_cons (pv 1) pa_nil)) pa_nil))) (fun _ _ => rfl)))), ?_⟩
  try dsimp only [cxOf]
  refine ex_snd ?_
  intro ds S Qd h
  obtain ⟨xs, rfl, h1, h2, h3, h⟩ := h
  walk_at "dsem"
  refine ⟨xs.length, rfl, List.length_pos_iff.mpr h1, h2, h3, fun v S' hv hS => ?_⟩
  walk_at "dsem"
  exact atD_nat (List.getElem?_eq_getElem hv) (h _ _ (List.getElem_mem hv) hS)
abbrev s__law_variable : Stmt := topS 66
abbrev N__law_variable : List Str := ["_law_pot_here", "_law_wide", "_law_size", "_law_style", "_law_pairs", "_law_a", "_law_b", "_law_is_there"]
abbrev P__law_variable : List Str := ["_law_pot_here", "_law_wide"]
theorem sc__law_variable : FnScope N__law_variable P__law_variable (defScope s__law_variable) := ⟨rfl, rfl, rfl, by decide +kernel, rfl, by decide +kernel, by decide +kernel⟩
theorem ok__law_variable {f : Addr} {fd : FuncData} (F : Fun K "_law_variable" "_law_variable" s__law_variable f fd) (T : Tx K mg) (F__law_take : Fk P w K mg base "_law_take" 1 P__law_take (spOf K TT sp__law_take)) : FnOk P w K mg base CX0 2 f fd P__law_variable (spOf K TT sp__law_variable) := by
  refine fun_okD (k := 1) F sc__law_variable len__law_variable fun cdv A outer s H E hr => ?_
  have hu := hr.units
  have hu1 := hu_of hr
  have hu65 := hu65_of hr
  refine ⟨_, (pss_cons (ps_par3 (i := 2) (j := 3) (l := 4) rfl sc__law_variable.nd rfl rfl rfl (by decide) (by decide) (by decide) rfl rfl rfl (pa_cons (pe_op (addK (K := K) rfl) pe_int (pe_callF F__law_take (hr.mono (by decide)) (by rfl) (pa_cons (pv 0) (pa_cons (pv 1) pa_nil)))) (pa_cons (pe_callF F__law_take (hr.mono (by decide)) (by rfl) (pa_cons (pv 0) (pa_cons pe_int pa_nil))) (pa_cons (pe_lstM pa_nil) pa_nil))) (by rfl))
    (pss_cons (ps_for PassesOwn.never rfl (pi_range1 (by rfl) T.nb_range (pa_cons (pv 2) pa_nil)) (pg_name (i := 5) sc__law_variable.nd rfl (by first | exact Or.inl rfl | exact Or.inr rfl))
      (pss_one (ps_for PassesOwn.never rfl (pi_range1 (by rfl) T.nb_range (pa_cons (pv 2) pa_nil)) (pg_name (i := 6) sc__law_variable.nd rfl (by first | exact Or.inl rfl | exact Or.inr rfl))
      (pss_cons (ps_set (i := 7) sc__law_variable.nd rfl (by first | exact Or.inl rfl | exact Or.inr rfl) (pe_ix (ixK (K := K) rfl) (pe_lst (pa_cons (pe_cmpR (eqK (K := K) rfl hu) (pv 6) (pe_op (addK (K := K) rfl) (pv 5) pe_int) (nomark _)) (pa_cons (pe_cmpR (eqK (K := K) rfl hu) (pv 6) (pe_op op_sub (pv 5) pe_int) (nomark _)) (pa_cons pe_bl (pa_cons (pe_cmpR (eqK (K := K) rfl hu) (pv 6) (pe_op op_mod (pe_op (addK (K := K) rfl) (pv 5) pe_int) (pv 2)) (nomark _)) (pa_cons (pe_cmpR (eqK (K := K) rfl hu) (pe_callF F__law_take (hr.mono (by decide)) (by rfl) (pa_cons (pv 0) (pa_cons pe_int pa_nil))) pe_int (nomark _)) pa_nil)))))) (pv 3) (fun _ _ => rfl)))
    (pss_one (ps_if (PW.pt (pw_and (pt_cmpR (neK (K := K) rfl hu) (pv 5) (pv 6) (nomark _)) (pw_and1 (pt_val (pv 7))))) (pss_one (ps_expr (pe_bm PySem.F.plainAttrs_list PySem.F.slot_list_append PySem.F.type_list_append mt_append (pvM 4) (pa_cons (pe_tup (pa_cons (pv 5) (pa_cons (pv 6) pa_nil))) pa_nil)))) pss_nil))))))
    (pss_frz 4 (pss_one (ps_ret (pe_tup (pa_cons (pv 2) (pa_cons (pe_callTy (tupK (K := K) rfl) (by rfl) T.nb_tuple (by decide +kernel) (pa_cons (pv 4) pa_nil)) pa_nil)))))))), ?_⟩
  try dsimp only [cxOf]
  refine ex_snd ?_
  intro ds S Qd h
  obtain ⟨n, rfl, h1, h2, h3, h⟩ := h
  walk_at "dsem"
  refine ⟨n, rfl, h1, by omega, by omega, fun v S1 hv hS1 => ?_⟩
  walk_at "dsem"
  refine ⟨5, rfl, by omega, by omega, by omega, fun t S2 ht hS2 => ?_⟩
  walk_at "dsem"
  have e : (1 : Int) + (v : Nat) = ((v + 1 : Nat) : Int) := by omega
  rw [e]
  refine ⟨by omega, ?_⟩
  rw [rgD_map]
  intro _
  refine forD_ind eN (fun rem ρ S' => ∃ (done : List Nat) (ps : List (Nat × Nat)) (a b c : Option D), ρ = [some D.pot, some (D.int n), some (D.int (v + 1 : Nat)), some (D.int t), some (D.mu (ps.map eP)), a, b, c] ∧ done ++ rem = List.range (v + 1) ∧ S' ≤ S2 + done.length * 4 ∧ ps.length ≤ done.length * 4 ∧ ∀ q ∈ ps, q.1 < v + 1 ∧ q.2 < v + 1 ∧ q.1 ≠ q.2) ?_ ?_ _ _ _ ⟨[], [], none, none, none, rfl, rfl, by simp, by simp, fun q hq => by simp at hq⟩
  · rintro a rem ρ S' nx ⟨done, ps, x, y, z, rfl, hd, hS, hl, hq⟩ hnx
    have hlen := congrArg List.length hd
    rw [List.length_append, List.length_cons, List.length_range] at hlen
    have ha : a < v + 1 := List.mem_range.mp (by rw [← hd]; simp)
    walk_at "dsem"
    refine ⟨by omega, ?_⟩
    rw [rgD_map]
    intro _
    refine forD_ind eN (fun rem2 ρ S3 => ∃ (done2 : List Nat) (us : List (Nat × Nat)) (b c : Option D), ρ = [some D.pot, some (D.int n), some (D.int (v + 1 : Nat)), some (D.int t), some (D.mu ((ps ++ us).map eP)), some (D.int a), b, c] ∧ done2 ++ rem2 = List.range (v + 1) ∧ S3 ≤ S' + done2.length ∧ us.length ≤ done2.length ∧ ∀ q ∈ us, q.1 < v + 1 ∧ q.2 < v + 1 ∧ q.1 ≠ q.2) ?_ ?_ _ _ _ ⟨[], [], y, z, by rw [List.append_nil] <;> rfl, rfl, by simp, by simp, fun q hq => by simp at hq⟩
    · rintro b rem2 ρ S3 nx2 ⟨done2, us, y, z, rfl, hd2, hS3, hl2, hq2⟩ hnx2
      have hlen2 := congrArg List.length hd2
      rw [List.length_append, List.length_cons, List.length_range] at hlen2
      have hb : b < v + 1 := List.mem_range.mp (by rw [← hd2]; simp)
      walk_at "dsem"
      refine ⟨by omega, 2, rfl, by omega, by omega, by omega, fun u S4 hu hS4 => ?_⟩
      walk_at "dsem"
      refine at_bls [_, _, _, _, _] ht fun k => ?_
      walk_at "dsem"
      have go : nx2 [some D.pot, some (D.int n), some (D.int (v + 1 : Nat)), some (D.int t), some (D.mu ((ps ++ us).map eP)), some (D.int a), some (D.int b), some (D.bl k)] S4 :=
        hnx2 _ _ ⟨done2 ++ [b], us, _, _, rfl, by rw [← hd2]; simp, by rw [List.length_append, List.length_singleton]; omega, by rw [List.length_append, List.length_singleton]; omega, hq2⟩
      by_cases c : a = b
      · rw [decide_eq_true (by omega)]
        walk_at "dsem"
        exact go
      · rw [decide_eq_false (by omega)]
        walk_at "dsem"
        cases k with
        | false =>
          walk_at "dsem"
          exact go
        | true =>
          walk_at "dsem"
          refine ⟨by rw [List.length_map, List.length_append]; omega, hnx2 _ _ ⟨done2 ++ [b], us ++ [(a, b)], some (D.int b), some (D.bl true), ?_, by rw [← hd2]; simp, by rw [List.length_append, List.length_singleton]; omega, by rw [List.length_append, List.length_append] <;> simp <;> omega, fun q hq' => ?_⟩⟩
          · rw [← List.append_assoc, map_snoc] <;> rfl
          · rcases List.mem_append.mp hq' with z' | z'
            · exact hq2 q z'
            · rw [List.mem_singleton.mp z']
              exact ⟨ha, hb, c⟩
    · rintro ρ S3 ⟨done2, us, y, z, rfl, hd2, hS3, hl2, hq2⟩
      have hlen2 := congrArg List.length hd2
      rw [List.append_nil, List.length_range] at hlen2
      refine hnx _ _ ⟨done ++ [a], ps ++ us, some (D.int a), y, z, rfl, by rw [← hd]; simp, by rw [List.length_append, List.length_singleton]; omega, by rw [List.length_append, List.length_append, List.length_singleton]; omega, fun q hq' => ?_⟩
      rcases List.mem_append.mp hq' with z' | z'
      · exact hq q z'
      · exact hq2 q z'
  · rintro ρ S' ⟨done, ps, x, y, z, rfl, hd, hS, hl, hq⟩
    have hlen := congrArg List.length hd
    rw [List.append_nil, List.length_range] at hlen
    walk_at "dsem"
    exact h (v + 1, ps) S' ⟨⟨by omega, by show v + 1 ≤ 4; omega⟩, by show ps.length ≤ 16; omega, hq⟩ (by omega)
abbrev s__law_number : Stmt := topS 67
abbrev N__law_number : List Str := ["_law_pot_here"]
abbrev P__law_number : List Str := ["_law_pot_here"]
theorem sc__law_number : FnScope N__law_number P__law_number (defScope s__law_number) := ⟨rfl, rfl, rfl, by decide +kernel, rfl, by decide +kernel, by decide +kernel⟩
theorem ok__law_number {f : Addr} {fd : FuncData} (F : Fun K "_law_number" "_law_number" s__law_number f fd) (T : Tx K mg) (F__law_of : Fk P w K mg base "_law_of" 2 P__law_of (spOf K TT sp__law_of)) (F__law_take : Fk P w K mg base "_law_take" 1 P__law_take (spOf K TT sp__law_take)) : FnOk P w K mg base CX0 3 f fd P__law_number (spOf K TT sp__law_number) := by
  refine fun_okD (k := 2) F sc__law_number len__law_number fun cdv A outer s H E hr => ?_
  have hu := hr.units
  have hu1 := hu_of hr
  have hu65 := hu65_of hr
  refine ⟨_, (pss_one (ps_ret (pe_callF F__law_of (hr.mono (by decide)) (by rfl) (pa_cons (pv 0) (pa_cons (pe_lst (pa_cons pe_int (pa_cons pe_int (pa_cons pe_int (pa_cons (pe_un un_neg pe_int) (pa_cons pe_int (pa_cons pe_int (pa_cons (pe_op op_sub (pe_callF F__law_take (hr.mono (by decide)) (by rfl) (pa_cons (pv 0) (pa_cons pe_int pa_nil))) pe_int) (pa_cons (pe_op op_mulX (pe_op op_pow pe_int pe_int) (pe_op op_sub (pe_callF F__law_take (hr.mono (by decide)) (by rfl) (pa_cons (pv 0) (pa_cons pe_int pa_nil))) pe_int)) pa_nil))))))))) pa_nil))))), ?_⟩
  try dsimp only [cxOf]
  refine ex_snd ?_
  intro ds S Qd h
  obtain ⟨rfl, h1, h⟩ := h
  walk_at "dsem"
  refine ⟨9, rfl, by omega, by omega, by omega, fun v S1 hv hS1 => ?_⟩
  walk_at "dsem"
  refine ⟨⟨by omega, by omega, by decide⟩, 3, rfl, by omega, by omega, by omega, fun u S2 hu hS2 => ?_⟩
  walk_at "dsem"
  refine ⟨.inl ⟨by decide, by decide⟩, _, rfl, by simp, by simp, by omega, fun x S3 hx hS3 => ?_⟩
  simp only [List.mem_cons, List.not_mem_nil, or_false] at hx
  rcases hx with rfl | rfl | rfl | rfl | rfl | rfl | rfl | rfl <;> exact h _ _ (by omega)
theorem prod_pos : ∀ (l : List Nat) (a : Nat), 1 ≤ a → (∀ x ∈ l, 1 ≤ x) → 1 ≤ l.foldl (· * ·) a
  | [], a, h, _ => h
  | x :: l, a, h, hx => prod_pos l (a * x) (Nat.mul_pos h (hx x List.mem_cons_self)) fun y hy => hx y (List.mem_cons_of_mem _ hy)
theorem rows_ok {vs : List Vr} {ys : List (List Int)} (hl : ys.length = vs.length) (hr : ∀ q ∈ vs.zip ys, q.2.length = q.1.1) : ys.length = vs.length ∧ ∀ i, i < vs.length → (ys.getD i []).length = (vr vs i).1 := by
  refine ⟨hl, fun i hi => ?_⟩
  have h2 : i < ys.length := by omega
  have := hr (vr vs i, ys.getD i []) (zip_get (vr_get hi) (by rw [List.getElem?_eq_getElem h2]; simp [h2]))
  exact this
abbrev s__law_function : Stmt := topS 68
abbrev N__law_function : List Str := ["_law_pot_here", "_law_variables", "_law_word", "_law_count", "_law_size", "_law_pairs", "_law_turn"]
abbrev P__law_function : List Str := ["_law_pot_here", "_law_variables"]
theorem sc__law_function : FnScope N__law_function P__law_function (defScope s__law_function) := ⟨rfl, rfl, rfl, by decide +kernel, rfl, by decide +kernel, by decide +kernel⟩
theorem ok__law_function {f : Addr} {fd : FuncData} (F : Fun K "_law_function" "_law_function" s__law_function f fd) (T : Tx K mg) (F__law_number : Fk P w K mg base "_law_number" 3 P__law_number (spOf K TT sp__law_number)) (F__law_of : Fk P w K mg base "_law_of" 2 P__law_of (spOf K TT sp__law_of)) : FnOk P w K mg base CX0 4 f fd P__law_function (spOf K TT sp__law_function) := by
  refine fun_okD (k := 3) F sc__law_function len__law_function fun cdv A outer s H E hr => ?_
  have hu := hr.units
  have hu1 := hu_of hr
  have hu65 := hu65_of hr
  refine ⟨_, (pss_cons (ps_par (i := 2) (j := 3) rfl sc__law_function.nd rfl rfl (by decide) rfl rfl (pa_cons (pe_callF F__law_of (hr.mono (by decide)) (by rfl) (pa_cons (pv 0) (pa_cons (pe_lst (pa_cons pe_str (pa_cons pe_str (pa_cons pe_str (pa_cons pe_str (pa_cons pe_str pa_nil)))))) pa_nil))) (pa_cons pe_int pa_nil)) (by rfl))
    (pss_cons (ps_for PassesOwn.never rfl (seqK (K := K) rfl (pv 1)) (tgK 2 (K := K) rfl rfl (pgs_cons (pg_name (i := 4) sc__law_function.nd rfl (by first | exact Or.inl rfl | exact Or.inr rfl)) (pgs_cons (pg_name (i := 5) sc__law_function.nd rfl (by first | exact Or.inl rfl | exact Or.inr rfl)) pgs_nil)))
      (pss_one (ps_set (i := 3) sc__law_function.nd rfl (by first | exact Or.inl rfl | exact Or.inr rfl) (pe_op op_mulX (pv 3) (pv 4)))))
    (pss_cons (ps_if (PW.pt (pw_and (pt_cmpR (eqK (K := K) rfl hu) (pv 2) pe_str (nomark _)) (pw_and1 (pt_cmpR op_le (pv 3) pe_int (nomark _))))) (pss_one (ps_ret (pe_tup (pa_cons pe_str (pa_cons (pe_callTy (tupK (K := K) rfl) (by rfl) T.nb_tuple (by decide +kernel) (pa_cons (pe_lcV (vs := [6]) [("_law_turn", 6)] rfl sc__law_function.nd (pi_range1 (by rfl) T.nb_range (pa_cons (pv 3) pa_nil)) (show blkC N__law_function (defScope s__law_function) _ [("_law_turn", 6)] = true by decide +kernel) rfl (fun _ _ _ _ _ => (pg_name (i := 6) sc__law_function.nd rfl (by first | exact Or.inl rfl | exact Or.inr rfl))) (fun _ _ _ _ _ => pts_nil) (fun _ _ _ _ _ => (pe_callF F__law_number (hr.mono (by decide)) (by rfl) (pa_cons (pv 0) pa_nil)))) pa_nil)) pa_nil))))) pss_nil)
    (pss_cons (ps_set (i := 2) sc__law_function.nd rfl (by first | exact Or.inl rfl | exact Or.inr rfl) (pe_ifExp (pt_cmpR (eqK (K := K) rfl hu) (pv 2) pe_str (nomark _)) pe_str (pv 2)))
    (pss_one (ps_ret (pe_tup (pa_cons (pv 2) (pa_cons (pe_callTy (tupK (K := K) rfl) (by rfl) T.nb_tuple (by decide +kernel) (pa_cons (pe_lcV (vs := [4, 5]) [("_law_size", 4), ("_law_pairs", 5)] rfl sc__law_function.nd (seqK (K := K) rfl (pv 1)) (show blkC N__law_function (defScope s__law_function) _ [("_law_size", 4), ("_law_pairs", 5)] = true by decide +kernel) rfl (fun _ _ _ _ _ => (tgK 2 (K := K) rfl rfl (pgs_cons (pg_name (i := 4) sc__law_function.nd rfl (by first | exact Or.inl rfl | exact Or.inr rfl)) (pgs_cons (pg_name (i := 5) sc__law_function.nd rfl (by first | exact Or.inl rfl | exact Or.inr rfl)) pgs_nil)))) (fun _ _ _ _ _ => pts_nil) (fun _ _ _ _ _ => (pe_callTy (tupK (K := K) rfl) (by rfl) T.nb_tuple (by decide +kernel) (pa_cons (pe_lcV (vs := [6]) [("_law_turn", 6)] rfl sc__law_function.nd (pi_range1 (by rfl) T.nb_range (pa_cons (pv 4) pa_nil)) (show blkC N__law_function (relS _ (defScope s__law_function)) _ [("_law_turn", 6)] = true by decide +kernel) rfl (fun _ _ _ _ _ => (pg_name (i := 6) sc__law_function.nd rfl (by first | exact Or.inl rfl | exact Or.inr rfl))) (fun _ _ _ _ _ => pts_nil) (fun _ _ _ _ _ => (pe_callF F__law_number (hr.mono (by decide)) (by rfl) (pa_cons (pv 0) pa_nil)))) pa_nil)))) pa_nil)) pa_nil))))))))), ?_⟩
  try dsimp only [cxOf]
  refine ex_snd ?_
  intro ds S Qd h
  obtain ⟨vs, rfl, h1, h2, h3, h⟩ := h
  walk_at "dsem"
  refine ⟨_, rfl, by simp, by simp, by omega, fun x S1 hx hS1 => ?_⟩
  walk_at "dsem"
  intro _
  refine forD_ind eVr (fun rem ρ S' => S' = S1 ∧ ∃ (f : Nat) (a b c : Option D), ρ = [some D.pot, some (D.tup (List.map eVr vs)), some x, some (D.int f), a, b, c] ∧ (rem.map (·.1)).foldl (· * ·) f = (vs.map (·.1)).foldl (· * ·) 1 ∧ ∀ v ∈ rem, v ∈ vs) ?_ ?_ _ _ _ ⟨rfl, 1, none, none, none, rfl, rfl, fun v hv => hv⟩
  · rintro v rem ρ S' nx ⟨rfl, f, a, b, c, rfl, hf, hm⟩ hnx
    have := (h1 v (hm v List.mem_cons_self)).1
    walk_at "dsem"
    refine ⟨.inr ⟨by omega, by omega⟩, hnx _ _ ⟨rfl, f * v.1, _, _, _, rfl, hf, fun u hu => hm u (List.mem_cons_of_mem _ hu)⟩⟩
  · rintro ρ S' ⟨rfl, f, a, b, c, rfl, hf, _⟩
    rw [List.map_nil, List.foldl_nil] at hf
    have rows : ∀ (w0 : D) (mk : List (List Int) → Fn) (a b c : Option D), (∀ ys, eFn (mk ys) = D.tup [w0, .tup (ys.map eIs)]) → (∀ ys, (ys.length = vs.length ∧ ∀ i, i < vs.length → (ys.getD i []).length = (vr vs i).1) → OkFn vs (mk ys)) → 
        lcD (dgTup 2 (dgCons (dgName 4) (dgCons (dgName 5) dgNil))) dYes (dCB fTupO (dCons (dLc (dIR1 (dCons (dVar 4) dNil)) (dgName 6) dYes (dCall sp__law_number (dCons (dVar 0) dNil)) [6]) dNil)) [some D.pot, some (D.tup (List.map eVr vs)), a, b, none, none, c] (fun x S1 => fTupO [x] fun d_2 => Qd (D.tup [w0, d_2]) S1) (List.map eVr vs) [] S' := fun w0 mk a b c he ho => by
      refine lcD_draw eVr eIs (fun v ys => ys.length = v.1) 12 vs (fun v hv S2 k1 k2 hS2 hk => ?_) fun ys S2 hl hr hS2 => ?_
      · have hv1 := (h1 v hv).1
        walk_at "dsem"
        refine ⟨by omega, ?_⟩
        rw [rgD_map, List.length_map, List.length_range]
        refine ⟨lt_line (by omega), ?_⟩
        refine lcD_draw eN D.int (fun _ _ => True) 3 _ (fun i hi S3 k3 k4 hS3 hk3 => ?_) fun zs S3 hl3 _ hS3 => ?_
        · rw [List.length_range] at hS3
          walk_at "dsem"
          exact ⟨rfl, by omega, fun i S4 hS4 => hk3 i S4 trivial hS4⟩
        · rw [List.length_range] at hl3 hS3
          walk_at "dsem"
          exact hk zs S3 hl3 (by omega)
      · walk_at "dsem"
        have := h (mk ys) S2 (ho ys (rows_ok hl hr)) (by omega)
        rw [he ys] at this
        exact this
    walk_at "dsem"
    simp only [List.mem_cons, List.not_mem_nil, or_false] at hx
    have fin : x = .str "table" ∨ x = .str "sum" ∨ x = .str "max" ∨ x = .str "min" := by
      rcases hx with rfl | rfl | rfl | rfl | rfl
      · exact .inl rfl
      · exact .inr (.inl rfl)
      · exact .inr (.inr (.inl rfl))
      · exact .inr (.inr (.inr rfl))
      · exact .inl rfl
    rcases fin with rfl | rfl | rfl | rfl
    · walk_at "dsem"
      by_cases c3 : f ≤ 300
      · rw [if_pos (decide_eq_true (by omega))]
        refine ⟨by omega, ?_⟩
        rw [rgD_map, List.length_map, List.length_range]
        refine ⟨lt_line (by omega), ?_⟩
        refine lcD_draw eN D.int (fun _ _ => True) 3 _ (fun i hi S3 k3 k4 hS3 hk3 => ?_) fun zs S3 hl3 _ hS3 => ?_
        · rw [List.length_range] at hS3
          walk_at "dsem"
          exact ⟨rfl, by omega, fun i S4 hS4 => hk3 i S4 trivial hS4⟩
        · rw [List.length_range] at hl3 hS3
          walk_at "dsem"
          exact h (.tab zs) S3 ⟨by rw [hl3, hf], by omega⟩ (by omega)
      · rw [if_neg (by rw [decide_eq_true_eq]; omega), List.length_map]
        exact ⟨lt_line (by omega), rows (.str "sum") .sm _ _ _ (fun ys => rfl) fun ys hy => hy⟩
    · walk_at "dsem"
      rw [if_neg (by decide), if_neg (by decide), List.length_map]
      exact ⟨lt_line (by omega), rows (.str "sum") .sm _ _ _ (fun ys => rfl) fun ys hy => hy⟩
    · walk_at "dsem"
      rw [if_neg (by decide), if_neg (by decide), List.length_map]
      exact ⟨lt_line (by omega), rows (.str "max") .mx _ _ _ (fun ys => rfl) fun ys hy => hy⟩
    · walk_at "dsem"
      rw [if_neg (by decide), if_neg (by decide), List.length_map]
      exact ⟨lt_line (by omega), rows (.str "min") .mn _ _ _ (fun ys => rfl) fun ys hy => hy⟩
abbrev s__law_world : Stmt := topS 69
abbrev N__law_world : List Str := ["_law_pot_here", "_law_most", "_law_wide", "_law_variables", "_law_begin_here", "_law_turn", "_law_size", "_law_pairs"]
abbrev P__law_world : List Str := ["_law_pot_here", "_law_most", "_law_wide"]
theorem sc__law_world : FnScope N__law_world P__law_world (defScope s__law_world) := ⟨rfl, rfl, rfl, by decide +kernel, rfl, by decide +kernel, by decide +kernel⟩
theorem ok__law_world {f : Addr} {fd : FuncData} (F : Fun K "_law_world" "_law_world" s__law_world f fd) (T : Tx K mg) (F__law_function : Fk P w K mg base "_law_function" 4 P__law_function (spOf K TT sp__law_function)) (F__law_of : Fk P w K mg base "_law_of" 2 P__law_of (spOf K TT sp__law_of)) (F__law_take : Fk P w K mg base "_law_take" 1 P__law_take (spOf K TT sp__law_take)) (F__law_variable : Fk P w K mg base "_law_variable" 2 P__law_variable (spOf K TT sp__law_variable)) : FnOk P w K mg base CX0 5 f fd P__law_world (spOf K TT sp__law_world) := by
  refine fun_okD (k := 4) F sc__law_world len__law_world fun cdv A outer s H E hr => ?_
  have hu := hr.units
  have hu1 := hu_of hr
  have hu65 := hu65_of hr
  refine ⟨_, (pss_cons (ps_set (i := 3) sc__law_world.nd rfl (by first | exact Or.inl rfl | exact Or.inr rfl) (pe_callTy (tupK (K := K) rfl) (by rfl) T.nb_tuple (by decide +kernel) (pa_cons (pe_lcV (vs := [5]) [("_law_turn", 5)] rfl sc__law_world.nd (pi_range1 (by rfl) T.nb_range (pa_cons (pe_op (addK (K := K) rfl) pe_int (pe_callF F__law_take (hr.mono (by decide)) (by rfl) (pa_cons (pv 0) (pa_cons (pv 1) pa_nil)))) pa_nil)) (show blkC N__law_world (defScope s__law_world) _ [("_law_turn", 5)] = true by decide +kernel) rfl (fun _ _ _ _ _ => (pg_name (i := 5) sc__law_world.nd rfl (by first | exact Or.inl rfl | exact Or.inr rfl))) (fun _ _ _ _ _ => pts_nil) (fun _ _ _ _ _ => (pe_callF F__law_variable (hr.mono (by decide)) (by rfl) (pa_cons (pv 0) (pa_cons (pv 2) pa_nil))))) pa_nil)))
    (pss_cons (ps_set (i := 4) sc__law_world.nd rfl (by first | exact Or.inl rfl | exact Or.inr rfl) (pe_callTy (tupK (K := K) rfl) (by rfl) T.nb_tuple (by decide +kernel) (pa_cons (pe_lcV (vs := [6, 7]) [("_law_size", 6), ("_law_pairs", 7)] rfl sc__law_world.nd (seqK (K := K) rfl (pv 3)) (show blkC N__law_world (defScope s__law_world) _ [("_law_size", 6), ("_law_pairs", 7)] = true by decide +kernel) rfl (fun _ _ _ _ _ => (tgK 2 (K := K) rfl rfl (pgs_cons (pg_name (i := 6) sc__law_world.nd rfl (by first | exact Or.inl rfl | exact Or.inr rfl)) (pgs_cons (pg_name (i := 7) sc__law_world.nd rfl (by first | exact Or.inl rfl | exact Or.inr rfl)) pgs_nil)))) (fun _ _ _ _ _ => pts_nil) (fun _ _ _ _ _ => (pe_callF F__law_take (hr.mono (by decide)) (by rfl) (pa_cons (pv 0) (pa_cons (pv 6) pa_nil))))) pa_nil)))
    (pss_one (ps_ret (pe_tup (pa_cons (pv 3) (pa_cons (pe_callF F__law_of (hr.mono (by decide)) (by rfl) (pa_cons (pv 0) (pa_cons (pe_lst (pa_cons pe_non (pa_cons (pv 4) pa_nil))) pa_nil))) (pa_cons (pe_callF F__law_function (hr.mono (by decide)) (by rfl) (pa_cons (pv 0) (pa_cons (pv 3) pa_nil))) pa_nil)))))))), ?_⟩
  try dsimp only [cxOf]
  refine ex_snd ?_
  intro ds S Qd h
  obtain ⟨rfl, h1, h⟩ := h
  walk_at "dsem"
  refine ⟨5, rfl, by omega, by omega, by omega, fun v S1 hv hS1 => ?_⟩
  walk_at "dsem"
  have e : (1 : Int) + (v : Nat) = ((v + 1 : Nat) : Int) := by omega
  rw [e]
  refine ⟨by omega, ?_⟩
  rw [rgD_map, List.length_map, List.length_range]
  refine ⟨lt_line (by omega), ?_⟩
  refine lcD_draw eN eVr (fun _ v => OkV v) 18 _ (fun i hi S3 k3 k4 hS3 hk3 => ?_) fun vs S3 hl3 hr3 hS3 => ?_
  · rw [List.length_range] at hS3
    walk_at "dsem"
    exact ⟨4, rfl, by omega, by omega, by omega, fun x S4 hx hS4 => hk3 x S4 hx hS4⟩
  · rw [List.length_range] at hl3 hS3
    have hok : ∀ x ∈ vs, OkV x := fun x hx => by
      obtain ⟨i, hi, ex⟩ := List.mem_iff_getElem.mp hx
      exact hr3 (i, x) (zip_get (i := i) (List.getElem?_range (by omega)) (by rw [List.getElem?_eq_getElem hi, ex]))
    walk_at "dsem"
    rw [List.length_map]
    refine ⟨lt_line (by omega), ?_⟩
    refine lcD_draw eVr eN (fun v x => x < v.1) 1 vs (fun x hx S4 k3 k4 hS4 hk4 => ?_) fun ss S4 hl4 hr4 hS4 => ?_
    · have hx1 := (hok x hx).1
      walk_at "dsem"
      exact ⟨x.1, rfl, by omega, by omega, by omega, fun y S5 hy hS5 => hk4 y S5 hy hS5⟩
    · have hss : OkS vs ss := ⟨hl4, fun i hi => hr4 (vr vs i, nth ss i) (zip_get (vr_get hi) (nth_get (by omega)))⟩
      have okw : ∀ (st : Option (List Nat)) (fn : Fn), OkFn vs fn → (∀ s, st = some s → OkS vs s) → OkW ⟨vs, st, fn⟩ := fun st fn hfn hst =>
        ⟨by show 1 ≤ vs.length; omega, by show vs.length ≤ 40; omega, fun x hx => (hok x hx).1, fun x hx => (hok x hx).2, hst, hfn⟩
      walk_at "dsem"
      refine ⟨_, rfl, by simp, by simp, by omega, fun x S5 hx hS5 => ?_⟩
      walk_at "dsem"
      refine ⟨vs, rfl, hok, by omega, by omega, fun fn S6 hfn hS6 => ?_⟩
      simp only [List.mem_cons, List.not_mem_nil, or_false] at hx
      rcases hx with rfl | rfl
      · exact h ⟨vs, none, fn⟩ S6 (okw none fn hfn fun s hs => by cases hs) (by show vs.length ≤ 5; omega) (by omega)
      · exact h ⟨vs, some ss, fn⟩ S6 (okw (some ss) fn hfn fun s hs => by cases hs; exact hss) (by show vs.length ≤ 5; omega) (by omega)
theorem moves_len {w : Wd} (h : OkW w) (s : List Nat) : (moves w.vs s).length ≤ 640 := by
  unfold moves
  refine Nat.le_trans (flat_len _ 16 _ fun x hx => ?_) ?_
  · rw [List.length_map]
    have := (h.stp x.1 (mem_zipIdx1 hx)).1
    exact Nat.le_trans (List.length_filter_le _ _) this
  · rw [List.length_zipIdx]
    have := h.few
    omega
theorem moves_mem {vs : List Vr} {s : List Nat} {q : Nat × Nat} (h : q ∈ moves vs s) : q.1 < vs.length ∧ (nth s q.1, q.2) ∈ (vr vs q.1).2 := by
  unfold moves at h
  obtain ⟨x, hx, hq⟩ := List.mem_flatMap.mp h
  obtain ⟨y, hy, rfl⟩ := List.mem_map.mp hq
  obtain ⟨h1, h2⟩ := List.mem_filter.mp hy
  obtain ⟨i, hi, e⟩ := List.mem_iff_getElem.mp hx
  rw [List.length_zipIdx] at hi
  rw [List.getElem_zipIdx] at e
  subst e
  simp only [Nat.zero_add] at h1 h2 ⊢
  refine ⟨hi, ?_⟩
  have e2 : vr vs i = vs[i] := by simp [hi]
  rw [e2, ← of_decide_eq_true h2]
  exact h1
abbrev s__law_moves : Stmt := topS 73
abbrev N__law_moves : List Str := ["_law_web", "_law_here", "_law_found", "_law_spot", "_law_size", "_law_pairs", "_law_a", "_law_b"]
abbrev P__law_moves : List Str := ["_law_web", "_law_here"]
theorem sc__law_moves : FnScope N__law_moves P__law_moves (defScope s__law_moves) := ⟨rfl, rfl, rfl, by decide +kernel, rfl, by decide +kernel, by decide +kernel⟩
theorem ok__law_moves {f : Addr} {fd : FuncData} (F : Fun K "_law_moves" "_law_moves" s__law_moves f fd) (T : Tx K mg) : FnOk P w K mg base CX0 1 f fd P__law_moves (spOf K TT sp__law_moves) := by
  refine fun_okD (k := 0) F sc__law_moves len__law_moves fun cdv A outer s H E hr => ?_
  have hu := hr.units
  have hu1 := hu_of hr
  have hu65 := hu65_of hr
  refine ⟨_, (pss_cons (ps_set (i := 2) sc__law_moves.nd rfl (by first | exact Or.inl rfl | exact Or.inr rfl) (pe_lstM pa_nil))
    (pss_cons (ps_for PassesOwn.never rfl (enumK (K := K) rfl (by rfl) T.nb_enumerate (pa_cons (pe_ix (ixK (K := K) rfl) (pv 0) pe_int (fun _ _ => rfl)) pa_nil)) (tgK 2 (K := K) rfl rfl (pgs_cons (pg_name (i := 3) sc__law_moves.nd rfl (by first | exact Or.inl rfl | exact Or.inr rfl)) (pgs_cons (tgK 2 (K := K) rfl rfl (pgs_cons (pg_name (i := 4) sc__law_moves.nd rfl (by first | exact Or.inl rfl | exact Or.inr rfl)) (pgs_cons (pg_name (i := 5) sc__law_moves.nd rfl (by first | exact Or.inl rfl | exact Or.inr rfl)) pgs_nil))) pgs_nil)))
      (pss_one (ps_expr (pe_bm PySem.F.plainAttrs_list PySem.F.slot_list_extend PySem.F.type_list_extend mt_extend (pvM 2) (pa_cons (pe_lcV (vs := [6, 7]) [("_law_a", 6), ("_law_b", 7)] rfl sc__law_moves.nd (seqK (K := K) rfl (pv 5)) (show blkC N__law_moves (defScope s__law_moves) _ [("_law_a", 6), ("_law_b", 7)] = true by decide +kernel) rfl (fun _ _ _ _ _ => (tgK 2 (K := K) rfl rfl (pgs_cons (pg_name (i := 6) sc__law_moves.nd rfl (by first | exact Or.inl rfl | exact Or.inr rfl)) (pgs_cons (pg_name (i := 7) sc__law_moves.nd rfl (by first | exact Or.inl rfl | exact Or.inr rfl)) pgs_nil)))) (fun _ _ _ _ _ => (pts_one (pt_cmpR (eqK (K := K) rfl hu) (pv 6) (pe_ix (ixK (K := K) rfl) (pv 1) (pv 3) (fun _ _ => rfl)) (nomark _)))) (fun _ _ _ _ _ => (pe_tup (pa_cons (pv 3) (pa_cons (pv 7) pa_nil))))) pa_nil)))))
    (pss_frz 2 (pss_one (ps_ret (pv 2)))))), ?_⟩
  try dsimp only [cxOf]
  refine ex_snd ?_
  intro ds S Qd h
  obtain ⟨w, s, rfl, h1, h2, h⟩ := h
  walk_at "dsem"
  intro _
  rw [enumD_map]
  have hml := moves_len h1 s
  refine forD_ind _ (fun rem ρ S' => S' = S ∧ ∃ (done : List (Vr × Nat)) (a b c d f : Option D), ρ = [some (D.tup [D.tup (List.map eVr w.vs), eSt w.st, eFn w.fn]), some (D.tup (List.map eN s)), some (D.mu ((done.flatMap fun x => (x.1.2.filter fun q => decide (q.1 = nth s x.2)).map fun q => (x.2, q.2)).map eP)), a, b, c, d, f] ∧ done ++ rem = w.vs.zipIdx) ?_ ?_ _ _ _ ⟨rfl, [], none, none, none, none, none, rfl, rfl⟩
  · rintro x rem ρ S' nx ⟨rfl, done, a, b, c, d, f, rfl, hd⟩ hnx
    have hlen : (moves w.vs s).length = (done.flatMap fun x => (x.1.2.filter fun q => decide (q.1 = nth s x.2)).map fun q => (x.2, q.2)).length + ((x.1.2.filter fun q => decide (q.1 = nth s x.2)).length + (rem.flatMap fun x => (x.1.2.filter fun q => decide (q.1 = nth s x.2)).map fun q => (x.2, q.2)).length) := by
      unfold moves
      rw [← hd, List.flatMap_append, List.flatMap_cons, List.length_append, List.length_append, List.length_map]
    have hx : x ∈ w.vs.zipIdx := by rw [← hd]; simp
    have hx2 : x.2 < s.length := by
      obtain ⟨i, hi, e⟩ := List.mem_iff_getElem.mp hx
      rw [List.length_zipIdx] at hi
      rw [List.getElem_zipIdx] at e
      rw [← e, h2.1]
      simpa using hi
    have hst := (h1.stp x.1 (mem_zipIdx1 hx)).1
    walk_at "dsem"
    rw [List.length_map]
    refine ⟨lt_line (by omega), ?_⟩
    refine lcD_map eP (fun q => decide (q.1 = nth s x.2)) (fun q => eP (x.2, q.2)) _ [] (fun q hq k1 k2 g1 g2 => ?_) ?_
    · walk_at "dsem"
      refine at_nth hx2 ?_
      walk_at "dsem"
      by_cases c : q.1 = nth s x.2
      · rw [if_pos (decide_eq_true (by omega))]
        exact g1 (decide_eq_true c)
      · rw [if_neg (by rw [decide_eq_true_eq]; omega)]
        exact g2 (decide_eq_false c)
    · walk_at "dsem"
      refine ⟨by rw [List.length_map, List.length_map]; omega, hnx _ _ ⟨rfl, done ++ [x], some (D.int x.2), some (D.int x.1.1), some (D.tup (x.1.2.map eP)), d, f, ?_, by rw [← hd]; simp⟩⟩
      rw [List.flatMap_append, List.flatMap_singleton, List.map_append, List.map_map] <;> rfl
  · rintro ρ S' ⟨rfl, done, a, b, c, d, f, rfl, hd⟩
    rw [List.append_nil] at hd
    subst hd
    walk_at "dsem"
    exact h
theorem draw_state {w : Wd} (h1 : OkW w) {S : Nat} {ρ : DEnv} {i : Nat} {Q : D → Nat → Prop} (hS : S + 40 ≤ Bd) (hg : ∀ (v : Vr) (k : DEnv → Prop), (∀ ρ' : DEnv, ρ'[0]? = some (some .pot) → ρ'[i]? = some (some (.int v.1)) → k ρ') → dgTup 2 (dgCons (dgName i) (dgCons (dgName (i + 1)) dgNil)) (eVr v) ρ k)
    (fin : ∀ s S', OkS w.vs s → S' ≤ S + 40 → Q (.lst (s.map eN)) S') : lcD (dgTup 2 (dgCons (dgName i) (dgCons (dgName (i + 1)) dgNil))) dYes (dCall sp__law_take (dCons (dVar 0) (dCons (dVar i) dNil))) ρ Q (List.map eVr w.vs) [] S := by
  have hf := h1.few
  refine lcD_draw eVr eN (fun v x => x < v.1) 1 w.vs (fun x hx S4 k3 k4 hS4 hk4 => ?_) fun ss S4 hl4 hr4 hS4 => ?_
  · have hx1 := h1.sz x hx
    refine hg x _ fun ρ' e0 e1 => ?_
    walk_at "dsem"
    rw [e0, e1]
    walk_at "dsem"
    exact ⟨x.1, rfl, by omega, by omega, by omega, fun y S5 hy hS5 => hk4 y S5 hy hS5⟩
  · exact fin ss S4 ⟨hl4, fun i hi => hr4 (vr w.vs i, nth ss i) (zip_get (vr_get hi) (nth_get (by omega)))⟩ (by omega)
abbrev s__law_begin : Stmt := topS 75
abbrev N__law_begin : List Str := ["_law_pot_here", "_law_web", "_law_size", "_law_pairs"]
abbrev P__law_begin : List Str := ["_law_pot_here", "_law_web"]
theorem sc__law_begin : FnScope N__law_begin P__law_begin (defScope s__law_begin) := ⟨rfl, rfl, rfl, by decide +kernel, rfl, by decide +kernel, by decide +kernel⟩
theorem ok__law_begin {f : Addr} {fd : FuncData} (F : Fun K "_law_begin" "_law_begin" s__law_begin f fd) (T : Tx K mg) (F__law_take : Fk P w K mg base "_law_take" 1 P__law_take (spOf K TT sp__law_take)) : FnOk P w K mg base CX0 2 f fd P__law_begin (spOf K TT sp__law_begin) := by
  refine fun_okD (k := 1) F sc__law_begin len__law_begin fun cdv A outer s H E hr => ?_
  have hu := hr.units
  have hu1 := hu_of hr
  have hu65 := hu65_of hr
  refine ⟨_, (pss_one (ps_ret (pe_ifExp (pt_cmp (pc_isN (pe_ix (ixK (K := K) rfl) (pv 1) pe_int (fun _ _ => rfl))) (by rfl)) (pe_callTy (tupK (K := K) rfl) (by rfl) T.nb_tuple (by decide +kernel) (pa_cons (pe_lcV (vs := [2, 3]) [("_law_size", 2), ("_law_pairs", 3)] rfl sc__law_begin.nd (seqK (K := K) rfl (pe_ix (ixK (K := K) rfl) (pv 1) pe_int (fun _ _ => rfl))) (show blkC N__law_begin (defScope s__law_begin) _ [("_law_size", 2), ("_law_pairs", 3)] = true by decide +kernel) rfl (fun _ _ _ _ _ => (tgK 2 (K := K) rfl rfl (pgs_cons (pg_name (i := 2) sc__law_begin.nd rfl (by first | exact Or.inl rfl | exact Or.inr rfl)) (pgs_cons (pg_name (i := 3) sc__law_begin.nd rfl (by first | exact Or.inl rfl | exact Or.inr rfl)) pgs_nil)))) (fun _ _ _ _ _ => pts_nil) (fun _ _ _ _ _ => (pe_callF F__law_take (hr.mono (by decide)) (by rfl) (pa_cons (pv 0) (pa_cons (pv 2) pa_nil))))) pa_nil)) (pe_ix (ixK (K := K) rfl) (pv 1) pe_int (fun _ _ => rfl))))), ?_⟩
  try dsimp only [cxOf]
  refine ex_snd ?_
  intro ds S Qd h
  obtain ⟨w, rfl, h1, h2, h⟩ := h
  walk_at "dsem"
  have hf := h1.few
  cases hs : w.st with
  | none =>
    walk_at "dsem"
    rw [List.length_map]
    refine ⟨lt_line (by omega), ?_⟩
    refine draw_state (i := 2) h1 h2 (fun v k hk => ?_) fun s S' hs' hS' => ?_
    · walk_at "dsem"
      exact hk _ rfl rfl
    · walk_at "dsem"
      exact h s S' hs' (fun b hb => by rw [hs] at hb; cases hb) hS'
  | some b =>
    walk_at "dsem"
    exact h b S (h1.st b hs) (fun c hc => by rw [hs] at hc; cases hc; rfl) (by omega)
/-! runs that are drawn -/
def endS : List Nat → List Ev → List Nat
  | s, [] => s
  | s, .rd :: r => endS s r
  | s, .st i v :: r => endS (s.set i v) r
theorem endS_app : ∀ (s : List Nat) (a b : List Ev), endS s (a ++ b) = endS (endS s a) b
  | _, [], _ => rfl
  | s, .rd :: r, b => endS_app s r b
  | s, .st i v :: r, b => endS_app (s.set i v) r b
theorem chain_app {vs : List Vr} : ∀ (s : List Nat) (a b : List Ev), Chain vs s (a ++ b) ↔ Chain vs s a ∧ Chain vs (endS s a) b
  | _, [], _ => by simp [Chain, endS]
  | s, .rd :: r, b => chain_app s r b
  | s, .st i v :: r, b => by
    show _ ∧ Chain vs (s.set i v) (r ++ b) ↔ (_ ∧ Chain vs (s.set i v) r) ∧ Chain vs (endS (s.set i v) r) b
    rw [chain_app (s.set i v) r b]
    exact ⟨fun h => ⟨⟨h.1, h.2.1⟩, h.2.2⟩, fun h => ⟨h.1.1, h.1.2, h.2⟩⟩
theorem chain_rds {vs : List Vr} (s : List Nat) (b : List Ev) : ∀ k, Chain vs s (List.replicate k .rd ++ b) ↔ Chain vs s b
  | 0 => Iff.rfl
  | k + 1 => chain_rds s b k
theorem nst_app : ∀ a b : List Ev, nst (a ++ b) = nst a + nst b
  | [], b => by simp [nst]
  | .rd :: r, b => nst_app r b
  | .st i v :: r, b => by
    show nst (r ++ b) + 1 = nst r + 1 + nst b
    rw [nst_app r b]
    omega
theorem nst_rds : ∀ k, nst (List.replicate k Ev.rd) = 0
  | 0 => rfl
  | k + 1 => nst_rds k
theorem end_ok {vs : List Vr} (hv : ∀ v ∈ vs, OkV v) : ∀ (s : List Nat) (l : List Ev), OkS vs s → Chain vs s l → OkS vs (endS s l)
  | s, [], hs, _ => hs
  | s, .rd :: r, hs, hc => end_ok hv s r hs hc
  | s, .st i v :: r, hs, hc => by
    have hm : vr vs i ∈ vs := List.mem_of_getElem? (vr_get hc.1.1)
    exact end_ok hv _ r (oks_set hs hc.1.1 ((hv _ hm).2.2 _ hc.1.2).2.1) hc.2
def nrd (l : List Ev) : Nat := l.length - nst l
theorem nrd_app (a b : List Ev) : nrd (a ++ b) = nrd a + nrd b := by
  unfold nrd
  rw [nst_app, List.length_append]
  have := nst_le a
  have := nst_le b
  omega
theorem nrd_rds (k : Nat) : nrd (List.replicate k .rd) = k := by
  unfold nrd
  rw [nst_rds, List.length_replicate, Nat.sub_zero]
theorem nrd_rd : nrd [Ev.rd] = 1 := rfl
theorem nrd_st (i v : Nat) : nrd [Ev.st i v] = 0 := rfl
theorem run_ok {w : Wd} {p : Pl} {s : List Nat} {l : List Ev} (h1 : OkW w) (h2 : OkPl w.vs.length p) (hs : OkS w.vs s) (hb : ∀ b, w.st = some b → s = b) (hc : Chain w.vs s l) (hr : nrd l = p.length) (hl : l.length ≤ 900) : OkR w p (s, l) :=
  ⟨h1, h2, hs, hb, hc, by
    have := rds_len (s, l)
    have h3 := nst_le l
    unfold nrd at hr
    have : (rds (s, l)).length + nst l = l.length := this
    omega, hl⟩
theorem ne_nil_moves (l : List (Nat × Nat)) {q : D → Prop} : fNeX (.lst (l.map eP)) (.lst []) q = q (.bl (!decide (l = []))) := by
  rw [f_neL]
  have e := (EqE.lst eqe_P).eq l []
  have o1 := ((EqE.lst eqe_P).sh l).ok (by decide)
  have o2 := ((EqE.lst eqe_P).sh []).ok (by decide)
  have e : eqD (.lst (l.map eP)) (.lst []) = decide (l = []) := e
  rw [e, show okD (.lst (l.map eP)) = true from o1, show okD (.lst []) = true from o2]
  simp
theorem ev_take (l : List Ev) (k : Nat) : DL.cutD (l.map eEv) none (some (k : Int)) = (l.take k).map eEv := by rw [cutD_to, List.map_take]
theorem ev_drop (l : List Ev) (k : Nat) : DL.cutD (l.map eEv) (some (k : Int)) none = (l.drop k).map eEv := by rw [cutD_from, List.map_drop]
theorem ev_rds (k : Nat) : (List.replicate k [D.tup [D.str "read"]]).flatten = (List.replicate k Ev.rd).map eEv := by rw [flat_one, List.map_replicate] <;> rfl
theorem moves_live {w : Wd} (h1 : OkW w) (h : Live w) {s : List Nat} (hs : OkS w.vs s) : moves w.vs s ≠ [] := fun e => by
  have hne := h1.ne
  obtain ⟨q, hq, eq⟩ := h 0 (by omega) (nth s 0) (hs.2 0 (by omega))
  have hm : (0, q.2) ∈ moves w.vs s := by
    unfold moves
    refine List.mem_flatMap.mpr ⟨(vr w.vs 0, 0), ?_, List.mem_map.mpr ⟨q, List.mem_filter.mpr ⟨hq, decide_eq_true eq⟩, rfl⟩⟩
    have hg := vr_get (vs := w.vs) (i := 0) (by omega)
    obtain ⟨hi, e2⟩ := List.getElem?_eq_some_iff.mp hg
    exact List.mem_iff_getElem.mpr ⟨0, by rw [List.length_zipIdx]; omega, by rw [List.getElem_zipIdx, e2] <;> rfl⟩
  rw [e] at hm
  simp at hm
abbrev s__law_tape : Stmt := topS 76
abbrev N__law_tape : List Str := ["_law_pot_here", "_law_web", "_law_scheme_here", "_law_most", "_law_here", "_law_waiting", "_law_deeds", "_law_pace", "_law_begin_here", "_law_turn", "_law_moves_here", "_law_spot", "_law_one", "_law_place"]
abbrev P__law_tape : List Str := ["_law_pot_here", "_law_web", "_law_scheme_here", "_law_most"]
theorem sc__law_tape : FnScope N__law_tape P__law_tape (defScope s__law_tape) := ⟨rfl, rfl, rfl, by decide +kernel, rfl, by decide +kernel, by decide +kernel⟩
theorem ok__law_tape {f : Addr} {fd : FuncData} (F : Fun K "_law_tape" "_law_tape" s__law_tape f fd) (T : Tx K mg) (F__law_begin : Fk P w K mg base "_law_begin" 2 P__law_begin (spOf K TT sp__law_begin)) (F__law_moves : Fk P w K mg base "_law_moves" 1 P__law_moves (spOf K TT sp__law_moves)) (F__law_of : Fk P w K mg base "_law_of" 2 P__law_of (spOf K TT sp__law_of)) (F__law_put : Fk P w K mg base "_law_put" 1 P__law_put (spOf K TT sp__law_put)) (F__law_take : Fk P w K mg base "_law_take" 1 P__law_take (spOf K TT sp__law_take)) : FnOk P w K mg base CX0 3 f fd P__law_tape (spOf K TT sp__law_tape) := by
  refine fun_okD (k := 2) F sc__law_tape len__law_tape fun cdv A outer s H E hr => ?_
  have hu := hr.units
  have hu1 := hu_of hr
  have hu65 := hu65_of hr
  refine ⟨_, (pss_cons (ps_asg (pe_tup (pa_cons (pe_callF F__law_begin (hr.mono (by decide)) (by rfl) (pa_cons (pv 0) (pa_cons (pv 1) pa_nil))) (pa_cons (pe_callB (lenK (K := K) rfl) (by rfl) T.nb_len (by decide +kernel) (pa_cons (pv 2) pa_nil)) (pa_cons (pe_lstM pa_nil) (pa_cons (pe_callF F__law_of (hr.mono (by decide)) (by rfl) (pa_cons (pv 0) (pa_cons (pe_lst (pa_cons pe_int (pa_cons pe_int (pa_cons pe_int (pa_cons pe_int pa_nil))))) pa_nil))) pa_nil))))) (tgK 4 (K := K) rfl rfl (pgs_cons (pg_name (i := 4) sc__law_tape.nd rfl (by first | exact Or.inl rfl | exact Or.inr rfl)) (pgs_cons (pg_name (i := 5) sc__law_tape.nd rfl (by first | exact Or.inl rfl | exact Or.inr rfl)) (pgs_cons (pg_name (i := 6) sc__law_tape.nd rfl (by first | exact Or.inl rfl | exact Or.inr rfl)) (pgs_cons (pg_name (i := 7) sc__law_tape.nd rfl (by first | exact Or.inl rfl | exact Or.inr rfl)) pgs_nil))))))
    (pss_cons (ps_set (i := 8) sc__law_tape.nd rfl (by first | exact Or.inl rfl | exact Or.inr rfl) (pv 4))
    (pss_cons (ps_for PassesOwn.never rfl (pi_range1 (by rfl) T.nb_range (pa_cons (pe_callF F__law_take (hr.mono (by decide)) (by rfl) (pa_cons (pv 0) (pa_cons (pe_op (addK (K := K) rfl) (pv 3) pe_int) pa_nil))) pa_nil)) (pg_name (i := 9) sc__law_tape.nd rfl (by first | exact Or.inl rfl | exact Or.inr rfl))
      (pss_cons (ps_while PassesOwn.never (PW.pt (pw_and (pt_cmpR op_gt (pv 5) pe_int (nomark _)) (pw_and1 (pt_cmpR (eqK (K := K) rfl hu) (pe_callF F__law_take (hr.mono (by decide)) (by rfl) (pa_cons (pv 0) (pa_cons (pv 7) pa_nil))) pe_int (nomark _)))))
      (pss_cons (ps_expr (pe_bm PySem.F.plainAttrs_list PySem.F.slot_list_append PySem.F.type_list_append mt_append (pvM 6) (pa_cons (pe_tup (pa_cons pe_str pa_nil)) pa_nil)))
    (pss_one (ps_set (i := 5) sc__law_tape.nd rfl (by first | exact Or.inl rfl | exact Or.inr rfl) (pe_op op_sub (pv 5) pe_int)))))
    (pss_cons (ps_set (i := 10) sc__law_tape.nd rfl (by first | exact Or.inl rfl | exact Or.inr rfl) (pe_callF F__law_moves (hr.mono (by decide)) (by rfl) (pa_cons (pv 1) (pa_cons (pv 4) pa_nil))))
    (pss_one (ps_if (pt_cmpR (neK (K := K) rfl hu) (pv 10) (pe_lst pa_nil) (nomark _)) (pss_cons (ps_asg (pe_callF F__law_of (hr.mono (by decide)) (by rfl) (pa_cons (pv 0) (pa_cons (pv 10) pa_nil))) (tgK 2 (K := K) rfl rfl (pgs_cons (pg_name (i := 11) sc__law_tape.nd rfl (by first | exact Or.inl rfl | exact Or.inr rfl)) (pgs_cons (pg_name (i := 12) sc__law_tape.nd rfl (by first | exact Or.inl rfl | exact Or.inr rfl)) pgs_nil))))
    (pss_cons (ps_expr (pe_bm PySem.F.plainAttrs_list PySem.F.slot_list_append PySem.F.type_list_append mt_append (pvM 6) (pa_cons (pe_tup (pa_cons pe_str (pa_cons (pv 11) (pa_cons (pv 12) pa_nil)))) pa_nil)))
    (pss_one (ps_set (i := 4) sc__law_tape.nd rfl (by first | exact Or.inl rfl | exact Or.inr rfl) (pe_callF F__law_put (hr.mono (by decide)) (by rfl) (pa_cons (pv 4) (pa_cons (pv 11) (pa_cons (pv 12) pa_nil)))))))) pss_nil)))))
    (pss_cons (ps_set (i := 13) sc__law_tape.nd rfl (by first | exact Or.inl rfl | exact Or.inr rfl) (pe_ifExp (PW.pt (pw_or (pt_cmpR (eqK (K := K) rfl hu) (pe_callF F__law_take (hr.mono (by decide)) (by rfl) (pa_cons (pv 0) (pa_cons pe_int pa_nil))) pe_int (nomark _)) (pw_or1 (pt_cmpR op_lt (pv 5) (pe_callB (lenK (K := K) rfl) (by rfl) T.nb_len (by decide +kernel) (pa_cons (pv 2) pa_nil)) (nomark _))))) (pe_callB (lenK (K := K) rfl) (by rfl) T.nb_len (by decide +kernel) (pa_cons (pvM 6) pa_nil)) (pe_callF F__law_take (hr.mono (by decide)) (by rfl) (pa_cons (pv 0) (pa_cons (pe_op (addK (K := K) rfl) (pe_callB (lenK (K := K) rfl) (by rfl) T.nb_len (by decide +kernel) (pa_cons (pvM 6) pa_nil)) pe_int) pa_nil)))))
    (pss_frz 6 (pss_one (ps_ret (pe_tup (pa_cons (pv 8) (pa_cons (pe_callTy (tupK (K := K) rfl) (by rfl) T.nb_tuple (by decide +kernel) (pa_cons (pe_op (addK (K := K) rfl) (pe_op (addK (K := K) rfl) (pe_slice (slK (K := K) rfl) (pv 6) po_none (po_some (pv 13))) (pe_op op_mulX (pe_lst (pa_cons (pe_tup (pa_cons pe_str pa_nil)) pa_nil)) (pv 5))) (pe_slice (slK (K := K) rfl) (pv 6) (po_some (pv 13)) po_none)) pa_nil)) pa_nil)))))))))), ?_⟩
  try dsimp only [cxOf]
  refine ex_snd ?_
  intro ds S Qd h
  obtain ⟨w, p, n, rfl, h1, h2, h3, h4, h⟩ := h
  walk_at "dsem"
  have hf := h1.few
  refine ⟨w, rfl, h1, by omega, fun s0 S1 hs0 hb hS1 => ?_⟩
  refine ⟨_, rfl, by simp, by simp, by omega, fun pc S2 hpc hS2 => ?_⟩
  obtain ⟨pace, rfl, hp1, hp2⟩ : ∃ pace : Nat, pc = .int pace ∧ 1 ≤ pace ∧ pace ≤ 40 := by
    simp only [List.mem_cons, List.not_mem_nil, or_false] at hpc
    rcases hpc with rfl | rfl | rfl | rfl
    · exact ⟨2, rfl, by omega, by omega⟩
    · exact ⟨3, rfl, by omega, by omega⟩
    · exact ⟨6, rfl, by omega, by omega⟩
    · exact ⟨40, rfl, by omega, by omega⟩
  refine ⟨rfl, n + 1, rfl, by omega, by omega, by omega, fun v S3 hv hS3 => ?_⟩
  walk_at "dsem"
  refine ⟨by omega, ?_⟩
  rw [rgD_map]
  intro _
  rw [List.length_map]
  refine forD_ind eN (fun rem ρ S' => ∃ (done : List Nat) (evs : List Ev) (wt : Nat) (a b c d : Option D), ρ = [some D.pot, some (D.tup [D.tup (List.map eVr w.vs), eSt w.st, eFn w.fn]), some (D.tup (List.map eNs p)), some (D.int n), some (D.tup ((endS s0 evs).map eN)), some (D.int wt),
      some (D.mu (evs.map eEv)), some (D.int pace), some (D.tup (s0.map eN)), a, b, c, d, none] ∧ done ++ rem = List.range v ∧ Chain w.vs s0 evs ∧ nrd evs + wt = p.length ∧ nst evs ≤ done.length ∧ S' + wt ≤ S3 + 2 * done.length + p.length) ?_ ?_ _ _ _ ⟨[], [], p.length, none, none, none, none, rfl, rfl, trivial, by simp [nrd], by simp [nst], by simp⟩
  · rintro turn rem ρ S' nx ⟨done, evs, wt, a, b, c, d, rfl, hd, hc, hr, hn, hS⟩ hnx
    have hlen := congrArg List.length hd
    rw [List.length_append, List.length_cons, List.length_range] at hlen
    walk_at "dsem"
    refine ⟨fun k ρ S4 => ∃ (evs : List Ev) (wt : Nat), ρ = [some D.pot, some (D.tup [D.tup (List.map eVr w.vs), eSt w.st, eFn w.fn]), some (D.tup (List.map eNs p)), some (D.int n), some (D.tup ((endS s0 evs).map eN)), some (D.int wt),
      some (D.mu (evs.map eEv)), some (D.int pace), some (D.tup (s0.map eN)), some (D.int turn), b, c, d, none] ∧ Chain w.vs s0 evs ∧ nrd evs + wt = p.length ∧ nst evs ≤ done.length ∧ S4 + wt ≤ S3 + 2 * done.length + p.length ∧ k = wt, ⟨wt, evs, wt, rfl, hc, hr, hn, hS, rfl⟩, ?_⟩
    rintro k ρ S4 ⟨evs, wt, rfl, hc, hr, hn, hS4, rfl⟩
    have hevl : evs.length = nrd evs + nst evs := by have := nst_le evs; unfold nrd; omega
    -- behind the while
    have rest : ∀ S5, S5 ≤ S4 + 1 → sp__law_moves [D.tup [D.tup (List.map eVr w.vs), eSt w.st, eFn w.fn], D.tup ((endS s0 evs).map eN)] S5 fun dm S6 => dm.isMut = false ∧ fNeX dm (.lst []) fun dd => asB dd fun bb => if bb = true then
          dm.isMut = false ∧ sp__law_of [.pot, dm] S6 fun dx S7 => asT dx fun xs => xs.length = 2 ∧ dgCons (dgName 11) (dgCons (dgName 12) dgNil) xs [some D.pot, some (D.tup [D.tup (List.map eVr w.vs), eSt w.st, eFn w.fn]), some (D.tup (List.map eNs p)), some (D.int n), some (D.tup ((endS s0 evs).map eN)), some (D.int k),
      some (D.mu (evs.map eEv)), some (D.int pace), some (D.tup (s0.map eN)), some (D.int turn), some dm, c, d, none] fun ρ' => dApp 6 (dTup (dCons (dC (D.str (Str.ofString "step"))) (dCons (dVar 11) (dCons (dVar 12) dNil)))) { nx := fun ρ S => dAsg (dCall sp__law_put (dCons (dVar 4) (dCons (dVar 11) (dCons (dVar 12) dNil)))) (dgName 4) { nx := nx, rt := Qd, bk := fun _ _ => True, ct := nx } ρ S, rt := Qd } ρ' S7
        else nx [some D.pot, some (D.tup [D.tup (List.map eVr w.vs), eSt w.st, eFn w.fn]), some (D.tup (List.map eNs p)), some (D.int n), some (D.tup ((endS s0 evs).map eN)), some (D.int k),
      some (D.mu (evs.map eEv)), some (D.int pace), some (D.tup (s0.map eN)), some (D.int turn), some dm, c, d, none] S6 := fun S5 hS5 => by
      have hok := end_ok (okvs h1) s0 evs hs0 hc
      refine ⟨w, endS s0 evs, rfl, h1, hok, rfl, ?_⟩
      show fNeX (.lst ((moves w.vs (endS s0 evs)).map eP)) (.lst []) _
      rw [ne_nil_moves]
      walk_at "dsem"
      by_cases cm : moves w.vs (endS s0 evs) = []
      · rw [decide_eq_true cm]
        walk_at "dsem"
        exact hnx _ _ ⟨done ++ [turn], evs, k, _, _, _, _, rfl, by rw [← hd]; simp, hc, hr, by rw [List.length_append, List.length_singleton]; omega, by rw [List.length_append, List.length_singleton]; omega⟩
      · rw [decide_eq_false cm]
        walk_at "dsem"
        have hml := moves_len h1 (endS s0 evs)
        refine ⟨_, rfl, by simpa using cm, by rw [List.length_map]; omega, by omega, fun x S7 hx hS7 => ?_⟩
        obtain ⟨q, hq, rfl⟩ := List.mem_map.mp hx
        have hqm := moves_mem hq
        walk_at "dsem"
        refine ⟨by rw [List.length_map]; omega, endS s0 evs, q.1, q.2, rfl, by rw [hok.1]; exact hqm.1, by rw [hok.1]; exact hf, ?_⟩
        refine hnx _ _ ⟨done ++ [turn], evs ++ [.st q.1 q.2], k, some (D.int turn), some (D.lst ((moves w.vs (endS s0 evs)).map eP)), some (D.int q.1), some (D.int q.2), ?_, by rw [← hd]; simp, (chain_app s0 evs [.st q.1 q.2]).mpr ⟨hc, hqm, trivial⟩, by rw [nrd_app, nrd_st]; exact hr, by rw [nst_app, List.length_append, List.length_singleton]; show nst evs + 1 ≤ _; omega, by rw [List.length_append, List.length_singleton]; omega⟩
        rw [endS_app, map_snoc] <;> rfl
    walk_at "dsem"
    by_cases ck : 0 < k
    · rw [if_pos (decide_eq_true (by omega))]
      refine ⟨pace, rfl, hp1, by omega, by omega, fun u S5 hu hS5 => ?_⟩
      walk_at "dsem"
      by_cases cu : u = 0
      · rw [if_pos (decide_eq_true (by omega))]
        refine ⟨by rw [List.length_map]; omega, k - 1, by omega, evs ++ [.rd], k - 1, ?_, (chain_app s0 evs [.rd]).mpr ⟨hc, trivial⟩, by rw [nrd_app, nrd_rd]; omega, by rw [nst_app]; show nst evs + 0 ≤ _; omega, by omega, rfl⟩
        rw [endS_app, map_snoc, show ((k - 1 : Nat) : Int) = (k : Int) - 1 by omega] <;> rfl
      · rw [if_neg (by rw [decide_eq_true_eq]; omega)]
        have z := rest S5 hS5
        revert z
        walk_at "dsem"
        exact fun z => z
    · rw [if_neg (by rw [decide_eq_true_eq]; omega)]
      have z := rest S4 (by omega)
      revert z
      walk_at "dsem"
      exact fun z => z
  · rintro ρ S' ⟨done, evs, wt, a, b, c, d, rfl, hd, hc, hr, hn, hS⟩
    have hlen := congrArg List.length hd
    rw [List.append_nil, List.length_range] at hlen
    have hevl : evs.length = nrd evs + nst evs := by have := nst_le evs; unfold nrd; omega
    have fin : ∀ (k S2 : Nat), S2 ≤ S + 100000 → Qd (D.tup [D.tup (s0.map eN), D.tup (((evs.take k ++ List.replicate wt Ev.rd) ++ evs.drop k).map eEv)]) S2 := fun k S2 hS2 => by
      have e : Chain w.vs s0 ((evs.take k ++ List.replicate wt Ev.rd) ++ evs.drop k) := by
        rw [List.append_assoc, chain_app, chain_rds, ← chain_app, List.take_append_drop]
        exact hc
      have e2 : nrd ((evs.take k ++ List.replicate wt Ev.rd) ++ evs.drop k) = p.length := by
        rw [nrd_app, nrd_app, nrd_rds, ← hr]
        have := nrd_app (evs.take k) (evs.drop k)
        rw [List.take_append_drop] at this
        omega
      have e3 : ((evs.take k ++ List.replicate wt Ev.rd) ++ evs.drop k).length ≤ 900 := by
        rw [List.length_append, List.length_append, List.length_replicate]
        have := congrArg List.length (List.take_append_drop k evs)
        rw [List.length_append] at this
        omega
      exact h (s0, _) S2 (run_ok h1 h2 hs0 hb e e2 e3) hS2
    walk_at "dsem"
    refine ⟨2, rfl, by omega, by omega, by omega, fun u S5 hu hS5 => ?_⟩
    walk_at "dsem"
    have key : ∀ (k S6 : Nat), k ≤ evs.length → S6 ≤ S + 100000 → (DL.cutD (List.map eEv evs) none (some (k : Int))).length + (List.replicate wt [D.tup [D.str "read"]]).flatten.length ≤ sizeLine ∧
        (DL.cutD (List.map eEv evs) none (some (k : Int)) ++ (List.replicate wt [D.tup [D.str "read"]]).flatten).length + (DL.cutD (List.map eEv evs) (some (k : Int)) none).length ≤ sizeLine ∧
          Qd (D.tup [D.tup (List.map eN s0), D.tup (DL.cutD (List.map eEv evs) none (some (k : Int)) ++ (List.replicate wt [D.tup [D.str "read"]]).flatten ++ DL.cutD (List.map eEv evs) (some (k : Int)) none)]) S6 := fun k S6 hk hS6 => by
      rw [ev_take, ev_drop, ev_rds, ← List.map_append, ← List.map_append, List.length_map, List.length_map, List.length_map, List.length_map, List.length_append, List.length_replicate, List.length_take, List.length_drop]
      exact ⟨line_of (by omega), line_of (by omega), fin k S6 hS6⟩
    rw [List.length_map, List.length_map, Int.toNat_natCast]
    have hwt : (0 : Int) ≤ (wt : Int) ∧ (wt : Int) < 10000 := by omega
    by_cases cu : u = 0
    · rw [if_pos (decide_eq_true (by omega))]
      exact ⟨hwt, key _ _ (Nat.le_refl _) (by omega)⟩
    · rw [if_neg (by rw [decide_eq_true_eq]; omega)]
      by_cases cw : wt < p.length
      · rw [if_pos (decide_eq_true (by omega))]
        exact ⟨hwt, key _ _ (Nat.le_refl _) (by omega)⟩
      · rw [if_neg (by rw [decide_eq_true_eq]; omega)]
        refine ⟨evs.length + 1, rfl, by omega, by omega, by omega, fun k S6 hk hS6 => ?_⟩
        walk_at "dsem"
        exact ⟨hwt, key k S6 (by omega) (by omega)⟩
def LiveV (v : Vr) : Prop := ∀ x, x < v.1 → ∃ q ∈ v.2, q.1 = x
theorem nat_pairs {l : List (Nat × Nat)} {qs : List (Int × Int)} (h : qs.Perm (l.map fun q => ((q.1 : Int), (q.2 : Int)))) : ∃ ks : List (Nat × Nat), qs.map DL.prD = ks.map eP ∧ ks.Perm l := by
  refine ⟨qs.map fun q => (q.1.toNat, q.2.toNat), ?_, ?_⟩
  · rw [List.map_map]
    apply List.map_congr_left
    intro q hq
    obtain ⟨x, _, e⟩ := List.mem_map.mp (h.mem_iff.mp hq)
    rw [← e] <;> rfl
  · have := h.map fun q => (q.1.toNat, q.2.toNat)
    rw [List.map_map] at this
    have e : l.map ((fun q : Int × Int => (q.1.toNat, q.2.toNat)) ∘ fun q : Nat × Nat => ((q.1 : Int), (q.2 : Int))) = l := by
      have : ((fun q : Int × Int => (q.1.toNat, q.2.toNat)) ∘ fun q : Nat × Nat => ((q.1 : Int), (q.2 : Int))) = id := by funext q; rfl
      rw [this, List.map_id]
    rwa [e] at this
abbrev s__law_wide_sum : Stmt := topS 90
abbrev N__law_wide_sum : List Str := ["_law_pot_here", "_law_variables", "_law_rows", "_law_turn", "_law_size", "_law_pairs", "_law_a", "_law_one"]
abbrev P__law_wide_sum : List Str := ["_law_pot_here"]
theorem sc__law_wide_sum : FnScope N__law_wide_sum P__law_wide_sum (defScope s__law_wide_sum) := ⟨rfl, rfl, rfl, by decide +kernel, rfl, by decide +kernel, by decide +kernel⟩
theorem ok__law_wide_sum {f : Addr} {fd : FuncData} (F : Fun K "_law_wide_sum" "_law_wide_sum" s__law_wide_sum f fd) (T : Tx K mg) (F__law_of : Fk P w K mg base "_law_of" 2 P__law_of (spOf K TT sp__law_of)) (F__law_take : Fk P w K mg base "_law_take" 1 P__law_take (spOf K TT sp__law_take)) : FnOk P w K mg base CX0 3 f fd P__law_wide_sum (spOf K TT sp__law_wide_sum) := by
  refine fun_okD (k := 2) F sc__law_wide_sum len__law_wide_sum fun cdv A outer s H E hr => ?_
  have hu := hr.units
  have hu1 := hu_of hr
  have hu65 := hu65_of hr
  refine ⟨_, (pss_cons (ps_par (i := 1) (j := 2) rfl sc__law_wide_sum.nd rfl rfl (by decide) rfl rfl (pa_cons (pe_lstM pa_nil) (pa_cons (pe_lstM pa_nil) pa_nil)) (by rfl))
    (pss_cons (ps_for PassesOwn.never rfl (pi_range1 (by rfl) T.nb_range (pa_cons (pe_op (addK (K := K) rfl) pe_int (pe_callF F__law_take (hr.mono (by decide)) (by rfl) (pa_cons (pv 0) (pa_cons pe_int pa_nil)))) pa_nil)) (pg_name (i := 3) sc__law_wide_sum.nd rfl (by first | exact Or.inl rfl | exact Or.inr rfl))
      (pss_cons (ps_set (i := 4) sc__law_wide_sum.nd rfl (by first | exact Or.inl rfl | exact Or.inr rfl) (pe_op (addK (K := K) rfl) pe_int (pe_callF F__law_take (hr.mono (by decide)) (by rfl) (pa_cons (pv 0) (pa_cons pe_int pa_nil)))))
    (pss_cons (ps_set (i := 5) sc__law_wide_sum.nd rfl (by first | exact Or.inl rfl | exact Or.inr rfl) (pe_op (addK (K := K) rfl) (pe_lcV (vs := [6]) [("_law_a", 6)] rfl sc__law_wide_sum.nd (pi_range1 (by rfl) T.nb_range (pa_cons (pe_op op_sub (pv 4) pe_int) pa_nil)) (show blkC N__law_wide_sum (defScope s__law_wide_sum) _ [("_law_a", 6)] = true by decide +kernel) rfl (fun _ _ _ _ _ => (pg_name (i := 6) sc__law_wide_sum.nd rfl (by first | exact Or.inl rfl | exact Or.inr rfl))) (fun _ _ _ _ _ => pts_nil) (fun _ _ _ _ _ => (pe_tup (pa_cons (pv 6) (pa_cons (pe_op (addK (K := K) rfl) (pv 6) pe_int) pa_nil))))) (pe_lcV (vs := [6]) [("_law_a", 6)] rfl sc__law_wide_sum.nd (pi_range1 (by rfl) T.nb_range (pa_cons (pe_op op_sub (pv 4) pe_int) pa_nil)) (show blkC N__law_wide_sum (defScope s__law_wide_sum) _ [("_law_a", 6)] = true by decide +kernel) rfl (fun _ _ _ _ _ => (pg_name (i := 6) sc__law_wide_sum.nd rfl (by first | exact Or.inl rfl | exact Or.inr rfl))) (fun _ _ _ _ _ => pts_nil) (fun _ _ _ _ _ => (pe_tup (pa_cons (pe_op (addK (K := K) rfl) (pv 6) pe_int) (pa_cons (pv 6) pa_nil)))))))
    (pss_cons (ps_expr (pe_bm PySem.F.plainAttrs_list PySem.F.slot_list_append PySem.F.type_list_append mt_append (pvM 1) (pa_cons (pe_tup (pa_cons (pv 4) (pa_cons (pe_callTy (tupK (K := K) rfl) (by rfl) T.nb_tuple (by decide +kernel) (pa_cons (pe_callB (sortK (K := K) rfl rfl) (by rfl) T.nb_sorted (by decide +kernel) (pa_cons (pv 5) pa_nil)) pa_nil)) pa_nil))) pa_nil)))
    (pss_one (ps_expr (pe_bm PySem.F.plainAttrs_list PySem.F.slot_list_append PySem.F.type_list_append mt_append (pvM 2) (pa_cons (pe_callTy (tupK (K := K) rfl) (by rfl) T.nb_tuple (by decide +kernel) (pa_cons (pe_lcV (vs := [7]) [("_law_one", 7)] rfl sc__law_wide_sum.nd (pi_range1 (by rfl) T.nb_range (pa_cons (pv 4) pa_nil)) (show blkC N__law_wide_sum (defScope s__law_wide_sum) _ [("_law_one", 7)] = true by decide +kernel) rfl (fun _ _ _ _ _ => (pg_name (i := 7) sc__law_wide_sum.nd rfl (by first | exact Or.inl rfl | exact Or.inr rfl))) (fun _ _ _ _ _ => pts_nil) (fun _ _ _ _ _ => (pe_callF F__law_of (hr.mono (by decide)) (by rfl) (pa_cons (pv 0) (pa_cons (pe_lst (pa_cons pe_int (pa_cons pe_int (pa_cons pe_int (pa_cons (pv 7) (pa_cons (pe_op op_sub pe_int (pv 7)) (pa_cons (pe_op op_sub (pe_callF F__law_take (hr.mono (by decide)) (by rfl) (pa_cons (pv 0) (pa_cons pe_int pa_nil))) pe_int) pa_nil))))))) pa_nil))))) pa_nil)) pa_nil))))))))
    (pss_frz 1 (pss_frz 2 (pss_one (ps_ret (pe_tup (pa_cons (pe_callTy (tupK (K := K) rfl) (by rfl) T.nb_tuple (by decide +kernel) (pa_cons (pv 1) pa_nil)) (pa_cons pe_non (pa_cons (pe_tup (pa_cons pe_str (pa_cons (pe_callTy (tupK (K := K) rfl) (by rfl) T.nb_tuple (by decide +kernel) (pa_cons (pv 2) pa_nil)) pa_nil))) pa_nil)))))))))), ?_⟩
  try dsimp only [cxOf]
  refine ex_snd ?_
  intro ds S Qd h
  obtain ⟨rfl, h1, h⟩ := h
  walk_at "dsem"
  refine ⟨32, rfl, by omega, by omega, by omega, fun v S1 hv hS1 => ?_⟩
  walk_at "dsem"
  have e : (9 : Int) + (v : Nat) = ((v + 9 : Nat) : Int) := by omega
  rw [e]
  refine ⟨by omega, ?_⟩
  rw [rgD_map]
  intro _
  refine forD_ind eN (fun rem ρ S' => ∃ (done : List Nat) (vs : List Vr) (ys : List (List Int)) (a b c d f : Option D), ρ = [some D.pot, some (D.mu (vs.map eVr)), some (D.mu (ys.map eIs)), a, b, c, d, f] ∧ done ++ rem = List.range (v + 9) ∧ vs.length = done.length ∧ ys.length = done.length ∧ (∀ q ∈ vs.zip ys, q.2.length = q.1.1) ∧ (∀ x ∈ vs, OkV x ∧ LiveV x) ∧ S' ≤ S1 + done.length * 9) ?_ ?_ _ _ _
    ⟨[], [], [], none, none, none, none, none, rfl, rfl, rfl, rfl, fun q hq => by simp at hq, fun x hx => by simp at hx, by simp⟩
  · rintro turn rem ρ S' nx ⟨done, vs, ys, a, b, c, d, f, rfl, hd, hvl, hyl, hz, hok, hS⟩ hnx
    have hlen := congrArg List.length hd
    rw [List.length_append, List.length_cons, List.length_range] at hlen
    walk_at "dsem"
    refine ⟨3, rfl, by omega, by omega, by omega, fun u S2 hu hS2 => ?_⟩
    walk_at "dsem"
    have e2 : (2 : Int) + (u : Nat) - 1 = ((u + 1 : Nat) : Int) := by omega
    have e3 : (2 : Int) + (u : Nat) = ((u + 2 : Nat) : Int) := by omega
    rw [e2, e3]
    refine ⟨by omega, ?_⟩
    rw [rgD_map, List.length_map, List.length_range]
    refine ⟨lt_line (by omega), ?_⟩
    refine lcD_all eN (fun a => eP (a, a + 1)) _ (fun i hi k1 k2 hk => ?_) ?_
    · walk_at "dsem"
      exact hk
    walk_at "dsem"
    refine ⟨by omega, lt_line (by omega), ?_⟩
    refine lcD_all eN (fun a => eP (a + 1, a)) _ (fun i hi k1 k2 hk => ?_) ?_
    · walk_at "dsem"
      exact hk
    walk_at "dsem"
    rw [List.length_map, List.length_map, List.length_range]
    refine ⟨line_of (by omega), .inr ⟨(((List.range (u + 1)).map fun a : Nat => ((a, a + 1) : Nat × Nat)) ++ (List.range (u + 1)).map fun a : Nat => ((a + 1, a) : Nat × Nat)).map fun q : Nat × Nat => ((q.1 : Int), (q.2 : Int)), ?_, fun qs hp _ => ?_⟩⟩
    · rw [List.map_append, List.map_append, List.map_map, List.map_map, List.map_map, List.map_map] <;> rfl
    obtain ⟨ks, hks, hkp⟩ := nat_pairs hp
    rw [hks]
    have hkl : ks.length = (u + 1) + (u + 1) := by rw [hkp.length_eq, List.length_append, List.length_map, List.length_map, List.length_range]
    have hkm : ∀ q, q ∈ ks ↔ (∃ a, a < u + 1 ∧ q = (a, a + 1)) ∨ ∃ a, a < u + 1 ∧ q = (a + 1, a) := fun q => by
      rw [hkp.mem_iff, List.mem_append, List.mem_map, List.mem_map]
      constructor
      · rintro (⟨a, ha, rfl⟩ | ⟨a, ha, rfl⟩)
        · exact .inl ⟨a, List.mem_range.mp ha, rfl⟩
        · exact .inr ⟨a, List.mem_range.mp ha, rfl⟩
      · rintro (⟨a, ha, rfl⟩ | ⟨a, ha, rfl⟩)
        · exact .inl ⟨a, List.mem_range.mpr ha, rfl⟩
        · exact .inr ⟨a, List.mem_range.mpr ha, rfl⟩
    have hkv : OkV (u + 2, ks) := ⟨⟨by omega, by show u + 2 ≤ 4; omega⟩, by show ks.length ≤ 16; omega, fun q hq => by
      rcases (hkm q).mp hq with ⟨a, ha, rfl⟩ | ⟨a, ha, rfl⟩
      · exact ⟨by show a < u + 2; omega, by show a + 1 < u + 2; omega, by show a ≠ a + 1; omega⟩
      · exact ⟨by show a + 1 < u + 2; omega, by show a < u + 2; omega, by show a + 1 ≠ a; omega⟩⟩
    have hkl2 : LiveV (u + 2, ks) := fun x hx => by
      have hx : x < u + 2 := hx
      by_cases c : x < u + 1
      · exact ⟨(x, x + 1), (hkm _).mpr (.inl ⟨x, c, rfl⟩), rfl⟩
      · exact ⟨(x, x - 1), (hkm _).mpr (.inr ⟨x - 1, by omega, by rw [show x - 1 + 1 = x by omega]⟩), rfl⟩
    refine ⟨by rw [List.length_map]; omega, by omega, ?_⟩
    rw [rgD_map, List.length_map, List.length_range]
    refine ⟨lt_line (by omega), ?_⟩
    refine lcD_draw eN D.int (fun _ _ => True) 2 _ (fun i hi S3 k3 k4 hS3 hk3 => ?_) fun zs S3 hl3 _ hS3 => ?_
    · rw [List.length_range] at hS3
      walk_at "dsem"
      refine ⟨9, rfl, by omega, by omega, by omega, fun y S4 hy hS4 => ?_⟩
      walk_at "dsem"
      refine ⟨_, rfl, by simp, by simp, by omega, fun x S5 hx hS5 => ?_⟩
      simp only [List.mem_cons, List.not_mem_nil, or_false] at hx
      rcases hx with rfl | rfl | rfl | rfl | rfl | rfl <;> exact hk3 _ _ trivial (by omega)
    · rw [List.length_range] at hl3 hS3
      walk_at "dsem"
      refine ⟨by rw [List.length_map]; omega, hnx _ _ ⟨done ++ [turn], vs ++ [(u + 2, ks)], ys ++ [zs], some (D.int turn), some (D.int (u + 2 : Nat)), some (D.lst (((List.range (u + 1)).map fun a => eP (a, a + 1)) ++ (List.range (u + 1)).map fun a => eP (a + 1, a))), d, f, ?_, by rw [← hd]; simp, by rw [List.length_append, List.length_append, hvl] <;> rfl, by rw [List.length_append, List.length_append, hyl] <;> rfl, fun q hq => ?_, fun x hx => ?_, by rw [List.length_append, List.length_singleton]; omega⟩⟩
      · rw [map_snoc, map_snoc] <;> rfl
      · rw [List.zip_append (by omega)] at hq
        rcases List.mem_append.mp hq with z | z
        · exact hz q z
        · have : q = ((u + 2, ks), zs) := by simpa using z
          rw [this]
          exact hl3
      · rcases List.mem_append.mp hx with z | z
        · exact hok x z
        · rw [List.mem_singleton.mp z]
          exact ⟨hkv, hkl2⟩
  · rintro ρ S' ⟨done, vs, ys, a, b, c, d, f, rfl, hd, hvl, hyl, hz, hok, hS⟩
    have hlen := congrArg List.length hd
    rw [List.append_nil, List.length_range] at hlen
    walk_at "dsem"
    refine h ⟨vs, none, .sm ys⟩ S' ⟨by show 1 ≤ vs.length; omega, by show vs.length ≤ 40; omega, fun x hx => (hok x hx).1.1, fun x hx => (hok x hx).1.2, fun s hs => (by cases hs), rows_ok (show ys.length = vs.length by omega) hz⟩ rfl (fun i hi x hx => ?_) (by omega)
    exact (hok _ (List.mem_of_getElem? (vr_get hi))).2 x hx
abbrev s__law_spread_tape : Stmt := topS 91
abbrev N__law_spread_tape : List Str := ["_law_pot_here", "_law_web", "_law_blocks", "_law_most", "_law_here", "_law_deeds", "_law_begin_here", "_law_turn", "_law_again", "_law_spot", "_law_one", "_law_size", "_law_pairs"]
abbrev P__law_spread_tape : List Str := ["_law_pot_here", "_law_web", "_law_blocks", "_law_most"]
theorem sc__law_spread_tape : FnScope N__law_spread_tape P__law_spread_tape (defScope s__law_spread_tape) := ⟨rfl, rfl, rfl, by decide +kernel, rfl, by decide +kernel, by decide +kernel⟩
theorem ok__law_spread_tape {f : Addr} {fd : FuncData} (F : Fun K "_law_spread_tape" "_law_spread_tape" s__law_spread_tape f fd) (T : Tx K mg) (F__law_moves : Fk P w K mg base "_law_moves" 1 P__law_moves (spOf K TT sp__law_moves)) (F__law_of : Fk P w K mg base "_law_of" 2 P__law_of (spOf K TT sp__law_of)) (F__law_put : Fk P w K mg base "_law_put" 1 P__law_put (spOf K TT sp__law_put)) (F__law_take : Fk P w K mg base "_law_take" 1 P__law_take (spOf K TT sp__law_take)) : FnOk P w K mg base CX0 3 f fd P__law_spread_tape (spOf K TT sp__law_spread_tape) := by
  refine fun_okD (k := 2) F sc__law_spread_tape len__law_spread_tape fun cdv A outer s H E hr => ?_
  have hu := hr.units
  have hu1 := hu_of hr
  have hu65 := hu65_of hr
  refine ⟨_, (pss_cons (ps_par (i := 4) (j := 5) rfl sc__law_spread_tape.nd rfl rfl (by decide) rfl rfl (pa_cons (pe_callTy (tupK (K := K) rfl) (by rfl) T.nb_tuple (by decide +kernel) (pa_cons (pe_lcV (vs := [11, 12]) [("_law_size", 11), ("_law_pairs", 12)] rfl sc__law_spread_tape.nd (seqK (K := K) rfl (pe_ix (ixK (K := K) rfl) (pv 1) pe_int (fun _ _ => rfl))) (show blkC N__law_spread_tape (defScope s__law_spread_tape) _ [("_law_size", 11), ("_law_pairs", 12)] = true by decide +kernel) rfl (fun _ _ _ _ _ => (tgK 2 (K := K) rfl rfl (pgs_cons (pg_name (i := 11) sc__law_spread_tape.nd rfl (by first | exact Or.inl rfl | exact Or.inr rfl)) (pgs_cons (pg_name (i := 12) sc__law_spread_tape.nd rfl (by first | exact Or.inl rfl | exact Or.inr rfl)) pgs_nil)))) (fun _ _ _ _ _ => pts_nil) (fun _ _ _ _ _ => (pe_callF F__law_take (hr.mono (by decide)) (by rfl) (pa_cons (pv 0) (pa_cons (pv 11) pa_nil))))) pa_nil)) (pa_cons (pe_lstM pa_nil) pa_nil)) (by rfl))
    (pss_cons (ps_set (i := 6) sc__law_spread_tape.nd rfl (by first | exact Or.inl rfl | exact Or.inr rfl) (pv 4))
    (pss_cons (ps_for PassesOwn.never rfl (pi_range1 (by rfl) T.nb_range (pa_cons (pe_op (addK (K := K) rfl) (pv 2) pe_int) pa_nil)) (pg_name (i := 7) sc__law_spread_tape.nd rfl (by first | exact Or.inl rfl | exact Or.inr rfl))
      (pss_cons (ps_for PassesOwn.never rfl (pi_range1 (by rfl) T.nb_range (pa_cons (pe_callF F__law_take (hr.mono (by decide)) (by rfl) (pa_cons (pv 0) (pa_cons (pe_op (addK (K := K) rfl) (pv 3) pe_int) pa_nil))) pa_nil)) (pg_name (i := 8) sc__law_spread_tape.nd rfl (by first | exact Or.inl rfl | exact Or.inr rfl))
      (pss_cons (ps_asg (pe_callF F__law_of (hr.mono (by decide)) (by rfl) (pa_cons (pv 0) (pa_cons (pe_callF F__law_moves (hr.mono (by decide)) (by rfl) (pa_cons (pv 1) (pa_cons (pv 4) pa_nil))) pa_nil))) (tgK 2 (K := K) rfl rfl (pgs_cons (pg_name (i := 9) sc__law_spread_tape.nd rfl (by first | exact Or.inl rfl | exact Or.inr rfl)) (pgs_cons (pg_name (i := 10) sc__law_spread_tape.nd rfl (by first | exact Or.inl rfl | exact Or.inr rfl)) pgs_nil))))
    (pss_cons (ps_expr (pe_bm PySem.F.plainAttrs_list PySem.F.slot_list_append PySem.F.type_list_append mt_append (pvM 5) (pa_cons (pe_tup (pa_cons pe_str (pa_cons (pv 9) (pa_cons (pv 10) pa_nil)))) pa_nil)))
    (pss_one (ps_set (i := 4) sc__law_spread_tape.nd rfl (by first | exact Or.inl rfl | exact Or.inr rfl) (pe_callF F__law_put (hr.mono (by decide)) (by rfl) (pa_cons (pv 4) (pa_cons (pv 9) (pa_cons (pv 10) pa_nil)))))))))
    (pss_one (ps_expr (pe_bm PySem.F.plainAttrs_list PySem.F.slot_list_extend PySem.F.type_list_extend mt_extend (pvM 5) (pa_cons (pe_op op_mulX (pe_lst (pa_cons (pe_tup (pa_cons pe_str pa_nil)) pa_nil)) (pe_callTy call_intB (by rfl) T.nb_int (by decide +kernel) (pa_cons (pe_cmpR op_lt (pv 7) (pv 2) (nomark _)) pa_nil))) pa_nil))))))
    (pss_frz 5 (pss_one (ps_ret (pe_tup (pa_cons (pv 6) (pa_cons (pe_callTy (tupK (K := K) rfl) (by rfl) T.nb_tuple (by decide +kernel) (pa_cons (pv 5) pa_nil)) pa_nil))))))))), ?_⟩
  try dsimp only [cxOf]
  refine ex_snd ?_
  intro ds S Qd h
  obtain ⟨w, p, n, rfl, h1, h2, h3, h4, h5, h6, h7, h⟩ := h
  walk_at "dsem"
  have hf := h1.few
  have hn400 : n ≤ 400 := by
    have : 1 * n ≤ (p.length + 1) * n := Nat.mul_le_mul_right _ (by omega)
    omega
  rw [List.length_map]
  refine ⟨lt_line (by omega), ?_⟩
  refine draw_state (i := 11) h1 (by omega) (fun v k hk => ?_) fun s0 S2 hs0 hS2 => ?_
  · walk_at "dsem"
    exact hk _ rfl rfl
  walk_at "dsem"
  refine ⟨by omega, ?_⟩
  rw [show ((p.length : Nat) : Int) + 1 = ((p.length + 1 : Nat) : Int) by omega, rgD_map]
  intro _
  refine forD_ind eN (fun rem ρ S' => ∃ (done : List Nat) (evs : List Ev) (a b c d : Option D), ρ = [some D.pot, some (D.tup [D.tup (List.map eVr w.vs), eSt w.st, eFn w.fn]), some (D.int (List.length p)), some (D.int n), some (D.tup ((endS s0 evs).map eN)), some (D.mu (evs.map eEv)), some (D.tup (s0.map eN)), a, b, c, d, none, none] ∧
      done ++ rem = List.range (p.length + 1) ∧ (∀ x ∈ rem, ∃ k, k = x ∧ done.length ≤ k) ∧ Chain w.vs s0 evs ∧ nrd evs = min done.length p.length ∧ nst evs ≤ done.length * n ∧ S' ≤ S2 + done.length * n + done.length) ?_ ?_ _ _ _
    ⟨[], [], none, none, none, none, rfl, rfl, fun x hx => ⟨x, rfl, Nat.zero_le _⟩, trivial, by simp [nrd], by simp [nst], by simp⟩
  · rintro turn rem ρ S' nx ⟨done, evs, a, b, c, d, rfl, hd, hge, hc, hr, hns, hS⟩ hnx
    have hlen := congrArg List.length hd
    rw [List.length_append, List.length_cons, List.length_range] at hlen
    have hturn : turn = done.length := by
      have e1 : (List.range (p.length + 1))[done.length]? = some turn := by rw [← hd]; simp
      rw [List.getElem?_range (by omega)] at e1
      exact (Option.some.inj e1).symm
    have hdn : (done.length + 1) * n ≤ (p.length + 1) * n := Nat.mul_le_mul_right _ (by omega)
    rw [Nat.add_mul, Nat.one_mul] at hdn
    walk_at "dsem"
    refine ⟨n + 1, rfl, by omega, by omega, by omega, fun m S3 hm hS3 => ?_⟩
    walk_at "dsem"
    refine ⟨by omega, ?_⟩
    rw [rgD_map]
    intro _
    refine forD_ind eN (fun rem2 ρ S4 => ∃ (done2 : List Nat) (evs : List Ev) (b c d : Option D), ρ = [some D.pot, some (D.tup [D.tup (List.map eVr w.vs), eSt w.st, eFn w.fn]), some (D.int (List.length p)), some (D.int n), some (D.tup ((endS s0 evs).map eN)), some (D.mu (evs.map eEv)), some (D.tup (s0.map eN)), some (D.int turn), b, c, d, none, none] ∧
      done2 ++ rem2 = List.range m ∧ Chain w.vs s0 evs ∧ nrd evs = min done.length p.length ∧ nst evs ≤ done.length * n + done2.length ∧ S4 ≤ S3 + done2.length) ?_ ?_ _ _ _ ⟨[], evs, b, c, d, rfl, rfl, hc, hr, by simpa using hns, by simp⟩
    · rintro j rem2 ρ S4 nx2 ⟨done2, evs, b, c, d, rfl, hd2, hc, hr, hns, hS4⟩ hnx2
      have hlen2 := congrArg List.length hd2
      rw [List.length_append, List.length_cons, List.length_range] at hlen2
      have hevl : evs.length = nrd evs + nst evs := by have := nst_le evs; unfold nrd; omega
      have hok := end_ok (okvs h1) s0 evs hs0 hc
      walk_at "dsem"
      refine ⟨w, endS s0 evs, rfl, h1, hok, ?_⟩
      walk_at "dsem"
      have hml := moves_len h1 (endS s0 evs)
      have hlv := moves_live h1 h3 hok
      refine ⟨_, rfl, by simpa using hlv, by rw [List.length_map]; omega, by omega, fun x S7 hx hS7 => ?_⟩
      obtain ⟨q, hq, rfl⟩ := List.mem_map.mp hx
      have hqm := moves_mem hq
      walk_at "dsem"
      refine ⟨by rw [List.length_map]; omega, endS s0 evs, q.1, q.2, rfl, by rw [hok.1]; exact hqm.1, by rw [hok.1]; exact hf, ?_⟩
      refine hnx2 _ _ ⟨done2 ++ [j], evs ++ [.st q.1 q.2], some (D.int j), some (D.int q.1), some (D.int q.2), ?_, by rw [← hd2]; simp, (chain_app s0 evs [.st q.1 q.2]).mpr ⟨hc, hqm, trivial⟩, by rw [nrd_app, nrd_st]; exact hr, by rw [nst_app, List.length_append, List.length_singleton]; show nst evs + 1 ≤ _; omega, by rw [List.length_append, List.length_singleton]; omega⟩
      rw [endS_app, map_snoc] <;> rfl
    · rintro ρ S4 ⟨done2, evs, b, c, d, rfl, hd2, hc, hr, hns, hS4⟩
      have hlen2 := congrArg List.length hd2
      rw [List.append_nil, List.length_range] at hlen2
      have hevl : evs.length = nrd evs + nst evs := by have := nst_le evs; unfold nrd; omega
      have hdl : (done ++ [turn]).length = done.length + 1 := by rw [List.length_append] <;> rfl
      have hge2 : ∀ x ∈ rem, ∃ k, k = x ∧ (done ++ [turn]).length ≤ k := fun x hx => by
        obtain ⟨i, hi, ex⟩ := List.mem_iff_getElem.mp hx
        have e1 : (List.range (p.length + 1))[done.length + 1 + i]? = some x := by
          rw [← hd, List.getElem?_append_right (by omega), show done.length + 1 + i - done.length = i + 1 by omega, List.getElem?_cons_succ, List.getElem?_eq_getElem hi, ex]
        have hi2 : done.length + 1 + i < p.length + 1 := by omega
        rw [List.getElem?_range hi2] at e1
        have := Option.some.inj e1
        exact ⟨x, rfl, by omega⟩
      have hmul : (done.length + 1) * n = done.length * n + n := by rw [Nat.add_mul, Nat.one_mul]
      walk_at "dsem"
      by_cases ct : turn < p.length
      · rw [decide_eq_true (show (turn : Int) < (p.length : Int) by omega)]
        walk_at "dsem"
        refine ⟨by omega, by rw [List.length_map]; show evs.length + 1 < 1000000; omega, hnx _ _ ⟨done ++ [turn], evs ++ [.rd], some (D.int turn), b, c, d, ?_, by rw [← hd]; simp, hge2, (chain_app s0 evs [.rd]).mpr ⟨hc, trivial⟩, by rw [nrd_app, nrd_rd, hdl]; omega, by rw [nst_app, hdl, hmul]; show nst evs + 0 ≤ _; omega, by rw [hdl, hmul]; omega⟩⟩
        rw [endS_app, map_snoc] <;> rfl
      · rw [decide_eq_false (show ¬ (turn : Int) < (p.length : Int) by omega)]
        walk_at "dsem"
        refine ⟨by omega, by rw [List.length_map]; show evs.length + 0 < 1000000; omega, hnx _ _ ⟨done ++ [turn], evs, some (D.int turn), b, c, d, ?_, by rw [← hd]; simp, hge2, hc, by rw [hdl]; omega, by rw [hdl, hmul]; omega, by rw [hdl, hmul]; omega⟩⟩
        show _ = _
        simp
  · rintro ρ S' ⟨done, evs, a, b, c, d, rfl, hd, _, hc, hr, hns, hS⟩
    have hlen := congrArg List.length hd
    rw [List.append_nil, List.length_range] at hlen
    have hevl : evs.length = nrd evs + nst evs := by have := nst_le evs; unfold nrd; omega
    rw [hlen] at hr hns hS
    walk_at "dsem"
    exact h (s0, evs) S' (run_ok h1 h4 hs0 (fun b hb => by rw [h2] at hb; cases hb) hc (by omega) (by omega)) (by omega)
end
end RS
end
section
set_option maxRecDepth 100000
namespace DL
open PySem PySem.Spec PyProof.Rows L2
/-! ### a dict comprehension with two walks and no tests -/
abbrev dcE (kx vx t0 i0 t1 i1 : Expr) (sc : Scope) (ps : Pos) : Expr := .DictComp kx vx [⟨t0, i0, [], 0⟩, ⟨t1, i1, [], 0⟩] sc ps
section
variable {kx vx t0 i0 t1 i1 : Expr} {sc : Scope} {ps : Pos}
theorem dcTurn0 (it acc : Value) (env : Env) : compTurn (dcE kx vx t0 i0 t1 i1 sc ps) 0 it acc env =
    (standAt i0.pos >>= fun _ => pyNext it >>= fun r => match r with
      | none => pure (.done .next)
      | some v => letOwnedTupleGo t0 it v >>= fun _ => assign t0 env v >>= fun _ => eval i1 env >>= fun x => standAt i1.pos >>= fun _ => foldedSetIterable i1 env x >>= fun y =>
          holding [y] (pyIter y) >>= fun j => runOwn (.compStart (dcE kx vx t0 i0 t1 i1 sc ps) 1 j acc env) env >>= fun _ => again (.compLoop (dcE kx vx t0 i0 t1 i1 sc ps) 0 it acc env)) := by rfl
theorem dcTurn1 (it : Value) (D : Addr) (env : Env) : compTurn (dcE kx vx t0 i0 t1 i1 sc ps) 1 it (.ref D) env =
    (standAt i1.pos >>= fun _ => pyNext it >>= fun r => match r with
      | none => pure (.done .next)
      | some v => letOwnedTupleGo t1 it v >>= fun _ => assign t1 env v >>= fun _ => (eval kx env >>= fun kv => holding [kv] (eval vx env) >>= fun vv =>
          standAt { kx.pos with endLine := vx.pos.endLine, endCol := vx.pos.endCol } >>= fun _ => holding [kv, vv] (dictSet D kv vv)) >>= fun _ => again (.compLoop (dcE kx vx t0 i0 t1 i1 sc ps) 1 it (.ref D) env)) := by rfl
variable {prog : Program} {w : World} {A : Around} {R : Result → Shared → Prop} {s : Shared} {env : Env} {it : Value}
theorem dcLoop0 {acc : Value} (hs : ∀ x, foldedSetIterable i1 env x = pure x) (I : Nat → Shared → Prop)
    (turn : ∀ n s, I n s → wpAny (model prog w) A (pyNext it) (fun r s1 => match r with
      | none => R (.ok .next) s1
      | some v => wpAny (model prog w) A (letOwnedTupleGo t0 it v) (fun _ s2 => wpAny (model prog w) A (assign t0 env v) (fun _ s3 => wpAny (model prog w) A (eval i1 env) (fun x s4 => wpAny (model prog w) A (pyIter x) (fun j s5 =>
          codeAny (model prog w) A (.compStart (dcE kx vx t0 i0 t1 i1 sc ps) 1 j acc env) (fun r s' => match r with
            | .ok _ => ∃ m, m < n ∧ I m s'
            | .error _ => False) s5) (notedBy (model prog w) A env fun e z => R (.error e) z) s4) (notedBy (model prog w) A env fun e z => R (.error e) z) s3) (notedBy (model prog w) A env fun e z => R (.error e) z) s2) (notedBy (model prog w) A env fun e z => R (.error e) z) s1) (notedBy (model prog w) A env fun e z => R (.error e) z) s)
    (n : Nat) (h : I n s) : codeAny (model prog w) A (.compLoop (dcE kx vx t0 i0 t1 i1 sc ps) 0 it acc env) R s := by
  refine codeAny_loop rfl I (fun n s hI => ?_) n h
  show wpAny _ A ((compTurn (dcE kx vx t0 i0 t1 i1 sc ps) 0 it acc env).onRaise (fun x => do noteFrame x env; theTreesLotGoes x)) _ _ s
  rw [dcTurn0]
  refine wpAny_noted (wpAny_bind (wpAny_standAt (wpAny_bind (wpAny_mono (turn n s hI) (fun r s1 h1 => ?_) fun _ _ z => z))))
  cases r with
  | none => exact wpAny_pure h1
  | some v =>
    refine wpAny_bind (wpAny_mono h1 (fun _ s2 h2 => wpAny_bind (wpAny_mono h2 (fun _ s3 h3 => wpAny_bind (wpAny_mono h3 (fun x s4 h4 => ?_) fun _ _ z => z)) fun _ _ z => z)) fun _ _ z => z)
    refine wpAny_bind (wpAny_standAt (wpAny_bind (wpAny_of_eq (hs x) (wpAny_bind (wpAny_holding (wpAny_mono h4 (fun j s5 h5 => ?_) fun _ _ z => z))))))
    refine wpAny_bind (wpAny_runOwn ?_)
    rw [Around.mark_none]
    exact codeAny_mono h5 fun r s' hr => by cases r with
      | ok f => exact wpAny_pure ⟨rfl, hr⟩
      | error e => exact hr.elim
theorem dcLoop1 {D : Addr} (I : Nat → Shared → Prop)
    (turn : ∀ n s, I n s → wpAny (model prog w) A (pyNext it) (fun r s1 => match r with
      | none => R (.ok .next) s1
      | some v => wpAny (model prog w) A (letOwnedTupleGo t1 it v) (fun _ s2 => wpAny (model prog w) A (assign t1 env v) (fun _ s3 => wpAny (model prog w) A (eval kx env) (fun kv s4 => wpAny (model prog w) A (eval vx env) (fun vv s5 =>
          wpAny (model prog w) A (dictSet D kv vv) (fun _ s6 => ∃ m, m < n ∧ I m s6) (notedBy (model prog w) A env fun e z => R (.error e) z) s5) (notedBy (model prog w) A env fun e z => R (.error e) z) s4) (notedBy (model prog w) A env fun e z => R (.error e) z) s3) (notedBy (model prog w) A env fun e z => R (.error e) z) s2) (notedBy (model prog w) A env fun e z => R (.error e) z) s1) (notedBy (model prog w) A env fun e z => R (.error e) z) s)
    (n : Nat) (h : I n s) : codeAny (model prog w) A (.compLoop (dcE kx vx t0 i0 t1 i1 sc ps) 1 it (.ref D) env) R s := by
  refine codeAny_loop rfl I (fun n s hI => ?_) n h
  show wpAny _ A ((compTurn (dcE kx vx t0 i0 t1 i1 sc ps) 1 it (.ref D) env).onRaise (fun x => do noteFrame x env; theTreesLotGoes x)) _ _ s
  rw [dcTurn1]
  refine wpAny_noted (wpAny_bind (wpAny_standAt (wpAny_bind (wpAny_mono (turn n s hI) (fun r s1 h1 => ?_) fun _ _ z => z))))
  cases r with
  | none => exact wpAny_pure h1
  | some v =>
    refine wpAny_bind (wpAny_mono h1 (fun _ s2 h2 => wpAny_bind (wpAny_mono h2 (fun _ s3 h3 => ?_) fun _ _ z => z)) fun _ _ z => z)
    exact wpAny_bind (wpAny_bind (wpAny_mono h3 (fun kv s4 h4 => wpAny_bind (wpAny_holding (wpAny_mono h4 (fun vv s5 h5 => wpAny_bind (wpAny_standAt (wpAny_holding (wpAny_mono h5 (fun _ s6 h6 => wpAny_pure ⟨rfl, h6⟩) fun _ _ z => z)))) fun _ _ z => z))) fun _ _ z => z))
theorem dcStart1 {acc : Value} (h0 : codeAny (model prog w) A (.compLoop (dcE kx vx t0 i0 t1 i1 sc ps) 1 it acc env) R s)
    (h : wpAny (model prog w) A (pyIter it) (fun j z => codeAny (model prog w) A (.compLoop (dcE kx vx t0 i0 t1 i1 sc ps) 1 j acc env) R z) (notedBy (model prog w) A env fun x z => R (.error x) z) s) :
    codeAny (model prog w) A (.compStart (dcE kx vx t0 i0 t1 i1 sc ps) 1 it acc env) R s := by
  refine codeAny_of_tree ?_
  show wpAny _ _ ((compStart (dcE kx vx t0 i0 t1 i1 sc ps) 1 it acc env).onRaise (fun x => do noteFrame x env; standAt theWindowsPlace)) _ _ s
  refine wpAny_notedAt ?_
  unfold compStart
  show wpAny _ _ (ask >>= _) _ _ s
  refine wpAny_bind (wpAny_askSetting (wpAny_ite ?_))
  split
  · first | exact wpAny_bind (wpAny_pure (wpAny_pure (And.intro rfl h0))) | exact wpAny_pure (And.intro rfl h0)
  · refine wpAny_bind (wpAny_rule ?_)
    first
      | exact wpAny_bind (wpAny_standAt (wpAny_bind (wpAny_mono h (fun it' z h' => wpAny_pure (And.intro rfl h')) fun _ _ x => x)))
      | (show wpAny _ _ (standAt i1.pos >>= _) _ _ s; exact wpAny_bind (wpAny_standAt (wpAny_bind (wpAny_mono h (fun it' z h' => wpAny_pure (And.intro rfl h')) fun _ _ x => x))))
end
section
variable {X : Cx}
def tDc2 (wi : TI) (g : TG) (wi1 : TI) (g1 : TG) (tk tv : TE) (vs vs1 : List Nat) : TE := fun σ H Q => wi σ H fun J H1 => ∀ D, H1 D = none → ∃ W : Nat → Nat → Hp → Prop, (∃ m, W 0 m (upd H1 D (.dK []))) ∧ ∀ i m H, W i m H →
  (J.stop i H ∧ Q (.ref D) H) ∨ (J.go i H ∧ ∃ Nx : Hp → Prop, (∀ G, Nx G → ∃ m', m' < m ∧ W (i + 1) m' G) ∧ ∀ x G, J.yld i H x G → g x (wipe σ vs) G fun σ2 H2 => wipe σ2 vs = wipe σ vs ∧
    wi1 σ2 H2 fun J1 H4 => ∃ W1 : Nat → Nat → Hp → Prop, (∃ m, W1 0 m H4) ∧ ∀ j k H, W1 j k H →
      (J1.stop j H ∧ Nx H) ∨ (J1.go j H ∧ ∃ Nx1 : Hp → Prop, (∀ G, Nx1 G → ∃ k', k' < k ∧ W1 (j + 1) k' G) ∧ ∀ x G, J1.yld j H x G → g1 x (wipe σ2 vs1) G fun σ3 H5 => wipe σ3 vs1 = wipe σ2 vs1 ∧
        tk σ3 H5 fun y H6 => tv σ3 H6 fun z H7 => ∃ kvs k, y = kV k ∧ H7 D = some (.dK kvs) ∧ kvs.length < sizeLine ∧ Nx1 (upd H7 D (.dK (putK kvs k z)))))
theorem pe_dc2 {kx vx tg iter tg1 iter1 : Expr} {scope : Scope} {own : List (Str × Nat)} {vs1 : List Nat} {pos : Pos} {wi wi1 : TI} {g g1 : TG} {tk tv : TE} (hc : X.calm = true) (hN : X.N.Nodup) (hi : PI X tg iter wi) (ok : BlkOk X.N X.env.scope scope own) (hv : ∀ i ∈ vs1, i ∈ own.map (·.2))
    (hg : ∀ (s : Shared) (H : Hp) (C : Addr) (cl : List (Str × Addr)) (fp : List Addr), PG (X.blk s H scope (compEnvC scope cl C X.env) fp) tg g)
    (hi1 : ∀ (s : Shared) (H : Hp) (C : Addr) (cl : List (Str × Addr)) (fp : List Addr), PI (X.blk s H scope (compEnvC scope cl C X.env) fp) tg1 iter1 wi1)
    (hg1 : ∀ (s : Shared) (H : Hp) (C : Addr) (cl : List (Str × Addr)) (fp : List Addr), PG (X.blk s H scope (compEnvC scope cl C X.env) fp) tg1 g1)
    (hk : ∀ (s : Shared) (H : Hp) (C : Addr) (cl : List (Str × Addr)) (fp : List Addr), PE (X.blk s H scope (compEnvC scope cl C X.env) fp) kx tk)
    (he : ∀ (s : Shared) (H : Hp) (C : Addr) (cl : List (Str × Addr)) (fp : List Addr), PE (X.blk s H scope (compEnvC scope cl C X.env) fp) vx tv)
    (hs : ∀ x, foldedSetIterable iter X.env x = pure x := by intro _; rfl) (hs1 : ∀ env x, foldedSetIterable iter1 env x = pure x := by intro _ _; rfl) :
    PE X (dcE kx vx tg iter tg1 iter1 scope pos) (tDc2 wi g wi1 g1 tk tv (own.map (·.2)) vs1) := by
  refine ⟨fun pins s σ H Q I h => ?_⟩
  rw [arm_eval_DictComp]
  have capt : ∀ y ∈ scope.names, y.2 = .free → ∃ c, X.env.cells.lookup y.1 = some c := fun y hy e => (ok.free y hy e).elim (fun k => I.ok.has _ (.inl k)) fun k => I.ok.has _ (.inr k)
  refine wpAny_comprehension_free (use := none) rfl hs (closure_ok capt) ok.kind (fun y hy e => by rw [ok.uniq y hy, e]) (thn (hi.run pins s σ H _ I h) fun xv s1 hx => thn hx fun itv s2 h2 => ?_)
  obtain ⟨it, fp, tn, J, H2, rfl, I2, T, st2, f2, q⟩ := h2
  refine wpAny_newObj_type (newEnv_comp ?_)
  generalize hD : s2.heap.objs.size = D
  have hDn : H2 D = none := I2.hok.fresh (Nat.le_of_eq hD)
  obtain ⟨W, ⟨m0, w0⟩, turn⟩ := q D hDn
  generalize hs3 : ({ s2 with heap := s2.heap.push { cls := .type "dict", data := .dict #[] } } : Shared) = s3
  have h3 : s3.heap = s2.heap.push { cls := .type "dict", data := .dict #[] } := by rw [← hs3]
  have I3 : Inv X pins σ (upd H2 D (.dK [])) s3 := by
    rw [← hs3]
    exact I2.laid (t' := s2.toks) (fun b o e => Heap.get?_push_of_some _ e) (Nat.le_of_eq hD) (by rw [← hD]; exact dk_empty s2.heap I2.big)
  have f3 : ∀ b ∈ fp, FpOk X pins (upd H2 D (.dK [])) b ∧ b < s3.heap.objs.size := fun b hb => by
    obtain ⟨o, e, _⟩ := T.obj _ _ st2 b hb
    have hlt : b < s2.heap.objs.size := Heap.lt_size e
    exact ⟨⟨by rw [upd_ne (by rw [← hD]; exact Nat.ne_of_lt hlt)]; exact (f2 b hb).1, (f2 b hb).2⟩, by rw [h3, Heap.size_push]; exact Nat.lt_succ_of_lt hlt⟩
  have st3 : tn 0 s3.heap := T.keep _ _ _ st2 fun b _ o e => by rw [h3]; exact Heap.get?_push_of_some _ e
  have I4 := block_start I3 ok hN f3
  have pg := hg s3 (upd H2 D (.dK [])) s3.heap.objs.size (cellsFrom (s3.heap.objs.size + 1) scope.names (cloFrom X.env.cells scope.names [])) fp
  have pk := hk s3 (upd H2 D (.dK [])) s3.heap.objs.size (cellsFrom (s3.heap.objs.size + 1) scope.names (cloFrom X.env.cells scope.names [])) fp
  have pe := he s3 (upd H2 D (.dK [])) s3.heap.objs.size (cellsFrom (s3.heap.objs.size + 1) scope.names (cloFrom X.env.cells scope.names [])) fp
  have pi1 := hi1 s3 (upd H2 D (.dK [])) s3.heap.objs.size (cellsFrom (s3.heap.objs.size + 1) scope.names (cloFrom X.env.cells scope.names [])) fp
  have pg1 := hg1 s3 (upd H2 D (.dK [])) s3.heap.objs.size (cellsFrom (s3.heap.objs.size + 1) scope.names (cloFrom X.env.cells scope.names [])) fp
  show codeAny _ _ (.compStart (dcE kx vx tg iter tg1 iter1 scope pos) 0 (.ref it) (.ref D) (compEnvC scope (cellsFrom (s3.heap.objs.size + 1) scope.names (cloFrom X.env.cells scope.names [])) s3.heap.objs.size X.env)) (compPost (model X.prog X.w) X.A X.xe none _ (.ref D) s3.heap.objs.size) { s3 with heap := pushCells (s3.heap.push { cls := .type "dict", data := .dict #[] }) scope.names }
  have nfp : ∀ b ∈ fp, (upd H2 D (.dK [])) b = none := fun b hb => (f3 b hb).1.1
  generalize hce : compEnvC scope (cellsFrom (s3.heap.objs.size + 1) scope.names (cloFrom X.env.cells scope.names [])) s3.heap.objs.size X.env = ce at I4 pg pk pe pi1 pg1 ⊢
  have cL : ce.locals = s3.heap.objs.size := by subst hce; rfl
  generalize hH3 : upd H2 D (.dK []) = H3 at I3 I4 pg pk pe pi1 pg1 w0 nfp f3
  generalize hs4 : ({ s3 with heap := pushCells (s3.heap.push { cls := .type "dict", data := .dict #[] }) scope.names } : Shared) = s4 at I4 ⊢
  have st4 : tn 0 s4.heap := T.keep _ _ _ st3 fun b _ o e => by rw [← hs4]; exact pushCells_keeps _ _ _ _ (Heap.get?_push_of_some _ e)
  have loop : codeAny (model X.prog X.w) X.A (.compLoop (dcE kx vx tg iter tg1 iter1 scope pos) 0 (.ref it) (.ref D) ce) (compPost (model X.prog X.w) X.A X.xe none (fun v s' => ∃ y H1, Inv X pins σ H1 s' ∧ RelV y v ∧ Q y H1) (.ref D) s3.heap.objs.size) s4 := by
    have stat : ∀ {σ' : L2.St} {G : Hp} {s' : Shared}, Inv (X.blk s3 H3 scope ce fp) [] σ' G s' → (∀ b ∈ fp, G b = none) → ∀ b ∈ fp, FpOk (X.blk s3 H3 scope ce fp) [] G b := fun {σ' G s'} I' hn b hb =>
      ⟨hn b hb, (I'.ok.exf b hb).1, I'.ok.exfs b hb, .inl hb, fun x c e => (I'.ok.exf b hb).2 x c e, fun p hp => absurd (show p ∈ ([] : List (Addr × Obj)) ++ [] from hp) (by simp)⟩
    refine dcLoop0 (hs1 ce) (fun n s' => ∃ i G, Inv (X.blk s3 H3 scope ce fp) [] (wipe σ (own.map (·.2))) G s' ∧ tn i s'.heap ∧ (∀ b ∈ fp, G b = none) ∧ W i n G) ?_ m0 ⟨0, H3, I4, st4, nfp, w0⟩
    rintro n s5 ⟨i, H5, I5, st5, n5, w5⟩
    rcases turn i n H5 w5 with ⟨stop, qq⟩ | ⟨go, Nx, hNx, step⟩
    · refine thnF (T.done (X.blk s3 H3 scope ce fp) rfl rfl rfl hc i [] s5 _ H5 (fun _ _ => False) I5 (stat I5 n5) st5 stop) fun r s6 ⟨hr, I6⟩ => ?_
      subst hr
      have I7 : Inv X pins σ H5 s6 := I3.call' (ch := fp) I6.os I6.base I6.hok I6.bare fun b hb => ⟨(f3 b hb).1.2.2.2.1, (f3 b hb).1.2.1, (f3 b hb).1.2.2.2.2.1, (f3 b hb).1.2.2.2.2.2⟩
      have nC : H5 s3.heap.objs.size = none := cL ▸ (show H5 ce.locals = none from I6.free)
      obtain ⟨m, hn, _⟩ := I6.loc
      obtain ⟨p0, p1, p2, p3, p4, p5⟩ := I3.fpOk (Nat.le_refl _) nC
      exact ⟨m, cL ▸ (show s6.heap.Ns ce.locals m from hn), fun h'' sb => ⟨.ref D, H5, I7.turned (t' := s6.toks) (fun b o hb e => (sb.2 b hb).trans e) p0 p1 p3 p4 p5, rfl, qq⟩⟩
    · refine thnF (T.item (X.blk s3 H3 scope ce fp) rfl rfl rfl hc i [] s5 _ H5 (fun _ _ => False) I5 (stat I5 n5) st5 go) fun r s6 ⟨u, hr, h6⟩ => ?_
      subst hr
      refine thnF h6 fun _ s7 ⟨x, H7, I7, r7, y7, st7, n7⟩ => ?_
      refine thnF (pg.run _ s7 _ H7 x u _ (I7.pinned (stat I7 n7) (T.obj _ _ st7)) r7 (step x H7 y7)) fun _ s8 ⟨σ8, H8, I8, hw8, q8⟩ => ?_
      refine thnF (pi1.run _ s8 σ8 H8 _ I8 q8) fun xv s10 hx => thnF hx fun itv s11 h11 => ?_
      obtain ⟨it1, fp1, tn1, J1, H11, rfl, I11, T1, st11, f11, W1, ⟨m1, w1⟩, turn1⟩ := h11
      have stat1 : ∀ {G : Hp}, (∀ b ∈ fp1, G b = none) → ∀ b ∈ fp1, FpOk (X.blk s3 H3 scope ce fp) ([] ++ pinsAt fp s7.heap) G b := fun hn b hb => ⟨hn b hb, (f11 b hb).2⟩
      have keepW : ∀ (j : Nat) v, (wipe σ (own.map (·.2)))[j]? = some (some v) → (wipe σ8 vs1)[j]? = some (some v) := fun j v e => by
        rw [← hw8] at e
        rw [wipe_out fun z => (wipe_some e).2 (hv j z)]
        exact (wipe_some e).1
      have loop1 : codeAny (model X.prog X.w) X.A (.compLoop (dcE kx vx tg iter tg1 iter1 scope pos) 1 (.ref it1) (.ref D) ce)
          (fun r s' => match r with
            | .ok _ => ∃ m, m < n ∧ ∃ i G, Inv (X.blk s3 H3 scope ce fp) [] (wipe σ (own.map (·.2))) G s' ∧ tn i s'.heap ∧ (∀ b ∈ fp, G b = none) ∧ W i m G
            | .error _ => False) s11 := by
        refine dcLoop1 (fun k s' => ∃ j G, Inv (X.blk s3 H3 scope ce fp) ([] ++ pinsAt fp s7.heap) (wipe σ8 vs1) G s' ∧ tn1 j s'.heap ∧ (∀ b ∈ fp1, G b = none) ∧ W1 j k G) ?_ m1 ⟨0, H11, I11.weak (wipe_length _ _) (fun j v e => (wipe_some e).1), st11, fun b hb => (f11 b hb).1, w1⟩
        rintro k s12 ⟨j, H12, I12, st12, n12, w12⟩
        rcases turn1 j k H12 w12 with ⟨stop1, nx1⟩ | ⟨go1, Nx1, hNx1, step1⟩
        · refine thnF (T1.done (X.blk s3 H3 scope ce fp) rfl rfl rfl hc j _ s12 (wipe σ8 vs1) H12 (fun _ _ => False) I12 (stat1 n12) st12 stop1) fun r s13 ⟨hr, I13⟩ => ?_
          subst hr
          obtain ⟨m', hm, w'⟩ := hNx H12 nx1
          have held : ∀ b ∈ fp, ∀ o, s7.heap.get? b = some o → s13.heap.get? b = some o ∧ H12 b = none := fun b hb o e =>
            let z := I13.pin (b, o) (List.mem_append_right _ (List.mem_append_right _ (mem_pinsAt hb e)))
            ⟨z.1, z.2.1⟩
          exact ⟨m', hm, i + 1, H12, (I13.unpinned (pins := [])).weak (by rw [← hw8, wipe_length, wipe_length]) keepW, T.keep _ _ _ st7 fun b hb o e => (held b hb o e).1, fun b hb => let ⟨o, e, _⟩ := T.obj _ _ st7 b hb; (held b hb o e).2, w'⟩
        · refine thnF (T1.item (X.blk s3 H3 scope ce fp) rfl rfl rfl hc j _ s12 (wipe σ8 vs1) H12 (fun _ _ => False) I12 (stat1 n12) st12 go1) fun r s13 ⟨u1, hr, h13⟩ => ?_
          subst hr
          refine thnF h13 fun _ s14 ⟨x1, H14, I14, r14, y14, st14, n14⟩ => ?_
          refine thnF (pg1.run _ s14 (wipe σ8 vs1) H14 x1 u1 _ (I14.pinned (stat1 n14) (T1.obj _ _ st14)) r14 (step1 x1 H14 y14)) fun _ s15 ⟨σ15, H15, I15, hw15, q15⟩ => ?_
          refine thnF (pk.run _ s15 σ15 H15 _ I15 q15) fun y s16 ⟨yk, H16, I16, r16, q16⟩ => thnF (pe.run _ s16 σ15 H16 _ I16 q16) fun z s17 ⟨yv, H17, I17, r17, kvs, kk, ek, hD17, hz17, nx⟩ => ?_
          subst ek
          refine d_dictSet (X := X.blk s3 H3 scope ce fp) I17 hD17 hz17 r16 r17 fun s18 I18 => ?_
          obtain ⟨m', hm, w'⟩ := hNx1 _ nx
          have held : ∀ b ∈ fp1, ∀ o, s14.heap.get? b = some o → s18.heap.get? b = some o ∧ (upd H17 D (.dK (putK kvs kk yv))) b = none := fun b hb o e =>
            let z := I18.pin (b, o) (List.mem_append_right _ (List.mem_append_right _ (mem_pinsAt hb e)))
            ⟨z.1, z.2.1⟩
          exact ⟨m', hm, j + 1, _, I18.unpinned.weak (by rw [← hw15, wipe_length]) (fun j v e => by rw [← hw15] at e; exact (wipe_some e).1), T1.keep _ _ _ st14 fun b hb o e => (held b hb o e).1, fun b hb => let ⟨o, e, _⟩ := T1.obj _ _ st14 b hb; (held b hb o e).2, w'⟩
      exact dcStart1 loop1 (T1.self X.A 0 _ _ _ st11 loop1)
  exact codeAny_compStart_dict loop (T.self X.A 0 _ _ _ st4 loop)
end
end DL
end
section
set_option maxRecDepth 100000
namespace DL
open PySem PySem.Spec PyProof.Rows L2
/-! ### the data level of a dict comprehension with two walks -/
theorem pe_dc2V {X : Cx} {kx vx tg iter tg1 iter1 : Expr} {scope : Scope} (own : List (Str × Nat)) (vs1 : List Nat) {pos : Pos} {wi wi1 : TI} {g g1 : TG} {tk tv : TE} {vs : List Nat} (hc : X.calm = true) (hN : X.N.Nodup) (hi : PI X tg iter wi)
    (ok : blkC X.N X.env.scope scope own = true) (hvs : own.map (·.2) = vs) (hv : ∀ i ∈ vs1, i ∈ own.map (·.2))
    (hg : ∀ (s : Shared) (H : Hp) (C : Addr) (cl : List (Str × Addr)) (fp : List Addr), PG (X.blk s H scope (compEnvC scope cl C X.env) fp) tg g)
    (hi1 : ∀ (s : Shared) (H : Hp) (C : Addr) (cl : List (Str × Addr)) (fp : List Addr), PI (X.blk s H scope (compEnvC scope cl C X.env) fp) tg1 iter1 wi1)
    (hg1 : ∀ (s : Shared) (H : Hp) (C : Addr) (cl : List (Str × Addr)) (fp : List Addr), PG (X.blk s H scope (compEnvC scope cl C X.env) fp) tg1 g1)
    (hk : ∀ (s : Shared) (H : Hp) (C : Addr) (cl : List (Str × Addr)) (fp : List Addr), PE (X.blk s H scope (compEnvC scope cl C X.env) fp) kx tk)
    (he : ∀ (s : Shared) (H : Hp) (C : Addr) (cl : List (Str × Addr)) (fp : List Addr), PE (X.blk s H scope (compEnvC scope cl C X.env) fp) vx tv)
    (hs : ∀ x, foldedSetIterable iter X.env x = pure x := by intro _; rfl) (hs1 : ∀ env x, foldedSetIterable iter1 env x = pure x := by intro _ _; rfl) :
    PE X (.DictComp kx vx [⟨tg, iter, [], 0⟩, ⟨tg1, iter1, [], 0⟩] scope pos) (tDc2 wi g wi1 g1 tk tv vs vs1) := by
  subst hvs
  exact pe_dc2 hc hN hi (blkOk_by ok) hv hg hi1 hg1 hk he hs hs1
def dcI (g : DTG) (tk tv : DTE) (ρ : DEnv) (kk : List (Int × D) → Nat → Prop) : List D → List (Int × D) → Nat → Prop
  | [], acc, S => kk acc S
  | d :: ds, acc, S => g d ρ fun ρ2 => tk ρ2 S fun y S2 => asI y fun k => tv ρ2 S2 fun z S3 => acc.length < 1000000 ∧ dcI g tk tv ρ kk ds (putD acc k z) S3
def dc2D (g : DTG) (ti1 : DTA) (g1 : DTG) (tk tv : DTE) (vs1 : List Nat) (ρ : DEnv) (Q : D → Nat → Prop) : List D → List (Int × D) → Nat → Prop
  | [], acc, S => Q (.dct acc) S
  | d :: ds, acc, S => g d ρ fun ρ2 => ti1 ρ2 S fun es S3 => dcI g1 tk tv (dwipe ρ2 vs1) (fun acc S => dc2D g ti1 g1 tk tv vs1 ρ Q ds acc S) es acc S3
def dDc2 (ti : DTA) (g : DTG) (ti1 : DTA) (g1 : DTG) (tk tv : DTE) (vs vs1 : List Nat) : DTE := fun ρ S Q => ti ρ S fun ds S1 => dc2D g ti1 g1 tk tv vs1 (dwipe ρ vs) Q ds [] S1
section
variable {K : PySem.W.Frag} {T : Tb}
instance snd_dc2 {wi wi1 : TI} {g g1 : TG} {tk tv : TE} {vs vs1 : List Nat} {ti ti1 : DTA} {dg dg1 : DTG} {dk de : DTE} {is is1 : List Nat} [hi : SndI K T wi ti] [hg : SndG K T g dg is] [hi1 : SndI K T wi1 ti1] [hg1 : SndG K T g1 dg1 is1]
    [hk : SndE K T tk dk] [he : SndE K T tv de] [hs : SubL is vs] [hs1 : SubL is1 vs1] : SndE K T (tDc2 wi g wi1 g1 tk tv vs vs1) (dDc2 ti dg ti1 dg1 dk de vs vs1) := ⟨fun c m σ H S ρ Qd Q r h k => hi.run c m σ H S ρ _ _ r h fun J H1 S1 ds h1 hz l1 f1 items Dl hD => by
  have no0 : ∀ ps, HO.dK [] ≠ .tbl ps := fun ps z => by cases z
  have hq : c.q ≠ some Dl := l1.qne hD
  have nm : Dl ∉ m := l1.fresh hD
  have n0 : Dl ∉ c.m0 := fun z => nm (l1.sub _ z)
  have ns := (l1.noS hD).wipe vs
  have hm : Dl ∈ Dl :: m := List.mem_cons_self
  let St0 : Hp → Nat → List (Int × D) → Prop := fun H' S' dacc => Rl K T c (Dl :: m) (wipe σ vs) H' S' (dwipe ρ vs) ∧ Ex (hid H1 m) (hid H' (Dl :: m)) ∧ Fr c.q H1 H' ∧ dacc.length ≤ 1000000 ∧ ∃ vacc, H' Dl = some (.dK vacc) ∧ RepK K c.q (hid H' (Dl :: m)) vacc dacc
  have step : ∀ {H' H2 : Hp} {S' S2 : Nat} {dacc : List (Int × D)}, St0 H' S' dacc → Fr c.q H' H2 → PotOk c.q S2 H2 → Tabs T H2 → St0 H2 S2 dacc := fun {H' H2 S' S2 dacc} ⟨l, e, f, hlen, va, hd, ra⟩ f2 p2 t2 =>
    ⟨l.on f2 p2 t2, e.trans (f2.ex l.qmm), f.trans f2, hlen, va, f2 _ _ hd hq (fun ps z => by cases z), ra.mono (f2.ex l.qmm)⟩
  have start : St0 (upd H1 Dl (.dK [])) S1 [] := ⟨(l1.push hD no0).wipe vs, by rw [hid_push hD]; exact Ex.refl _, (Nw.upd hD).fr, Nat.zero_le _, [], upd_same, RepK.nil⟩
  refine ⟨fun i n H' => ∃ S' dacc, n = ds.length - i ∧ i ≤ ds.length ∧ St0 H' S' dacc ∧ dc2D dg ti1 dg1 dk de vs1 (dwipe ρ vs) Qd (ds.drop i) dacc S', ⟨ds.length, S1, [], rfl, Nat.zero_le _, start, by simpa using h1⟩, ?_⟩
  rintro i n H' ⟨S', dacc, rfl, hle, st, w⟩
  obtain ⟨go, stop⟩ := items (Dl :: m) H' st.2.1 st.1.no
  by_cases hlt : i < ds.length
  · obtain ⟨g1', y1⟩ := go i ds[i] (List.getElem?_eq_getElem hlt)
    refine .inr ⟨g1', fun H'' => ∃ S'' dacc, St0 H'' S'' dacc ∧ dc2D dg ti1 dg1 dk de vs1 (dwipe ρ vs) Qd (ds.drop (i + 1)) dacc S'', ?_, fun x H3 y => ?_⟩
    · rintro H'' ⟨S'', da, a1, a2⟩
      exact ⟨ds.length - (i + 1), by omega, S'', da, rfl, hlt, a1, a2⟩
    · obtain ⟨rx, nx⟩ := y1 x H3 y
      rw [drop_cons hlt] at w
      have st3 := step st nx.fr (st.1.pot.nw nx) (tabs_nw st.1.tab nx)
      refine hg.run c (Dl :: m) (wipe σ vs) H3 S' (dwipe ρ vs) x _ _ _ st3.1 rx w fun σ2 ρ2 w2 l2 wp => ⟨?_, ?_⟩
      · rw [wp.wipe vs hs.h]
        exact wipe_wipe (σ' := σ) fun _ h => h
      · refine hi1.run c (Dl :: m) σ2 H3 S' ρ2 _ _ l2 w2 fun J1 H5 S5 es w5 hz5 l5 f5 items1 => ?_
        have st5 := step st3 f5 l5.pot l5.tab
        refine ⟨fun j n H' => ∃ S' dacc, n = es.length - j ∧ j ≤ es.length ∧ St0 H' S' dacc ∧ Ex (hid H5 (Dl :: m)) (hid H' (Dl :: m)) ∧ Rl K T c (Dl :: m) (wipe σ2 vs1) H' S' (dwipe ρ2 vs1) ∧ dcI dg1 dk de (dwipe ρ2 vs1) (fun acc S => dc2D dg ti1 dg1 dk de vs1 (dwipe ρ vs) Qd (ds.drop (i + 1)) acc S) (es.drop j) dacc S',
          ⟨es.length, S5, dacc, rfl, Nat.zero_le _, st5, Ex.refl _, l5.wipe vs1, by simpa using w5⟩, ?_⟩
        rintro j n H6 ⟨S6, da, rfl, hlej, st6, f6, lw6, w6⟩
        obtain ⟨go1, stop1⟩ := items1 (Dl :: m) H6 f6 lw6.no
        have ns2 : NoS Dl (wipe σ2 vs1) (dwipe ρ2 vs1) := NoS.wipe (fun i e he hme => by
          obtain ⟨b1, b2⟩ := wp.old i e he hme
          rw [b2]
          exact ns i e b1 hme) vs1
        by_cases hlt1 : j < es.length
        · obtain ⟨g2', y2⟩ := go1 j es[j] (List.getElem?_eq_getElem hlt1)
          refine .inr ⟨g2', fun H' => ∃ S' dacc, St0 H' S' dacc ∧ Ex (hid H5 (Dl :: m)) (hid H' (Dl :: m)) ∧ Rl K T c (Dl :: m) (wipe σ2 vs1) H' S' (dwipe ρ2 vs1) ∧ dcI dg1 dk de (dwipe ρ2 vs1) (fun acc S => dc2D dg ti1 dg1 dk de vs1 (dwipe ρ vs) Qd (ds.drop (i + 1)) acc S) (es.drop (j + 1)) dacc S', ?_, fun x7 H7 y7 => ?_⟩
          · rintro H'' ⟨S'', da, a1, a2, a3, a4⟩
            exact ⟨es.length - (j + 1), by omega, S'', da, rfl, hlt1, a1, a2, a3, a4⟩
          · obtain ⟨rx7, nx7⟩ := y2 x7 H7 y7
            rw [drop_cons hlt1] at w6
            have st7 := step st6 nx7.fr (st6.1.pot.nw nx7) (tabs_nw st6.1.tab nx7)
            refine hg1.run c (Dl :: m) (wipe σ2 vs1) H7 S6 (dwipe ρ2 vs1) x7 _ _ _ (lw6.nw nx7) rx7 w6 fun σ3 ρ3 w8 l8 wp8 => ⟨?_, hk.run c (Dl :: m) σ3 H7 S6 ρ3 _ _ l8 w8 fun yv H9 S9 dy w9 r9 l9 f9 => ?_⟩
            · rw [wp8.wipe vs1 hs1.h]
              exact wipe_wipe (σ' := σ) fun _ h => h
            · cases dy <;> first | exact w9.elim | skip
              rename_i kk
              refine he.run c (Dl :: m) σ3 H9 S9 ρ3 _ _ l9 w9 fun zv H10 S10 dz w10 r10 l10 f10 => ?_
              obtain ⟨hlen, w11⟩ := w10
              have st9 := step st7 f9 l9.pot l9.tab
              have st10 := step st9 f10 l10.pot l10.tab
              have lw10 := ((lw6.nw nx7).on f9 l9.pot l9.tab).on f10 l10.pot l10.tab
              obtain ⟨l, e, f, hl, va, hd, ra⟩ := st10
              cases r9
              refine ⟨va, .inl kk, rfl, hd, by rw [ra.1]; exact million hlen, S10, putD da kk dz, ⟨l.updm hm n0 hd (.inr ⟨_, rfl⟩) (fun ps z => by cases z) ns, by rw [hid_upd_in hm]; exact e, fun a o ha hqa nt => ?_, Nat.le_trans (putD_len _ _ _) hlen, _, upd_same, by rw [hid_upd_in hm]; exact repK_put kk r10 ra⟩, ?_, lw10.updm hm n0 hd (.inr ⟨_, rfl⟩) (fun ps z => by cases z) ns2, w11⟩
              · rw [upd_ne (ne_of_none ha hD)]
                exact f a o ha hqa nt
              · rw [hid_upd_in hm]
                exact ((f6.trans nx7.ex).trans (f9.ex l8.qmm)).trans (f10.ex l9.qmm)
        · have hj : j = es.length := by omega
          subst hj
          have w6 : dcI dg1 dk de (dwipe ρ2 vs1) (fun acc S => dc2D dg ti1 dg1 dk de vs1 (dwipe ρ vs) Qd (ds.drop (i + 1)) acc S) (es.drop es.length) da S6 := w6
          rw [List.drop_length] at w6
          exact .inl ⟨stop1, S6, da, st6, w6⟩
  · have hi' : i = ds.length := by omega
    subst hi'
    have w : dc2D dg ti1 dg1 dk de vs1 (dwipe ρ vs) Qd (ds.drop ds.length) dacc S' := w
    rw [List.drop_length] at w
    obtain ⟨l, e, f, hlen, va, hd, ra⟩ := st
    exact .inl ⟨stop, k _ H' S' (.dct dacc) w (.dct (hid_in hd nm) ra.1 ra.2.1 fun i k v d a b => (ra.2.2 i k v d a b).mono (Ex.less fun a ha => List.mem_cons_of_mem _ ha)) (l1.on f l.pot l.tab) (f1.trans f)⟩⟩
end
end DL
end
section
set_option maxRecDepth 100000
namespace DL
open PySem PySem.Spec PyProof.Rows L2
/-! ### dict(pairs), d.update(d2) -/
def rDictP (K : PySem.W.Frag) : List V → Hp → VK → Prop := fun xs H Q => ∃ (a : Addr) (ps : List Addr) (kvs : List (Key × V)), xs = [.ref a] ∧ SqL K H a (ps.map V.ref) ∧ Paired (fun p kv => SqT K H p [kV kv.1, kv.2]) ps kvs ∧
    ∀ p, H p = none → Q (.ref p) (upd H p (.dK (mergeK [] kvs)))
theorem dictK {X : Cx} {K : PySem.W.Frag} (hK : X.K = K) (hc : X.calm = true) : CallR X (.type "dict") (rDictP K) := by subst hK; exact call_dictP hc
def rDUpd : V → List V → Hp → VK → Prop := fun x vs H Q => ∃ a b kvs more, x = .ref a ∧ vs = [.ref b] ∧ a ≠ b ∧ H a = some (.dK kvs) ∧ H b = some (.dK more) ∧ kvs.length + more.length ≤ sizeLine ∧ Q .non (upd H a (.dK (mergeK kvs more)))
theorem mt_dupd {X : Cx} : MtR X "dict.update" rDUpd := by
  intro pins s σ H x vs v us Q I rx rv h
  obtain ⟨a, b, kvs, more, rfl, rfl, hab, ha, hb, hz, q⟩ := h
  cases rx
  obtain ⟨u, rfl, ru⟩ := vals1 rv
  cases ru
  obtain ⟨za, hda, va, rela, dda⟩ := dk_of I.hok ha
  obtain ⟨zb, hdb, vb, relb, ddb⟩ := dk_of I.hok hb
  refine call_meetsIn PySem.F.slot_dict_update dda.typeIs PySem.F.entry_dict_update (PySem.F.args_dict_update_2 _ _) (meets_dict_update (mixKind X.prog X.w) a b hab hdb) ⟨va, vb, dda, ddb, by rw [← rela.length, ← relb.length]; exact hz, fun h' hd' _ hs => ?_⟩
  have hl : (mergeK kvs more).length ≤ sizeLine := Nat.le_trans (length_mergeK more kvs) hz
  have he : ∃ q, h'.get? a = some q := let ⟨q, _, _, hq, _⟩ := hd'; ⟨q, hq⟩
  exact ⟨.non, _, d_write (t' := s.toks) I (by rw [ha]; exact True.intro) hs he (dk_new hl hda (KV.merge relb rela) hd'), rfl, q⟩
def mergeD (acc ps : List (Int × D)) : List (Int × D) := ps.foldl (fun a p => putD a p.1 p.2) acc
def pairD (p : Int × D) : D := .tup [.int p.1, p.2]
section
variable {K : PySem.W.Frag} {T : Tb}
theorem reps_pairs {q : Option Addr} {m : List Addr} {H : Hp} : ∀ {ps : List (Int × D)} {vs : List V}, Reps K q (hid H m) vs (ps.map pairD) → ∃ (as : List Addr) (kvs : List (Key × V)), vs = as.map V.ref ∧ Paired (fun p kv => SqT K H p [kV kv.1, kv.2]) as kvs ∧ RepK K q (hid H m) kvs ps
  | [], vs, h => by rw [Reps.inv_nil h]; exact ⟨[], [], rfl, .nil, RepK.nil⟩
  | p :: ps, vs, h => by
    obtain ⟨v, vs', rfl, a, b⟩ := Reps.inv (d := pairD p) (ds := ps.map pairD) h
    obtain ⟨as, kvs, rfl, h1, h2⟩ := reps_pairs b
    cases a with
    | tup hs hl hz hr =>
      rename_i t us
      obtain ⟨v1, v2, rfl, ra, rb⟩ := reps2 (K := K) ⟨hl, hr⟩
      cases ra
      exact ⟨t :: as, (Sum.inl p.1, v2) :: kvs, rfl, .cons (sqt_un hs) h1, RepK.cons rb h2⟩
theorem repK_merge {q : Option Addr} {G : Hp} : ∀ {es ds : List (Int × D)} {more vs : List (Key × V)}, RepK K q G vs ds → RepK K q G more es → RepK K q G (mergeK vs more) (mergeD ds es)
  | [], ds, more, vs, h, h' => by rw [h'.inv_nil]; exact h
  | p :: es, ds, more, vs, h, h' => by
    obtain ⟨v, more', rfl, a, b⟩ := h'.inv
    have r := repK_merge (repK_put p.1 a h) b
    exact r
theorem mergeD_len : ∀ (es ds : List (Int × D)), (mergeD ds es).length ≤ ds.length + es.length
  | [], ds => Nat.le_refl _
  | p :: es, ds => by
    have h1 := mergeD_len es (putD ds p.1 p.2)
    have h2 := putD_len ds p.1 p.2
    show (mergeD (putD ds p.1 p.2) es).length ≤ _
    rw [List.length_cons]
    omega
def fDict : DFn := fun ds Q => match ds with
  | [.lst xs] => ∃ ps : List (Int × D), xs = ps.map pairD ∧ Q (.dct (mergeD [] ps))
  | _ => False
instance snd_dict : SndB K (rDictP K) fDict := ⟨fun q m H xs ds Qd Q no rx h k => by
  unfold fDict at h
  split at h
  · obtain ⟨v, rfl, r⟩ := reps1 rx
    obtain ⟨ps, rfl, h⟩ := h
    cases r with
    | lst hs hl hz hr =>
      obtain ⟨as, kvs, rfl, h1, h2⟩ := reps_pairs (K := K) ⟨hl, hr⟩
      refine ⟨_, as, kvs, rfl, SqL.of (hid_of hs).1, h1, fun p hp => ?_⟩
      have r := repK_merge RepK.nil h2
      have r2 := r.mono (Nw.upd (o := .dK (mergeK [] kvs)) hp).ex
      exact k _ _ _ h (.dct (hid_in upd_same (no p hp)) r2.1 r2.2.1 r2.2.2) (Nw.upd hp)
  · exact h.elim⟩
def dUpd (i : Nat) (t : DTE) : DTS := fun E ρ S => match ρ[i]? with
  | some (some (.md kvs)) => t ρ S fun d S1 => match d with
    | .dct more => kvs.length + more.length < 1000000 ∧ E.nx (ρ.set i (some (.md (mergeD kvs more)))) S1
    | _ => False
  | _ => False
instance snd_upd {i : Nat} {te : TE} {t : DTE} [h : SndE K T te t] : SndS K T (tDrop (tBM K "dict" rDUpd (tVarM i) (tCons te tNil))) (dUpd i t) := ⟨fun c m σ H S ρ E Ed r w k => by
  unfold dUpd at w
  split at w
  · rename_i ds e
    obtain ⟨p, vs, e1, h1, h2, h3, _, _⟩ := r.md_at e
    refine ⟨.ref p, e1, .inr (.inr (.inl ⟨rfl, .inl ⟨_, h3⟩⟩)), h.run c m σ H S ρ _ _ r w fun v H1 S1 d w1 r1 l1 f1 => ?_⟩
    obtain ⟨p', vs', e1', h1', h2', h3', h4', h5'⟩ := l1.md_at e
    rw [e1] at e1'
    cases e1'
    cases r1 with
    | dct hs hl hk hr =>
      rename_i b kvs es
      obtain ⟨w2, w3⟩ := w1
      have hz := million w2
      have hpb : p ≠ b := fun z => (hid_of hs).2 (by rw [← z]; exact h1')
      refine ⟨p, b, vs', kvs, rfl, rfl, hpb, h3', (hid_of hs).1, by rw [h5'.1, hl]; exact Nat.le_of_lt hz, ?_⟩
      refine k.nx m σ _ S1 _ w3 (l1.change (d' := .md (mergeD ds es)) e rfl e1 h1' h2' h3' (.inr ⟨_, rfl⟩) (fun ps z => by cases z) (.md h1' h2' upd_same (Nat.le_trans (mergeD_len _ _) (Nat.le_of_lt hz)) (by rw [hid_upd_in h1']; exact repK_merge h5' ⟨hl, hk, hr⟩)) rfl) ?_
      rw [hid_upd_in h1']
      exact f1.ex r.qmm
    | _ => exact w1.elim
  · exact w.elim⟩
def asD (d : D) (k : List (Int × D) → Prop) : Prop := match d with
  | .dct b => k b
  | _ => False
theorem asD_d (b : List (Int × D)) (k : List (Int × D) → Prop) : asD (.dct b) k = k b := rfl
theorem e_upd {i : Nat} {t : DTE} {E : DEnds} {ρ : DEnv} {S : Nat} : dUpd i t E ρ S = mdAt ρ[i]? fun kvs => t ρ S fun d S1 => asD d fun more => kvs.length + more.length < 1000000 ∧ E.nx (ρ.set i (some (.md (mergeD kvs more)))) S1 := rfl
theorem f_dict {q : D → Prop} (xs : List D) : fDict [.lst xs] q = ∃ ps : List (Int × D), xs = ps.map pairD ∧ q (.dct (mergeD [] ps)) := rfl
end
/-! ### keys that are new -/
theorem putD_new {acc : List (Int × D)} {k : Int} {v : D} (h : k ∉ acc.map (·.1)) : putD acc k v = acc ++ [(k, v)] := by
  unfold putD
  rw [if_neg]
  rw [List.any_eq_true]
  rintro ⟨p, hp, e⟩
  exact h (List.mem_map.mpr ⟨p, hp, of_decide_eq_true e⟩)
theorem mergeD_new : ∀ {ps acc : List (Int × D)}, ((acc ++ ps).map (·.1)).Nodup → mergeD acc ps = acc ++ ps
  | [], acc, _ => by rw [List.append_nil] <;> rfl
  | p :: ps, acc, h => by
    show mergeD (putD acc p.1 p.2) ps = _
    have hn : p.1 ∉ acc.map (·.1) := fun z => by
      rw [List.map_append, List.nodup_append] at h
      exact h.2.2 _ z p.1 (by simp) rfl
    rw [putD_new hn, mergeD_new (by rw [List.append_assoc]; exact h), List.append_assoc] <;> rfl
theorem dcI_map {α : Type} {g : DTG} {tk tv : DTE} {ρ : DEnv} {kk : List (Int × D) → Nat → Prop} {S : Nat} (enc : α → D) (f : α → Int × D) :
    ∀ (as : List α) (acc : List (Int × D)), (∀ a ∈ as, ∀ k1 : Int → D → Nat → Prop, k1 (f a).1 (f a).2 S → g (enc a) ρ fun ρ2 => tk ρ2 S fun y S2 => asI y fun k => tv ρ2 S2 fun z S3 => k1 k z S3) →
    ((acc ++ as.map f).map (·.1)).Nodup → acc.length + as.length ≤ 1000000 → kk (acc ++ as.map f) S → dcI g tk tv ρ kk (as.map enc) acc S
  | [], acc, _, _, _, h => by simpa [dcI] using h
  | a :: as, acc, turn, hn, hb, h => by
    rw [List.length_cons] at hb
    refine turn a List.mem_cons_self (fun k z S3 => acc.length < 1000000 ∧ dcI g tk tv ρ kk (as.map enc) (putD acc k z) S3) ⟨by omega, ?_⟩
    have hk : (f a).1 ∉ acc.map (·.1) := fun z => by
      rw [List.map_append, List.nodup_append] at hn
      exact hn.2.2 _ z (f a).1 (by simp) rfl
    rw [putD_new hk]
    refine dcI_map enc f as (acc ++ [f a]) (fun b hb => turn b (List.mem_cons_of_mem _ hb)) (by rw [List.append_assoc]; exact hn) (by rw [List.length_append, List.length_singleton]; omega) ?_
    rw [List.append_assoc]
    exact h
theorem dc2_map {α : Type} {g : DTG} {ti1 : DTA} {g1 : DTG} {tk tv : DTE} {vs1 : List Nat} {ρ : DEnv} {Q : D → Nat → Prop} {S : Nat} (enc : α → D) (vals : α → List (Int × D)) :
    ∀ (as : List α) (acc : List (Int × D)), (∀ a ∈ as, ∀ (acc : List (Int × D)) (kk : List (Int × D) → Nat → Prop), ((acc ++ vals a).map (·.1)).Nodup → acc.length + (vals a).length ≤ 1000000 → kk (acc ++ vals a) S → g (enc a) ρ fun ρ2 => ti1 ρ2 S fun es S3 => dcI g1 tk tv (dwipe ρ2 vs1) kk es acc S3) →
    ((acc ++ as.flatMap vals).map (·.1)).Nodup → acc.length + (as.flatMap vals).length ≤ 1000000 → Q (.dct (acc ++ as.flatMap vals)) S → dc2D g ti1 g1 tk tv vs1 ρ Q (as.map enc) acc S
  | [], acc, _, _, _, h => by simpa [dc2D] using h
  | a :: as, acc, turn, hn, hb, h => by
    rw [List.flatMap_cons, ← List.append_assoc] at h hn
    rw [List.flatMap_cons, List.length_append] at hb
    refine turn a List.mem_cons_self acc _ ?_ (by omega) ?_
    · rw [List.map_append, List.nodup_append] at hn
      exact hn.1
    · exact dc2_map enc vals as _ (fun b hb => turn b (List.mem_cons_of_mem _ hb)) hn (by rw [List.length_append]; omega) h
end DL
end
section
set_option maxRecDepth 100000
namespace DL
open PySem PySem.Spec PyProof.Rows L2
/-! ### a lambda is called -/
/-- a known thing is let go -/
def drp (H : Hp) (c : Addr) : Hp := fun b => if b = c then none else H b
theorem drp_same {H : Hp} {c : Addr} : drp H c c = none := by unfold drp; rw [if_pos rfl]
theorem drp_ne {H : Hp} {c b : Addr} (h : b ≠ c) : drp H c b = H b := by unfold drp; rw [if_neg h]
theorem drp_some {H : Hp} {c b : Addr} {o : HO} (h : drp H c b = some o) : b ≠ c ∧ H b = some o := by
  by_cases e : b = c
  · subst e; rw [drp_same] at h; cases h
  · rw [drp_ne e] at h; exact ⟨e, h⟩
theorem drp_none {H : Hp} {c b : Addr} (h : H b = none) : drp H c b = none := by
  unfold drp
  split
  · rfl
  · exact h
section
variable {P : Program} {w : World} {H : Hp} {h : Heap} {c : Addr}
theorem hok_drp {o : Obj} (x : HOk P w H h) (hc : H c = some (.frz o anyO)) : HOk P w (drp H c) h := fun a u e => by
  obtain ⟨_, e⟩ := drp_some e
  refine (x a u e).stay (fun b v _ q => q) (fun b q => ?_) fun b xs q => ?_
  · have hb : b ≠ c := fun z => by rw [z, hc] at q; cases q
    rw [drp_ne hb]; exact q
  · have hb : b ≠ c := fun z => by rw [z, hc] at q; cases q
    rw [drp_ne hb]; exact q
/-- .. and taken up again -/
theorem hok_back {o : Obj} {h' : Heap} (hc : H c = some (.frz o anyO)) (x : HOk P w (drp H c) h') (e : h'.get? c = some o) : HOk P w H h' := fun a u ha => by
  by_cases ac : a = c
  · subst ac
    rw [hc] at ha
    cases ha
    exact ⟨e, True.intro, ⟨o, e⟩, fun _ _ _ _ => True.intro⟩
  · have ha' : drp H c a = some u := by rw [drp_ne ac]; exact ha
    exact (x a u ha').stay (fun b v _ q => q) (fun b q => (drp_some q).2) fun b xs q => (drp_some q).2
end
/-- the context of a lambda's body, called from X at s -/
def lamY (X : Cx) (s : Shared) (H : Hp) (q : Str) (f cc c' : Addr) : Cx where
  prog := X.prog
  w := X.w
  K := X.K
  mg := X.mg
  base := X.base
  A := X.A.deeper (PySem.W.envX q lamScope s.heap.objs.size f (.ref c') [("number", cc)])
  N := ["one", "number"]
  s_0 := s
  H_0 := H
  env := PySem.W.envX q lamScope s.heap.objs.size f (.ref c') [("number", cc)]
  outer := X.stack
  stack := PySem.W.envX q lamScope s.heap.objs.size f (.ref c') [("number", cc)] :: X.stack
  ex := []
  fn := fun _ => false
  calm := true
  pn := []
  xe := fun e s' => wpAny (model X.prog X.w) (X.A.deeper (PySem.W.envX q lamScope s.heap.objs.size f (.ref c') [("number", cc)])) (leaving (PySem.W.envX q lamScope s.heap.objs.size f (.ref c') [("number", cc)]) e) (fun _ _ => False) (fun _ _ => False) s'
def tLamB (k : Nat) : TE := fun σ H Q => ∃ x n : Int, σ[0]? = some (some (.int x)) ∧ σ[1]? = some (some (.int n)) ∧ Q (.bl (lamRel k x n)) H
theorem pe_lamB {Y : Cx} (k : Nat) {p1 p2 p3 : Pos} (h1 : Y.N = (["one", "number"] : List Str)) (h2 : Y.env.scope = lamScope) : PE Y (lamBody (lamOp k) p1 p2 p3) (tLamB k) := by
  have a0 : PE Y (.Name "one" p1) (tVar 0) := pv 0 (by rw [h1] <;> rfl) (by rw [h2]; exact Or.inl rfl)
  have a1 : PE Y (.Name "number" p2) (tVar 1) := pv 1 (by rw [h1] <;> rfl) (by rw [h2]; exact Or.inr (Or.inr rfl))
  match k with
  | 0 =>
    have h := pe_cmpR (pos := p3) op_eq a0 a1 (nomark _)
    refine ⟨fun pins s σ H Q I w => h.run pins s σ H Q I ?_⟩
    obtain ⟨x, n, e1, e2, q⟩ := w
    refine ⟨_, e1, _, e2, rfl, ?_⟩
    rw [dec_i]
    exact q
  | 1 =>
    have h := pe_cmpR (pos := p3) op_le a0 a1 (nomark _)
    refine ⟨fun pins s σ H Q I w => h.run pins s σ H Q I ?_⟩
    obtain ⟨x, n, e1, e2, q⟩ := w
    exact ⟨_, e1, _, e2, _, _, rfl, rfl, q⟩
  | k + 2 =>
    have h := pe_cmpR (pos := p3) op_ge a0 a1 (nomark _)
    refine ⟨fun pins s σ H Q I w => h.run pins s σ H Q I ?_⟩
    obtain ⟨x, n, e1, e2, q⟩ := w
    exact ⟨_, e1, _, e2, _, _, rfl, rfl, q⟩
section
variable {X : Cx} {pins : List (Addr × Obj)} {σ : L2.St} {H : Hp} {s : Shared}
theorem lam_start {f cc c' : Addr} {q : Str} {h₁ : Heap} {tk : Nat} {x n : Int} {u : Value} {o : Obj} {t : Tok} (I : Inv X pins σ H s) (hd : X.A.handled = none) (hcc : H cc = some (.frz o anyO)) (ho : o.data = .cell (some (.int n t))) (ru : RelV (.int x) u)
    (hns : h₁.Ns s.heap.objs.size fun y => ([("one", u)] : List (Str × Value)).reverse.lookup y) (kp : ∀ b o, s.heap.get? b = some o → h₁.get? b = some o) :
    Inv (lamY X s (drp H cc) q f cc c') [] [some (.int x), some (.int n)] (drp H cc) { s with heap := h₁, toks := tk } := by
  have e0 := I.env0
  have gcc : s.heap.get? cc = some o := (I.hok cc _ hcc).1
  have hok := hok_drp I.hok hcc
  have cl : ∀ {y c}, ([("number", cc)] : List (Str × Addr)).lookup y = some c → y = "number" ∧ c = cc := fun {y c} e => by
    rw [List.lookup_cons] at e
    split at e
    · rename_i z
      cases e
      exact ⟨by simpa using z, rfl⟩
    · cases e
  have noA : ∀ b : Addr, b ∉ (lamY X s (drp H cc) q f cc c').ex := fun b z => absurd (show b ∈ ([] : List Addr) from z) (by simp)
  have isc : ∀ {y c}, ([("number", cc)] : List (Str × Addr)).lookup y = some c → h₁.IsCell c (some (.int n t)) := fun {y c} e => by
    obtain ⟨_, rfl⟩ := cl e
    exact ⟨o, kp _ _ gcc, ho⟩
  refine ⟨⟨e0.mod, rfl, rfl, rfl, Nat.le_refl _, fun y z c e1 e2 => ?_, fun y hy => ?_, fun y c z _ => ?_, fun _ => hd, Around.frames_deeper e0.frames, .inr ⟨rfl, rfl⟩, fun b z => absurd z (noA b), fun b o h => ⟨(e0.bs b o h).1, drp_none (e0.bs b o h).2⟩, e0.bsz, fun b _ _ => noA b,
      fun b z => absurd z (noA b), e0.funs, fun b hb => drp_none (e0.frf b hb)⟩,
    rfl, e0.bare, Un.kept kp, ⟨_, hns, fun i y v e1 e2 e3 => ?_⟩, fun y c e => ⟨_, isc e⟩, drp_none (I.hok.fresh (Nat.le_refl _)), fun y c e => ?_, fun p hp => absurd (show p ∈ ([] : List (Addr × Obj)) ++ [] from hp) (by simp), hok.kept kp, rfl⟩
  · rw [(cl e1).1, (cl e2).1]
  · have hy : lamScope.names.lookup y = some .cell ∨ lamScope.names.lookup y = some .free := hy
    have : y = "number" := by
      have hk : ∀ kd, lamScope.names.lookup y = some kd → kd ≠ .local → y = "number" := fun kd hl hn => by
        have e : lamScope.names = ([("one", .local), ("number", .free)] : List (Str × NameKind)) := rfl
        rw [e, List.lookup_cons] at hl
        split at hl
        · cases hl
          exact absurd rfl hn
        · rw [List.lookup_cons] at hl
          split at hl
          · rename_i z
            simpa using z
          · cases hl
      rcases hy with hy | hy
      · exact hk _ hy (by decide)
      · exact hk _ hy (by decide)
    subst this
    exact ⟨cc, rfl⟩
  · have z : false = true := z
    cases z
  · match i, e1, e2 with
    | 0, e1, e2 =>
      cases e1
      cases e2
      exact ⟨u, ru, .inl ⟨rfl, rfl⟩⟩
    | 1, e1, e2 =>
      cases e1
      cases e2
      exact ⟨.int n t, ⟨t, rfl⟩, .inr ⟨.inr rfl, cc, rfl, isc (y := "number") rfl⟩⟩
    | i + 2, e1, e2 => cases e1
  · obtain ⟨_, rfl⟩ := cl e
    exact drp_same
/-- f(u) -/
theorem lam_run {f : Addr} {k : Nat} {x n : Int} {u : Value} {Q : VK} (I : Inv X pins σ H s) (hr : Room 1 X.A) (L : LamG H k n f) (ru : RelV (.int x) u) (h : Q (.bl (lamRel k x n)) H) :
    wpAny (model X.prog X.w) X.A (call (.ref f) [u]) (EP X pins σ Q) X.xe s := by
  obtain ⟨cc, c', q, a, p1, p2, p3, pm, ctv, o, t, h1, h2, h3, h4⟩ := L
  have of1 := (I.hok f _ h1).1
  have gcc : s.heap.get? cc = some o := (I.hok cc _ h2).1
  obtain ⟨⟨oc, vs, tq, hoc, hdc, hvc⟩, _, _⟩ := I.hok c' _ h4
  have e0 := I.env0
  have ncc : cc ∉ frs X.stack := fun z => by
    have := e0.frf cc z
    rw [h2] at this
    cases this
  have rc : codeAny (model X.prog X.w) X.A (.call (.ref f) ⟨[u], []⟩) (CR CX0 X.stack X.prog X.w H s (fun v H' => v = .bl (lamRel k x n) ∧ H' = H) E0) s := by
    refine PySem.W.kla_callFunE hr.depth of1 rfl rfl rfl rfl ⟨c', oc, vs, tq, rfl, hoc, hdc, hvc⟩ ?_
    rw [show bindArgs (PySem.W.kla_fn "<lambda>" q (lamArgs a) (lamBody (lamOp k) p1 p2 p3) lamScope [("number", cc)] pm (.ref c') ctv) ⟨[u], []⟩ = pure ([("one", u)] : List (Str × Value)) from rfl]
    refine wpAny_pure (wpAny_newFunctionEnv (fun y hy => ?_) (fun y hy => ?_) (fun h₁ hns hsb => ⟨I.nolimit.fresh _ hsb, ?_⟩) rfl)
    · have : y = (("one" : Str), NameKind.local) ∨ y = (("number" : Str), NameKind.free) := by simpa using hy
      rcases this with e | e <;> (rw [e]; decide)
    · have : y = (("one" : Str), u) := by simpa using hy
      rw [this] <;> rfl
    have kp : ∀ b o, s.heap.get? b = some o → h₁.get? b = some o := fun b o e => hsb.extBut b o (Nat.ne_of_lt (Heap.lt_size e)) (Heap.get?_push_of_some _ e)
    have J := lam_start (q := q) (f := f) (c' := c') (tk := s.toks + ([("one", u)] : List (Str × Value)).length) I hr.hd h2 h3 ru hns kp
    refine PySem.W.kla_codeExpr (wpAny_mono ((pe_lamB (Y := lamY X s (drp H cc) q f cc c') k rfl rfl).run [] _ _ (drp H cc) (fun v H' => v = .bl (lamRel k x n) ∧ H' = drp H cc) J ⟨x, n, rfl, rfl, rfl, rfl⟩) (fun v s' hq => ?_) fun e s' hq => ?_)
    · obtain ⟨w', H', J', rv, q1, rfl⟩ := hq
      have un : Un (frs X.stack) [] (drp H cc) (drp H cc) s.heap s'.heap := J'.base
      have gcc' := un.keep cc o gcc drp_same ncc (by simp)
      refine ⟨w', H, J'.os, J'.bare, ⟨fun b ob g n hb hx => un.keep b ob g (drp_none n) hb hx, fun b ob g n hb hx => un.slot b ob g (drp_none n) hb hx, fun _ _ _ n _ => n, un.there, fun _ _ e => e, fun _ _ _ e => e, fun _ ps e => ⟨#[], by rw [e]; simp⟩⟩, hok_back h2 J'.hok gcc', rv, q1, rfl⟩
    · exact wpAny_mono hq (fun _ _ z => z.elim) fun _ _ z => z.elim
  refine wpAny_call (codeAny_mono rc fun r s' hq => ?_)
  cases r with
  | error e => exact (show False from hq).elim
  | ok fl =>
    cases fl with
    | ret v =>
      have hq : CE X.stack X.prog X.w H s (fun v H' => v = .bl (lamRel k x n) ∧ H' = H) v s' := hq
      obtain ⟨w', H', J', rv, q1, q2⟩ := I.after hq
      subst q1 q2
      exact ⟨_, _, J', rv, h⟩
    | next => exact False.elim hq
    | brk => exact False.elim hq
    | cont => exact False.elim hq
def tLamC (i : Nat) (te : TE) : TE := fun σ H Q => ∃ f k n, σ[i]? = some (some (.ref f)) ∧ LamG H k n f ∧ te σ H fun y H1 => ∃ x, y = .int x ∧ LamG H1 k n f ∧ Q (.bl (lamRel k x n)) H1
/-- x(e), x a lambda that stands in a slot -/
theorem pe_lamC (i : Nat) {x : Str} {e : Expr} {te : TE} {p1 p2 : Pos} (hr : Room 1 X.A) (he : PE X e te) (hN : X.N[i]? = some x := by rfl) (hv : Vis X.env.scope x := by first | exact Or.inl rfl | exact Or.inr (Or.inl rfl) | exact Or.inr (Or.inr rfl)) (hd : (x == ("__debug__" : Str)) = false := by decide)
    (hcd : (x == ("__classdict__" : Str)) = false := by decide) (hs : starEach [e] X.env = (false, eval e X.env) :: starEach [] X.env := by rfl) : PE X (.Call (.Name x p1) [e] [] p2) (tLamC i te) := by
  refine ⟨fun pins s σ H Q I h => ?_⟩
  obtain ⟨f, k, n, hf, L, h⟩ := h
  refine wpAny_Call_Name_kw (thn ((pe_var (pos := p1) (i := i) hN hv hd hcd).run pins s σ H (fun v H1 => v = .ref f ∧ H1 = H) I ⟨.ref f, hf, rfl, rfl⟩) fun u s1 ⟨v, H1, I1, r1, q1⟩ => ?_)
  obtain ⟨rfl, rfl⟩ := q1
  cases r1
  obtain ⟨cc, c', q, a, q1, q2, q3, pm, ctv, o, t, h1, _⟩ := id L
  have of1 := (I1.hok f _ h1).1
  refine PySem.W.callWith_F (first := []) ⟨_, _, _, _, of1⟩ ?_ hs rfl
  rw [hs]
  refine Calls.spliced_cons (thn (he.run pins s1 σ H1 _ I1 h) fun u s2 ⟨y, H2, I2, r2, x, ey, L2, q⟩ => Calls.spliced_nil ?_)
  subst ey
  obtain ⟨cc, c', q', a, q1, q2, q3, pm, ctv, o, t, h2, _⟩ := id L2
  exact ⟨⟨_, _, _, _, (I2.hok f _ h2).1⟩, lam_run I2 hr L2 r2 q⟩
end
end DL
end
section
set_option maxRecDepth 100000
set_option maxHeartbeats 1000000
namespace DL
open PySem PySem.Spec PyProof.Rows L2
/-! ### a lambda is made and handed on -/
section
variable {X : Cx} {pins : List (Addr × Obj)} {σ : L2.St} {H : Hp} {s : Shared}
/-- a lambda's making: its function object is new -/
theorem lam_mk {T : Tb} {c P : Addr} {params : Arguments} {body : Expr} {scope : Scope} {pos : Pos} {E : Value → Shared → Prop} {Q : Value → Shared → Prop} (I : Inv X pins σ H s) (TB : LamX.TabB X.base X.mg c P) (hcode : X.env.code = .ref c)
    (hm : (P, X.env.qual ++ "<lambda>") ∈ T) (hu : ∀ p ∈ T, p.1 = P → p.2 = X.env.qual ++ "<lambda>") (hT : Tabs T H) (hdef : defaultsOf params X.env = ([], [])) (hfree : ∀ y ∈ scope.names, y.2 = .free → ∃ c, X.env.cells.lookup y.1 = some c)
    (fin : ∀ (f c' : Addr) (pm ctv : Value) (H1 : Hp) (s' : Shared), Inv X pins σ H1 s' → LamX.ExtN H H1 → Tabs T H1 → s'.heap.get? f = some (PySem.W.kla_obj "<lambda>" (X.env.qual ++ "<lambda>") params body scope (cloFrom X.env.cells scope.names []) pm c' ctv) →
      s.heap.objs.size ≤ f → H1 f = none → H1 c' = some (LamX.CodeO c' (X.env.qual ++ "<lambda>")) → Q (.ref f) s') :
    wpAny (model X.prog X.w) X.A (eval (.Lambda params body scope pos) X.env) Q E s := by
  obtain ⟨tb, htb, hok, hin⟩ := hT _ hm
  have gP : s.heap.get? P = some { cls := .none, data := .fields tb } := I.hok P _ htb
  refine PySem.W.kla_eval hdef ?_
  cases hc : codeAmong pos tb.toList with
  | some cv =>
    obtain ⟨c', rfl, hco⟩ := hin pos cv hc
    refine PySem.W.kla_makeFunctionHit (mg := X.mg) (c := c) (P := P) (ps := tb) (closure_ok hfree) I.ok.glob (I.mod.glob.keeps I.bk) hcode (TB.code.keeps I.bk) gP hok hc (TB.bm.keeps I.bk) fun ctv g tk hk hge => ?_
    exact fin _ c' _ ctv H _ (I.kept fun b o e => Heap.get?_push_of_some _ (hk b o e)) (LamX.ExtN.refl H) hT (Heap.get?_push_size _ rfl) hge (I.hok.fresh hge) hco
  | none =>
    refine PySem.W.kla_makeFunction (mg := X.mg) (c := c) (P := P) (ps := tb) (closure_ok hfree) I.ok.glob (I.mod.glob.keeps I.bk) hcode (TB.code.keeps I.bk) gP hok hc TB.gP (TB.bm.keeps I.bk) fun c' ctv g tk hk hge hlt hrec hnew => ?_
    obtain ⟨d, oc, vs, t, ed, hoc, hd, hv⟩ := hrec
    cases ed
    have hsz : s.heap.objs.size ≤ g.objs.size := by omega
    have nc : H c' = none := I.hok.fresh hge
    have pc : P ≠ c' := ne_of_none htb nc
    have J := LamX.inv_table (t' := tk) (more := #[rawInt pos.line, rawInt pos.col, .ref c']) (h' := g.push (PySem.W.kla_obj "<lambda>" (X.env.qual ++ "<lambda>") params body scope (cloFrom X.env.cells scope.names []) ((X.mg "__name__").getD .none) c' ctv)) I htb
      (fun b o hb e => Heap.get?_push_of_some _ (hk b o hb e)) (Heap.get?_push_of_some _ hnew) hge ⟨oc, vs, t, Heap.get?_push_of_some _ hoc, hd, hv⟩
    have ex : LamX.ExtN H (upd (upd H P (.tbl (tb ++ #[rawInt pos.line, rawInt pos.col, .ref c']))) c' (LamX.CodeO c' (X.env.qual ++ "<lambda>"))) := fun b o e n => by
      have b1 : b ≠ c' := ne_of_none e nc
      have b2 : b ≠ P := fun z => by
        rw [z, htb] at e
        cases e
        exact n tb rfl
      rw [upd_ne b1, upd_ne b2]
      exact e
    have lst : (tb ++ #[rawInt pos.line, rawInt pos.col, .ref c']).toList = tb.toList ++ [rawInt pos.line, rawInt pos.col, .ref c'] := by simp
    refine fin _ c' _ ctv _ _ J ex (fun p hp => ?_) (Heap.get?_push_size _ rfl) hsz ?_ upd_same
    · obtain ⟨tp, htp, okp, inp⟩ := hT p hp
      by_cases hb : p.1 = P
      · have e2 := hu p hp hb
        rw [hb, htb] at htp
        cases htp
        refine ⟨_, by rw [hb, upd_ne pc, upd_same], by rw [lst]; exact PySem.TriplesOk_snoc _ _ _ _ okp, fun p' cv hcv => ?_⟩
        rw [lst] at hcv
        rcases LamX.among_app _ okp hcv with z | z
        · obtain ⟨c0, e1, e3⟩ := inp p' cv z
          exact ⟨c0, e1, ex _ _ e3 LamX.codeO_ne⟩
        · exact ⟨c', z, by rw [e2]; exact upd_same⟩
      · refine ⟨tp, by rw [upd_ne (ne_of_none htp nc), upd_ne hb]; exact htp, okp, fun p' cv hcv => ?_⟩
        obtain ⟨c0, e1, e3⟩ := inp p' cv hcv
        exact ⟨c0, e1, ex _ _ e3 LamX.codeO_ne⟩
    · have n1 : g.objs.size ≠ c' := Nat.ne_of_gt hlt
      have n2 : g.objs.size ≠ P := Nat.ne_of_gt (Nat.lt_of_lt_of_le (Heap.lt_size gP) hsz)
      rw [upd_ne n1, upd_ne n2]
      exact I.hok.fresh hsz
/-- a thing that nothing tells of is taken as it is -/
theorem hok_frz {P : Program} {w : World} {h : Heap} {a : Addr} {o : Obj} (x : HOk P w H h) (ha : H a = none) (e : h.get? a = some o) : HOk P w (upd H a (.frz o anyO)) h := fun b u hb => by
  by_cases ab : b = a
  · subst ab
    rw [upd_same] at hb
    cases hb
    exact ⟨e, True.intro, ⟨o, e⟩, fun _ _ _ _ => True.intro⟩
  · rw [upd_ne ab] at hb
    refine (x b u hb).stay (fun b v _ q => q) (fun d q => ?_) fun d xs q => ?_
    · rw [upd_ne (ne_of_none q ha)]; exact q
    · rw [upd_ne (ne_of_none q ha)]; exact q
/-- .. and let go behind a call -/
theorem un_drp {fs : List Addr} {H H' : Hp} {h h' : Heap} {a : Addr} {o : Obj} (ha : H a = none) (e : h.get? a = some o) (e' : h'.get? a = some o) (u : Un fs [] (upd H a (.frz o anyO)) H' h h') : Un fs [] H (drp H' a) h h' where
  keep := fun b ob g n hb hx => by
    by_cases ab : b = a
    · subst ab; rw [e] at g; cases g; exact e'
    · exact u.keep b ob g (by rw [upd_ne ab]; exact n) hb hx
  slot := fun b ob g n hb hx => by
    by_cases ab : b = a
    · subst ab; rw [e] at g; cases g; exact ⟨o.slots, e'⟩
    · exact u.slot b ob g (by rw [upd_ne ab]; exact n) hb hx
  free := fun b ob g n hx => by
    by_cases ab : b = a
    · subst ab; exact drp_same
    · exact drp_none (u.free b ob g (by rw [upd_ne ab]; exact n) hx)
  there := u.there
  tups := fun b xs q => by
    have ab := ne_of_none q ha
    rw [drp_ne ab]
    exact u.tups b xs (by rw [upd_ne ab]; exact q)
  frzs := fun b ob v q => by
    have ab := ne_of_none q ha
    rw [drp_ne ab]
    exact u.frzs b ob v (by rw [upd_ne ab]; exact q)
  tbls := fun b ps q => by
    have ab := ne_of_none q ha
    obtain ⟨more, z⟩ := u.tbls b ps (by rw [upd_ne ab]; exact q)
    exact ⟨more, by rw [drp_ne ab]; exact z⟩
def LamC (G : Hp) (k : Nat) (n : Int) (f cc c' : Addr) : Prop := ∃ (q : Str) (a p1 p2 p3 : Pos) (pm ctv : Value) (o : Obj) (t : Tok),
  G f = some (.frz (PySem.W.kla_obj "<lambda>" q (lamArgs a) (lamBody (lamOp k) p1 p2 p3) lamScope [("number", cc)] pm c' ctv) anyO) ∧ G cc = some (.frz o anyO) ∧ o.data = .cell (some (.int n t)) ∧ G c' = some (LamX.CodeO c' q)
/-- f(e, e2, lambda one: one .. number): the lambda's two things are known to the callee -/
def tMW (T : Tb) (sp : Sp) (k i : Nat) (t1 t2 : TE) : TE := fun σ H Q => t1 σ H fun x1 H1 => t2 σ H1 fun x2 H2 => ∃ n : Int, σ[i]? = some (some (.int n)) ∧ Tabs T H2 ∧
  ∀ (f cc c' : Addr) (fo co : Obj) (H3 : Hp), LamX.ExtN H2 H3 → Tabs T H3 → H3 f = none → H3 cc = none → f ≠ cc → LamC (upd (upd H3 f (.frz fo anyO)) cc (.frz co anyO)) k n f cc c' →
    sp [x1, x2, .ref f] (upd (upd H3 f (.frz fo anyO)) cc (.frz co anyO)) (fun v H4 => Q v (drp (drp H4 cc) f)) E0
theorem pe_mw (k : Nat) (i : Nat) {T : Tb} {sp : Sp} {x : Str} {kk : Nat} {ps : List Str} {c P : Addr} {e1 e2 : Expr} {t1 t2 : TE} {a p1 p2 p3 lpos p pos : Pos} (F : Fk X.prog X.w X.K X.mg X.base x kk ps sp) (hr : Room kk X.A) (hg : Gl X x) (h1 : PE X e1 t1) (h2 : PE X e2 t2)
    (TB : LamX.TabB X.base X.mg c P) (hcode : X.env.code = .ref c) (hm : (P, X.env.qual ++ "<lambda>") ∈ T) (hu : ∀ p ∈ T, p.1 = P → p.2 = X.env.qual ++ "<lambda>") (hfn : ∀ y, X.fn y = true)
    (hN : X.N[i]? = some ("number" : Str)) (hv : X.env.scope.names.lookup ("number" : Str) = some .cell) (hps : ps.length = 3) (hdb : (x == ("__debug__" : Str)) = false := by decide)
    (hs : starEach [e1, e2, .Lambda (lamArgs a) (lamBody (lamOp k) p1 p2 p3) lamScope lpos] X.env = (false, eval e1 X.env) :: starEach [e2, .Lambda (lamArgs a) (lamBody (lamOp k) p1 p2 p3) lamScope lpos] X.env := by rfl)
    (hs2 : starEach [e2, .Lambda (lamArgs a) (lamBody (lamOp k) p1 p2 p3) lamScope lpos] X.env = [(false, eval e2 X.env), (false, eval (.Lambda (lamArgs a) (lamBody (lamOp k) p1 p2 p3) lamScope lpos) X.env)] := by rfl)
    (hpl : (backTo pos [(false, eval e2 X.env), (false, eval (.Lambda (lamArgs a) (lamBody (lamOp k) p1 p2 p3) lamScope lpos) X.env)]).any (·.1) = false := by rfl) :
    PE X (.Call (.Name x p) [e1, e2, .Lambda (lamArgs a) (lamBody (lamOp k) p1 p2 p3) lamScope lpos] [] pos) (tMW T sp k i t1 t2) := by
  obtain ⟨fa, fd, G, hmf, kp, bnd⟩ := F
  refine ⟨fun pins s σ H Q I h => ?_⟩
  refine wpAny_Call_Name_kw (ld_glob I hg hmf ?_ hdb)
  refine PySem.W.callWith_K (first := []) (h₀ := X.base) I.ok.mod.kin kp ?_ hs (by rw [hs2]; exact hpl)
  rw [hs, hs2]
  show wpAny _ _ (spliced ((false, eval e1 X.env) :: backTo pos _)) _ _ s
  refine Calls.spliced_cons (thn (h1.run pins s σ H _ I h) fun u1 s1 ⟨x1, H1, I1, r1, h⟩ => ?_)
  show wpAny _ _ (spliced ((false, eval e2 X.env) :: backTo pos _)) _ _ s1
  refine Calls.spliced_cons (thn (h2.run pins s1 σ H1 _ I1 h) fun u2 s2 ⟨x2, H2, I2, r2, n, hn, hT, h⟩ => ?_)
  show wpAny _ _ (spliced ((false, eval (.Lambda (lamArgs a) (lamBody (lamOp k) p1 p2 p3) lamScope lpos) X.env) :: backTo pos [])) _ _ s2
  have has : ∃ c, X.env.cells.lookup ("number" : Str) = some c := I2.ok.has _ (.inl hv)
  refine Calls.spliced_cons (lam_mk I2 TB hcode hm hu hT rfl (fun y hy e => ?_) fun f c' pm ctv H3 s3 I3 ex T3 hf hge hfn' hco => ?_)
  · have : y = (("one" : Str), NameKind.local) ∨ y = (("number" : Str), NameKind.free) := by simpa using hy
    rcases this with z | z
    · rw [z] at e; cases e
    · rw [z]; exact has
  refine Calls.spliced_nil ⟨I3.kIn, ?_⟩
  show wpAny _ _ (call (.ref fa) [u1, u2, .ref f]) _ _ s3
  obtain ⟨m, hns, hl⟩ := I3.loc
  obtain ⟨un, run, hlook⟩ := hl i _ _ hN hn (.inr (.inl hv))
  obtain ⟨t, rfl⟩ := run
  rcases hlook with ⟨z, _⟩ | ⟨_, cc, hcc, co, gco, dco⟩
  · have z : X.env.scope.names.lookup ("number" : Str) = some .local := z
    rw [hv] at z
    cases z
  have hclo : cloFrom X.env.cells lamScope.names [] = ([("number", cc)] : List (Str × Addr)) := by
    show ([("number", (X.env.cells.lookup ("number" : Str)).getD 0)] : List (Str × Addr)) = _
    rw [hcc] <;> rfl
  rw [hclo] at hf
  have ncc : H3 cc = none := I3.freeC _ _ hcc
  have fcc : f ≠ cc := fun z => by
    rw [z, gco] at hf
    cases hf
    cases dco
  generalize hfo : PySem.W.kla_obj "<lambda>" (X.env.qual ++ "<lambda>") (lamArgs a) (lamBody (lamOp k) p1 p2 p3) lamScope [("number", cc)] pm c' ctv = fo at hf
  have hL : LamC (upd (upd H3 f (.frz fo anyO)) cc (.frz co anyO)) k n f cc c' := by
    refine ⟨X.env.qual ++ "<lambda>", a, p1, p2, p3, pm, ctv, co, t, ?_, upd_same, dco, ?_⟩
    · rw [upd_ne fcc, upd_same, hfo]
    · rw [upd_ne (ne_of_none hco ncc), upd_ne (ne_of_none hco hfn')]
      exact hco
  have hq := h f cc c' fo co H3 ex T3 hfn' ncc fcc hL
  have n4 : upd H3 f (.frz fo anyO) cc = none := by rw [upd_ne (Ne.symm fcc)]; exact ncc
  have hok1 := hok_frz I3.hok hfn' hf
  have hok2 := hok_frz hok1 n4 gco
  have e0 := I3.env0
  have bf : ∀ b o, X.base.get? b = some o → b ≠ f ∧ b ≠ cc := fun b o hb => by
    have l1 := Heap.lt_size hb
    have l2 := I2.ok.bsz
    have l3 := I2.sz
    have l4 := I2.ok.cab _ _ (hfn _) hcc
    exact ⟨Nat.ne_of_lt (Nat.lt_of_lt_of_le l1 (Nat.le_trans l2 (Nat.le_trans l3 hge))), Nat.ne_of_lt (Nat.lt_of_lt_of_le l1 (Nat.le_trans l2 l4))⟩
  have nf : f ∉ frs X.stack := fun z => by
    rcases List.mem_cons.mp (I3.stkSub _ z) with e | e
    · exact absurd (Nat.lt_of_lt_of_le I2.lt hge) (by rw [e]; exact Nat.lt_irrefl _)
    · exact I2.nofs hge e
  have e0' : Env0 X.prog X.w X.K X.mg X.base X.A X.stack s3 (upd (upd H3 f (.frz fo anyO)) cc (.frz co anyO)) := by
    refine ⟨e0.frames, e0.mod, fun b o hb => ⟨(e0.bs b o hb).1, ?_⟩, e0.bsz, e0.funs, fun b hb => ?_, hok2, e0.bare⟩
    · rw [upd_ne (bf b o hb).2, upd_ne (bf b o hb).1]
      exact (e0.bs b o hb).2
    · have c2 : b ≠ cc := fun z => by
        rcases List.mem_cons.mp (I3.stkSub _ hb) with e | e
        · exact I3.cne _ _ hcc (z.symm.trans e)
        · obtain ⟨_, o, ho, _⟩ := I3.ok.funs.mem e
          have l1 := Heap.lt_size ho
          have l4 := I2.ok.cab _ _ (hfn _) hcc
          rw [z] at l1
          exact absurd l1 (Nat.not_lt.mpr l4)
      rw [upd_ne c2, upd_ne (fun z => nf (by rw [← z]; exact hb))]
      exact e0.frf b hb
  have hl3 : ([x1, x2, V.ref f] : List V).length = ps.length := by rw [hps] <;> rfl
  have rv : Vals [x1, x2, V.ref f] [u1, u2, .ref f] := .cons r1 (.cons r2 (.cons rfl .nil))
  have rc := G.run X.A X.stack s3 _ ⟨[u1, u2, .ref f], []⟩ ([u1, u2, .ref f] ++ []) _ _ _ hr e0' (bnd s3 [u1, u2, .ref f] I3.kIn (by rw [hps] <;> rfl)) (by rw [List.append_nil]; exact rv) hq
  refine wpAny_call (codeAny_mono rc fun r s' hq => ?_)
  cases r with
  | error e => exact (show False from hq).elim
  | ok fl =>
    cases fl with
    | next => exact False.elim hq
    | brk => exact False.elim hq
    | cont => exact False.elim hq
    | ret v =>
      have hq : CE X.stack X.prog X.w _ s3 _ v s' := hq
      obtain ⟨y, H5, os, bare, un, hok5, ry, q⟩ := hq
      have fz1 := un.frzs cc co anyO upd_same
      have fz2 := un.frzs f fo anyO (by rw [upd_ne fcc, upd_same])
      have g1 := (hok5 cc _ fz1).1
      have g2 := (hok5 f _ fz2).1
      have okA := hok_drp hok5 fz1
      have fz3 : drp H5 cc f = some (.frz fo anyO) := by rw [drp_ne fcc]; exact fz2
      have okB := hok_drp okA fz3
      have unA := un_drp n4 gco g1 un
      have unB := un_drp hfn' hf g2 unA
      exact I3.after ⟨y, _, os, bare, unB, okB, ry, q⟩
end
end DL
end
section
set_option maxRecDepth 100000
namespace DL
open PySem PySem.Spec PyProof.Rows L2
/-! ### lambdas at the data level -/
def dLamC (i : Nat) (t : DTE) : DTE := fun ρ S Q => match ρ[i]? with
  | some (some (.lam k n)) => t ρ S fun d S1 => match d with
    | .int x => Q (.bl (lamRel k x n)) S1
    | _ => False
  | _ => False
def lamAt (o : Option (Option D)) (q : Nat → Int → Prop) : Prop := match o with
  | some (some (.lam k n)) => q k n
  | _ => False
theorem lamAt_s (k : Nat) (n : Int) (q : Nat → Int → Prop) : lamAt (some (some (.lam k n))) q = q k n := rfl
theorem e_lamC {i : Nat} {t : DTE} {ρ : DEnv} {S : Nat} {Q : D → Nat → Prop} : dLamC i t ρ S Q = lamAt ρ[i]? fun k n => t ρ S fun d S1 => asI d fun x => Q (.bl (lamRel k x n)) S1 := rfl
def dMW (dsp : DSp) (k i : Nat) (d1 d2 : DTE) : DTE := fun ρ S Q => d1 ρ S fun x S1 => d2 ρ S1 fun y S2 => match ρ[i]? with
  | some (some (.int n)) => dsp [x, y, .lam k n] S2 fun d S3 => (∃ ns : List Int, d = .lst (ns.map D.int)) ∧ Q d S3
  | _ => False
theorem e_mw {dsp : DSp} {k i : Nat} {d1 d2 : DTE} {ρ : DEnv} {S : Nat} {Q : D → Nat → Prop} : dMW dsp k i d1 d2 ρ S Q = d1 ρ S fun x S1 => d2 ρ S1 fun y S2 => atI' ρ[i]? fun n => dsp [x, y, .lam k n] S2 fun d S3 => (∃ ns : List Int, d = .lst (ns.map D.int)) ∧ Q d S3 := rfl
theorem mut_lam (k : Nat) (n : Int) : (D.lam k n).isMut = false := rfl
section
variable {K : PySem.W.Frag} {T : Tb}
instance snd_lamC {i : Nat} {te : TE} {t : DTE} [h : SndE K T te t] : SndE K T (tLamC i te) (dLamC i t) := ⟨fun c m σ H S ρ Qd Q r w kk => by
  unfold dLamC at w
  split at w
  · rename_i k n e
    obtain ⟨v, e1, s⟩ := r.slot i _ e
    cases s with
    | fz hr =>
      cases hr with
      | lam L =>
        rename_i f
        refine ⟨f, k, n, e1, L.un, h.run c m σ H S ρ _ _ r w fun v H1 S1 d w1 r1 l1 f1 => ?_⟩
        cases r1 with
        | int x => exact ⟨x, rfl, (L.ex (f1.ex r.qmm)).un, kk _ H1 S1 _ w1 (.bl _) l1 f1⟩
        | _ => exact w1.elim
  · exact w.elim⟩
instance snd_mw {dsp : DSp} {k i : Nat} {t1 t2 : TE} {d1 d2 : DTE} [h1 : SndE K T t1 d1] [h2 : SndE K T t2 d2] : SndE K T (tMW T (spOf K T dsp) k i t1 t2) (dMW dsp k i d1 d2) := ⟨fun c m σ H S ρ Qd Q r w kk =>
  h1.run c m σ H S ρ _ _ r w fun v1 H1 S1 x w1 r1 l1 f1 => h2.run c m σ H1 S1 ρ _ _ l1 w1 fun v2 H2 S2 y w2 r2 l2 f2 => by
    split at w2
    · rename_i n e
      obtain ⟨v, e1, s⟩ := l2.slot i _ e
      cases s with
      | fz hr =>
        cases hr
        refine ⟨n, e1, l2.tab, fun f cc c' fo co H3 ex T3 nf ncc fcc L => ?_⟩
        have fr3 : Fr c.q H2 H3 := fun a o ha _ nt => ex a o ha nt
        have p3 : PotOk c.q S2 H3 := fun p hp => by
          obtain ⟨a, b, d, g1, g2⟩ := l2.pot p hp
          exact ⟨a, b, d, ex _ _ g1 (fun ps z => by cases z), g2⟩
        have l3 := l2.on fr3 p3 T3
        have n4 : upd H3 f (.frz fo anyO) cc = none := by rw [upd_ne (Ne.symm fcc)]; exact ncc
        have nw : Nw H3 (upd (upd H3 f (.frz fo anyO)) cc (.frz co anyO)) := (Nw.upd nf).trans (Nw.upd n4)
        have F4 : upd (upd H3 f (.frz fo anyO)) cc (.frz co anyO) f = some (.frz fo anyO) := by rw [upd_ne fcc, upd_same]
        have C4 : upd (upd H3 f (.frz fo anyO)) cc (.frz co anyO) cc = some (.frz co anyO) := upd_same
        generalize upd (upd H3 f (.frz fo anyO)) cc (.frz co anyO) = H4 at L nw F4 C4 ⊢
        obtain ⟨q, a, p1, p2, p3', pm, ctv, o, t, g1, g2, g3, g4⟩ := L
        have nm : ∀ a, H3 a = none → a ∉ m := l3.no
        have potne : ∀ p, c.q = some p → p ≠ f ∧ p ≠ cc ∧ p ≠ c' := fun p hp => by
          obtain ⟨a, b, d, e1, _⟩ := p3 p hp
          have e2 := nw _ _ e1
          refine ⟨fun z => ?_, fun z => ?_, fun z => ?_⟩
          · rw [z, nf] at e1; cases e1
          · rw [z, ncc] at e1; cases e1
          · rw [z, g4] at e2; cases e2
        have mem : ∀ a, a ∈ m.filter (fun a => decide (a ≠ c')) ↔ a ∈ m ∧ a ≠ c' := fun a => by rw [List.mem_filter, decide_eq_true_eq]
        have vis : Ex (hid H2 m) (hid H4 (m.filter fun a => decide (a ≠ c'))) := ((fr3.ex l2.qmm).trans nw.ex).trans (Ex.less fun a ha => ((mem a).mp ha).1)
        generalize hm' : m.filter (fun a => decide (a ≠ c')) = m' at mem vis ⊢
        have fm : f ∉ m' := fun z => nm f nf ((mem f).mp z).1
        have ccm : cc ∉ m' := fun z => nm cc ncc ((mem cc).mp z).1
        have cm : c' ∉ m' := fun z => ((mem c').mp z).2 rfl
        refine ⟨c.q, m', [x, y, .lam k n], S2, fun d S3 => (∃ ns : List Int, d = .lst (ns.map D.int)) ∧ Qd d S3, ?_, fun p hp => (mem p).mpr ⟨l3.qmm p hp, (potne p hp).2.2⟩, fun b hb => ?_, p3.nw nw, tabs_nw T3 nw, w2, ?_⟩
        · refine .cons ((r1.mono (f2.ex l1.qmm)).mono vis) (.cons (r2.mono vis) (.cons (.lam ?_) Reps.nil))
          exact ⟨cc, c', q, a, p1, p2, p3', pm, ctv, o, t, hid_in g1 fm, hid_in g2 ccm, g3, hid_in g4 cm⟩
        · obtain ⟨u, hu, hn⟩ := l3.dom b ((mem b).mp hb).1
          exact ⟨u, nw _ _ hu, hn⟩
        · rintro v5 H5 S5 d ⟨⟨ns, rfl⟩, hQ⟩ rep p5 t5 f5
          have qf : c.q ≠ some f := fun z => (potne f z).1 rfl
          have qc : c.q ≠ some cc := fun z => (potne cc z).2.1 rfl
          have qc' : c.q ≠ some c' := fun z => (potne c' z).2.2 rfl
          have F5 : H5 f = some (.frz fo anyO) := f5 _ _ F4 qf (fun ps z => by cases z)
          have C5 : H5 cc = some (.frz co anyO) := f5 _ _ C4 qc (fun ps z => by cases z)
          have D5 : H5 c' = some (LamX.CodeO c' q) := f5 _ _ g4 qc' (fun ps z => LamX.codeO_ne ps z)
          have at6 : ∀ b, b ≠ f → b ≠ cc → drp (drp H5 cc) f b = H5 b := fun b z1 z2 => by rw [drp_ne z1, drp_ne z2]
          have fr6 : Fr c.q H3 (drp (drp H5 cc) f) := fun b u hb hq nt => by
            have z1 := ne_of_none hb nf
            have z2 := ne_of_none hb ncc
            rw [at6 b z1 z2]
            exact f5 _ _ (nw _ _ hb) hq nt
          have p6 : PotOk c.q S5 (drp (drp H5 cc) f) := fun p hp => by
            obtain ⟨u1, u2, u3, e1, e2⟩ := p5 p hp
            exact ⟨u1, u2, u3, by rw [at6 p (potne p hp).1 (potne p hp).2.1]; exact e1, e2⟩
          have nfz : ∀ b u, H5 b = some u → (∀ o, u ≠ .frz o anyO) → b ≠ f ∧ b ≠ cc := fun b u hb hn => ⟨fun z => by
            rw [z, F5] at hb
            cases hb
            exact hn _ rfl, fun z => by
            rw [z, C5] at hb
            cases hb
            exact hn _ rfl⟩
          have t6 : Tabs T (drp (drp H5 cc) f) := fun p hp => by
            obtain ⟨ps, e1, e2, e3⟩ := t5 p hp
            obtain ⟨z1, z2⟩ := nfz _ _ e1 (fun o z => by cases z)
            refine ⟨ps, by rw [at6 _ z1 z2]; exact e1, e2, fun pos cv hc => ?_⟩
            obtain ⟨c0, e4, e5⟩ := e3 pos cv hc
            obtain ⟨z1, z2⟩ := nfz _ _ e5 (fun o z => by unfold LamX.CodeO at z; cases z)
            exact ⟨c0, e4, by rw [at6 _ z1 z2]; exact e5⟩
          refine kk v5 (drp (drp H5 cc) f) S5 _ hQ ?_ (l3.on fr6 p6 t6) (((f1.trans f2).trans fr3).trans fr6)
          cases rep with
          | lst hs hl hz hr =>
            rename_i b vs
            have ev := reps_ints (K := K) (ns := ns) ⟨hl, hr⟩
            subst ev
            obtain ⟨e1, e2⟩ := hid_of hs
            obtain ⟨z1, z2⟩ := nfz _ _ e1 (fun o z => by cases z)
            have z3 : b ≠ c' := fun z => by
              rw [z, D5] at e1
              unfold LamX.CodeO at e1
              cases e1
            have bm : b ∉ m := fun z => e2 ((mem b).mpr ⟨z, z3⟩)
            have ri := ints_reps (K := K) (q := c.q) (G := hid (drp (drp H5 cc) f) m) ns
            exact .lst (hid_in (by rw [at6 b z1 z2]; exact e1) bm) ri.1 hz ri.2
    · exact w2.elim⟩
end
/-! ### a def whose code object is known -/
section
variable {P : Program} {w : World} {K : PySem.W.Frag} {mg : Str → Option Value} {base : Heap} {T : Tb}
theorem fun_okC {dsp : DSp} {x qual : Str} {st : Stmt} {f c : Addr} {fd : FuncData} {N ps : List Str} {k : Nat} (F : Fun K x qual st f fd) (hc : fd.code = .ref c) (S : FnScope N ps (defScope st)) (len : ∀ ds S Qd, dsp ds S Qd → ds.length = ps.length)
    (hbody : ∀ (A : Around) (outer : List Env) (s : Shared) (H : Hp) (E : XK), Room k (A.deeper (envOfC qual (defScope st) s.heap.objs.size f (.ref c))) →
      ∃ ts : TS, PSs (cxOf CX0 P w K mg base N qual (defScope st) f (.ref c) A outer s H E).nox (defBody st) ts ∧ ∃ t : DTS, SndS K T ts t ∧ ∀ ds S Qd, dsp ds S Qd → t { nx := fun _ S' => Qd .non S', rt := Qd } (dstart N ds) S) :
    FnOk P w K mg base CX0 (k + 1) f fd ps (spOf K T dsp) := by
  obtain ⟨oc, od, kV, doc, pm, an, cdv, ct, osl, rfl, lk, hcd⟩ := F.ex
  have hc : cdv = .ref c := hc
  subst hc
  refine fn_of lk hcd S (fun vs H Q E h => ?_) fun A outer s H vs Q E hr h => ?_
  · obtain ⟨q, m, ds, S, Qd, h1, _, _, _, _, h6, _⟩ := h
    rw [h1.1]
    exact len ds S Qd h6
  · obtain ⟨q, m, ds, S', Qd, hR, hq, hd, hp, ht, hs, kont⟩ := h
    obtain ⟨ts, hP, t, hS, hw⟩ := hbody A outer s H E hr
    refine ⟨ts, hP.nox, hS.run ⟨q, H, m⟩ m (L2.start N vs) H S' (dstart N ds) _ _ (rl_start N hR hq hd hp ht) (hw ds S' Qd hs) ⟨?_, ?_, ?_, ?_⟩⟩
    · intro m' σ' H' S2 ρ' h r e
      exact kont _ _ _ _ h .non r.pot r.tab r.fr
    · intro m' σ' H' S2 ρ' h
      exact h.elim
    · intro m' σ' H' S2 ρ' h
      exact h.elim
    · intro m' v H' S2 d h r l
      exact kont _ _ _ _ h (r.mono (Ex.less l.sub)) l.pot l.tab l.fr
end
end DL
end
section
set_option maxRecDepth 100000
namespace DL
open PySem PySem.Spec PyProof.Rows L2
/-! ### t += t2 -/
theorem noI_tuple_add : typeLookup (.type "tuple") (dunderI "add") = pure none := am_miss_of_fast (by decide +kernel)
section
variable {X : Cx}
theorem ip_catA : PIp X .Add (rCatA X.K) := by
  intro pins s σ H x y v u Q I rx ry h
  obtain ⟨a, b, xs, ys, rfl, rfl, ha, hb, hz, q0, q1, q2⟩ := h
  cases rx
  cases ry
  obtain ⟨its, r1, p1, _⟩ := I.tuple ha
  obtain ⟨its2, r2, p2, _⟩ := I.tuple hb
  obtain ⟨⟨cls, dd, data, sl⟩, ho, hc, n, hd⟩ := id p1
  obtain ⟨⟨cls2, dd2, data2, sl2⟩, ho2, hc2, n2, hd2⟩ := id p2
  simp only at hc hd hc2 hd2
  subst hc hd hc2 hd2
  refine wpAny_inplaceOp_concat ⟨_, ho, rfl⟩ ⟨_, ho2, rfl⟩ noI_tuple_add noFill_tuple_add seq_tuple_add ?_
  by_cases hx : xs = []
  · have hi : its = [] := r1.nil_iff.mpr hx
    exact call_meets PySem.F.slot_tuple_add ⟨_, ho, rfl⟩ PySem.F.entry_tuple_add (PySem.F.args_tuple_add_2 _ _) (tuple_addW0 a b its.toArray its2.toArray n n2 dd dd2 sl sl2 (by simp [hi])) ⟨ho, ho2, .ref b, H, I, rfl, q0 hx⟩
  · have hi : its ≠ [] := fun z => hx (r1.nil_iff.mp z)
    by_cases hy : ys = []
    · have hj : its2 = [] := r2.nil_iff.mpr hy
      exact call_meets PySem.F.slot_tuple_add ⟨_, ho, rfl⟩ PySem.F.entry_tuple_add (PySem.F.args_tuple_add_2 _ _) (tuple_addW1 a b its.toArray its2.toArray n n2 dd dd2 sl sl2 (by simpa using hi) (by simp [hj])) ⟨ho, ho2, .ref a, H, I, rfl, q1 hx hy⟩
    · have hj : its2 ≠ [] := fun z => hy (r2.nil_iff.mp z)
      have e : its.toArray ++ its2.toArray = (its ++ its2).toArray := by simp
      refine call_meets PySem.F.slot_tuple_add ⟨_, ho, rfl⟩ PySem.F.entry_tuple_add (PySem.F.args_tuple_add_2 _ _) (tuple_addW2 a b its.toArray its2.toArray n n2 dd dd2 sl sl2 (by simpa using hi) (by simpa using hj) (by rw [List.size_toArray, List.size_toArray, ← r1.length, ← r2.length]; exact hz)) ⟨ho, ho2, ?_⟩
      rw [e]
      refine ⟨.ref s.heap.objs.size, _, I.laid (t' := s.toks) (o := .tup (xs ++ ys)) (fun b ob q => Heap.get?_push_of_some _ q) (Nat.le_refl _) ?_, rfl, q2 hx hy _ (I.hok.fresh (Nat.le_refl _))⟩
      exact ⟨by rw [List.length_append]; exact hz, _, r1.append r2, IsTup.new _ _⟩
theorem ip_catK {K : PySem.W.Frag} (hK : X.K = K) : PIp X .Add (rCatA K) := by subst hK; exact ip_catA
end
def dAugT (i : Nat) (t : DTE) : DTS := fun E ρ S => match ρ[i]? with
  | some (some (.tup xs)) => t ρ S fun d S1 => match d with
    | .tup ys => xs.length + ys.length ≤ sizeLine ∧ E.nx (ρ.set i (some (.tup (xs ++ ys)))) S1
    | _ => False
  | _ => False
def tupAt (o : Option (Option D)) (q : List D → Prop) : Prop := match o with
  | some (some (.tup xs)) => q xs
  | _ => False
theorem tupAt_s (xs : List D) (q : List D → Prop) : tupAt (some (some (.tup xs))) q = q xs := rfl
theorem e_augT {i : Nat} {t : DTE} {E : DEnds} {ρ : DEnv} {S : Nat} : dAugT i t E ρ S = tupAt ρ[i]? fun xs => t ρ S fun d S1 => asT d fun ys => xs.length + ys.length ≤ sizeLine ∧ E.nx (ρ.set i (some (.tup (xs ++ ys)))) S1 := rfl
section
variable {K : PySem.W.Frag} {T : Tb}
instance snd_augT {i : Nat} {te : TE} {t : DTE} [h : SndE K T te t] : SndS K T (tAug i te (rCatA K)) (dAugT i t) := ⟨fun c m σ H S ρ E Ed r w k => by
  unfold dAugT at w
  split at w
  · rename_i xs e
    obtain ⟨v, e1, s⟩ := r.slot i _ e
    cases s with
    | fz hr =>
      refine ⟨v, e1, h.run c m σ H S ρ _ _ r w fun u H1 S1 d w1 r1 l1 f1 => ?_⟩
      cases r1 with
      | tup hs hl hz hrr =>
        rename_i b us ys
        have w1 : xs.length + ys.length ≤ sizeLine ∧ Ed.nx (ρ.set i (some (.tup (xs ++ ys)))) S1 := w1
        exact snd_catT.run (K := K) c.q m H1 v (.ref b) (.tup xs) (.tup ys) (fun z => Ed.nx (ρ.set i (some z)) S1) _ l1.no (hr.mono (f1.ex r.qmm)) (.tup hs hl hz hrr) w1 fun z H2 dz hz2 rz nz =>
          k.nx m _ H2 S1 _ hz2 ((l1.nw nz).set i rz) ((f1.ex r.qmm).trans nz.ex)
      | _ => exact w1.elim
  · exact w.elim⟩
end
end DL
end
section
set_option maxRecDepth 100000
namespace DL
open PySem PySem.Spec PyProof.Rows L2
/-! ### repr of a pair of ints, where no repr is under way -/
def prT (i j : Int) : Str := (PyData.tuple [.int i, .int j]).shown
def rRepr (K : PySem.W.Frag) : List V → Hp → VK → Prop := fun xs H Q => ∃ (a : Addr) (i j : Int), xs = [.ref a] ∧ SqT K H a [.int i, .int j] ∧ i.natAbs ≤ 1000 ∧ j.natAbs ≤ 1000 ∧ Q (.str (prT i j)) H
theorem reprK {X : Cx} {K : PySem.W.Frag} (hK : X.K = K) (hg : X.A.guards = some []) (hu : X.A.units + 65 < cLine) : CallR X (.builtin "repr") (rRepr K) := by
  subst hK
  intro pins s σ H xs us Q I r h
  obtain ⟨a, i, j, rfl, ht, hi, hj, q⟩ := h
  obtain ⟨u, rfl, ru⟩ := vals1 r
  have dp : Dp X.K H (.ref a) (.tuple [.int i, .int j]) := .tup ht (.cons (.int i) (.cons (.int j) .nil))
  cases ru
  obtain ⟨as, rd⟩ := Dp.reads I _ _ _ dp rfl
  have l1 : i.natAbs.log2 < 1920 := Nat.lt_of_le_of_lt (Nat.log2_le_self _) (by omega)
  have l2 : j.natAbs.log2 < 1920 := Nat.lt_of_le_of_lt (Nat.log2_le_self _) (by omega)
  have sh : (PyData.tuple [.int i, .int j]).showable = true := by simp [PyData.showable, PyData.showableAll, l1, l2]
  have nd : (PyData.tuple [.int i, .int j]).hasDict = false := by simp [PyData.hasDict, PyData.hasDictAll]
  have dd : (PyData.tuple [.int i, .int j]).depth ≤ 2 := by simp [PyData.depth, PyData.depthAll]
  refine repr_of_reads' rd sh (PyData.noDict_hsm nd) hg (by omega) (fun b o e => e) (fun h' u tk hk => ?_) ?_
  · exact ⟨.str (prT i j), H, I.kept (h' := h') (t' := tk) hk, ⟨u, rfl⟩, q⟩
  · have e : (PyData.tuple [.int i, .int j]).shown = tupleText [Str.ofString (toString i), Str.ofString (toString j)] := by simp [PyData.shown, PyData.shownAll]
    rw [e]
    refine Nat.le_trans (fmt_text _) ?_
    have a1 := int_text_len_1921 l1
    have a2 := int_text_len_1921 l2
    rw [piled_cons, piled_cons, piled_nil, sizeLine_eq]
    omega
def fRepr : DFn := fun ds Q => match ds with
  | [.tup [.int i, .int j]] => (i.natAbs ≤ 1000 ∧ j.natAbs ≤ 1000) ∧ Q (.str (prT i j))
  | _ => False
theorem f_repr {q : D → Prop} (i j : Int) : fRepr [.tup [.int i, .int j]] q = ((i.natAbs ≤ 1000 ∧ j.natAbs ≤ 1000) ∧ q (.str (prT i j))) := rfl
section
variable {K : PySem.W.Frag} {T : Tb}
instance snd_repr : SndB K (rRepr K) fRepr := ⟨fun q m H xs ds Qd Q no rx h k => by
  unfold fRepr at h
  split at h
  · rename_i i j
    obtain ⟨v, rfl, r⟩ := reps1 rx
    cases r with
    | tup hs hl hz hr =>
      obtain ⟨v1, v2, rfl, r1, r2⟩ := reps2 (K := K) ⟨hl, hr⟩
      cases r1
      cases r2
      exact ⟨_, i, j, rfl, sqt_un hs, h.1.1, h.1.2, k _ H _ h.2 (.str _) (Nw.refl H)⟩
  · exact h.elim⟩
end
/-! ### defs that are run where no repr is under way -/
structure FnG (P : Program) (w : World) (K : PySem.W.Frag) (mg : Str → Option Value) (base : Heap) (k : Nat) (f : Addr) (fd : FuncData) (ps : List Str) (sp : Sp) : Prop where
  len : ∀ vs H Q E, sp vs H Q E → vs.length = ps.length
  run : ∀ (A : Around) (outer : List Env) (s : Shared) (H : Hp) (args : Args) (us : List Value) (vs : List V) (Q : VK) (E : XK), Room k A → A.guards = some [] → Env0 P w K mg base A outer s H → BindsTo s fd args (ps.zip us) → Vals vs us → sp vs H Q E →
    codeAny (model P w) A (.call (.ref f) args) (CR CX0 outer P w H s Q E) s
theorem FnOk.g {P : Program} {w : World} {K : PySem.W.Frag} {mg : Str → Option Value} {base : Heap} {k : Nat} {f : Addr} {fd : FuncData} {ps : List Str} {sp : Sp} (G : FnOk P w K mg base CX0 k f fd ps sp) : FnG P w K mg base k f fd ps sp :=
  ⟨G.len, fun A outer s H args us vs Q E hr _ => G.run A outer s H args us vs Q E hr⟩
def FkG (P : Program) (w : World) (K : PySem.W.Frag) (mg : Str → Option Value) (base : Heap) (x : Str) (k : Nat) (ps : List Str) (sp : Sp) : Prop :=
  ∃ (f : Addr) (fd : FuncData), FnG P w K mg base k f fd ps sp ∧ mg x = some (.ref f) ∧ PySem.W.keepIn K (.ref f) = true ∧ Binds K fd ps []
section
variable {X : Cx} {x : Str} {k : Nat} {ps : List Str} {sp : Sp} {p pos : Pos} {e : Expr} {es : List Expr} {t : TA}
theorem pe_callG (F : FkG X.prog X.w X.K X.mg X.base x k ps sp) (hr : Room k X.A) (hgd : X.A.guards = some []) (hg : Gl X x) (ha : PA X (e :: es) t) (hdb : (x == ("__debug__" : Str)) = false := by decide)
    (he : starEach (e :: es) X.env = (false, eval e X.env) :: starEach es X.env := by rfl) (hpl : (backTo pos (starEach es X.env)).any (·.1) = false := by rfl) : PE X (.Call (.Name x p) (e :: es) [] pos) (tCall sp [] E0 t) := by
  obtain ⟨f, fd, G, hm, kp, b⟩ := F
  refine ⟨fun pins s σ H Q I h => wpAny_Call_Name_kw (ld_glob I hg hm ?_ hdb)⟩
  refine PySem.W.callWith_K (h₀ := X.base) I.ok.mod.kin kp (thn (ha.run pos pins s σ H _ I h) fun us s1 ⟨vs, H1, I1, r, q⟩ => ⟨I1.kIn, ?_⟩) he hpl
  have q : sp vs H1 Q E0 := by
    have q' : sp (vs ++ []) H1 Q E0 := q
    rwa [List.append_nil] at q'
  have hl : us.length = ps.length := by rw [← r.length]; exact G.len _ _ _ _ q
  have hb := b s1 us I1.kIn (by rw [List.append_nil]; exact hl)
  rw [List.append_nil] at hb
  refine wpAny_call (codeAny_mono (G.run X.A X.stack s1 H1 ⟨us, []⟩ us vs Q E0 hr hgd I1.env0 hb r q) fun r s' hq => ?_)
  cases r with
  | error e => exact (show False from hq).elim
  | ok fl =>
    cases fl with
    | ret u => exact I1.after hq
    | next => exact False.elim hq
    | brk => exact False.elim hq
    | cont => exact False.elim hq
end
section
variable {P : Program} {w : World} {K : PySem.W.Frag} {mg : Str → Option Value} {base : Heap} {T : Tb}
theorem fun_okG {dsp : DSp} {x qual : Str} {st : Stmt} {f : Addr} {fd : FuncData} {N ps : List Str} {k : Nat} (F : Fun K x qual st f fd) (S : FnScope N ps (defScope st)) (len : ∀ ds S Qd, dsp ds S Qd → ds.length = ps.length)
    (hbody : ∀ (cdv : Value) (A : Around) (outer : List Env) (s : Shared) (H : Hp) (E : XK), Room k (A.deeper (envOfC qual (defScope st) s.heap.objs.size f cdv)) → A.guards = some [] →
      ∃ ts : TS, PSs (cxOf CX0 P w K mg base N qual (defScope st) f cdv A outer s H E).nox (defBody st) ts ∧ ∃ t : DTS, SndS K T ts t ∧ ∀ ds S Qd, dsp ds S Qd → t { nx := fun _ S' => Qd .non S', rt := Qd } (dstart N ds) S) :
    FnG P w K mg base (k + 1) f fd ps (spOf K T dsp) := by
  obtain ⟨oc, od, kV, doc, pm, an, cdv, ct, osl, rfl, lk, hcd⟩ := F.ex
  have hlen : ∀ vs H Q E, spOf K T dsp vs H Q E → vs.length = ps.length := fun vs H Q E h => by
    obtain ⟨q, m, ds, S, Qd, h1, _, _, _, _, h6, _⟩ := h
    rw [h1.1]
    exact len ds S Qd h6
  refine ⟨hlen, fun A outer s H args us vs Q E hr hg e0 hb r h => ?_⟩
  refine LamX.run_ofS lk hcd S hr e0 hb r (hlen _ _ _ _ h) fun hr' => ?_
  obtain ⟨q, m, ds, S', Qd, hR, hq, hd, hp, ht, hs, kont⟩ := h
  obtain ⟨ts, hP, t, hS, hw⟩ := hbody cdv A outer s H E hr' hg
  refine ⟨ts, hP.nox, hS.run ⟨q, H, m⟩ m (L2.start N vs) H S' (dstart N ds) _ _ (rl_start N hR hq hd hp ht) (hw ds S' Qd hs) ⟨?_, ?_, ?_, ?_⟩⟩
  · intro m' σ' H' S2 ρ' h r e
    exact kont _ _ _ _ h .non r.pot r.tab r.fr
  · intro m' σ' H' S2 ρ' h
    exact h.elim
  · intro m' σ' H' S2 ρ' h
    exact h.elim
  · intro m' v H' S2 d h r l
    exact kont _ _ _ _ h (r.mono (Ex.less l.sub)) l.pot l.tab l.fr
end
end DL
end
section
set_option maxRecDepth 100000
set_option synthInstance.maxHeartbeats 2000000
set_option synthInstance.maxSize 4000
set_option maxHeartbeats 2000000
namespace RS
open PySem PySem.Spec PyProof.Rows L2 DL
/-! ### the law's checks -/
/-- moments that show why a run is accepted -/
def Rsn (w : Wd) (m : Md) (p : Pl) (r : Rn) (ks : List Nat) : Prop := (∀ k ∈ ks, sp0 r ≤ k ∧ k ≤ sp1 r) ∧ match m with
  | .ex => ks.map (fun k => res w (stAt r k)) = [rRes w p r]
  | .bt => ∃ a b, ks = [a, b] ∧ res w (stAt r a) ≤ rRes w p r ∧ rRes w p r ≤ res w (stAt r b)
  | .fl => ∃ a, ks = [a] ∧ res w (stAt r a) ≤ rRes w p r
  | .ce => ∃ a, ks = [a] ∧ rRes w p r ≤ res w (stAt r a)
def sp_reasons : DSp := fun ds S Q => ∃ w m p r, ds = [eW w, .str (eMd m), ePl p, eR r] ∧ OkR w p r ∧ (isAcc w m p r = true → ∀ ks, Rsn w m p r ks → Q (eNs ks) S) ∧ (isAcc w m p r = false → Q .non S)
theorem len_reasons : ∀ ds S Qd, sp_reasons ds S Qd → ds.length = 4 := fun ds S Q ⟨_, _, _, _, h, _⟩ => by rw [h] <;> rfl
def sp__law_is_blame : DSp := fun ds S Q => ∃ w m p r x, ds = [eW w, .str (eMd m), ePl p, eR r, eXc x] ∧ OkR w p r ∧ x ∈ exch p r ∧ hld w m x.1 = false ∧ Q (.bl true) S
theorem len__law_is_blame : ∀ ds S Qd, sp__law_is_blame ds S Qd → ds.length = 5 := fun ds S Q ⟨_, _, _, _, _, h, _⟩ => by rw [h] <;> rfl
def sp__law_reasons_right : DSp := fun ds S Q => ∃ w m p r ks, ds = [eW w, .str (eMd m), ePl p, eR r, eNs ks] ∧ OkR w p r ∧ Rsn w m p r ks ∧ Q (.bl true) S
theorem len__law_reasons_right : ∀ ds S Qd, sp__law_reasons_right ds S Qd → ds.length = 5 := fun ds S Q ⟨_, _, _, _, _, h, _⟩ => by rw [h] <;> rfl
def sp__law_shown_right : DSp := fun ds S Q => ∃ w m p r, ds = [eW w, .str (eMd m), ePl p, eR r] ∧ OkR w p r ∧ Q (.bl true) S
theorem len__law_shown_right : ∀ ds S Qd, sp__law_shown_right ds S Qd → ds.length = 4 := fun ds S Q ⟨_, _, _, _, h, _⟩ => by rw [h] <;> rfl
def eMs (ms : List Md) : D := .lst (ms.map fun m => D.str (eMd m))
def sp__law_scheme : DSp := fun ds S Q => ∃ n, ds = [.pot, eN n] ∧ 1 ≤ n ∧ n ≤ 40 ∧ S + 100 ≤ Bd ∧ ∀ p S', OkPl n p → S' ≤ S + 100 → Q (ePl p) S'
theorem len__law_scheme : ∀ ds S Qd, sp__law_scheme ds S Qd → ds.length = 2 := fun ds S Q ⟨_, h, _⟩ => by rw [h] <;> rfl
def sp__law_right : DSp := fun ds S Q => ∃ n ms, ds = [.pot, eN n, eMs ms] ∧ n ≤ 800 ∧ ms.length ≤ 4 ∧ S + 200000 ≤ Bd ∧ ∀ S', S' ≤ S + 200000 → Q (.bl true) S'
theorem len__law_right : ∀ ds S Qd, sp__law_right ds S Qd → ds.length = 3 := fun ds S Q ⟨_, _, h, _⟩ => by rw [h] <;> rfl
def sp__law_run_right : DSp := fun ds S Q => ∃ w p r, ds = [eW w, ePl p, eR r] ∧ OkR w p r ∧ Q (.bl true) S
theorem len__law_run_right : ∀ ds S Qd, sp__law_run_right ds S Qd → ds.length = 3 := fun ds S Q ⟨_, _, _, h, _⟩ => by rw [h] <;> rfl
def sp__law_wide_right : DSp := fun ds S Q => ds = [.pot] ∧ S + 200000 ≤ Bd ∧ ∀ S', S' ≤ S + 200000 → Q (.bl true) S'
theorem len__law_wide_right : ∀ ds S Qd, sp__law_wide_right ds S Qd → ds.length = 1 := fun ds S Q ⟨h, _⟩ => by rw [h] <;> rfl
def dNotN (ta : DTE) : DTE := fun ρ S Q => ta ρ S fun x S1 => Q (.bl (!isNonD x)) S1
theorem e_notN {ta : DTE} {ρ : DEnv} {S : Nat} {Q : D → Nat → Prop} : dNotN ta ρ S Q = ta ρ S fun x S1 => Q (.bl (!isNonD x)) S1 := rfl
instance snd_notN {K : PySem.W.Frag} {T : Tb} {t : TE} {dt : DTE} [h : SndE K T t dt] : SndE K T (tNotN t) (dNotN dt) := ⟨fun c m σ H S ρ Qd Q r h1 k => h.run c m σ H S ρ _ _ r h1 fun v H1 S1 d h2 r1 l1 f1 => by
  rw [r1.isNon]
  exact k _ H1 S1 _ h2 (.bl _) l1 f1⟩
theorem same_lst {α : Type} [DecidableEq α] {e : α → D} {k : Nat} (h : EqE e k) (hk : k ≤ 60) (a : List α) : okD (.lst (a.map e)) = true ∧ eqD (.lst (a.map e)) (.lst (a.map e)) = true := ⟨(h.lst.sh a).ok (by omega), (h.lst.eq a a).trans (decide_eq_true rfl)⟩
theorem seq_cut {t u : DTS} {E : DEnds} {ρ : DEnv} {S : Nat} (h : ∀ nx : DEnv → Nat → Prop, (∀ ρ S, u E ρ S → nx ρ S) → t { E with nx := nx } ρ S) : dSeq t u E ρ S := h (fun ρ S => u E ρ S) fun _ _ h => h
theorem frz_cut {i : Nat} {u : DTS} {E : DEnds} {ρ : DEnv} {S : Nat} {ds : List D} (h : ρ[i]? = some (some (.mu ds))) (w : u E (ρ.set i (some (.lst ds))) S) : dFrz i u E ρ S := by
  rw [e_frz, h]
  exact w
local macro_rules | `(tactic| walk_at "dsem") => `(tactic| simp only [dstart, dRet, dOp, dSl, dTup, dLst, dCons, dNil, dNoPart, dC, dCB, dUn, dCall, dAnd, dOr, dNot, dIf, dIsN, dNext, dSeq, dIfS, dDrop, dAsg, dgName, dFor, dYes, dLc, dLc2, dwipe, dPar, dPar3, dParT, dgTupN, setN, dLstM, dDNewM, dDisp1,
  asB_b, asI_i, asT_t, asL_l, asS_l, asS_t, zx_tt, zx_tl, ex_l, ex_t, e_test, e_andV, e_orV, e_notV, e_chain, e_gtup, e_gcons, e_gnil, e_zx, e_ex, e_seq, e_rg1, e_aug, e_get, e_part, e_inM, e_put, e_app, e_ext, e_ixM, e_lenM, e_frz, e_var, muAt_s, e_notN, mdAt_s, frzAt_l, frzAt_d, vAt_s, atI_s,
  at0, at1, at2, f_repT, e_star, starX_t, f_add, f_addT, f_addL, f_mul, f_mulL, f_sub, f_mod, f_div, f_pow, f_lt, f_le, f_gt, f_ge, f_neg, f_isB, f_notB, f_eqI, f_eqS, f_eqB, f_eqT, f_eqL, f_neI, f_neS, f_neB, f_neT, f_neL, f_ixL, f_ixT, f_slL, f_slT, f_lenT, f_lenL, f_tupT, f_tupL, f_lstT, f_lstL, f_all, f_sum, f_bestL, f_bestT, f_min2, f_intB, f_sort, f_sortD, isi_ii, isi_ib, isi_tt, isi_ss, f_inT, f_inL, f_inIT, f_inIL,
  mut_int, mut_tup, mut_lst, mut_str, mut_bl, mut_non, mut_pot, mut_dct, mut_scr, isn_non, isn_int, isn_tup, isn_str,
  eN, eP, eNs, eIs, eVr, eW, eR, ePl, eCor, eXc, eEv_r, eEv_s, eFn_t, eFn_s, eFn_x, eFn_n, eSt_n, eSt_s, ev_ne, ev_eq, mut_ev, isi_ev, e_ir3, e_ir1, ir3_i, ir1_i,
  List.map_cons, List.map_nil, List.length_cons, List.length_nil, List.replicate, List.append_nil, List.nil_append, List.cons_append, List.set_cons_zero, List.set_cons_succ, List.getElem?_cons_zero, List.getElem?_cons_succ, List.getElem?_nil, List.zip_cons_cons, List.zip_nil_left, List.foldl_cons, List.foldl_nil, Nat.reduceAdd, Nat.reduceSub, Nat.reduceLeDiff, true_and, and_true, decide_true, if_true, if_false, Bool.false_eq_true, Bool.not_true, Bool.not_false])
theorem eqe_Xc : EqE eXc 3 := EqE.trip eqe_Cor (eqe_nat.mono (by omega)) (eqe_nat.mono (by omega))
theorem ne_tup {α : Type} [DecidableEq α] {e : α → D} {k : Nat} (h : EqE e k) (hk : k ≤ 60) (a b : List α) {q : D → Prop} : fNeX (.tup (a.map e)) (.tup (b.map e)) q = q (.bl (!decide (a = b))) := by
  rw [f_neT]
  have z : eqD (.tup (a.map e)) (.tup (b.map e)) = decide (a = b) := h.tup.eq a b
  have o1 : okD (.tup (a.map e)) = true := (h.tup.sh a).ok (by omega)
  have o2 : okD (.tup (b.map e)) = true := (h.tup.sh b).ok (by omega)
  rw [z, o1, o2]
  simp
theorem ne_lst {α : Type} [DecidableEq α] {e : α → D} {k : Nat} (h : EqE e k) (hk : k ≤ 60) (a b : List α) {q : D → Prop} : fNeX (.lst (a.map e)) (.lst (b.map e)) q = q (.bl (!decide (a = b))) := by
  rw [f_neL]
  have z : eqD (.lst (a.map e)) (.lst (b.map e)) = decide (a = b) := h.lst.eq a b
  have o1 : okD (.lst (a.map e)) = true := (h.lst.sh a).ok (by omega)
  have o2 : okD (.lst (b.map e)) = true := (h.lst.sh b).ok (by omega)
  rw [z, o1, o2]
  simp
theorem eq_lst {α : Type} [DecidableEq α] {e : α → D} {k : Nat} (h : EqE e k) (hk : k ≤ 60) (a b : List α) {q : D → Prop} : fEqX (.lst (a.map e)) (.lst (b.map e)) q = q (.bl (decide (a = b))) := by
  rw [f_eqL]
  have z : eqD (.lst (a.map e)) (.lst (b.map e)) = decide (a = b) := h.lst.eq a b
  have o1 : okD (.lst (a.map e)) = true := (h.lst.sh a).ok (by omega)
  have o2 : okD (.lst (b.map e)) = true := (h.lst.sh b).ok (by omega)
  rw [z, o1, o2]
  simp
theorem pl_len {n : Nat} {p : Pl} (h : OkPl n p) : p.length ≤ n := by
  have e := (perm_range h.nd h.mem).length_eq
  rw [List.length_range] at e
  have go : ∀ p : Pl, (∀ b ∈ p, b ≠ []) → p.length ≤ p.flatten.length := by
    intro p
    induction p with
    | nil => intro _; simp
    | cons b p ih =>
      intro hb
      rw [List.flatten_cons, List.length_append, List.length_cons]
      have := ih fun c hc => hb c (List.mem_cons_of_mem _ hc)
      have := List.length_pos_iff.mpr (hb b List.mem_cons_self)
      omega
  have := go p h.bl
  omega
section
variable {P : Program} {w : World} {K : PySem.W.Frag} {mg : Str → Option Value} {base : Heap} {TT : Tb}
abbrev s__law_reasons_right : Stmt := topS 87
abbrev N__law_reasons_right : List Str := ["_law_web", "_law_word", "_law_scheme_here", "_law_tape_here", "_law_some", "_law_passed", "_law_reads", "_law_number_here", "_law_numbers", "_law_spot"]
abbrev P__law_reasons_right : List Str := ["_law_web", "_law_word", "_law_scheme_here", "_law_tape_here", "_law_some"]
theorem sc__law_reasons_right : FnScope N__law_reasons_right P__law_reasons_right (defScope s__law_reasons_right) := ⟨rfl, rfl, rfl, by decide +kernel, rfl, by decide +kernel, by decide +kernel⟩
theorem ok__law_reasons_right {f : Addr} {fd : FuncData} (F : Fun K "_law_reasons_right" "_law_reasons_right" s__law_reasons_right f fd) (T : Tx K mg) (F__law_seen : Fk P w K mg base "_law_seen" 3 P__law_seen (spOf K TT sp__law_seen)) (F__law_told : Fk P w K mg base "_law_told" 2 P__law_told (spOf K TT sp__law_told)) (F__law_walked : Fk P w K mg base "_law_walked" 2 P__law_walked (spOf K TT sp__law_walked)) : FnOk P w K mg base CX0 4 f fd P__law_reasons_right (spOf K TT sp__law_reasons_right) := by
  refine fun_okD (k := 3) F sc__law_reasons_right len__law_reasons_right fun cdv A outer s H E hr => ?_
  have hu := hr.units
  have hu1 := hu_of hr
  have hu65 := hu65_of hr
  refine ⟨_, (pss_cons (ps_asg (pe_callF F__law_walked (hr.mono (by decide)) (by rfl) (pa_cons (pv 3) pa_nil)) (tgK 2 (K := K) rfl rfl (pgs_cons (pg_name (i := 5) sc__law_reasons_right.nd rfl (by first | exact Or.inl rfl | exact Or.inr rfl)) (pgs_cons (pg_name (i := 6) sc__law_reasons_right.nd rfl (by first | exact Or.inl rfl | exact Or.inr rfl)) pgs_nil))))
    (pss_cons (ps_set (i := 7) sc__law_reasons_right.nd rfl (by first | exact Or.inl rfl | exact Or.inr rfl) (pe_callF F__law_told (hr.mono (by decide)) (by rfl) (pa_cons (pv 0) (pa_cons (pe_callF F__law_seen (hr.mono (by decide)) (by rfl) (pa_cons (pv 2) (pa_cons (pv 3) pa_nil))) pa_nil))))
    (pss_cons (ps_if (pt_not (pt_val (pe_callB (allK (K := K) rfl rfl) (by rfl) T.nb_all (by decide +kernel) (pa_cons (pe_lcV (vs := [9]) [("_law_spot", 9)] rfl sc__law_reasons_right.nd (seqK (K := K) rfl (pv 4)) (show blkC N__law_reasons_right (defScope s__law_reasons_right) _ [("_law_spot", 9)] = true by decide +kernel) rfl (fun _ _ _ _ _ => (pg_name (i := 9) sc__law_reasons_right.nd rfl (by first | exact Or.inl rfl | exact Or.inr rfl))) (fun _ _ _ _ _ => pts_nil) (fun _ _ _ _ _ => (pe_chain op_le op_le (pe_ix (ixK (K := K) rfl) (pv 6) pe_int (fun _ _ => rfl)) (pv 9) (pe_ix (ixK (K := K) rfl) (pv 6) (pe_un un_neg pe_int) (fun _ _ => rfl))))) pa_nil)))) (pss_one (ps_ret pe_bl)) pss_nil)
    (pss_cons (ps_setLcV (vs := [9]) (i := 8) [("_law_spot", 9)] rfl sc__law_reasons_right.nd rfl rfl (sw_true rfl rfl rfl (by decide +kernel)) (seqK (K := K) rfl (pv 4)) (show blkC N__law_reasons_right (defScope s__law_reasons_right) _ [("_law_spot", 9)] = true by decide +kernel) rfl (fun _ _ _ _ _ => (pg_name (i := 9) sc__law_reasons_right.nd rfl (by first | exact Or.inl rfl | exact Or.inr rfl))) (fun _ _ _ _ _ => pts_nil) (fun _ _ _ _ _ => (pe_callF F__law_told (hr.mono (by decide)) (by rfl) (pa_cons (pv 0) (pa_cons (pe_ix (ixK (K := K) rfl) (pv 5) (pv 9) (fun _ _ => rfl)) pa_nil)))))
    (pss_cons (ps_if (pt_cmpR (eqK (K := K) rfl hu) (pv 1) pe_str (nomark _)) (pss_one (ps_ret (pe_cmpR (eqK (K := K) rfl hu) (pv 8) (pe_lst (pa_cons (pv 7) pa_nil)) (nomark _)))) pss_nil)
    (pss_cons (ps_if (pt_cmpR (eqK (K := K) rfl hu) (pv 1) pe_str (nomark _)) (pss_one (ps_ret (pe_and (pe_cmpR (eqK (K := K) rfl hu) (pe_callB (lenK (K := K) rfl) (by rfl) T.nb_len (by decide +kernel) (pa_cons (pv 8) pa_nil)) pe_int (nomark _)) (pe_one (pe_chain op_le op_le (pe_ix (ixK (K := K) rfl) (pv 8) pe_int (fun _ _ => rfl)) (pv 7) (pe_ix (ixK (K := K) rfl) (pv 8) pe_int (fun _ _ => rfl))))))) pss_nil)
    (pss_one (ps_ret (pe_and (pe_cmpR (eqK (K := K) rfl hu) (pe_callB (lenK (K := K) rfl) (by rfl) T.nb_len (by decide +kernel) (pa_cons (pv 8) pa_nil)) pe_int (nomark _)) (pe_one (pe_ifExp (pt_cmpR (eqK (K := K) rfl hu) (pv 1) pe_str (nomark _)) (pe_cmpR op_le (pe_ix (ixK (K := K) rfl) (pv 8) pe_int (fun _ _ => rfl)) (pv 7) (nomark _)) (pe_cmpR op_ge (pe_ix (ixK (K := K) rfl) (pv 8) pe_int (fun _ _ => rfl)) (pv 7) (nomark _))))))))))))), ?_⟩
  try dsimp only [cxOf]
  refine ex_snd ?_
  intro ds S Qd h
  obtain ⟨w, m, p, r, ks, rfl, h1, h2, h⟩ := h
  walk_at "dsem"
  have hE := oke_of h1
  have hne := rds_ne h1
  have hsp : sp1 r ≤ nst r.2 := rds_le r (sp1_mem hne)
  obtain ⟨hb, hm⟩ := h2
  have hfew : ks.length ≤ 2 := by
    cases m with
    | ex =>
      have := congrArg List.length hm
      rw [List.length_map] at this
      simp at this
      omega
    | bt => obtain ⟨a, b, rfl, _⟩ := hm; simp
    | fl => obtain ⟨a, rfl, _⟩ := hm; simp
    | ce => obtain ⟨a, rfl, _⟩ := hm; simp
  refine ⟨r, rfl, hE, ?_⟩
  walk_at "dsem"
  refine ⟨w, p, r, rfl, h1, ?_⟩
  refine ⟨w, _, rfl, h1.okw, rd_oks h1, ?_⟩
  rw [List.length_map]
  refine ⟨lt_line (by omega), ?_⟩
  refine lcD_all eN (fun _ => D.bl true) ks (fun k hk k1 k2 g => ?_) ?_
  · have hk2 := hb k hk
    walk_at "dsem"
    refine at_head hne ?_
    walk_at "dsem"
    rw [show (rds r).headD 0 = sp0 r from rfl, if_pos (decide_eq_true (by omega))]
    refine at_end (d := 0) hne ?_
    walk_at "dsem"
    rw [show (rds r).getLastD 0 = sp1 r from rfl, decide_eq_true (show (k : Int) ≤ (sp1 r : Nat) by omega)]
    exact g
  walk_at "dsem"
  refine ⟨ks.map fun _ => true, by rw [List.map_map] <;> rfl, ?_⟩
  rw [all_true]
  walk_at "dsem"
  refine ⟨lt_line (by omega), ?_⟩
  refine lcD_all eN (fun k => D.int (res w (stAt r k))) ks (fun k hk k1 k2 g => ?_) ?_
  · have hk2 := hb k hk
    walk_at "dsem"
    refine at_sts r (k := k) (by omega) ?_
    exact ⟨w, _, rfl, h1.okw, stAt_ok h1 (by omega), g⟩
  have hr : res w (rdVals w.vs.length p r) = rRes w p r := rfl
  rw [hr]
  have em : (ks.map fun k => D.int (res w (stAt r k))) = (ks.map fun k => res w (stAt r k)).map D.int := by rw [List.map_map] <;> rfl
  rw [em]
  walk_at "dsem"
  cases m with
  | ex =>
    have hm : ks.map (fun k => res w (stAt r k)) = [rRes w p r] := hm
    rw [if_pos (by decide), hm]
    have z := eq_lst eqe_int (by decide) [rRes w p r] [rRes w p r] (q := fun d => Qd d S)
    rw [decide_eq_true rfl, f_eqL] at z
    exact z.mpr h
  | bt =>
    obtain ⟨a, b, rfl, g1, g2⟩ := hm
    rw [if_neg (by decide), if_pos (by decide)]
    walk_at "dsem"
    rw [decide_eq_true g1, decide_eq_true g2]
    simpa using h
  | fl =>
    obtain ⟨a, rfl, g1⟩ := hm
    rw [if_neg (by decide), if_neg (by decide)]
    walk_at "dsem"
    rw [decide_eq_true g1, if_pos (by decide : decide (eMd Md.fl = ("floor" : Str)) = true)]
    simpa using h
  | ce =>
    obtain ⟨a, rfl, g1⟩ := hm
    rw [if_neg (by decide), if_neg (by decide)]
    walk_at "dsem"
    rw [decide_eq_true g1, if_neg (by decide : ¬ decide (eMd Md.ce = ("floor" : Str)) = true)]
    simpa using h
abbrev s__law_shown_right : Stmt := topS 88
abbrev N__law_shown_right : List Str := ["_law_web", "_law_word", "_law_scheme_here", "_law_tape_here", "_law_some", "_law_triple"]
abbrev P__law_shown_right : List Str := ["_law_web", "_law_word", "_law_scheme_here", "_law_tape_here"]
theorem sc__law_shown_right : FnScope N__law_shown_right P__law_shown_right (defScope s__law_shown_right) := ⟨rfl, rfl, rfl, by decide +kernel, rfl, by decide +kernel, by decide +kernel⟩
theorem ok__law_shown_right {f : Addr} {fd : FuncData} (F : Fun K "_law_shown_right" "_law_shown_right" s__law_shown_right f fd) (T : Tx K mg) (F__law_is_blame : FkG P w K mg base "_law_is_blame" 4 P__law_is_blame (spOf K TT sp__law_is_blame)) (F__law_is_let : Fk P w K mg base "_law_is_let" 4 P__law_is_let (spOf K TT sp__law_is_let)) (F__law_reasons_right : Fk P w K mg base "_law_reasons_right" 4 P__law_reasons_right (spOf K TT sp__law_reasons_right)) (F_blame : Fk P w K mg base "blame" 6 P_blame (spOf K TT sp_blame)) (F_is_accepted : Fk P w K mg base "is_accepted" 5 P_is_accepted (spOf K TT sp_is_accepted)) (F_reasons : Fk P w K mg base "reasons" 6 P_reasons (spOf K TT sp_reasons)) (F_shows_blame : Fk P w K mg base "shows_blame" 6 P_shows_blame (spOf K TT sp_shows_blame)) : FnG P w K mg base 7 f fd P__law_shown_right (spOf K TT sp__law_shown_right) := by
  refine fun_okG (k := 6) F sc__law_shown_right len__law_shown_right fun cdv A outer s H E hr hgd => ?_
  have hu := hr.units
  have hu1 := hu_of hr
  have hu65 := hu65_of hr
  refine ⟨_, (pss_cons (ps_par (i := 4) (j := 5) rfl sc__law_shown_right.nd rfl rfl (by decide) rfl rfl (pa_cons (pe_callF F_reasons (hr.mono (by decide)) (by rfl) (pa_cons (pv 0) (pa_cons (pv 1) (pa_cons (pv 2) (pa_cons (pv 3) pa_nil))))) (pa_cons (pe_callF F_blame (hr.mono (by decide)) (by rfl) (pa_cons (pv 0) (pa_cons (pv 1) (pa_cons (pv 2) (pa_cons (pv 3) pa_nil))))) pa_nil)) (by rfl))
    (pss_cons (ps_if (PW.pt (pw_or (pt_cmpR (eqK (K := K) rfl hu) (pe_cmp (pc_isN (pv 4)) (by rfl)) (pe_cmp (pc_isN (pv 5)) (by rfl)) (nomark _)) (pw_or1 (pt_cmpR (neK (K := K) rfl hu) (pe_callF F_is_accepted (hr.mono (by decide)) (by rfl) (pa_cons (pv 0) (pa_cons (pv 1) (pa_cons (pv 2) (pa_cons (pv 3) pa_nil))))) (pe_cmp (pc_isN (pv 5)) (by rfl)) (nomark _))))) (pss_one (ps_ret pe_bl)) pss_nil)
    (pss_cons (ps_if (pt_cmp (pc_isN (pv 5)) (by rfl)) (pss_one (ps_ret (pe_and (pe_callF F__law_reasons_right (hr.mono (by decide)) (by rfl) (pa_cons (pv 0) (pa_cons (pv 1) (pa_cons (pv 2) (pa_cons (pv 3) (pa_cons (pv 4) pa_nil)))))) (pe_one (pe_callF F__law_is_let (hr.mono (by decide)) (by rfl) (pa_cons (pv 0) (pa_cons (pv 1) (pa_cons (pv 2) (pa_cons (pv 3) pa_nil))))))))) pss_nil)
    (pss_cons (ps_if (PW.pt (pw_or (pt_not (pt_val (pe_callG F__law_is_blame (hr.mono (by decide)) hgd (by rfl) (pa_cons (pv 0) (pa_cons (pv 1) (pa_cons (pv 2) (pa_cons (pv 3) (pa_cons (pv 5) pa_nil)))))))) (pw_or1 (pt_val (pe_callF F__law_is_let (hr.mono (by decide)) (by rfl) (pa_cons (pv 0) (pa_cons (pv 1) (pa_cons (pv 2) (pa_cons (pv 3) pa_nil))))))))) (pss_one (ps_ret pe_bl)) pss_nil)
    (pss_one (ps_ret (pe_cmpR op_isBl (pe_callF F_shows_blame (hr.mono (by decide)) (by rfl) (pa_cons (pv 0) (pa_cons (pv 1) (pa_cons (pv 2) (pa_cons (pv 3) (pa_cons (pv 5) pa_nil)))))) pe_bl (nomark _)))))))), ?_⟩
  try dsimp only [cxOf]
  refine ex_snd ?_
  intro ds S Qd h
  obtain ⟨w, m, p, r, rfl, h1, h⟩ := h
  walk_at "dsem"
  refine ⟨w, m, p, r, rfl, h1, fun ha ks hks => ?_, fun ha => ?_⟩
  · refine ⟨w, m, p, r, rfl, h1, ?_⟩
    rw [(blm_none h1).mpr ha, show eOpt eXc none = D.non from rfl]
    walk_at "dsem"
    refine ⟨w, m, p, r, rfl, h1, ?_⟩
    rw [ha]
    walk_at "dsem"
    refine ⟨w, m, p, r, ks, rfl, h1, hks, ?_⟩
    walk_at "dsem"
    refine ⟨w, m, p, r, rfl, h1, ?_⟩
    rw [ha]
    exact h
  · refine ⟨w, m, p, r, rfl, h1, ?_⟩
    cases hx : blm w m p r with
    | none =>
      rw [(blm_none h1).mp hx] at ha
      cases ha
    | some x =>
      obtain ⟨x1, x2⟩ := blm_some h1 hx
      rw [show eOpt eXc (some x) = eXc x from rfl]
      walk_at "dsem"
      refine ⟨w, m, p, r, rfl, h1, ?_⟩
      rw [ha]
      walk_at "dsem"
      refine ⟨w, m, p, r, x, rfl, h1, x1, x2, ?_⟩
      walk_at "dsem"
      refine ⟨w, m, p, r, rfl, h1, ?_⟩
      rw [ha]
      walk_at "dsem"
      refine ⟨w, m, p, r, x, rfl, h1, x1, x2, ?_⟩
      walk_at "dsem"
      exact h
abbrev s__law_right : Stmt := topS 89
abbrev N__law_right : List Str := ["_law_pot_here", "_law_most", "_law_words", "_law_web", "_law_scheme_here", "_law_tape_here", "_law_reads", "_law_word", "_law_triple"]
abbrev P__law_right : List Str := ["_law_pot_here", "_law_most", "_law_words"]
theorem sc__law_right : FnScope N__law_right P__law_right (defScope s__law_right) := ⟨rfl, rfl, rfl, by decide +kernel, rfl, by decide +kernel, by decide +kernel⟩
theorem ok__law_right {f : Addr} {fd : FuncData} (F : Fun K "_law_right" "_law_right" s__law_right f fd) (T : Tx K mg) (F__law_scheme : Fk P w K mg base "_law_scheme" 2 P__law_scheme (spOf K TT sp__law_scheme)) (F__law_shown_right : FkG P w K mg base "_law_shown_right" 7 P__law_shown_right (spOf K TT sp__law_shown_right)) (F__law_tape : Fk P w K mg base "_law_tape" 3 P__law_tape (spOf K TT sp__law_tape)) (F__law_walked : Fk P w K mg base "_law_walked" 2 P__law_walked (spOf K TT sp__law_walked)) (F__law_world : Fk P w K mg base "_law_world" 5 P__law_world (spOf K TT sp__law_world)) (F_exchanges : Fk P w K mg base "exchanges" 4 P_exchanges (spOf K TT sp_exchanges)) (F_inversions : Fk P w K mg base "inversions" 4 P_inversions (spOf K TT sp_inversions)) (F_span : Fk P w K mg base "span" 2 P_span (spOf K TT sp_span)) : FnG P w K mg base 8 f fd P__law_right (spOf K TT sp__law_right) := by
  refine fun_okG (k := 7) F sc__law_right len__law_right fun cdv A outer s H E hr hgd => ?_
  have hu := hr.units
  have hu1 := hu_of hr
  have hu65 := hu65_of hr
  refine ⟨_, (pss_cons (ps_set (i := 3) sc__law_right.nd rfl (by first | exact Or.inl rfl | exact Or.inr rfl) (pe_callF F__law_world (hr.mono (by decide)) (by rfl) (pa_cons (pv 0) (pa_cons pe_int (pa_cons pe_int pa_nil)))))
    (pss_cons (ps_set (i := 4) sc__law_right.nd rfl (by first | exact Or.inl rfl | exact Or.inr rfl) (pe_callF F__law_scheme (hr.mono (by decide)) (by rfl) (pa_cons (pv 0) (pa_cons (pe_callB (lenK (K := K) rfl) (by rfl) T.nb_len (by decide +kernel) (pa_cons (pe_ix (ixK (K := K) rfl) (pv 3) pe_int (fun _ _ => rfl)) pa_nil)) pa_nil))))
    (pss_cons (ps_set (i := 5) sc__law_right.nd rfl (by first | exact Or.inl rfl | exact Or.inr rfl) (pe_callF F__law_tape (hr.mono (by decide)) (by rfl) (pa_cons (pv 0) (pa_cons (pv 3) (pa_cons (pv 4) (pa_cons (pv 1) pa_nil))))))
    (pss_cons (ps_set (i := 6) sc__law_right.nd rfl (by first | exact Or.inl rfl | exact Or.inr rfl) (pe_ix (ixK (K := K) rfl) (pe_callF F__law_walked (hr.mono (by decide)) (by rfl) (pa_cons (pv 5) pa_nil)) pe_int (fun _ _ => rfl)))
    (pss_cons (ps_if (pt_cmpR (neK (K := K) rfl hu) (pe_callF F_span (hr.mono (by decide)) (by rfl) (pa_cons (pv 5) pa_nil)) (pe_tup (pa_cons (pe_ix (ixK (K := K) rfl) (pv 6) pe_int (fun _ _ => rfl)) (pa_cons (pe_ix (ixK (K := K) rfl) (pv 6) (pe_un un_neg pe_int) (fun _ _ => rfl)) pa_nil))) (nomark _)) (pss_one (ps_ret pe_bl)) pss_nil)
    (pss_cons (ps_if (pt_not (pt_val (pe_callB (allK (K := K) rfl rfl) (by rfl) T.nb_all (by decide +kernel) (pa_cons (pe_lcV (vs := [7]) [("_law_word", 7)] rfl sc__law_right.nd (seqK (K := K) rfl (pv 2)) (show blkC N__law_right (defScope s__law_right) _ [("_law_word", 7)] = true by decide +kernel) rfl (fun _ _ _ _ _ => (pg_name (i := 7) sc__law_right.nd rfl (by first | exact Or.inl rfl | exact Or.inr rfl))) (fun _ _ _ _ _ => pts_nil) (fun _ _ _ _ _ => (pe_callG F__law_shown_right (hr.mono (by decide)) hgd (by rfl) (pa_cons (pv 3) (pa_cons (pv 7) (pa_cons (pv 4) (pa_cons (pv 5) pa_nil))))))) pa_nil)))) (pss_one (ps_ret pe_bl)) pss_nil)
    (pss_one (ps_ret (pe_cmpR (eqK (K := K) rfl hu) (pe_callB (sortK (K := K) rfl rfl) (by rfl) T.nb_sorted (by decide +kernel) (pa_cons (pe_lcV (vs := [8]) [("_law_triple", 8)] rfl sc__law_right.nd (seqK (K := K) rfl (pe_callF F_exchanges (hr.mono (by decide)) (by rfl) (pa_cons (pv 4) (pa_cons (pv 5) pa_nil)))) (show blkC N__law_right (defScope s__law_right) _ [("_law_triple", 8)] = true by decide +kernel) rfl (fun _ _ _ _ _ => (pg_name (i := 8) sc__law_right.nd rfl (by first | exact Or.inl rfl | exact Or.inr rfl))) (fun _ _ _ _ _ => pts_nil) (fun _ _ _ _ _ => (pe_slice (slK (K := K) rfl) (pv 8) (po_some pe_int) po_none))) pa_nil)) (pe_callTy (lstK (K := K) rfl) (by rfl) T.nb_list (by decide +kernel) (pa_cons (pe_callF F_inversions (hr.mono (by decide)) (by rfl) (pa_cons (pv 4) (pa_cons (pv 5) pa_nil))) pa_nil)) (nomark _)))))))))), ?_⟩
  try dsimp only [cxOf]
  refine ex_snd ?_
  intro ds S Qd h
  obtain ⟨n, ms, rfl, h1, h2, h3, h⟩ := h
  unfold eMs
  walk_at "dsem"
  refine ⟨rfl, by omega, fun w S1 hw hfew hS1 => ?_⟩
  walk_at "dsem"
  rw [List.length_map]
  have hne := hw.ne
  have hf := hw.few
  refine ⟨_, rfl, by omega, by omega, by omega, fun p S2 hp hS2 => ?_⟩
  have hpl := pl_len hp
  walk_at "dsem"
  refine ⟨w, p, n, rfl, hw, hp, by omega, by omega, fun r S3 hr hS3 => ?_⟩
  have hE := oke_of hr
  have hn := rds_ne hr
  walk_at "dsem"
  refine ⟨r, rfl, hE, ?_⟩
  walk_at "dsem"
  refine ⟨r, rfl, hE, hn, ?_⟩
  refine at_head hn ?_
  refine at_end (d := 0) hn ?_
  have z := ne_tup eqe_nat (by decide) [sp0 r, sp1 r] [sp0 r, sp1 r] (q := fun d => asB d fun b => b = false)
  walk_at "dsem"
  have e1 : okD (D.tup [D.int (sp0 r : Nat), D.int (sp1 r : Nat)]) = true := (eqe_P.sh (sp0 r, sp1 r)).ok (by decide)
  have e2 : eqD (D.tup [D.int (sp0 r : Nat), D.int (sp1 r : Nat)]) (D.tup [D.int (sp0 r : Nat), D.int (sp1 r : Nat)]) = true := (eqe_P.eq (sp0 r, sp1 r) (sp0 r, sp1 r)).trans (decide_eq_true rfl)
  refine ⟨⟨e1, e1⟩, ?_⟩
  rw [show (rds r).headD 0 = sp0 r from rfl, show (rds r).getLastD 0 = sp1 r from rfl, e2]
  walk_at "dsem"
  rw [List.length_map]
  refine ⟨lt_line (by omega), ?_⟩
  refine lcD_all (fun m => D.str (eMd m)) (fun _ => D.bl true) ms (fun m hm k1 k2 g => ?_) ?_
  · walk_at "dsem"
    exact ⟨w, m, p, r, rfl, hr, g⟩
  walk_at "dsem"
  refine ⟨ms.map fun _ => true, by rw [List.map_map] <;> rfl, ?_⟩
  rw [all_true]
  walk_at "dsem"
  refine ⟨w, p, r, rfl, hr, ?_⟩
  walk_at "dsem"
  have hxl := exch_len hr
  rw [List.length_map]
  refine ⟨Nat.lt_of_le_of_lt hxl (by rw [sizeLine_eq]; omega), ?_⟩
  refine lcD_all eXc (fun x => eP x.2) _ (fun x hx k1 k2 g => ?_) ?_
  · walk_at "dsem"
    rw [show DL.cutD [D.tup [D.tup (List.map eN x.1.1), D.tup [D.int x.1.2.1.1, D.int x.1.2.1.2], D.tup [D.int x.1.2.2.1, D.int x.1.2.2.2]], D.int x.2.1, D.int x.2.2] (some 1) none = [D.int x.2.1, D.int x.2.2] from cutD_from _ 1]
    exact g
  walk_at "dsem"
  refine .inr ⟨((exch p r).map (·.2)).map fun q => ((q.1 : Int), (q.2 : Int)), by rw [List.map_map, List.map_map] <;> rfl, fun qs hq hs => ?_⟩
  have hq2 := hq.trans ((exch_pairs hr).map fun q : Nat × Nat => ((q.1 : Int), (q.2 : Int)))
  have hsi : ((invs p r).map fun q : Nat × Nat => ((q.1 : Int), (q.2 : Int))).Pairwise lexLe := List.Pairwise.map (R := lexN) _ (fun a b hab => by
    rcases hab with z | ⟨z1, z2⟩
    · exact .inl (Int.ofNat_lt.mpr z)
    · exact .inr ⟨by show (a.1 : Int) = b.1; omega, by show (a.2 : Int) ≤ b.2; omega⟩) invs_asc
  have hqe := sorted_pairs hq2 hs hsi
  subst hqe
  refine ⟨w, p, r, rfl, hr, ?_⟩
  walk_at "dsem"
  have em : ((invs p r).map fun q : Nat × Nat => ((q.1 : Int), (q.2 : Int))).map DL.prD = (invs p r).map eP := by rw [List.map_map] <;> rfl
  rw [em]
  have z := eq_lst eqe_P (by decide) (invs p r) (invs p r) (q := fun d => Qd d S3)
  rw [decide_eq_true rfl, f_eqL] at z
  exact z.mpr (h S3 (by omega))
abbrev s__law_run_right : Stmt := topS 93
abbrev N__law_run_right : List Str := ["_law_web", "_law_scheme_here", "_law_tape_here", "_law_marked_here", "_law_due", "_law_word", "_law_told_here", "_law_is_let_here", "_law_at", "_law_one"]
abbrev P__law_run_right : List Str := ["_law_web", "_law_scheme_here", "_law_tape_here"]
theorem sc__law_run_right : FnScope N__law_run_right P__law_run_right (defScope s__law_run_right) := ⟨rfl, rfl, rfl, by decide +kernel, rfl, by decide +kernel, by decide +kernel⟩
theorem ok__law_run_right {f : Addr} {fd : FuncData} (F : Fun K "_law_run_right" "_law_run_right" s__law_run_right f fd) (T : Tx K mg) (F__law_corners : Fk P w K mg base "_law_corners" 3 P__law_corners (spOf K TT sp__law_corners)) (F__law_inverted : Fk P w K mg base "_law_inverted" 2 P__law_inverted (spOf K TT sp__law_inverted)) (F__law_is_blame : FkG P w K mg base "_law_is_blame" 4 P__law_is_blame (spOf K TT sp__law_is_blame)) (F__law_is_let : Fk P w K mg base "_law_is_let" 4 P__law_is_let (spOf K TT sp__law_is_let)) (F__law_marked : Fk P w K mg base "_law_marked" 1 P__law_marked (spOf K TT sp__law_marked)) (F_blame : Fk P w K mg base "blame" 6 P_blame (spOf K TT sp_blame)) (F_early_steps : Fk P w K mg base "early_steps" 3 P_early_steps (spOf K TT sp_early_steps)) (F_exchanges : Fk P w K mg base "exchanges" 4 P_exchanges (spOf K TT sp_exchanges)) (F_inversions : Fk P w K mg base "inversions" 4 P_inversions (spOf K TT sp_inversions)) (F_is_run : Fk P w K mg base "is_run" 6 P_is_run (spOf K TT sp_is_run)) (F_late_steps : Fk P w K mg base "late_steps" 3 P_late_steps (spOf K TT sp_late_steps)) (F_reasons : Fk P w K mg base "reasons" 6 P_reasons (spOf K TT sp_reasons)) (F_shows_blame : Fk P w K mg base "shows_blame" 6 P_shows_blame (spOf K TT sp_shows_blame)) : FnG P w K mg base 7 f fd P__law_run_right (spOf K TT sp__law_run_right) := by
  refine fun_okG (k := 6) F sc__law_run_right len__law_run_right fun cdv A outer s H E hr hgd => ?_
  have hu := hr.units
  have hu1 := hu_of hr
  have hu65 := hu65_of hr
  refine ⟨_, (pss_cons (ps_par (i := 3) (j := 4) rfl sc__law_run_right.nd rfl rfl (by decide) rfl rfl (pa_cons (pe_callF F__law_marked (hr.mono (by decide)) (by rfl) (pa_cons (pv 1) (pa_cons (pv 2) pa_nil))) (pa_cons (pe_lstM pa_nil) pa_nil)) (by rfl))
    (pss_cons (ps_for PassesOwn.never rfl (seqK (K := K) rfl (pe_tup (pa_cons pe_str (pa_cons pe_str pa_nil)))) (pg_name (i := 5) sc__law_run_right.nd rfl (by first | exact Or.inl rfl | exact Or.inr rfl))
      (pss_one (ps_expr (pe_bm PySem.F.plainAttrs_list PySem.F.slot_list_append PySem.F.type_list_append mt_append (pvM 4) (pa_cons (pe_callTy (tupK (K := K) rfl) (by rfl) T.nb_tuple (by decide +kernel) (pa_cons (pe_lcV (vs := [8, 9]) [("_law_at", 8), ("_law_one", 9)] rfl sc__law_run_right.nd (enumK (K := K) rfl (by rfl) T.nb_enumerate (pa_cons (pv 3) pa_nil)) (show blkC N__law_run_right (defScope s__law_run_right) _ [("_law_at", 8), ("_law_one", 9)] = true by decide +kernel) rfl (fun _ _ _ _ _ => (tgK 2 (K := K) rfl rfl (pgs_cons (pg_name (i := 8) sc__law_run_right.nd rfl (by first | exact Or.inl rfl | exact Or.inr rfl)) (pgs_cons (pg_name (i := 9) sc__law_run_right.nd rfl (by first | exact Or.inl rfl | exact Or.inr rfl)) pgs_nil)))) (fun _ _ _ _ _ => (pts_one (pt_cmpR (eqK (K := K) rfl hu) (pe_ix (ixK (K := K) rfl) (pv 9) pe_int (fun _ _ => rfl)) (pv 5) (nomark _)))) (fun _ _ _ _ _ => (pv 8))) pa_nil)) pa_nil)))))
    (pss_frz 4 (pss_cons (ps_if (PW.pt (pw_or (pt_cmpR (neK (K := K) rfl hu) (pe_lst (pa_cons (pe_callF F_late_steps (hr.mono (by decide)) (by rfl) (pa_cons (pv 1) (pa_cons (pv 2) pa_nil))) (pa_cons (pe_callF F_early_steps (hr.mono (by decide)) (by rfl) (pa_cons (pv 1) (pa_cons (pv 2) pa_nil))) pa_nil))) (pv 4) (nomark _)) (pw_or1 (pt_cmpR op_notBl (pe_callF F_is_run (hr.mono (by decide)) (by rfl) (pa_cons (pv 0) (pa_cons (pv 1) (pa_cons (pv 2) pa_nil)))) pe_bl (nomark _))))) (pss_one (ps_ret pe_bl)) pss_nil)
    (pss_cons (ps_if (pt_cmpR (neK (K := K) rfl hu) (pe_callTy (lstK (K := K) rfl) (by rfl) T.nb_list (by decide +kernel) (pa_cons (pe_callF F_inversions (hr.mono (by decide)) (by rfl) (pa_cons (pv 1) (pa_cons (pv 2) pa_nil))) pa_nil)) (pe_callF F__law_inverted (hr.mono (by decide)) (by rfl) (pa_cons (pv 1) (pa_cons (pv 2) pa_nil))) (nomark _)) (pss_one (ps_ret pe_bl)) pss_nil)
    (pss_cons (ps_if (pt_cmpR (neK (K := K) rfl hu) (pe_callTy (lstK (K := K) rfl) (by rfl) T.nb_list (by decide +kernel) (pa_cons (pe_callF F_exchanges (hr.mono (by decide)) (by rfl) (pa_cons (pv 1) (pa_cons (pv 2) pa_nil))) pa_nil)) (pe_callF F__law_corners (hr.mono (by decide)) (by rfl) (pa_cons (pv 1) (pa_cons (pv 2) pa_nil))) (nomark _)) (pss_one (ps_ret pe_bl)) pss_nil)
    (pss_cons (ps_for PassesOwn.never rfl (seqK (K := K) rfl (pe_lst (pa_cons pe_str (pa_cons pe_str (pa_cons pe_str (pa_cons pe_str pa_nil)))))) (pg_name (i := 5) sc__law_run_right.nd rfl (by first | exact Or.inl rfl | exact Or.inr rfl))
      (pss_cons (ps_par (i := 6) (j := 7) rfl sc__law_run_right.nd rfl rfl (by decide) rfl rfl (pa_cons (pe_callF F_blame (hr.mono (by decide)) (by rfl) (pa_cons (pv 0) (pa_cons (pv 5) (pa_cons (pv 1) (pa_cons (pv 2) pa_nil))))) (pa_cons (pe_callF F__law_is_let (hr.mono (by decide)) (by rfl) (pa_cons (pv 0) (pa_cons (pv 5) (pa_cons (pv 1) (pa_cons (pv 2) pa_nil))))) pa_nil)) (by rfl))
    (pss_cons (ps_if (PW.pt (pw_or (pt_cmpR (neK (K := K) rfl hu) (pe_cmp (pc_isN (pv 6)) (by rfl)) (pv 7) (nomark _)) (pw_or1 (pt_cmpR (eqK (K := K) rfl hu) (pe_cmp (pc_isN (pe_callF F_reasons (hr.mono (by decide)) (by rfl) (pa_cons (pv 0) (pa_cons (pv 5) (pa_cons (pv 1) (pa_cons (pv 2) pa_nil)))))) (by rfl)) (pv 7) (nomark _))))) (pss_one (ps_ret pe_bl)) pss_nil)
    (pss_one (ps_if (pt_cmp (pc_notN (pv 6)) (by rfl)) (pss_cons (ps_if (pt_not (pt_val (pe_callG F__law_is_blame (hr.mono (by decide)) hgd (by rfl) (pa_cons (pv 0) (pa_cons (pv 5) (pa_cons (pv 1) (pa_cons (pv 2) (pa_cons (pv 6) pa_nil)))))))) (pss_one (ps_ret pe_bl)) pss_nil)
    (pss_one (ps_if (pt_cmpR op_notBl (pe_callF F_shows_blame (hr.mono (by decide)) (by rfl) (pa_cons (pv 0) (pa_cons (pv 5) (pa_cons (pv 1) (pa_cons (pv 2) (pa_cons (pv 6) pa_nil)))))) pe_bl (nomark _)) (pss_one (ps_ret pe_bl)) pss_nil))) pss_nil)))))
    (pss_one (ps_ret pe_bl))))))))), ?_⟩
  try dsimp only [cxOf]
  refine ex_snd ?_
  intro ds S Qd h
  obtain ⟨w, p, r, rfl, h1, h⟩ := h
  have hn := fin_len h1
  have hml : (marks p r).length = nst r.2 := marks_len
  refine seq_cut fun nx1 g1 => ?_
  walk_at "dsem"
  refine ⟨w, p, r, rfl, h1, ?_⟩
  refine g1 _ _ (seq_cut fun nx2 g2 => ?_)
  walk_at "dsem"
  intro _
  simp only [forD]
  walk_at "dsem"
  rw [enumD_map, List.length_map, List.length_zipIdx]
  refine ⟨lt_line (by omega), ?_⟩
  refine lcD_map _ (fun y : Mk × Nat => decide (y.1.2.2 = .la)) (fun y => eN y.2) _ [] (fun y hy k1 k2 f1 f2 => ?_) ?_
  · have ey : eMk y.1 = .tup [.int y.1.1, .int y.1.2.1, .str (eWo y.1.2.2)] := rfl
    rw [ey]
    walk_at "dsem"
    rw [wo_late]
    by_cases c2 : y.1.2.2 = .la
    · rw [if_pos (decide_eq_true c2)]
      exact f1 (decide_eq_true c2)
    · rw [if_neg (by rw [decide_eq_true_eq]; exact c2)]
      exact f2 (decide_eq_false c2)
  have el : (((marks p r).zipIdx.filter fun y => decide (y.1.2.2 = .la)).map fun y => eN y.2) = (lates p r).map eN := by rw [← mz_la h1, List.map_map] <;> rfl
  rw [el]
  walk_at "dsem"
  refine ⟨by omega, lt_line (by omega), ?_⟩
  refine lcD_map _ (fun y : Mk × Nat => decide (y.1.2.2 = .ea)) (fun y => eN y.2) _ [] (fun y hy k1 k2 f1 f2 => ?_) ?_
  · have ey : eMk y.1 = .tup [.int y.1.1, .int y.1.2.1, .str (eWo y.1.2.2)] := rfl
    rw [ey]
    walk_at "dsem"
    rw [wo_early]
    by_cases c2 : y.1.2.2 = .ea
    · rw [if_pos (decide_eq_true c2)]
      exact f1 (decide_eq_true c2)
    · rw [if_neg (by rw [decide_eq_true_eq]; exact c2)]
      exact f2 (decide_eq_false c2)
  have em : (((marks p r).zipIdx.filter fun y => decide (y.1.2.2 = .ea)).map fun y => eN y.2) = (earls p r).map eN := by rw [← mz_ea h1, List.map_map] <;> rfl
  rw [em]
  walk_at "dsem"
  refine ⟨by omega, g2 _ _ (frz_cut rfl (seq_cut fun nx3 g3 => ?_))⟩
  walk_at "dsem"
  refine ⟨w, p, r, rfl, h1, w, p, r, rfl, h1, ?_⟩
  obtain ⟨o1, q1⟩ := same_lst eqe_Ns (by decide) [lates p r, earls p r]
  have o1 : okD (D.lst [D.tup ((lates p r).map eN), D.tup ((earls p r).map eN)]) = true := o1
  have q1 : eqD (D.lst [D.tup ((lates p r).map eN), D.tup ((earls p r).map eN)]) (D.lst [D.tup ((lates p r).map eN), D.tup ((earls p r).map eN)]) = true := q1
  walk_at "dsem"
  refine ⟨⟨o1, o1⟩, ?_⟩
  simp only [q1]
  walk_at "dsem"
  refine ⟨w, p, r, rfl, h1, ?_⟩
  walk_at "dsem"
  refine g3 _ _ (seq_cut fun nx4 g4 => ?_)
  walk_at "dsem"
  refine ⟨w, p, r, rfl, h1, ?_⟩
  walk_at "dsem"
  refine ⟨w, p, r, rfl, h1, ?_⟩
  obtain ⟨o2, q2⟩ := same_lst eqe_P (by decide) (invs p r)
  walk_at "dsem"
  refine ⟨⟨o2, o2⟩, ?_⟩
  simp only [q2]
  walk_at "dsem"
  refine g4 _ _ (seq_cut fun nx5 g5 => ?_)
  walk_at "dsem"
  refine ⟨w, p, r, rfl, h1, ?_⟩
  walk_at "dsem"
  refine ⟨w, p, r, rfl, h1, ?_⟩
  obtain ⟨o3, q3⟩ := same_lst eqe_Xc (by decide) (exch p r)
  walk_at "dsem"
  refine ⟨⟨o3, o3⟩, ?_⟩
  simp only [q3]
  walk_at "dsem"
  refine g5 _ _ (seq_cut fun nx6 g6 => ?_)
  walk_at "dsem"
  intro _
  refine forD_ind (fun m => D.str (eMd m)) (fun rem ρ S' => S' = S ∧ ∃ (a b c : Option D), ρ = [some (D.tup [D.tup (List.map eVr w.vs), eSt w.st, eFn w.fn]), some (D.tup (List.map eNs p)), some (D.tup [D.tup (List.map eN r.fst), D.tup (List.map eEv r.snd)]), some (D.lst (List.map eMk (marks p r))),
        some (D.lst [D.tup (List.map eN (lates p r)), D.tup (List.map eN (earls p r))]), a, b, c, none, none]) ?_ ?_ [.ex, .bt, .fl, .ce] _ _ ⟨rfl, _, _, _, rfl⟩
  · rintro m rem ρ S' nx ⟨rfl, a, b, c, rfl⟩ hnx
    walk_at "dsem"
    refine ⟨w, m, p, r, rfl, h1, w, m, p, r, rfl, h1, ?_⟩
    cases hx : blm w m p r with
    | none =>
      have ha := (blm_none h1).mp hx
      rw [show eOpt eXc none = D.non from rfl, ha]
      walk_at "dsem"
      refine ⟨w, m, p, r, rfl, h1, fun _ ks hks => ?_, fun z => ?_⟩
      · walk_at "dsem"
        exact hnx _ _ ⟨rfl, _, _, _, rfl⟩
      · rw [ha] at z
        cases z
    | some x =>
      obtain ⟨x1, x2⟩ := blm_some h1 hx
      have ha : isAcc w m p r = false := by
        cases z : isAcc w m p r with
        | false => rfl
        | true =>
          rw [(blm_none h1).mpr z] at hx
          cases hx
      rw [show eOpt eXc (some x) = eXc x from rfl, ha]
      walk_at "dsem"
      refine ⟨w, m, p, r, rfl, h1, fun z => ?_, fun _ => ?_⟩
      · rw [ha] at z
        cases z
      · walk_at "dsem"
        refine ⟨w, m, p, r, x, rfl, h1, x1, x2, ?_⟩
        walk_at "dsem"
        refine ⟨w, m, p, r, x, rfl, h1, x1, x2, ?_⟩
        walk_at "dsem"
        exact hnx _ _ ⟨rfl, _, _, _, rfl⟩
  · rintro ρ S' ⟨rfl, a, b, c, rfl⟩
    refine g6 _ _ ?_
    walk_at "dsem"
    exact h
abbrev s__law_wide_right : Stmt := topS 94
abbrev N__law_wide_right : List Str := ["_law_pot_here", "_law_web", "_law_scheme_here", "_law_singles", "_law_block", "_law_most", "_law_one"]
abbrev P__law_wide_right : List Str := ["_law_pot_here"]
theorem sc__law_wide_right : FnScope N__law_wide_right P__law_wide_right (defScope s__law_wide_right) := ⟨rfl, rfl, rfl, by decide +kernel, rfl, by decide +kernel, by decide +kernel⟩
theorem ok__law_wide_right {f : Addr} {fd : FuncData} (F : Fun K "_law_wide_right" "_law_wide_right" s__law_wide_right f fd) (T : Tx K mg) (F__law_run_right : FkG P w K mg base "_law_run_right" 7 P__law_run_right (spOf K TT sp__law_run_right)) (F__law_scheme : Fk P w K mg base "_law_scheme" 2 P__law_scheme (spOf K TT sp__law_scheme)) (F__law_spread_tape : Fk P w K mg base "_law_spread_tape" 3 P__law_spread_tape (spOf K TT sp__law_spread_tape)) (F__law_take : Fk P w K mg base "_law_take" 1 P__law_take (spOf K TT sp__law_take)) (F__law_wide_sum : Fk P w K mg base "_law_wide_sum" 3 P__law_wide_sum (spOf K TT sp__law_wide_sum)) : FnG P w K mg base 8 f fd P__law_wide_right (spOf K TT sp__law_wide_right) := by
  refine fun_okG (k := 7) F sc__law_wide_right len__law_wide_right fun cdv A outer s H E hr hgd => ?_
  have hu := hr.units
  have hu1 := hu_of hr
  have hu65 := hu65_of hr
  refine ⟨_, (pss_cons (ps_set (i := 1) sc__law_wide_right.nd rfl (by first | exact Or.inl rfl | exact Or.inr rfl) (pe_callF F__law_wide_sum (hr.mono (by decide)) (by rfl) (pa_cons (pv 0) pa_nil)))
    (pss_cons (ps_set (i := 2) sc__law_wide_right.nd rfl (by first | exact Or.inl rfl | exact Or.inr rfl) (pe_callF F__law_scheme (hr.mono (by decide)) (by rfl) (pa_cons (pv 0) (pa_cons (pe_callB (lenK (K := K) rfl) (by rfl) T.nb_len (by decide +kernel) (pa_cons (pe_ix (ixK (K := K) rfl) (pv 1) pe_int (fun _ _ => rfl)) pa_nil)) pa_nil))))
    (pss_cons (ps_if (pt_cmpR (eqK (K := K) rfl hu) (pe_callF F__law_take (hr.mono (by decide)) (by rfl) (pa_cons (pv 0) (pa_cons pe_int pa_nil))) pe_int (nomark _)) (pss_cons (ps_set (i := 3) sc__law_wide_right.nd rfl (by first | exact Or.inl rfl | exact Or.inr rfl) (pe_lstM pa_nil))
    (pss_cons (ps_for PassesOwn.never rfl (seqK (K := K) rfl (pv 2)) (pg_name (i := 4) sc__law_wide_right.nd rfl (by first | exact Or.inl rfl | exact Or.inr rfl))
      (pss_one (ps_expr (pe_bm PySem.F.plainAttrs_list PySem.F.slot_list_extend PySem.F.type_list_extend mt_extend (pvM 3) (pa_cons (pe_lcV (vs := [6]) [("_law_one", 6)] rfl sc__law_wide_right.nd (seqK (K := K) rfl (pv 4)) (show blkC N__law_wide_right (defScope s__law_wide_right) _ [("_law_one", 6)] = true by decide +kernel) rfl (fun _ _ _ _ _ => (pg_name (i := 6) sc__law_wide_right.nd rfl (by first | exact Or.inl rfl | exact Or.inr rfl))) (fun _ _ _ _ _ => pts_nil) (fun _ _ _ _ _ => (pe_tup (pa_cons (pv 6) pa_nil)))) pa_nil)))))
    (pss_frz 3 (pss_one (ps_set (i := 2) sc__law_wide_right.nd rfl (by first | exact Or.inl rfl | exact Or.inr rfl) (pe_callTy (tupK (K := K) rfl) (by rfl) T.nb_tuple (by decide +kernel) (pa_cons (pv 3) pa_nil))))))) pss_nil)
    (pss_cons (ps_set (i := 5) sc__law_wide_right.nd rfl (by first | exact Or.inl rfl | exact Or.inr rfl) (pe_op op_fdiv pe_int (pe_op (addK (K := K) rfl) (pe_callB (lenK (K := K) rfl) (by rfl) T.nb_len (by decide +kernel) (pa_cons (pv 2) pa_nil)) pe_int)))
    (pss_one (ps_ret (pe_callG F__law_run_right (hr.mono (by decide)) hgd (by rfl) (pa_cons (pv 1) (pa_cons (pv 2) (pa_cons (pe_callF F__law_spread_tape (hr.mono (by decide)) (by rfl) (pa_cons (pv 0) (pa_cons (pv 1) (pa_cons (pe_callB (lenK (K := K) rfl) (by rfl) T.nb_len (by decide +kernel) (pa_cons (pv 2) pa_nil)) (pa_cons (pe_callB (call_min2D rfl) (by rfl) T.nb_min (by decide +kernel) (pa_cons pe_int (pa_cons (pv 5) pa_nil))) pa_nil))))) pa_nil)))))))))), ?_⟩
  try dsimp only [cxOf]
  refine ex_snd ?_
  intro ds S Qd h
  obtain ⟨rfl, h1, h⟩ := h
  walk_at "dsem"
  refine ⟨rfl, by omega, fun w S1 hw hst hlv hS1 => ?_⟩
  walk_at "dsem"
  rw [List.length_map]
  have hne := hw.ne
  have hf := hw.few
  refine ⟨_, rfl, by omega, by omega, by omega, fun p S2 hp hS2 => ?_⟩
  have hpl := pl_len hp
  have goal : ∀ (p : Pl) (S5 : Nat), OkPl w.vs.length p → S5 ≤ S + 2000 → CDiv 360 ((p.length : Nat) + 1 : Int) ∧ sp__law_spread_tape [D.pot, eW w, D.int (p.length : Nat), D.int (if (360 : Int) / ((p.length : Nat) + 1) < 8 then (360 : Int) / ((p.length : Nat) + 1) else 8)] S5 fun x S1 => sp__law_run_right [eW w, ePl p, x] S1 fun d S1 => Qd d S1 := fun p S5 hp hS5 => by
    have hpl := pl_len hp
    refine ⟨⟨by omega, by omega⟩, ?_⟩
    have e0 : ((p.length + 1 : Nat) : Int) = (p.length : Int) + 1 := by omega
    have e1 : (360 : Int) / ((p.length : Nat) + 1) = ((360 / (p.length + 1) : Nat) : Int) := by
      rw [Int.natCast_ediv, e0] <;> rfl
    rw [e1]
    have hmul := Nat.div_mul_le_self 360 (p.length + 1)
    have hmin : ∃ k : Nat, (if ((360 / (p.length + 1) : Nat) : Int) < 8 then ((360 / (p.length + 1) : Nat) : Int) else 8) = (k : Nat) ∧ k ≤ 360 / (p.length + 1) := by
      by_cases c : ((360 / (p.length + 1) : Nat) : Int) < 8
      · rw [if_pos c]
        exact ⟨_, rfl, Nat.le_refl _⟩
      · rw [if_neg c]
        exact ⟨8, rfl, by omega⟩
    obtain ⟨k, ek, hk⟩ := hmin
    rw [ek]
    have hk2 : (p.length + 1) * k ≤ 400 := by
      have := Nat.mul_le_mul_left (p.length + 1) hk
      rw [Nat.mul_comm (p.length + 1) (360 / (p.length + 1))] at this
      omega
    refine ⟨w, p, k, rfl, hw, hst, hlv, hp, hk2, by omega, by omega, fun r S6 hr hS6 => ?_⟩
    exact ⟨w, p, r, rfl, hr, h S6 (by omega)⟩
  refine ⟨2, rfl, by omega, by omega, by omega, fun u S3 hu hS3 => ?_⟩
  walk_at "dsem"
  by_cases cu : u = 0
  · rw [if_pos (decide_eq_true (by omega))]
    intro _
    refine forD_ind eNs (fun rem ρ S' => S' = S3 ∧ ∃ (done : Pl) (a b c : Option D), ρ = [some D.pot, some (D.tup [D.tup (List.map eVr w.vs), eSt w.st, eFn w.fn]), some (D.tup (List.map eNs p)), some (D.mu ((done.flatten.map fun v => [v]).map eNs)), a, b, c] ∧ done ++ rem = p) ?_ ?_ _ _ _ ⟨rfl, [], none, none, none, rfl, rfl⟩
    · rintro b rem ρ S' nx ⟨rfl, done, x, y, z, rfl, hd⟩ hnx
      have hfl : p.flatten.length ≤ 40 := by
        have := (perm_range hp.nd hp.mem).length_eq
        rw [List.length_range] at this
        omega
      have hlen := congrArg List.length (congrArg List.flatten hd)
      rw [List.flatten_append, List.flatten_cons, List.length_append, List.length_append] at hlen
      walk_at "dsem"
      rw [List.length_map]
      refine ⟨lt_line (by omega), ?_⟩
      refine lcD_all eN (fun v => eNs [v]) b (fun v hv k1 k2 g => ?_) ?_
      · walk_at "dsem"
        exact g
      walk_at "dsem"
      refine ⟨by rw [List.length_map, List.length_map, List.length_map]; omega, hnx _ _ ⟨rfl, done ++ [b], some (eNs b), y, z, ?_, by rw [← hd]; simp⟩⟩
      rw [List.flatten_append, List.map_append, List.map_append, List.flatten_cons, List.flatten_nil, List.append_nil, List.map_map, List.map_map] <;> rfl
    · rintro ρ S' ⟨rfl, done, x, y, z, rfl, hd⟩
      rw [List.append_nil] at hd
      subst hd
      walk_at "dsem"
      have hsing : ∀ l : List Nat, (l.map fun v => [v]).flatten = l := by
        intro l
        induction l with
        | nil => rfl
        | cons a l ih => rw [List.map_cons, List.flatten_cons, ih] <;> rfl
      have hne2 : done.flatten ≠ [] := fun e => by
        have := (hp.mem 0).mpr (by omega)
        rw [e] at this
        simp at this
      have hp2 : OkPl w.vs.length (done.flatten.map fun v => [v]) := ⟨fun e => hne2 (List.map_eq_nil_iff.mp e), fun b hb => by
        obtain ⟨v, _, rfl⟩ := List.mem_map.mp hb
        simp, by rw [hsing]; exact hp.nd, fun v => by rw [hsing]; exact hp.mem v⟩
      have := goal (done.flatten.map fun v => [v]) S' hp2 (by omega)
      rw [List.length_map]
      exact this
  · rw [if_neg (by rw [decide_eq_true_eq]; omega), List.length_map]
    exact goal p S3 hp (by omega)
end
end RS
end
section
set_option maxRecDepth 100000
set_option synthInstance.maxHeartbeats 2000000
set_option synthInstance.maxSize 4000
set_option maxHeartbeats 2000000
namespace RS
open PySem PySem.Spec PyProof.Rows L2 DL
local macro_rules | `(tactic| walk_at "dsem") => `(tactic| simp only [dstart, dRet, dOp, dSl, dTup, dLst, dCons, dNil, dNoPart, dC, dCB, dUn, dCall, dAnd, dOr, dNot, dIf, dIsN, dNext, dSeq, dIfS, dDrop, dAsg, dgName, dFor, dYes, dLc, dLc2, dwipe, dPar, dPar3, dParT, dgTupN, setN, dLstM, dDNewM, dDisp1,
  asB_b, asI_i, asT_t, asL_l, asS_l, asS_t, zx_tt, zx_tl, ex_l, ex_t, e_test, e_andV, e_orV, e_notV, e_chain, e_gtup, e_gcons, e_gnil, e_zx, e_ex, e_seq, e_rg1, e_aug, e_get, e_part, e_inM, e_put, e_app, e_ext, e_ixM, e_lenM, e_frz, e_var, muAt_s, mdAt_s, frzAt_l, frzAt_d, vAt_s, atI_s,
  at0, at1, at2, f_repT, e_star, starX_t, f_add, f_addT, f_addL, f_mul, f_mulL, f_sub, f_mod, f_div, f_pow, f_lt, f_le, f_gt, f_ge, f_neg, f_isB, f_notB, f_eqI, f_eqS, f_eqB, f_eqT, f_eqL, f_neI, f_neS, f_neB, f_neT, f_neL, f_ixL, f_ixT, f_slL, f_slT, f_lenT, f_lenL, f_tupT, f_tupL, f_lstT, f_lstL, f_all, f_sum, f_bestL, f_bestT, f_min2, f_intB, f_sort, f_sortD, isi_ii, isi_ib, isi_tt, isi_ss, f_inT, f_inL, f_inIT, f_inIL,
  mut_int, mut_tup, mut_lst, mut_str, mut_bl, mut_non, mut_pot, mut_dct, mut_scr, isn_non, isn_int, isn_tup, isn_str,
  eN, eP, eNs, eIs, eVr, eW, eR, ePl, eCor, eXc, eEv_r, eEv_s, eFn_t, eFn_s, eFn_x, eFn_n, eSt_n, eSt_s, ev_ne, ev_eq, mut_ev, isi_ev, e_ir3, e_ir1, ir3_i, ir1_i,
  List.map_cons, List.map_nil, List.length_cons, List.length_nil, List.replicate, List.append_nil, List.nil_append, List.cons_append, List.set_cons_zero, List.set_cons_succ, List.getElem?_cons_zero, List.getElem?_cons_succ, List.getElem?_nil, List.zip_cons_cons, List.zip_nil_left, List.foldl_cons, List.foldl_nil, Nat.reduceAdd, Nat.reduceSub, Nat.reduceLeDiff, true_and, and_true, decide_true, if_true, if_false, Bool.false_eq_true, Bool.not_true, Bool.not_false])
/-! ### dicts of blocks -/
def flI (x : List Nat × Nat) : List (Int × D) := (fl x).map fun q => ((q.1 : Int), eN q.2)
theorem flI_all : ∀ l : List (List Nat × Nat), l.flatMap flI = (l.flatMap fl).map fun q => ((q.1 : Int), eN q.2)
  | [] => rfl
  | x :: l => by rw [List.flatMap_cons, List.flatMap_cons, List.map_append, flI_all l] <;> rfl
theorem int_nodup {l : List Nat} (h : l.Nodup) : (l.map Int.ofNat).Nodup := List.Pairwise.map (R := (· ≠ ·)) _ (fun a b h e => h (Int.ofNat.inj e)) h
theorem flI_nodup {n : Nat} {p : Pl} (h : OkPl n p) : ((p.zipIdx.flatMap flI).map (·.1)).Nodup := by
  rw [flI_all, ← flatP_zip 0 p, List.map_map]
  have e : (flatP 0 p).map ((fun x : Int × D => x.1) ∘ fun q : Nat × Nat => ((q.1 : Int), eN q.2)) = p.flatten.map Int.ofNat := by
    rw [← flatP_fst 0 p, List.map_map] <;> rfl
  rw [e]
  exact int_nodup h.nd
theorem flI_len {n : Nat} {p : Pl} (h : OkPl n p) : (p.zipIdx.flatMap flI).length = n := by
  rw [flI_all, ← flatP_zip 0 p, List.length_map]
  have e := congrArg List.length (flatP_fst 0 p)
  rw [List.length_map] at e
  have := (perm_range h.nd h.mem).length_eq
  rw [List.length_range] at this
  omega
section
variable {P : Program} {w : World} {K : PySem.W.Frag} {mg : Str → Option Value} {base : Heap} {TT : Tb}
abbrev s_block_numbers : Stmt := topS 51
abbrev N_block_numbers : List Str := ["plan", "number", "block", "variable"]
abbrev P_block_numbers : List Str := ["plan"]
theorem sc_block_numbers : FnScope N_block_numbers P_block_numbers (defScope s_block_numbers) := ⟨rfl, rfl, rfl, by decide +kernel, rfl, by decide +kernel, by decide +kernel⟩
theorem ok_block_numbers {f : Addr} {fd : FuncData} (F : Fun K "block_numbers" "block_numbers" s_block_numbers f fd) (T : Tx K mg) : FnOk P w K mg base CX0 1 f fd P_block_numbers (spOf K TT sp_block_numbers) := by
  refine fun_okD (k := 0) F sc_block_numbers len_block_numbers fun cdv A outer s H E hr => ?_
  have hu := hr.units
  have hu1 := hu_of hr
  have hu65 := hu65_of hr
  refine ⟨_, (pss_one (ps_ret (pe_dc2V (vs := [1, 2, 3]) [("number", 1), ("block", 2), ("variable", 3)] [3] rfl sc_block_numbers.nd (enumK (K := K) rfl (by rfl) T.nb_enumerate (pa_cons (pv 0) pa_nil)) (show blkC N_block_numbers (defScope s_block_numbers) _ [("number", 1), ("block", 2), ("variable", 3)] = true by decide +kernel) rfl (by decide) (fun _ _ _ _ _ => (tgK 2 (K := K) rfl rfl (pgs_cons (pg_name (i := 1) sc_block_numbers.nd rfl (by first | exact Or.inl rfl | exact Or.inr rfl)) (pgs_cons (pg_name (i := 2) sc_block_numbers.nd rfl (by first | exact Or.inl rfl | exact Or.inr rfl)) pgs_nil)))) (fun _ _ _ _ _ => (seqK (K := K) rfl (pv 2))) (fun _ _ _ _ _ => (pg_name (i := 3) sc_block_numbers.nd rfl (by first | exact Or.inl rfl | exact Or.inr rfl))) (fun _ _ _ _ _ => (pv 3)) (fun _ _ _ _ _ => (pv 1))))), ?_⟩
  try dsimp only [cxOf]
  refine ex_snd ?_
  intro ds S Qd h
  obtain ⟨n, p, rfl, h1, h2, h⟩ := h
  simp only [dRet, dDc2]
  walk_at "dsem"
  rw [enumD_map]
  have hl := flI_len h1
  refine dc2_map _ flI p.zipIdx [] (fun x hx acc kk hn hb hk => ?_) (flI_nodup h1) (by rw [hl]; simp only [List.length_nil]; omega) ?_
  · walk_at "dsem"
    refine dcI_map eN (fun v : Nat => ((v : Int), eN x.2)) x.1 acc (fun v hv k1 g => ?_) ?_ ?_ ?_
    · walk_at "dsem"
      exact g
    · have e : flI x = x.1.map fun v : Nat => ((v : Int), eN x.2) := by unfold flI fl; rw [List.map_map] <;> rfl
      rw [← e]
      exact hn
    · have e : (flI x).length = x.1.length := by unfold flI fl; rw [List.length_map, List.length_map]
      omega
    · have e : flI x = x.1.map fun v : Nat => ((v : Int), eN x.2) := by unfold flI fl; rw [List.map_map] <;> rfl
      rw [← e]
      exact hk
  · rw [List.nil_append, flI_all, ← flatP_zip 0 p]
    exact h
abbrev s__law_marked : Stmt := topS 83
abbrev N__law_marked : List Str := ["_law_scheme_here", "_law_tape_here", "_law_place", "_law_reads", "_law_found", "_law_at", "_law_block", "_law_deed", "_law_word", "_law_variable_here"]
abbrev P__law_marked : List Str := ["_law_scheme_here", "_law_tape_here"]
theorem sc__law_marked : FnScope N__law_marked P__law_marked (defScope s__law_marked) := ⟨rfl, rfl, rfl, by decide +kernel, rfl, by decide +kernel, by decide +kernel⟩
theorem ok__law_marked {f : Addr} {fd : FuncData} (F : Fun K "_law_marked" "_law_marked" s__law_marked f fd) (T : Tx K mg) : FnOk P w K mg base CX0 1 f fd P__law_marked (spOf K TT sp__law_marked) := by
  refine fun_okD (k := 0) F sc__law_marked len__law_marked fun cdv A outer s H E hr => ?_
  have hu := hr.units
  have hu1 := hu_of hr
  have hu65 := hu65_of hr
  refine ⟨_, (pss_cons (ps_par3 (i := 2) (j := 3) (l := 4) rfl sc__law_marked.nd rfl rfl rfl (by decide) (by decide) (by decide) rfl rfl rfl (pa_cons pe_dnewM (pa_cons pe_int (pa_cons (pe_lstM pa_nil) pa_nil))) (by rfl))
    (pss_cons (ps_for PassesOwn.never rfl (enumK (K := K) rfl (by rfl) T.nb_enumerate (pa_cons (pv 0) pa_nil)) (tgK 2 (K := K) rfl rfl (pgs_cons (pg_name (i := 5) sc__law_marked.nd rfl (by first | exact Or.inl rfl | exact Or.inr rfl)) (pgs_cons (pg_name (i := 6) sc__law_marked.nd rfl (by first | exact Or.inl rfl | exact Or.inr rfl)) pgs_nil)))
      (pss_one (ps_expr (pe_bm PySem.F.plainAttrs_dict PySem.F.slot_dict_update PySem.F.type_dict_update mt_dupd (pvM 2) (pa_cons (pe_callTy (dictK (K := K) rfl rfl) (by rfl) T.nb_dict (by decide +kernel) (pa_cons (pe_lcV (vs := [9]) [("_law_variable_here", 9)] rfl sc__law_marked.nd (seqK (K := K) rfl (pv 6)) (show blkC N__law_marked (defScope s__law_marked) _ [("_law_variable_here", 9)] = true by decide +kernel) rfl (fun _ _ _ _ _ => (pg_name (i := 9) sc__law_marked.nd rfl (by first | exact Or.inl rfl | exact Or.inr rfl))) (fun _ _ _ _ _ => pts_nil) (fun _ _ _ _ _ => (pe_tup (pa_cons (pv 9) (pa_cons (pv 5) pa_nil))))) pa_nil)) pa_nil)))))
    (pss_frz 2 (pss_cons (ps_for PassesOwn.never rfl (seqK (K := K) rfl (pe_ix (ixK (K := K) rfl) (pv 1) pe_int (fun _ _ => rfl))) (pg_name (i := 7) sc__law_marked.nd rfl (by first | exact Or.inl rfl | exact Or.inr rfl))
      (pss_one (ps_if (pt_cmpR (eqK (K := K) rfl hu) (pe_ix (ixK (K := K) rfl) (pv 7) pe_int (fun _ _ => rfl)) pe_str (nomark _)) (pss_one (ps_set (i := 3) sc__law_marked.nd rfl (by first | exact Or.inl rfl | exact Or.inr rfl) (pe_op (addK (K := K) rfl) (pv 3) pe_int))) (pss_cons (ps_set (i := 8) sc__law_marked.nd rfl (by first | exact Or.inl rfl | exact Or.inr rfl) (pe_ifExp (pt_cmpR op_lt (pe_dget hu1 (pv 2) (pe_ix (ixK (K := K) rfl) (pv 7) pe_int (fun _ _ => rfl)) (fun _ _ => rfl)) (pv 3) (nomark _)) pe_str pe_str))
    (pss_cons (ps_set (i := 8) sc__law_marked.nd rfl (by first | exact Or.inl rfl | exact Or.inr rfl) (pe_ifExp (pt_cmpR (eqK (K := K) rfl hu) (pv 3) pe_int (nomark _)) pe_str (pe_ifExp (pt_cmpR (eqK (K := K) rfl hu) (pv 3) (pe_callB (lenK (K := K) rfl) (by rfl) T.nb_len (by decide +kernel) (pa_cons (pv 0) pa_nil)) (nomark _)) pe_str (pv 8))))
    (pss_one (ps_expr (pe_bm PySem.F.plainAttrs_list PySem.F.slot_list_append PySem.F.type_list_append mt_append (pvM 4) (pa_cons (pe_tup (pa_cons (pe_ix (ixK (K := K) rfl) (pv 7) pe_int (fun _ _ => rfl)) (pa_cons (pe_ix (ixK (K := K) rfl) (pv 7) pe_int (fun _ _ => rfl)) (pa_cons (pv 8) pa_nil)))) pa_nil)))))))))
    (pss_frz 4 (pss_one (ps_ret (pv 4)))))))), ?_⟩
  try dsimp only [cxOf]
  refine ex_snd ?_
  intro ds S Qd h
  obtain ⟨w, p, r, rfl, h1, h⟩ := h
  walk_at "dsem"
  intro _
  rw [enumD_map]
  have hl := flI_len h1.okp
  have hnd := flI_nodup h1.okp
  have hfew := h1.okw.few
  refine forD_ind _ (fun rem ρ S' => S' = S ∧ ∃ (done : List (List Nat × Nat)) (a b c d : Option D), ρ = [some (D.tup (List.map eNs p)), some (D.tup [D.tup (List.map eN r.fst), D.tup (List.map eEv r.snd)]), some (D.md (done.flatMap flI)), some (D.int 0), some (D.mu []), a, b, c, d, none] ∧ done ++ rem = p.zipIdx) ?_ ?_ _ _ _ ⟨rfl, [], none, none, none, none, rfl, rfl⟩
  · rintro x rem ρ S' nx ⟨rfl, done, a, b, c, d, rfl, hd⟩ hnx
    have hpre : done.flatMap flI ++ (flI x ++ rem.flatMap flI) = p.zipIdx.flatMap flI := by
      rw [← hd, List.flatMap_append, List.flatMap_cons]
    have hlen := congrArg List.length hpre
    rw [List.length_append, List.length_append] at hlen
    have hfx : (flI x).length = x.1.length := by unfold flI fl; rw [List.length_map, List.length_map]
    simp only [e_upd]
    walk_at "dsem"
    rw [List.length_map]
    refine ⟨lt_line (by omega), ?_⟩
    refine lcD_all eN (fun v => pairD ((v : Int), eN x.2)) x.1 (fun v hv k1 k2 g => ?_) ?_
    · walk_at "dsem"
      exact g
    rw [f_dict]
    refine ⟨flI x, ?_, ?_⟩
    · unfold flI fl
      rw [List.map_map, List.map_map] <;> rfl
    rw [asD_d, mergeD_new (acc := []) ?_, List.nil_append, mergeD_new ?_]
    · exact ⟨by omega, hnx _ _ ⟨rfl, done ++ [x], some (D.int x.2), some (eNs x.1), c, d, by rw [List.flatMap_append, List.flatMap_singleton] <;> rfl, by rw [← hd]; simp⟩⟩
    · rw [← hpre, ← List.append_assoc, List.map_append, List.nodup_append] at hnd
      exact hnd.1
    · rw [← hpre, List.map_append, List.nodup_append, List.map_append, List.nodup_append] at hnd
      exact hnd.2.1.1
  · rintro ρ S' ⟨rfl, done, a, b, c, d, rfl, hd⟩
    rw [List.append_nil] at hd
    subst hd
    walk_at "dsem"
    intro _
    have hsl := stps_len r
    have hnl := nst_le r.2
    have hrf := h1.few
    refine forD_ind eEv (fun evs ρ S2 => S2 = S' ∧ ∃ (acc : List (Nat × Nat × Nat)) (k : Nat) (x y : Option D), ρ = [some (D.tup (List.map eNs p)), some (D.tup [D.tup (List.map eN r.fst), D.tup (List.map eEv r.snd)]), some (eBlk p), some (D.int k), some (D.mu ((acc.map fun x => (x.1, x.2.1, wo p x)).map eMk)), a, b, x, y, none] ∧ acc ++ stR k evs = stps r)
      ?_ ?_ _ _ _ ⟨rfl, [], 0, c, d, ?_, rfl⟩
    · rintro e evs ρ S' nx ⟨rfl, acc, k, x, y, rfl, hc⟩ hnx
      have hlen := congrArg List.length hc
      rw [List.length_append] at hlen
      cases e with
      | rd =>
        walk_at "dsem"
        exact hnx _ _ ⟨rfl, acc, k + 1, _, _, rfl, hc⟩
      | st i v =>
        have hm : (i, v, k) ∈ stps r := by rw [← hc]; simp [stR]
        have hi : i < w.vs.length := by
          obtain ⟨j, hj, e⟩ := List.mem_iff_getElem.mp hm
          have hj2 : j < nst r.2 := by rw [← hsl]; exact hj
          have := (var_lt h1 hj2).1
          unfold stp at this
          simpa [hj, e] using this
        have hg : getD' ((flatP 0 p).map fun q => ((q.1 : Int), eN q.2)) (i : Int) = some (eN (blk p i)) := by
          rw [getD_flat (f := fun q => eN q.2), blk_find h1.okp hi] <;> rfl
        rw [stR, List.length_cons] at hlen
        have fin : ∀ z : Option D, nx [some (D.tup (List.map eNs p)), some (D.tup [D.tup (List.map eN r.fst), D.tup (List.map eEv r.snd)]), some (eBlk p), some (D.int k), some (D.mu ((acc.map fun x => (x.1, x.2.1, wo p x)).map eMk ++ [eMk (i, v, wo p (i, v, k))])), a, b, some (eEv (.st i v)), z, none] S' := fun z => hnx _ _ ⟨rfl, acc ++ [(i, v, k)], k, _, _, by rw [map_snoc, map_snoc] <;> rfl, by rw [← hc, List.append_assoc] <;> rfl⟩
        walk_at "dsem"
        rw [if_neg (by decide)]
        refine ⟨rfl, ?_⟩
        unfold eBlk
        rw [gx_i _ _ _ hg]
        rw [show eN (blk p i) = D.int (blk p i : Nat) from rfl]
        walk_at "dsem"
        rw [List.length_map, List.length_map, List.length_map]
        have hz : wo p (i, v, k) = if k = 0 then .be else if k = p.length then .af else if blk p i < k then .la else .ea := rfl
        have e1 : decide ((k : Int) = 0) = decide (k = 0) := by
          by_cases c : k = 0
          · rw [decide_eq_true c, decide_eq_true (by omega)]
          · rw [decide_eq_false c, decide_eq_false (by omega)]
        have e2 : decide ((k : Int) = (p.length : Nat)) = decide (k = p.length) := by
          by_cases c : k = p.length
          · rw [decide_eq_true c, decide_eq_true (by omega)]
          · rw [decide_eq_false c, decide_eq_false (by omega)]
        have e3 : decide ((blk p i : Int) < (k : Int)) = decide (blk p i < k) := by
          by_cases c : blk p i < k
          · rw [decide_eq_true c, decide_eq_true (by omega)]
          · rw [decide_eq_false c, decide_eq_false (by omega)]
        rw [e1, e2, e3]
        by_cases c1 : k = 0
        · rw [if_pos c1] at hz
          rw [hz] at fin
          have g := fin (some (D.str "before"))
          by_cases c3 : blk p i < k
          · rw [if_pos (decide_eq_true c3), if_pos (decide_eq_true c1)]
            exact ⟨by omega, g⟩
          · rw [if_neg (by rw [decide_eq_true_eq]; exact c3), if_pos (decide_eq_true c1)]
            exact ⟨by omega, g⟩
        · rw [if_neg c1] at hz
          by_cases c2 : k = p.length
          · rw [if_pos c2] at hz
            rw [hz] at fin
            have g := fin (some (D.str "after"))
            by_cases c3 : blk p i < k
            · rw [if_pos (decide_eq_true c3), if_neg (by rw [decide_eq_true_eq]; exact c1), if_pos (decide_eq_true c2)]
              exact ⟨by omega, g⟩
            · rw [if_neg (by rw [decide_eq_true_eq]; exact c3), if_neg (by rw [decide_eq_true_eq]; exact c1), if_pos (decide_eq_true c2)]
              exact ⟨by omega, g⟩
          · rw [if_neg c2] at hz
            by_cases c3 : blk p i < k
            · rw [if_pos c3] at hz
              rw [hz] at fin
              have g := fin (some (D.str "late"))
              rw [if_pos (decide_eq_true c3), if_neg (by rw [decide_eq_true_eq]; exact c1), if_neg (by rw [decide_eq_true_eq]; exact c2)]
              exact ⟨by omega, g⟩
            · rw [if_neg c3] at hz
              rw [hz] at fin
              have g := fin (some (D.str "early"))
              rw [if_neg (by rw [decide_eq_true_eq]; exact c3), if_neg (by rw [decide_eq_true_eq]; exact c1), if_neg (by rw [decide_eq_true_eq]; exact c2)]
              exact ⟨by omega, g⟩
    · rintro ρ S' ⟨rfl, acc, k, x, y, rfl, hc⟩
      walk_at "dsem"
      rw [stR, List.append_nil] at hc
      rw [hc]
      exact h
    · rw [flI_all, ← flatP_zip 0 p] <;> rfl
end
end RS
end
section
set_option maxRecDepth 100000
set_option synthInstance.maxHeartbeats 2000000
set_option synthInstance.maxSize 4000
set_option maxHeartbeats 2000000
namespace RS
open PySem PySem.Spec PyProof.Rows L2 DL
local macro_rules | `(tactic| walk_at "dsem") => `(tactic| simp only [dstart, dRet, dOp, dSl, dTup, dLst, dCons, dNil, dNoPart, dC, dCB, dUn, dCall, dAnd, dOr, dNot, dIf, dIsN, dNext, dSeq, dIfS, dDrop, dAsg, dgName, dFor, dYes, dLc, dLc2, dwipe, dPar, dPar3, dParT, dgTupN, setN, dLstM, dDNewM, dDisp1,
  asB_b, asI_i, asT_t, asL_l, asS_l, asS_t, zx_tt, zx_tl, ex_l, ex_t, e_test, e_andV, e_orV, e_notV, e_chain, e_gtup, e_gcons, e_gnil, e_zx, e_ex, e_seq, e_rg1, e_aug, e_get, e_part, e_inM, e_put, e_app, e_ext, e_ixM, e_lenM, e_frz, e_var, muAt_s, mdAt_s, frzAt_l, frzAt_d, vAt_s, atI_s,
  at0, at1, at2, f_repT, e_star, starX_t, f_add, f_addT, f_addL, f_mul, f_mulL, f_sub, f_mod, f_div, f_pow, f_lt, f_le, f_gt, f_ge, f_neg, f_isB, f_notB, f_eqI, f_eqS, f_eqB, f_eqT, f_eqL, f_neI, f_neS, f_neB, f_neT, f_neL, f_ixL, f_ixT, f_slL, f_slT, f_lenT, f_lenL, f_tupT, f_tupL, f_lstT, f_lstL, f_all, f_sum, f_bestL, f_bestT, f_min2, f_intB, f_sort, f_sortD, isi_ii, isi_ib, isi_tt, isi_ss, f_inT, f_inL, f_inIT, f_inIL,
  mut_int, mut_tup, mut_lst, mut_str, mut_bl, mut_non, mut_pot, mut_dct, mut_scr, isn_non, isn_int, isn_tup, isn_str,
  eN, eP, eNs, eIs, eVr, eW, eR, ePl, eCor, eXc, eEv_r, eEv_s, eFn_t, eFn_s, eFn_x, eFn_n, eSt_n, eSt_s, ev_ne, ev_eq, mut_ev, isi_ev, e_ir3, e_ir1, ir3_i, ir1_i,
  List.map_cons, List.map_nil, List.length_cons, List.length_nil, List.replicate, List.append_nil, List.nil_append, List.cons_append, List.set_cons_zero, List.set_cons_succ, List.getElem?_cons_zero, List.getElem?_cons_succ, List.getElem?_nil, List.zip_cons_cons, List.zip_nil_left, List.foldl_cons, List.foldl_nil, Nat.reduceAdd, Nat.reduceSub, Nat.reduceLeDiff, true_and, and_true, decide_true, if_true, if_false, Bool.false_eq_true, Bool.not_true, Bool.not_false])
/-! ### moments -/
def momI (k b : Nat) (ns : List Int) (n : Int) : List Nat := (ns.zipIdx.filter fun y => lamRel k y.1 n).map fun y => b + y.2
def sp_moments_where : DSp := fun ds S Q => ∃ r ns k n, ds = [eR r, .tup (ns.map D.int), .lam k n] ∧ OkE r ∧ rds r ≠ [] ∧ ns.length ≤ 2000 ∧ Q (.lst (((momI k (sp0 r) ns n).map Int.ofNat).map D.int)) S
theorem len_moments_where : ∀ ds S Qd, sp_moments_where ds S Qd → ds.length = 3 := fun ds S Q ⟨_, _, _, _, h, _⟩ => by rw [h] <;> rfl
abbrev mom (k : Nat) (w : Wd) (p : Pl) (r : Rn) : List Nat := momI k (sp0 r) (spRes w r) (rRes w p r)
def sp_true_moments : DSp := fun ds S Q => ∃ w p r, ds = [eW w, ePl p, eR r] ∧ OkR w p r ∧ Q (eNs (mom 0 w p r)) S
theorem len_true_moments : ∀ ds S Qd, sp_true_moments ds S Qd → ds.length = 3 := fun ds S Q ⟨_, _, _, h, _⟩ => by rw [h] <;> rfl
theorem ofNat_ints (l : List Nat) : (l.map Int.ofNat).map D.int = l.map eN := by rw [List.map_map] <;> rfl
section
variable {w : Wd} {p : Pl} {r : Rn}
theorem spRes_len (h : OkR w p r) : (spRes w r).length ≤ 901 := by
  have h1 := sts_len r
  have h2 := fin_len h
  unfold spRes
  rw [within_take, List.length_map, List.length_take, List.length_drop]
  omega
theorem spRes_at {i : Nat} {x : Int} (h : (spRes w r)[i]? = some x) : x = res w (stAt r (sp0 r + i)) ∧ sp0 r + i ≤ sp1 r := by
  unfold spRes within at h
  rw [List.getElem?_map, List.getElem?_take] at h
  split at h
  · rename_i hi
    rw [List.getElem?_drop] at h
    cases e : (sts r)[sp0 r + i]? with
    | none => rw [e] at h; cases h
    | some s =>
      rw [e] at h
      refine ⟨?_, by omega⟩
      unfold stAt
      rw [List.getD_eq_getElem?_getD, e]
      exact (Option.some.inj h).symm
  · cases h
theorem mom_mem {k j : Nat} (h : j ∈ mom k w p r) : sp0 r ≤ j ∧ j ≤ sp1 r ∧ lamRel k (res w (stAt r j)) (rRes w p r) = true := by
  obtain ⟨y, hy, rfl⟩ := List.mem_map.mp h
  obtain ⟨h1, h2⟩ := List.mem_filter.mp hy
  obtain ⟨i, hi, e⟩ := List.mem_iff_getElem.mp h1
  rw [List.getElem_zipIdx, Nat.zero_add] at e
  rw [List.length_zipIdx] at hi
  rw [← e] at h2 ⊢
  obtain ⟨a, b⟩ := spRes_at (List.getElem?_eq_getElem hi)
  exact ⟨Nat.le_add_right _ _, b, by rw [← a]; exact h2⟩
theorem mom_ne {k : Nat} {x : Int} (h : x ∈ spRes w r) (hx : lamRel k x (rRes w p r) = true) : mom k w p r ≠ [] := fun e => by
  obtain ⟨i, hi, ex⟩ := List.mem_iff_getElem.mp h
  have hm : (x, i) ∈ (spRes w r).zipIdx := List.mem_iff_getElem.mpr ⟨i, by rw [List.length_zipIdx]; exact hi, by rw [List.getElem_zipIdx, ex, Nat.zero_add]⟩
  have : sp0 r + i ∈ mom k w p r := List.mem_map.mpr ⟨(x, i), List.mem_filter.mpr ⟨hm, hx⟩, rfl⟩
  rw [e] at this
  simp at this
theorem mnL_mem : ∀ {l : List Int}, l ≠ [] → mnL l ∈ l
  | [], h => absurd rfl h
  | n :: ns, _ => (foldMin n ns).1
theorem mxL_mem : ∀ {l : List Int}, l ≠ [] → mxL l ∈ l
  | [], h => absurd rfl h
  | n :: ns, _ => (foldMax n ns).1
theorem mom_hd {k : Nat} (h : mom k w p r ≠ []) : ∃ j l, mom k w p r = j :: l ∧ sp0 r ≤ j ∧ j ≤ sp1 r ∧ lamRel k (res w (stAt r j)) (rRes w p r) = true := by
  cases e : mom k w p r with
  | nil => exact absurd e h
  | cons j l => exact ⟨j, l, rfl, mom_mem (by rw [e]; exact List.mem_cons_self)⟩
end
section
variable {P : Program} {w : World} {K : PySem.W.Frag} {mg : Str → Option Value} {base : Heap} {TT : Tb}
abbrev s_moments_where : Stmt := topS 45
abbrev N_moments_where : List Str := ["run", "results", "is_wanted", "first", "index", "number"]
abbrev P_moments_where : List Str := ["run", "results", "is_wanted"]
theorem sc_moments_where : FnScope N_moments_where P_moments_where (defScope s_moments_where) := ⟨rfl, rfl, rfl, by decide +kernel, rfl, by decide +kernel, by decide +kernel⟩
theorem ok_moments_where {f : Addr} {fd : FuncData} (F : Fun K "moments_where" "moments_where" s_moments_where f fd) (T : Tx K mg) (F_span : Fk P w K mg base "span" 2 P_span (spOf K TT sp_span)) : FnOk P w K mg base CX0 3 f fd P_moments_where (spOf K TT sp_moments_where) := by
  refine fun_okD (k := 2) F sc_moments_where len_moments_where fun cdv A outer s H E hr => ?_
  have hu := hr.units
  have hu1 := hu_of hr
  have hu65 := hu65_of hr
  refine ⟨_, (pss_cons (ps_set (i := 3) sc_moments_where.nd rfl (by first | exact Or.inl rfl | exact Or.inr rfl) (pe_ix (ixK (K := K) rfl) (pe_callF F_span (hr.mono (by decide)) (by rfl) (pa_cons (pv 0) pa_nil)) pe_int (fun _ _ => rfl)))
    (pss_one (ps_ret (pe_lcV (vs := [4, 5]) [("index", 4), ("number", 5)] rfl sc_moments_where.nd (enumK (K := K) rfl (by rfl) T.nb_enumerate (pa_cons (pv 1) pa_nil)) (show blkC N_moments_where (defScope s_moments_where) _ [("index", 4), ("number", 5)] = true by decide +kernel) rfl (fun _ _ _ _ _ => (tgK 2 (K := K) rfl rfl (pgs_cons (pg_name (i := 4) sc_moments_where.nd rfl (by first | exact Or.inl rfl | exact Or.inr rfl)) (pgs_cons (pg_name (i := 5) sc_moments_where.nd rfl (by first | exact Or.inl rfl | exact Or.inr rfl)) pgs_nil)))) (fun _ _ _ _ _ => (pts_one (pt_val (pe_lamC 2 (hr.mono (by decide)) (pv 5))))) (fun _ _ _ _ _ => (pe_op (addK (K := K) rfl) (pv 3) (pv 4))))))), ?_⟩
  try dsimp only [cxOf]
  refine ex_snd ?_
  intro ds S Qd h
  obtain ⟨r, ns, k, n, rfl, h1, h2, h3, h⟩ := h
  walk_at "dsem"
  refine ⟨r, rfl, h1, h2, ?_⟩
  walk_at "dsem"
  rw [enumD_map, List.length_map, List.length_zipIdx]
  refine ⟨lt_line (by omega), ?_⟩
  refine lcD_map _ (fun y : Int × Nat => lamRel k y.1 n) (fun y => eN (sp0 r + y.2)) _ [] (fun y hy k1 k2 g1 g2 => ?_) ?_
  · walk_at "dsem"
    simp only [e_lamC]
    walk_at "dsem"
    simp only [lamAt_s]
    by_cases c : lamRel k y.1 n = true
    · rw [if_pos c]
      exact g1 c
    · rw [if_neg c]
      exact g2 (by simpa using c)
  · unfold momI at h
    rw [ofNat_ints, List.map_map] at h
    exact h
abbrev s_true_moments : Stmt := topS 46
abbrev N_true_moments : List Str := ["world", "plan", "run", "number"]
abbrev P_true_moments : List Str := ["world", "plan", "run"]
theorem sc_true_moments : FnScope N_true_moments P_true_moments (defScope s_true_moments) := ⟨rfl, rfl, rfl, by decide +kernel, rfl, by decide +kernel, by decide +kernel⟩
abbrev lq_true_moments : Str := ("true_moments" ++ ".<locals>.") ++ "<lambda>"
theorem ok_true_moments {f c Pt : Addr} {fd : FuncData} (F : Fun K "true_moments" "true_moments" s_true_moments f fd) (T : Tx K mg) (F_moments_where : Fk P w K mg base "moments_where" 3 P_moments_where (spOf K TT sp_moments_where)) (F_run_result : Fk P w K mg base "run_result" 4 P_run_result (spOf K TT sp_run_result)) (F_span_results : Fk P w K mg base "span_results" 3 P_span_results (spOf K TT sp_span_results)) (hcd : fd.code = .ref c) (TB : LamX.TabB base mg c Pt) (hmT : (Pt, lq_true_moments) ∈ TT) (huT : ∀ p ∈ TT, p.1 = Pt → p.2 = lq_true_moments) : FnOk P w K mg base CX0 5 f fd P_true_moments (spOf K TT sp_true_moments) := by
  refine fun_okC (k := 4) F hcd sc_true_moments len_true_moments fun A outer s H E hr => ?_
  have hu := hr.units
  have hu1 := hu_of hr
  have hu65 := hu65_of hr
  refine ⟨_, (pss_cons (ps_set (i := 3) sc_true_moments.nd rfl (by first | exact Or.inl rfl | exact Or.inr rfl) (pe_callF F_run_result (hr.mono (by decide)) (by rfl) (pa_cons (pv 0) (pa_cons (pv 1) (pa_cons (pv 2) pa_nil)))))
    (pss_one (ps_ret (pe_callTy (tupK (K := K) rfl) (by rfl) T.nb_tuple (by decide +kernel) (pa_cons (pe_mw 0 3 F_moments_where (hr.mono (by decide)) (by rfl) (pv 2) (pe_callF F_span_results (hr.mono (by decide)) (by rfl) (pa_cons (pv 0) (pa_cons (pv 2) pa_nil))) TB rfl hmT huT (fun _ => rfl) rfl rfl rfl) pa_nil))))), ?_⟩
  try dsimp only [cxOf]
  refine ex_snd ?_
  intro ds S Qd h
  obtain ⟨w, p, r, rfl, h1, h⟩ := h
  have hl := spRes_len h1
  walk_at "dsem"
  refine ⟨w, p, r, rfl, h1, ?_⟩
  simp only [e_mw]
  walk_at "dsem"
  refine ⟨w, p, r, rfl, h1, ?_⟩
  refine ⟨r, spRes w r, 0, rRes w p r, rfl, oke_of h1, rds_ne h1, by omega, ⟨_, rfl⟩, ?_⟩
  walk_at "dsem"
  rw [ofNat_ints]
  exact h
theorem at_hd {l : List Nat} {q : D → Prop} (h : l ≠ []) (w : q (eN (l.headD 0))) : atD ((l.map Int.ofNat).map D.int) 0 q := by
  cases l with
  | nil => exact absurd rfl h
  | cons a l =>
    rw [List.map_cons, List.map_cons, at0]
    exact w
abbrev s_reasons : Stmt := topS 48
abbrev N_reasons : List Str := ["world", "mode", "plan", "run", "results", "found", "number"]
abbrev P_reasons : List Str := ["world", "mode", "plan", "run"]
theorem sc_reasons : FnScope N_reasons P_reasons (defScope s_reasons) := ⟨rfl, rfl, rfl, by decide +kernel, rfl, by decide +kernel, by decide +kernel⟩
abbrev lq_reasons : Str := ("reasons" ++ ".<locals>.") ++ "<lambda>"
theorem ok_reasons {f c Pt : Addr} {fd : FuncData} (F : Fun K "reasons" "reasons" s_reasons f fd) (T : Tx K mg) (F_is_accepted : Fk P w K mg base "is_accepted" 5 P_is_accepted (spOf K TT sp_is_accepted)) (F_moments_where : Fk P w K mg base "moments_where" 3 P_moments_where (spOf K TT sp_moments_where)) (F_run_result : Fk P w K mg base "run_result" 4 P_run_result (spOf K TT sp_run_result)) (F_span_results : Fk P w K mg base "span_results" 3 P_span_results (spOf K TT sp_span_results)) (F_true_moments : Fk P w K mg base "true_moments" 5 P_true_moments (spOf K TT sp_true_moments)) (hcd : fd.code = .ref c) (TB : LamX.TabB base mg c Pt) (hmT : (Pt, lq_reasons) ∈ TT) (huT : ∀ p ∈ TT, p.1 = Pt → p.2 = lq_reasons) : FnOk P w K mg base CX0 6 f fd P_reasons (spOf K TT sp_reasons) := by
  refine fun_okC (k := 5) F hcd sc_reasons len_reasons fun A outer s H E hr => ?_
  have hu := hr.units
  have hu1 := hu_of hr
  have hu65 := hu65_of hr
  refine ⟨_, (pss_cons (ps_if (pt_not (pt_val (pe_callF F_is_accepted (hr.mono (by decide)) (by rfl) (pa_cons (pv 0) (pa_cons (pv 1) (pa_cons (pv 2) (pa_cons (pv 3) pa_nil))))))) (pss_one (ps_ret pe_non)) pss_nil)
    (pss_cons (ps_asg (pe_tup (pa_cons (pe_callF F_run_result (hr.mono (by decide)) (by rfl) (pa_cons (pv 0) (pa_cons (pv 2) (pa_cons (pv 3) pa_nil)))) (pa_cons (pe_callF F_span_results (hr.mono (by decide)) (by rfl) (pa_cons (pv 0) (pa_cons (pv 3) pa_nil))) pa_nil))) (tgK 2 (K := K) rfl rfl (pgs_cons (pg_name (i := 6) sc_reasons.nd rfl (by first | exact Or.inl rfl | exact Or.inr rfl)) (pgs_cons (pg_name (i := 4) sc_reasons.nd rfl (by first | exact Or.inl rfl | exact Or.inr rfl)) pgs_nil))))
    (pss_cons (ps_if (pt_cmpR (eqK (K := K) rfl hu) (pv 1) pe_str (nomark _)) (pss_one (ps_ret (pe_slice (slK (K := K) rfl) (pe_callF F_true_moments (hr.mono (by decide)) (by rfl) (pa_cons (pv 0) (pa_cons (pv 2) (pa_cons (pv 3) pa_nil)))) po_none (po_some pe_int)))) pss_nil)
    (pss_cons (ps_set (i := 5) sc_reasons.nd rfl (by first | exact Or.inl rfl | exact Or.inr rfl) (pe_tup pa_nil))
    (pss_cons (ps_if (pt_cmpR (neK (K := K) rfl hu) (pv 1) pe_str (nomark _)) (pss_one (ps_aug (i := 5) sc_reasons.nd rfl (by first | exact Or.inl rfl | exact Or.inr rfl) (pe_tup (pa_cons (pe_ix (ixK (K := K) rfl) (pe_mw 1 6 F_moments_where (hr.mono (by decide)) (by rfl) (pv 3) (pv 4) TB rfl hmT huT (fun _ => rfl) rfl rfl rfl) pe_int (fun _ _ => rfl)) pa_nil)) (ip_catK (K := K) rfl))) pss_nil)
    (pss_cons (ps_if (pt_cmpR (neK (K := K) rfl hu) (pv 1) pe_str (nomark _)) (pss_one (ps_aug (i := 5) sc_reasons.nd rfl (by first | exact Or.inl rfl | exact Or.inr rfl) (pe_tup (pa_cons (pe_ix (ixK (K := K) rfl) (pe_mw 2 6 F_moments_where (hr.mono (by decide)) (by rfl) (pv 3) (pv 4) TB rfl hmT huT (fun _ => rfl) rfl rfl rfl) pe_int (fun _ _ => rfl)) pa_nil)) (ip_catK (K := K) rfl))) pss_nil)
    (pss_one (ps_ret (pv 5))))))))), ?_⟩
  try dsimp only [cxOf]
  refine ex_snd ?_
  intro ds S Qd h
  obtain ⟨w, m, p, r, rfl, h1, ha, hn⟩ := h
  have hl := spRes_len h1
  have hE := oke_of h1
  have hne := rds_ne h1
  walk_at "dsem"
  refine ⟨w, m, p, r, rfl, h1, ?_⟩
  walk_at "dsem"
  cases hacc : isAcc w m p r with
  | false =>
    walk_at "dsem"
    exact hn hacc
  | true =>
    have ha := ha hacc
    walk_at "dsem"
    refine ⟨w, p, r, rfl, h1, w, p, r, rfl, h1, ?_⟩
    walk_at "dsem"
    have mwh : ∀ (k : Nat) (q : D → Nat → Prop), mom k w p r ≠ [] → (∀ j, sp0 r ≤ j → j ≤ sp1 r → lamRel k (res w (stAt r j)) (rRes w p r) = true → q (eN j) S) →
        sp_moments_where [D.tup [D.tup (List.map eN r.fst), D.tup (List.map eEv r.snd)], D.tup (List.map D.int (spRes w r)), D.lam k (rRes w p r)] S fun d S3 => (∃ ns : List Int, d = .lst (ns.map D.int)) ∧ fIxX d (D.int 0) fun d => q d S3 := fun k q hk hq => by
      refine ⟨r, spRes w r, k, rRes w p r, rfl, hE, hne, by omega, ⟨_, rfl⟩, ?_⟩
      obtain ⟨j, l, ej, j1, j2, j3⟩ := mom_hd hk
      rw [show momI k (sp0 r) (spRes w r) (rRes w p r) = j :: l from ej]
      exact at_hd (l := j :: l) (by simp) (hq j j1 j2 j3)
    have hsp : ∀ j, sp0 r ≤ j → j ≤ sp1 r → ∀ x ∈ [j], sp0 r ≤ x ∧ x ≤ sp1 r := fun j a b x hx => by rw [List.mem_singleton.mp hx]; exact ⟨a, b⟩
    cases m with
    | ex =>
      rw [if_pos (by decide)]
      refine ⟨w, p, r, rfl, h1, ?_⟩
      have hc : (spRes w r).contains (rRes w p r) = true := hacc
      have hm : rRes w p r ∈ spRes w r := List.contains_iff_mem.mp hc
      obtain ⟨j, l, ej, j1, j2, j3⟩ := mom_hd (mom_ne (k := 0) hm (decide_eq_true rfl))
      have j3 : res w (stAt r j) = rRes w p r := of_decide_eq_true j3
      rw [ej]
      walk_at "dsem"
      rw [show DL.cutD (D.int j :: List.map eN l) none (some 1) = [D.int j] from cutD_to _ 1]
      exact ha [j] ⟨hsp j j1 j2, by show [res w (stAt r j)] = _; rw [j3]⟩
    | bt =>
      have hc : (decide (mnL (spRes w r) ≤ rRes w p r) && decide (rRes w p r ≤ mxL (spRes w r))) = true := hacc
      rw [Bool.and_eq_true, decide_eq_true_eq, decide_eq_true_eq] at hc
      rw [if_neg (by decide), if_pos (by decide)]
      simp only [e_augT]
      walk_at "dsem"
      simp only [tupAt_s]
      walk_at "dsem"
      simp only [e_mw]
      walk_at "dsem"
      refine mwh 1 _ (mom_ne (mnL_mem (spRes_ne h1)) (decide_eq_true hc.1)) fun a a1 a2 a3 => ?_
      have a3 : res w (stAt r a) ≤ rRes w p r := of_decide_eq_true a3
      walk_at "dsem"
      refine ⟨by rw [sizeLine_eq]; omega, ?_⟩
      rw [if_pos (by decide)]
      refine mwh 2 _ (mom_ne (mxL_mem (spRes_ne h1)) (decide_eq_true hc.2)) fun b b1 b2 b3 => ?_
      have b3 : rRes w p r ≤ res w (stAt r b) := of_decide_eq_true b3
      walk_at "dsem"
      refine ⟨by rw [sizeLine_eq]; omega, ?_⟩
      refine ha [a, b] ⟨fun x hx => ?_, a, b, rfl, a3, b3⟩
      rcases List.mem_cons.mp hx with z | z
      · rw [z]; exact ⟨a1, a2⟩
      · exact hsp b b1 b2 x z
    | fl =>
      have hc : decide (mnL (spRes w r) ≤ rRes w p r) = true := hacc
      rw [if_neg (by decide), if_pos (by decide)]
      simp only [e_augT]
      walk_at "dsem"
      simp only [tupAt_s]
      walk_at "dsem"
      simp only [e_mw]
      walk_at "dsem"
      refine mwh 1 _ (mom_ne (mnL_mem (spRes_ne h1)) hc) fun a a1 a2 a3 => ?_
      have a3 : res w (stAt r a) ≤ rRes w p r := of_decide_eq_true a3
      walk_at "dsem"
      refine ⟨by rw [sizeLine_eq]; omega, ?_⟩
      rw [if_neg (by decide)]
      exact ha [a] ⟨hsp a a1 a2, a, rfl, a3⟩
    | ce =>
      have hc : decide (rRes w p r ≤ mxL (spRes w r)) = true := hacc
      rw [if_neg (by decide), if_neg (by decide), if_pos (by decide)]
      simp only [e_augT]
      walk_at "dsem"
      simp only [tupAt_s]
      walk_at "dsem"
      simp only [e_mw]
      walk_at "dsem"
      refine mwh 2 _ (mom_ne (mxL_mem (spRes_ne h1)) hc) fun b b1 b2 b3 => ?_
      have b3 : rRes w p r ≤ res w (stAt r b) := of_decide_eq_true b3
      walk_at "dsem"
      refine ⟨by rw [sizeLine_eq]; omega, ?_⟩
      exact ha [b] ⟨hsp b b1 b2, b, rfl, b3⟩
end
end RS
end
section
set_option maxRecDepth 100000
set_option synthInstance.maxHeartbeats 2000000
set_option synthInstance.maxSize 4000
set_option maxHeartbeats 2000000
namespace RS
open PySem PySem.Spec PyProof.Rows L2 DL
local macro_rules | `(tactic| walk_at "dsem") => `(tactic| simp only [dstart, dRet, dOp, dSl, dTup, dLst, dCons, dNil, dNoPart, dC, dCB, dUn, dCall, dAnd, dOr, dNot, dIf, dIsN, dNext, dSeq, dIfS, dDrop, dAsg, dgName, dFor, dYes, dLc, dLc2, dwipe, dPar, dPar3, dParT, dgTupN, setN, dLstM, dDNewM, dDisp1,
  asB_b, asI_i, asT_t, asL_l, asS_l, asS_t, zx_tt, zx_tl, ex_l, ex_t, e_test, e_andV, e_orV, e_notV, e_chain, e_gtup, e_gcons, e_gnil, e_zx, e_ex, e_seq, e_rg1, e_aug, e_get, e_part, e_inM, e_put, e_app, e_ext, e_ixM, e_lenM, e_frz, e_var, muAt_s, mdAt_s, frzAt_l, frzAt_d, vAt_s, atI_s,
  at0, at1, at2, f_repT, e_star, starX_t, f_add, f_addT, f_addL, f_mul, f_mulL, f_sub, f_mod, f_div, f_pow, f_lt, f_le, f_gt, f_ge, f_neg, f_isB, f_notB, f_eqI, f_eqS, f_eqB, f_eqT, f_eqL, f_neI, f_neS, f_neB, f_neT, f_neL, f_ixL, f_ixT, f_slL, f_slT, f_lenT, f_lenL, f_tupT, f_tupL, f_lstT, f_lstL, f_all, f_sum, f_bestL, f_bestT, f_min2, f_intB, f_sort, f_sortD, isi_ii, isi_ib, isi_tt, isi_ss, f_inT, f_inL, f_inIT, f_inIL,
  mut_int, mut_tup, mut_lst, mut_str, mut_bl, mut_non, mut_pot, mut_dct, mut_scr, isn_non, isn_int, isn_tup, isn_str,
  eN, eP, eNs, eIs, eVr, eW, eR, ePl, eCor, eXc, eEv_r, eEv_s, eFn_t, eFn_s, eFn_x, eFn_n, eSt_n, eSt_s, ev_ne, ev_eq, mut_ev, isi_ev, e_ir3, e_ir1, ir3_i, ir1_i,
  List.map_cons, List.map_nil, List.length_cons, List.length_nil, List.replicate, List.append_nil, List.nil_append, List.cons_append, List.set_cons_zero, List.set_cons_succ, List.getElem?_cons_zero, List.getElem?_cons_succ, List.getElem?_nil, List.zip_cons_cons, List.zip_nil_left, List.foldl_cons, List.foldl_nil, Nat.reduceAdd, Nat.reduceSub, Nat.reduceLeDiff, true_and, and_true, decide_true, if_true, if_false, Bool.false_eq_true, Bool.not_true, Bool.not_false])
theorem in_ofL {α : Type} [DecidableEq α] {e : α → D} {k : Nat} (h : EqE e k) (hk : k ≤ 60) (neg : Bool) (a : α) (l : List α) {q : D → Prop} (w : q (.bl (if neg then !decide (a ∈ l) else decide (a ∈ l)))) : fInX neg (e a) (.lst (l.map e)) q := by
  show (okD (e a) = true ∧ okD (.lst (l.map e)) = true) ∧ q (.bl (if neg then !inD (e a) (l.map e) else inD (e a) (l.map e)))
  rw [inD_map h]
  exact ⟨⟨(h.sh a).ok (by omega), (h.lst.sh l).ok (by omega)⟩, w⟩
section
variable {w : Wd} {p : Pl} {r : Rn}
theorem stp_small (h : OkR w p r) {k : Nat} (hk : k < nst r.2) : (stp r k).1 ≤ 40 ∧ (stp r k).2 ≤ 4 := by
  obtain ⟨h1, h2⟩ := var_lt h hk
  have hf := h.okw.few
  have hm : vr w.vs (stp r k).1 ∈ w.vs := List.mem_of_getElem? (vr_get h1)
  have h3 := (h.okw.stp _ hm).2 _ h2
  have h4 := (h.okw.sz _ hm).2
  exact ⟨by omega, by have := h3.2.1; simp at this; omega⟩
end
section
variable {P : Program} {w : World} {K : PySem.W.Frag} {mg : Str → Option Value} {base : Heap} {TT : Tb}
abbrev s__law_is_blame : Stmt := topS 86
abbrev N__law_is_blame : List Str := ["_law_web", "_law_word", "_law_scheme_here", "_law_tape_here", "_law_thing", "_law_corner", "_law_p", "_law_q", "_law_marked_here", "_law_passed", "_law_reads", "_law_here", "_law_one", "_law_spot", "_law_some", "_law_at"]
abbrev P__law_is_blame : List Str := ["_law_web", "_law_word", "_law_scheme_here", "_law_tape_here", "_law_thing"]
theorem sc__law_is_blame : FnScope N__law_is_blame P__law_is_blame (defScope s__law_is_blame) := ⟨rfl, rfl, rfl, by decide +kernel, rfl, by decide +kernel, by decide +kernel⟩
theorem ok__law_is_blame {f : Addr} {fd : FuncData} (F : Fun K "_law_is_blame" "_law_is_blame" s__law_is_blame f fd) (T : Tx K mg) (F__law_inverted : Fk P w K mg base "_law_inverted" 2 P__law_inverted (spOf K TT sp__law_inverted)) (F__law_is_int : Fk P w K mg base "_law_is_int" 1 P__law_is_int (spOf K TT sp__law_is_int)) (F__law_marked : Fk P w K mg base "_law_marked" 1 P__law_marked (spOf K TT sp__law_marked)) (F__law_skewed : Fk P w K mg base "_law_skewed" 3 P__law_skewed (spOf K TT sp__law_skewed)) (F__law_walked : Fk P w K mg base "_law_walked" 2 P__law_walked (spOf K TT sp__law_walked)) : FnG P w K mg base 4 f fd P__law_is_blame (spOf K TT sp__law_is_blame) := by
  refine fun_okG (k := 3) F sc__law_is_blame len__law_is_blame fun cdv A outer s H E hr hgd => ?_
  have hu := hr.units
  have hu1 := hu_of hr
  have hu65 := hu65_of hr
  refine ⟨_, (pss_cons (ps_if (PW.pt (pw_or (pt_not (pt_val (pe_callB (isiK (K := K) rfl) (by rfl) T.nb_isinstance (by decide +kernel) (pa_cons (pv 4) (pa_cons (pe_bltn (v := V.ty "tuple") (by rfl) T.nb_tuple (by decide +kernel) rfl) pa_nil))))) (pw_or (pt_cmpR (neK (K := K) rfl hu) (pe_callB (lenK (K := K) rfl) (by rfl) T.nb_len (by decide +kernel) (pa_cons (pv 4) pa_nil)) pe_int (nomark _)) (pw_or (pt_not (pt_val (pe_callB (isiK (K := K) rfl) (by rfl) T.nb_isinstance (by decide +kernel) (pa_cons (pe_ix (ixK (K := K) rfl) (pv 4) pe_int (fun _ _ => rfl)) (pa_cons (pe_bltn (v := V.ty "tuple") (by rfl) T.nb_tuple (by decide +kernel) rfl) pa_nil))))) (pw_or1 (pt_cmpR (neK (K := K) rfl hu) (pe_callB (lenK (K := K) rfl) (by rfl) T.nb_len (by decide +kernel) (pa_cons (pe_ix (ixK (K := K) rfl) (pv 4) pe_int (fun _ _ => rfl)) pa_nil)) pe_int (nomark _))))))) (pss_one (ps_ret pe_bl)) pss_nil)
    (pss_cons (ps_asg (pv 4) (tgK 3 (K := K) rfl rfl (pgs_cons (pg_name (i := 5) sc__law_is_blame.nd rfl (by first | exact Or.inl rfl | exact Or.inr rfl)) (pgs_cons (pg_name (i := 6) sc__law_is_blame.nd rfl (by first | exact Or.inl rfl | exact Or.inr rfl)) (pgs_cons (pg_name (i := 7) sc__law_is_blame.nd rfl (by first | exact Or.inl rfl | exact Or.inr rfl)) pgs_nil)))))
    (pss_cons (ps_if (PW.pt (pw_or (pt_not (pt_val (pe_callF F__law_is_int (hr.mono (by decide)) (by rfl) (pa_cons (pv 6) pa_nil)))) (pw_or (pt_not (pt_val (pe_callF F__law_is_int (hr.mono (by decide)) (by rfl) (pa_cons (pv 7) pa_nil)))) (pw_or1 (pt_cmpR (notInK (K := K) rfl hu65) (pe_tup (pa_cons (pv 6) (pa_cons (pv 7) pa_nil))) (pe_callF F__law_inverted (hr.mono (by decide)) (by rfl) (pa_cons (pv 2) (pa_cons (pv 3) pa_nil))) (by rfl)))))) (pss_one (ps_ret pe_bl)) pss_nil)
    (pss_cons (ps_asg (pe_tup (pa_cons (pe_callF F__law_marked (hr.mono (by decide)) (by rfl) (pa_cons (pv 2) (pa_cons (pv 3) pa_nil))) (pa_cons (pe_callF F__law_walked (hr.mono (by decide)) (by rfl) (pa_cons (pv 3) pa_nil)) (pa_cons (pe_ix (ixK (K := K) rfl) (pv 5) pe_int (fun _ _ => rfl)) pa_nil)))) (tgK 3 (K := K) rfl rfl (pgs_cons (pg_name (i := 8) sc__law_is_blame.nd rfl (by first | exact Or.inl rfl | exact Or.inr rfl)) (pgs_cons (tgK 2 (K := K) rfl rfl (pgs_cons (pg_name (i := 9) sc__law_is_blame.nd rfl (by first | exact Or.inl rfl | exact Or.inr rfl)) (pgs_cons (pg_name (i := 10) sc__law_is_blame.nd rfl (by first | exact Or.inl rfl | exact Or.inr rfl)) pgs_nil))) (pgs_cons (pg_name (i := 11) sc__law_is_blame.nd rfl (by first | exact Or.inl rfl | exact Or.inr rfl)) pgs_nil)))))
    (pss_cons (ps_if (PW.pt (pw_or (pt_cmpR (neK (K := K) rfl hu) (pe_callB (reprK (K := K) rfl hgd hu65) (by rfl) T.nb_repr (by decide +kernel) (pa_cons (pe_ix (ixK (K := K) rfl) (pv 5) pe_int (fun _ _ => rfl)) pa_nil)) (pe_callB (reprK (K := K) rfl hgd hu65) (by rfl) T.nb_repr (by decide +kernel) (pa_cons (pe_slice (slK (K := K) rfl) (pe_ix (ixK (K := K) rfl) (pv 8) (pv 6) (fun _ _ => rfl)) po_none (po_some pe_int)) pa_nil)) (nomark _)) (pw_or1 (pt_cmpR (neK (K := K) rfl hu) (pe_callB (reprK (K := K) rfl hgd hu65) (by rfl) T.nb_repr (by decide +kernel) (pa_cons (pe_ix (ixK (K := K) rfl) (pv 5) pe_int (fun _ _ => rfl)) pa_nil)) (pe_callB (reprK (K := K) rfl hgd hu65) (by rfl) T.nb_repr (by decide +kernel) (pa_cons (pe_slice (slK (K := K) rfl) (pe_ix (ixK (K := K) rfl) (pv 8) (pv 7) (fun _ _ => rfl)) po_none (po_some pe_int)) pa_nil)) (nomark _))))) (pss_one (ps_ret pe_bl)) pss_nil)
    (pss_cons (ps_if (PW.pt (pw_or (pt_not (pt_val (pe_callB (isiK (K := K) rfl) (by rfl) T.nb_isinstance (by decide +kernel) (pa_cons (pv 11) (pa_cons (pe_bltn (v := V.ty "tuple") (by rfl) T.nb_tuple (by decide +kernel) rfl) pa_nil))))) (pw_or (pt_cmpR (neK (K := K) rfl hu) (pe_callB (lenK (K := K) rfl) (by rfl) T.nb_len (by decide +kernel) (pa_cons (pv 11) pa_nil)) (pe_callB (lenK (K := K) rfl) (by rfl) T.nb_len (by decide +kernel) (pa_cons (pe_ix (ixK (K := K) rfl) (pv 0) pe_int (fun _ _ => rfl)) pa_nil)) (nomark _)) (pw_or1 (pt_not (pt_val (pe_callB (allK (K := K) rfl rfl) (by rfl) T.nb_all (by decide +kernel) (pa_cons (pe_lcV (vs := [12]) [("_law_one", 12)] rfl sc__law_is_blame.nd (seqK (K := K) rfl (pv 11)) (show blkC N__law_is_blame (defScope s__law_is_blame) _ [("_law_one", 12)] = true by decide +kernel) rfl (fun _ _ _ _ _ => (pg_name (i := 12) sc__law_is_blame.nd rfl (by first | exact Or.inl rfl | exact Or.inr rfl))) (fun _ _ _ _ _ => pts_nil) (fun _ _ _ _ _ => (pe_callF F__law_is_int (hr.mono (by decide)) (by rfl) (pa_cons (pv 12) pa_nil)))) pa_nil)))))))) (pss_one (ps_ret pe_bl)) pss_nil)
    (pss_cons (ps_for PassesOwn.never rfl (enumK (K := K) rfl (by rfl) T.nb_enumerate (pa_cons (pv 11) pa_nil)) (tgK 2 (K := K) rfl rfl (pgs_cons (pg_name (i := 13) sc__law_is_blame.nd rfl (by first | exact Or.inl rfl | exact Or.inr rfl)) (pgs_cons (pg_name (i := 12) sc__law_is_blame.nd rfl (by first | exact Or.inl rfl | exact Or.inr rfl)) pgs_nil)))
      (pss_cons (ps_setLcV (vs := [15]) (i := 14) [("_law_at", 15)] rfl sc__law_is_blame.nd rfl rfl (sw_true rfl rfl rfl (by decide +kernel)) (seqK (K := K) rfl (pe_slice (slK (K := K) rfl) (pv 9) (po_some (pe_ix (ixK (K := K) rfl) (pv 10) pe_int (fun _ _ => rfl))) (po_some (pe_op (addK (K := K) rfl) (pe_ix (ixK (K := K) rfl) (pv 10) (pe_un un_neg pe_int) (fun _ _ => rfl)) pe_int)))) (show blkC N__law_is_blame (defScope s__law_is_blame) _ [("_law_at", 15)] = true by decide +kernel) rfl (fun _ _ _ _ _ => (pg_name (i := 15) sc__law_is_blame.nd rfl (by first | exact Or.inl rfl | exact Or.inr rfl))) (fun _ _ _ _ _ => pts_nil) (fun _ _ _ _ _ => (pe_ix (ixK (K := K) rfl) (pv 15) (pv 13) (fun _ _ => rfl))))
    (pss_cons (ps_if (pt_cmpR (eqK (K := K) rfl hu) (pv 13) (pe_ix (ixK (K := K) rfl) (pe_ix (ixK (K := K) rfl) (pv 8) (pv 6) (fun _ _ => rfl)) pe_int (fun _ _ => rfl)) (nomark _)) (pss_one (ps_set (i := 14) sc__law_is_blame.nd rfl (by first | exact Or.inl rfl | exact Or.inr rfl) (pe_lst (pa_cons (pe_ix (ixK (K := K) rfl) (pe_ix (ixK (K := K) rfl) (pv 9) (pv 6) (fun _ _ => rfl)) (pv 13) (fun _ _ => rfl)) pa_nil)))) pss_nil)
    (pss_cons (ps_if (pt_cmpR (eqK (K := K) rfl hu) (pv 13) (pe_ix (ixK (K := K) rfl) (pe_ix (ixK (K := K) rfl) (pv 8) (pv 7) (fun _ _ => rfl)) pe_int (fun _ _ => rfl)) (nomark _)) (pss_one (ps_set (i := 14) sc__law_is_blame.nd rfl (by first | exact Or.inl rfl | exact Or.inr rfl) (pe_lst (pa_cons (pe_ix (ixK (K := K) rfl) (pe_ix (ixK (K := K) rfl) (pv 9) (pv 7) (fun _ _ => rfl)) (pv 13) (fun _ _ => rfl)) pa_nil)))) pss_nil)
    (pss_one (ps_if (pt_cmpR (notInSK (K := K) rfl) (pv 12) (pv 14) (by rfl)) (pss_one (ps_ret pe_bl)) pss_nil))))))
    (pss_one (ps_ret (pe_callF F__law_skewed (hr.mono (by decide)) (by rfl) (pa_cons (pv 0) (pa_cons (pv 1) (pa_cons (pv 5) pa_nil))))))))))))), ?_⟩
  try dsimp only [cxOf]
  refine ex_snd ?_
  intro ds S Qd h
  obtain ⟨w, m, p, r, x, rfl, h1, h2, h3, h⟩ := h
  have hx : x.2 ∈ invs p r := (exch_pairs h1).mem_iff.mp (List.mem_map.mpr ⟨x, h2, rfl⟩)
  have hcor := exch_cor h1 h2
  obtain ⟨a, b, ha, hb, hab, rfl⟩ := (mem_exch h1 x).mp h2
  have hx : (a, b) ∈ invs p r := hx
  have h3 : hld w m (mid w p r a b, stp r a, stp r b) = false := h3
  have hcor : OkCor w (mid w p r a b, stp r a, stp r b) := hcor
  have e0 : eXc (xcOf w p r a b) = .tup [.tup [.tup ((mid w p r a b).map eN), .tup [.int (stp r a).1, .int (stp r a).2], .tup [.int (stp r b).1, .int (stp r b).2]], .int a, .int b] := rfl
  rw [e0]
  have hn := fin_len h1
  have hE := oke_of h1
  have hne := rds_ne h1
  have hsp : sp1 r ≤ nst r.2 := rds_le r (sp1_mem hne)
  have hsp0 := sp_le hne
  have hfew := h1.okw.few
  have j1 := (mem_lates h1 _).mp ha
  have j2 := (mem_earls h1 _).mp hb
  obtain ⟨f1, f2, f3⟩ := xc_facts h1 ha hb hab
  have sa := stp_small h1 (k := a) (by omega)
  have sb := stp_small h1 (k := b) (by omega)
  refine seq_cut fun nx1 g1 => ?_
  walk_at "dsem"
  refine g1 _ _ (seq_cut fun nx2 g2 => ?_)
  walk_at "dsem"
  refine g2 _ _ (seq_cut fun nx3 g3 => ?_)
  walk_at "dsem"
  refine ⟨_, rfl, ?_⟩
  walk_at "dsem"
  refine ⟨_, rfl, ?_⟩
  walk_at "dsem"
  refine ⟨w, p, r, rfl, h1, ?_⟩
  refine in_ofL eqe_P (by decide) true (a, b) (invs p r) ?_
  simp only [hx, decide_true]
  walk_at "dsem"
  refine g3 _ _ (seq_cut fun nx4 g4 => ?_)
  walk_at "dsem"
  refine ⟨w, p, r, rfl, h1, r, rfl, hE, ?_⟩
  walk_at "dsem"
  refine g4 _ _ (seq_cut fun nx5 g5 => ?_)
  walk_at "dsem"
  rw [f_repr]
  refine ⟨⟨by omega, by omega⟩, at_marks (by omega) ?_⟩
  walk_at "dsem"
  rw [cut2, f_repr]
  refine ⟨⟨by omega, by omega⟩, ?_⟩
  walk_at "dsem"
  rw [f_repr]
  refine ⟨⟨by omega, by omega⟩, at_marks (by omega) ?_⟩
  walk_at "dsem"
  rw [cut2, f_repr]
  refine ⟨⟨by omega, by omega⟩, ?_⟩
  walk_at "dsem"
  refine g5 _ _ (seq_cut fun nx6 g6 => ?_)
  walk_at "dsem"
  rw [List.length_map, List.length_map, mid_len, decide_eq_true rfl]
  walk_at "dsem"
  refine ⟨lt_line (by omega), ?_⟩
  refine lcD_all eN (fun _ => D.bl true) (mid w p r a b) (fun v hv k1 k2 g => ?_) ?_
  · walk_at "dsem"
    exact ⟨_, rfl, g⟩
  walk_at "dsem"
  refine ⟨(mid w p r a b).map fun _ => true, by rw [List.map_map] <;> rfl, ?_⟩
  rw [all_true]
  walk_at "dsem"
  refine g6 _ _ (seq_cut fun nx7 g7 => ?_)
  walk_at "dsem"
  intro _
  rw [enumD_map]
  have hwl : (within r).length ≤ 901 := by
    have := sts_len r
    rw [within_take, List.length_take, List.length_drop]
    omega
  have hmem : ∀ x ∈ (mid w p r a b).zipIdx, x.2 < w.vs.length ∧ x.1 = nth (mid w p r a b) x.2 := fun x hx => by
    obtain ⟨i, hi, e⟩ := List.mem_iff_getElem.mp hx
    rw [List.length_zipIdx, mid_len] at hi
    rw [List.getElem_zipIdx] at e
    rw [← e]
    refine ⟨by simpa using hi, ?_⟩
    simp [show i < (mid w p r a b).length by rw [mid_len]; exact hi]
  refine forD_ind _ (fun rem ρ S' => S' = S ∧ ∃ (y1 y2 y3 y4 : Option D), ρ = [some (D.tup [D.tup (List.map eVr w.vs), eSt w.st, eFn w.fn]), some (D.str (eMd m)),
                              some (D.tup (List.map eNs p)),
                              some (D.tup [D.tup (List.map eN r.fst), D.tup (List.map eEv r.snd)]),
                              some
                                (D.tup
                                  [D.tup
                                      [D.tup (List.map eN (mid w p r a b)),
                                        D.tup [D.int ↑(stp r a).fst, D.int ↑(stp r a).snd],
                                        D.tup [D.int ↑(stp r b).fst, D.int ↑(stp r b).snd]],
                                    D.int ↑a, D.int ↑b]),
                              some
                                (D.tup
                                  [D.tup (List.map eN (mid w p r a b)),
                                    D.tup [D.int ↑(stp r a).fst, D.int ↑(stp r a).snd],
                                    D.tup [D.int ↑(stp r b).fst, D.int ↑(stp r b).snd]]),
                              some (D.int ↑a), some (D.int ↑b), some (D.lst (List.map eMk (marks p r))),
                              some (D.lst (List.map eNs (sts r))), some (D.lst (List.map eN (rds r))),
                              some (D.tup (List.map eN (mid w p r a b))), y1, y2, y3, y4] ∧ ∀ x ∈ rem, x.2 < w.vs.length ∧ x.1 = nth (mid w p r a b) x.2) ?_ ?_ _ _ _ ⟨rfl, none, none, none, none, rfl, hmem⟩
  · rintro x rem ρ S' nx ⟨rfl, y1, y2, y3, y4, rfl, hm⟩ hnx
    obtain ⟨hv, hx2⟩ := hm x List.mem_cons_self
    have hwv : ∀ s ∈ within r, x.2 < s.length := fun s hs => by
      have := sts_ok h1 s (List.mem_of_mem_drop (List.mem_of_mem_take hs))
      rw [this.1]
      exact hv
    walk_at "dsem"
    refine at_head hne ?_
    refine at_end (d := 0) hne ?_
    walk_at "dsem"
    rw [show (rds r).headD 0 = sp0 r from rfl, show (rds r).getLastD 0 = sp1 r from rfl]
    have e : ((sp1 r : Nat) : Int) + 1 = ((sp1 r + 1 : Nat) : Int) := by omega
    rw [e, cutD_mid, ← List.map_drop, ← List.map_take, ← within_take]
    rw [List.length_map]
    refine ⟨lt_line (by omega), ?_⟩
    refine lcD_all eNs (fun s => D.int (nth s x.2)) _ (fun s hs k1 k2 hk => ?_) ?_
    · walk_at "dsem"
      exact at_nth (hwv s hs) hk
    have key : ∀ (seen : List Int), (nth (mid w p r a b) x.2 : Int) ∈ seen → ∃ ns : List Int, seen.map D.int = ns.map D.int ∧ if (!ns.contains (x.1 : Int)) = true then Qd (D.bl false) S' else nx [some (D.tup [D.tup (List.map eVr w.vs), eSt w.st, eFn w.fn]), some (D.str (eMd m)),
        some (D.tup (List.map eNs p)), some (D.tup [D.tup (List.map eN r.fst), D.tup (List.map eEv r.snd)]),
        some
          (D.tup
            [D.tup
                [D.tup (List.map eN (mid w p r a b)), D.tup [D.int ↑(stp r a).fst, D.int ↑(stp r a).snd],
                  D.tup [D.int ↑(stp r b).fst, D.int ↑(stp r b).snd]],
              D.int ↑a, D.int ↑b]),
        some
          (D.tup
            [D.tup (List.map eN (mid w p r a b)), D.tup [D.int ↑(stp r a).fst, D.int ↑(stp r a).snd],
              D.tup [D.int ↑(stp r b).fst, D.int ↑(stp r b).snd]]),
        some (D.int ↑a), some (D.int ↑b), some (D.lst (List.map eMk (marks p r))), some (D.lst (List.map eNs (sts r))),
        some (D.lst (List.map eN (rds r))), some (D.tup (List.map eN (mid w p r a b))), some (D.int ↑x.fst),
        some (D.int ↑x.snd), some (.lst (seen.map D.int)), y4] S' := fun seen hin => by
      refine ⟨seen, rfl, ?_⟩
      rw [hx2, List.contains_iff_mem.mpr hin, if_neg (by simp)]
      exact hnx _ _ ⟨rfl, _, _, _, _, rfl, fun y hy => hm y (List.mem_cons_of_mem _ hy)⟩
    walk_at "dsem"
    refine at_marks (by omega) ?_
    walk_at "dsem"
    by_cases ca : x.2 = (stp r a).1
    · rw [if_pos (decide_eq_true (by omega))]
      refine at_sts r (k := a) (by omega) ?_
      refine at_nth (by rw [stAt_len h1 (by omega)]; exact hv) ?_
      refine at_marks (by omega) ?_
      walk_at "dsem"
      rw [if_neg (by rw [decide_eq_true_eq]; omega)]
      exact key [(nth (stAt r a) x.2 : Int)] (by rw [ca, f1]; simp)
    · rw [if_neg (by rw [decide_eq_true_eq]; omega)]
      refine at_marks (by omega) ?_
      walk_at "dsem"
      by_cases cb : x.2 = (stp r b).1
      · rw [if_pos (decide_eq_true (by omega))]
        refine at_sts r (k := b) (by omega) ?_
        refine at_nth (by rw [stAt_len h1 (by omega)]; exact hv) ?_
        exact key [(nth (stAt r b) x.2 : Int)] (by rw [cb, f2]; simp)
      · rw [if_neg (by rw [decide_eq_true_eq]; omega)]
        have em : List.map (fun s => D.int (nth s x.2 : Nat)) (within r) = ((within r).map fun s => (nth s x.2 : Int)).map D.int := by rw [List.map_map] <;> rfl
        rw [em]
        refine key _ ?_
        have hbd := mid_bd h1 (l := a) (e := b) (by omega) (by omega) (by omega) hv
        rw [nth_mid hv]
        exact List.mem_map.mpr ⟨_, mem_within h1 hbd.1 hbd.2, rfl⟩
  · rintro ρ S' ⟨rfl, y1, y2, y3, y4, rfl, hm⟩
    refine g7 _ _ ?_
    walk_at "dsem"
    refine ⟨w, m, _, rfl, h1.okw, hcor, ?_⟩
    rw [h3]
    exact h
end
end RS
end
section
set_option maxRecDepth 100000
set_option maxHeartbeats 2000000
namespace RS
open PySem PySem.Spec PyProof.Rows L2 DL
section
variable {P : Program} {w : World} {K : PySem.W.Frag} {mg : Str → Option Value} {base : Heap} {TT : Tb}
theorem ixp {K : PySem.W.Frag} {σ : L2.St} {H : Hp} {Q : VK} {p : Addr} {xs : List V} {i : Int} {v : V} {k : Nat} (h1 : σ[k]? = some (some (.ref p))) (h2 : H p = some (.lst xs)) (h3 : atI xs i = some v) (q : Q v H) : tOp (rIxL K) (tVar k) (tC (.int i)) σ H Q :=
  ⟨_, h1, p, xs, i, v, rfl, rfl, SqL.of h2, h3, q⟩
theorem opp {C : Int → Int → Prop} {g : Int → Int → V} {ta tb : TE} {σ : L2.St} {H : Hp} {Q : VK} {i j : Int} (ha : ∀ Q' : VK, Q' (.int i) H → ta σ H Q') (hb : ∀ Q' : VK, Q' (.int j) H → tb σ H Q') (hc : C i j) (q : Q (g i j) H) : tOp (rI C g) ta tb σ H Q :=
  ha _ (hb _ ⟨i, j, rfl, rfl, hc, q⟩)
theorem op0 {g : Int → Int → V} {ta tb : TE} {σ : L2.St} {H : Hp} {Q : VK} {i j : Int} (ha : ∀ Q' : VK, Q' (.int i) H → ta σ H Q') (hb : ∀ Q' : VK, Q' (.int j) H → tb σ H Q') (q : Q (g i j) H) : tOp (rI0 g) ta tb σ H Q :=
  ha _ (hb _ ⟨i, j, rfl, rfl, q⟩)
theorem cc {v : V} {σ : L2.St} {H : Hp} : ∀ Q' : VK, Q' v H → tC v σ H Q' := fun _ h => h
theorem vv {v : V} {σ : L2.St} {H : Hp} {i : Nat} (h : σ[i]? = some (some v)) : ∀ Q' : VK, Q' v H → tVar i σ H Q' := fun _ q => ⟨v, h, q⟩
abbrev s__law_take : Stmt := topS 64
abbrev N__law_take : List Str := ["_law_pot_here", "_law_wide", "_law_digit", "_law_primes", "_law_prime", "_law_drawn"]
abbrev P__law_take : List Str := ["_law_pot_here", "_law_wide"]
theorem sc__law_take : FnScope N__law_take P__law_take (defScope s__law_take) := ⟨rfl, rfl, rfl, by decide +kernel, rfl, by decide +kernel, by decide +kernel⟩

theorem ok__law_take {f : Addr} {fd : FuncData} (F : Fun K "_law_take" "_law_take" s__law_take f fd) (T : Tx K mg) : FnOk P w K mg base CX0 1 f fd P__law_take (spOf K TT sp__law_take) := by
  refine F.ok sc__law_take (fun vs H Q E h => ?_) (fun cdv A outer s H vs Q E hr h => ?_)
  · obtain ⟨q, m, ds, S, Qd, h1, _, _, _, _, h6, _⟩ := h
    rw [h1.1]
    exact len__law_take ds S Qd h6
  · obtain ⟨q, m, ds, S, Qd, hR, hq, hd, hp, ht, hs, kont⟩ := h
    obtain ⟨n, rfl, h1, h2, h3, hs⟩ := hs
    have h3 : S + 1 ≤ 1000000000 := h3
    obtain ⟨v1, v2, rfl, r1, r2⟩ := reps2 hR
    cases r2
    cases r1
    rename_i p hqp
    obtain ⟨a, b, c, hP, hc0, hc1⟩ := hp p hqp
    refine ⟨_, (pss_cons (ps_if (pt_cmpR op_gt (pe_ix ix_list (pv 0) pe_int (fun _ _ => rfl)) pe_int (nomark _)) (pss_cons (ps_set (i := 2) sc__law_take.nd rfl (by first | exact Or.inl rfl | exact Or.inr rfl) (pe_op op_mod (pe_ix ix_list (pv 0) pe_int (fun _ _ => rfl)) (pv 1)))
    (pss_cons (ps_asg (pe_op op_fdiv (pe_ix ix_list (pv 0) pe_int (fun _ _ => rfl)) (pv 1)) (pg_sub (pv 0) pe_int set_list))
    (pss_one (ps_ret (pv 2))))) pss_nil)
    (pss_cons (ps_asg (pe_op op_add (pe_ix ix_list (pv 0) pe_int (fun _ _ => rfl)) pe_int) (pg_sub (pv 0) pe_int set_list))
    (pss_cons (ps_set (i := 3) sc__law_take.nd rfl (by first | exact Or.inl rfl | exact Or.inr rfl) (pe_lst (pa_cons pe_int (pa_cons pe_int (pa_cons pe_int (pa_cons pe_int (pa_cons pe_int (pa_cons pe_int (pa_cons pe_int (pa_cons pe_int pa_nil))))))))))
    (pss_cons (ps_set (i := 4) sc__law_take.nd rfl (by first | exact Or.inl rfl | exact Or.inr rfl) (pe_ix ix_list (pv 3) (pe_op op_mod (pe_ix ix_list (pv 0) pe_int (fun _ _ => rfl)) pe_int) (fun _ _ => rfl)))
    (pss_cons (ps_set (i := 5) sc__law_take.nd rfl (by first | exact Or.inl rfl | exact Or.inr rfl) (pe_op op_add (pe_op op_mod (pe_op op_mod (pe_op op_add (pe_ix ix_list (pv 0) pe_int (fun _ _ => rfl)) (pe_op op_mul (pe_op op_mul pe_int (pe_ix ix_list (pv 0) pe_int (fun _ _ => rfl))) (pe_ix ix_list (pv 0) pe_int (fun _ _ => rfl)))) (pe_op op_pow (pv 4) pe_int)) (pv 4)) pe_int))
    (pss_one (ps_ret (pe_op op_mod (pe_op op_fdiv (pe_op op_mod (pe_op op_mul (pv 5) (pe_op op_add (pe_op op_mod (pv 5) pe_int) (pe_ix ix_list (pv 0) pe_int (fun _ _ => rfl)))) (pv 4)) pe_int) (pv 1))))))))), ?_⟩
    have fin : ∀ (H' : Hp) (a' b' c' x : Int), H' p = some (.lst [.int a', .int b', .int c']) → Tabs TT H' → DL.Fr q H H' → 0 ≤ c' → c' ≤ S + 1 → 0 ≤ x → x < n → Q (.int x) H' := fun H' a' b' c' x e ht' hf g1 g2 g3 g4 => by
      have ex : V.int x = V.int (x.toNat : Nat) := by rw [Int.toNat_of_nonneg g3]
      rw [ex]
      refine kont _ H' (S + 1) (eN x.toNat) (hs x.toNat (S + 1) (by omega) (Nat.le_refl _)) (.int _) (fun p' hp' => ?_) ht' hf
      rw [hqp] at hp'
      cases hp'
      exact ⟨a', b', c', e, g1, by omega⟩
    have frp : ∀ o, DL.Fr q H (upd H p o) := fun o r u h n1 n2 => by
      rw [upd_ne fun z => n1 (by rw [z]; exact hqp)]
      exact h
    simp only [tNext, tSeq, tAsg, tRet, tIfS, tTest, gSub, gName, tLst, tCons, tNil]
    have σ0 : (L2.start N__law_take [V.ref p, V.int ↑n]) = [some (.ref p), some (.int n), none, none, none, none] := rfl
    rw [σ0]
    by_cases ha : 0 < a
    · refine op0 (i := a) (j := 0) (fun Q' h => ixp rfl hP rfl h) cc ?_
      refine ⟨true, by rw [decide_eq_true ha], ?_⟩
      rw [if_pos rfl]
      refine opp (i := a) (j := n) (fun Q' h => ixp rfl hP rfl h) (vv rfl) (by show (0 : Int) < n; omega) ?_
      refine opp (i := a) (j := n) (fun Q' h => ixp rfl hP rfl h) (vv rfl) ⟨by omega, by omega⟩ ?_
      refine ⟨_, rfl, p, _, 0, 0, rfl, rfl, hP, (show ixN 3 0 = some 0 by decide), ?_⟩
      refine ⟨_, rfl, fin _ (a / n) b c (a % n) upd_same (tabs_upd ht hP) (frp _) hc0 (by omega) (Int.emod_nonneg _ (by omega)) (Int.emod_lt_of_pos _ (by omega))⟩
    · refine op0 (i := a) (j := 0) (fun Q' h => ixp rfl hP rfl h) cc ?_
      refine ⟨false, by rw [decide_eq_false ha], ?_⟩
      rw [if_neg (by decide)]
      refine op0 (i := c) (j := 1) (fun Q' h => ixp rfl hP rfl h) cc ?_
      refine ⟨_, rfl, p, _, 2, 2, rfl, rfl, hP, (show ixN 3 2 = some 2 by decide), ?_⟩
      refine ⟨by show 8 ≤ sizeLine; decide, fun l hl => ?_⟩
      generalize hH1 : upd H p (.lst ([V.int a, V.int b, V.int c].set 2 (V.int (c + 1)))) = H1 at hl ⊢
      have hP1 : H1 p = some (.lst [.int a, .int b, .int (c + 1)]) := by rw [← hH1, upd_same] <;> rfl
      have ht1 : Tabs TT H1 := by rw [← hH1]; exact tabs_upd ht hP
      have hf1 : DL.Fr q H H1 := by rw [← hH1]; exact frp _
      have hn1 := Nw.upd (o := .lst [V.int 2147483647, V.int 2147483629, V.int 2147483587, V.int 2147483579, V.int 2147483563, V.int 2147483549, V.int 2147483543, V.int 2147483497]) hl
      have ht2 := tabs_nw ht1 hn1
      have hf2 := hf1.trans (hn1.fr (q := q))
      have hP2 := hn1 _ _ hP1
      have hL2 : upd H1 l (.lst [V.int 2147483647, V.int 2147483629, V.int 2147483587, V.int 2147483579, V.int 2147483563, V.int 2147483549, V.int 2147483543, V.int 2147483497]) l = some (.lst [V.int 2147483647, V.int 2147483629, V.int 2147483587, V.int 2147483579, V.int 2147483563, V.int 2147483549, V.int 2147483543, V.int 2147483497]) := upd_same
      generalize upd H1 l (.lst [V.int 2147483647, V.int 2147483629, V.int 2147483587, V.int 2147483579, V.int 2147483563, V.int 2147483549, V.int 2147483543, V.int 2147483497]) = H2 at ht2 hf2 hP2 hL2 ⊢
      obtain ⟨pr, hpr, hp1, hp2⟩ : ∃ pr : Int, atI [V.int 2147483647, V.int 2147483629, V.int 2147483587, V.int 2147483579, V.int 2147483563, V.int 2147483549, V.int 2147483543, V.int 2147483497] ((c + 1) % 8) = some (.int pr) ∧ 8 < pr ∧ pr < 2147483648 := by
        have hc : (c + 1) % 8 = 0 ∨ (c + 1) % 8 = 1 ∨ (c + 1) % 8 = 2 ∨ (c + 1) % 8 = 3 ∨ (c + 1) % 8 = 4 ∨ (c + 1) % 8 = 5 ∨ (c + 1) % 8 = 6 ∨ (c + 1) % 8 = 7 := by omega
        rcases hc with e | e | e | e | e | e | e | e <;> rw [e] <;> exact ⟨_, rfl, by omega, by omega⟩
      have ix2 : ∀ (σ : L2.St) (Q' : VK), σ[0]? = some (some (.ref p)) → Q' (.int (c + 1)) H2 → tOp (rIxL K) (tVar 0) (tC (.int 2)) σ H2 Q' := fun σ Q' hσ h => ixp hσ hP2 rfl h
      have ix1 : ∀ (σ : L2.St) (Q' : VK), σ[0]? = some (some (.ref p)) → Q' (.int b) H2 → tOp (rIxL K) (tVar 0) (tC (.int 1)) σ H2 Q' := fun σ Q' hσ h => ixp hσ hP2 rfl h
      refine ⟨.ref l, rfl, ?_⟩
      refine opp (i := c + 1) (j := 8) (fun Q' h => ix2 _ Q' rfl h) cc (by show (0 : Int) < 8; omega) ?_
      refine ⟨l, _, _, _, rfl, rfl, SqL.of hL2, hpr, ?_⟩
      have hpp : (0 : Int) < pr ^ (2 : Int).toNat := by
        show 0 < pr ^ 2
        exact Int.pow_pos (by omega)
      have hcb : -(2 ^ 64) < c + 1 ∧ c + 1 < 2 ^ 64 := by omega
      have m1 := Int.emod_nonneg ((b + 69621 * (c + 1) * (c + 1)) % pr ^ (2 : Int).toNat) (show pr ≠ 0 by omega)
      have m2 := Int.emod_lt_of_pos ((b + 69621 * (c + 1) * (c + 1)) % pr ^ (2 : Int).toNat) (show 0 < pr by omega)
      refine op0 (i := (b + 69621 * (c + 1) * (c + 1)) % pr ^ (2 : Int).toNat % pr) (j := 1) (fun Q' h => ?_) cc ?_
      · refine opp (i := (b + 69621 * (c + 1) * (c + 1)) % pr ^ (2 : Int).toNat) (j := pr) (fun Q' h => ?_) (vv rfl) (by show 0 < pr; omega) h
        refine opp (i := b + 69621 * (c + 1) * (c + 1)) (j := pr ^ (2 : Int).toNat) (fun Q' h => ?_) (fun Q' h => ?_) hpp h
        · refine op0 (i := b) (j := 69621 * (c + 1) * (c + 1)) (fun Q' h => ix1 _ Q' rfl h) (fun Q' h => ?_) h
          refine opp (i := 69621 * (c + 1)) (j := c + 1) (fun Q' h => ?_) (fun Q' h => ix2 _ Q' rfl h) (.inr hcb) h
          exact opp (i := 69621) (j := c + 1) cc (fun Q' h => ix2 _ Q' rfl h) (.inr hcb) h
        · exact opp (i := pr) (j := 2) (vv rfl) cc ⟨by omega, by omega, by omega⟩ h
      generalize (b + 69621 * (c + 1) * (c + 1)) % pr ^ (2 : Int).toNat % pr = dr at m1 m2 ⊢
      refine opp (i := (dr + 1) * ((dr + 1) % 1009 + (c + 1)) % pr / 7) (j := n) (fun Q' h => ?_) (vv rfl) (by show (0 : Int) < n; omega) ?_
      · refine opp (i := (dr + 1) * ((dr + 1) % 1009 + (c + 1)) % pr) (j := 7) (fun Q' h => ?_) cc ⟨by omega, by omega⟩ h
        refine opp (i := (dr + 1) * ((dr + 1) % 1009 + (c + 1))) (j := pr) (fun Q' h => ?_) (vv rfl) (by show 0 < pr; omega) h
        refine opp (i := dr + 1) (j := (dr + 1) % 1009 + (c + 1)) (vv rfl) (fun Q' h => ?_) (.inl ⟨by omega, by omega⟩) h
        refine op0 (i := (dr + 1) % 1009) (j := c + 1) (fun Q' h => ?_) (fun Q' h => ix2 _ Q' rfl h) h
        exact opp (i := dr + 1) (j := 1009) (vv rfl) cc (by show (0 : Int) < 1009; omega) h
      exact fin H2 a b (c + 1) _ hP2 ht2 hf2 (by omega) (by omega) (Int.emod_nonneg _ (by omega)) (Int.emod_lt_of_pos _ (by omega))
end
end RS
end
section
set_option maxRecDepth 100000
set_option maxHeartbeats 2000000
namespace RS
open PySem PySem.Spec PyProof.Rows L2 DL
section
variable {P : Program} {w : World} {K : PySem.W.Frag} {mg : Str → Option Value} {base : Heap} {TT : Tb}
theorem tif_of {t : L2.TT} {a b : TE} {σ : L2.St} {H : Hp} {Q : VK} (c : Bool) (ht : ∀ Q' : Bool → Hp → Prop, Q' c H → t σ H Q') (ha : c = true → ∀ h : (∀ x : Int, Q (.int x) H), a σ H Q) (hb : c = false → ∀ h : (∀ x : Int, Q (.int x) H), b σ H Q) (h : ∀ x : Int, Q (.int x) H) : tIf t a b σ H Q := by
  refine ht _ ?_
  cases c with
  | true => exact ha rfl h
  | false => exact hb rfl h
theorem absv {K : PySem.W.Frag} {σ : L2.St} {H : Hp} {i : Nat} {x : Int} (h : σ[i]? = some (some (.int x))) : ∀ Q' : VK, Q' (.int (if x < 0 then -x else x)) H → tCB rAbs (tCons (tVar i) tNil) σ H Q' := fun Q' q => ⟨_, h, x, rfl, q⟩
/-- a new pot -/
def spPot (K : PySem.W.Frag) : Sp := fun vs H Q _ => ∃ (a : Addr) (ns : List Int) (k : Nat), vs = [.ref a, .int k] ∧ SqL K H a (ns.map V.int) ∧ k ≤ 100 ∧ ∀ (x y : Int) (p : Addr), H p = none → Q (.ref p) (upd H p (.lst [.int x, .int y, .int 0]))
abbrev s__law_pot : Stmt := topS 63
abbrev N__law_pot : List Str := ["_law_script", "_law_k", "_law_cell", "_law_far"]
abbrev P__law_pot : List Str := ["_law_script", "_law_k"]
theorem sc__law_pot : FnScope N__law_pot P__law_pot (defScope s__law_pot) := ⟨rfl, rfl, rfl, by decide +kernel, rfl, by decide +kernel, by decide +kernel⟩

theorem ok__law_pot {f : Addr} {fd : FuncData} (F : Fun K "_law_pot" "_law_pot" s__law_pot f fd) (T : Tx K mg) : FnOk P w K mg base CX0 1 f fd P__law_pot (spPot K) := by
  refine F.ok sc__law_pot (fun vs H Q E h => ?_) (fun cdv A outer s H vs Q E hr h => ?_)
  · obtain ⟨a, ns, k, rfl, _⟩ := h
    rfl
  · obtain ⟨a, ns, k, rfl, hS, hk, kont⟩ := h
    refine ⟨_, (pss_cons (ps_set (i := 2) sc__law_pot.nd rfl (by first | exact Or.inl rfl | exact Or.inr rfl) (pe_ifExp (pt_cmpR op_lt (pv 1) (pe_callB (lenK (K := K) rfl) (by rfl) T.nb_len (by decide +kernel) (pa_cons (pv 0) pa_nil)) (nomark _)) (pe_ix ix_list (pv 0) (pv 1) (fun _ _ => rfl)) pe_int))
    (pss_cons (ps_set (i := 3) sc__law_pot.nd rfl (by first | exact Or.inl rfl | exact Or.inr rfl) (pe_op op_mulW (pe_op op_mulW (pe_op op_mulW (pe_op op_mulW (pe_op op_pow pe_int pe_int) (pe_op op_pow pe_int pe_int)) (pe_op op_pow pe_int pe_int)) (pe_op op_pow pe_int pe_int)) (pe_op op_pow pe_int pe_int)))
    (pss_one (ps_ret (pe_lst (pa_cons (pe_op op_mul (pe_op op_mod (pe_callB call_absD (by rfl) T.nb_abs (by decide +kernel) (pa_cons (pv 2) pa_nil)) (pv 3)) (pe_callTy call_intB (by rfl) T.nb_int (by decide +kernel) (pa_cons (pe_cmpR op_ge (pe_callB call_absD (by rfl) T.nb_abs (by decide +kernel) (pa_cons (pv 2) pa_nil)) (pe_op op_pow pe_int pe_int) (nomark _)) pa_nil))) (pa_cons (pe_op op_add (pe_op op_add (pe_op op_mod (pv 2) pe_int) (pe_op op_mul pe_int (pv 1))) pe_int) (pa_cons pe_int pa_nil)))))))), ?_⟩
    simp only [tNext, tSeq, tAsg, tRet, tIfS, gSub, gName, tLst, tCons, tNil]
    have σ0 : (L2.start N__law_pot [V.ref a, V.int ↑k]) = [some (.ref a), some (.int k), none, none] := rfl
    rw [σ0]
    have dB : CMulW (10 ^ (60 : Int).toNat) (10 ^ (60 : Int).toNat) := by unfold CMulW; decide +kernel
    have p60 : ∀ (σ : L2.St) (Q' : VK), Q' (.int (10 ^ (60 : Int).toNat)) H → tOp (rI CPow fun i j => V.int (i ^ j.toNat)) (tC (V.int 10)) (tC (V.int 60)) σ H Q' := fun σ Q' h => opp (i := 10) (j := 60) cc cc ⟨by omega, by omega, by omega⟩ h
    refine tif_of (decide ((k : Int) < (ns.length : Nat))) (fun Q' h => ?_) (fun hc h => ?_) (fun _ h => h 0) (fun x => ?_)
    · refine ⟨.int k, rfl, ?_⟩
      refine ⟨.ref a, rfl, a, _, rfl, .inl hS, ?_⟩
      refine ⟨(k : Int), (ns.length : Nat), rfl, by rw [List.length_map], ?_⟩
      exact ⟨_, rfl, h⟩
    · have hk2 : k < ns.length := by have := of_decide_eq_true hc; omega
      refine ⟨.ref a, rfl, .int k, rfl, a, _, k, .int ns[k], rfl, rfl, hS, ?_, h _⟩
      rw [atI_nat]
      rw [List.getElem?_map, List.getElem?_eq_getElem hk2] <;> rfl
    · refine opp (i := 10 ^ (60 : Int).toNat * 10 ^ (60 : Int).toNat * 10 ^ (60 : Int).toNat * 10 ^ (60 : Int).toNat) (j := 10 ^ (60 : Int).toNat) (fun Q' h => ?_) (p60 _) (by unfold CMulW; decide +kernel) ?_
      · refine opp (i := 10 ^ (60 : Int).toNat * 10 ^ (60 : Int).toNat * 10 ^ (60 : Int).toNat) (j := 10 ^ (60 : Int).toNat) (fun Q' h => ?_) (p60 _) (by unfold CMulW; decide +kernel) h
        refine opp (i := 10 ^ (60 : Int).toNat * 10 ^ (60 : Int).toNat) (j := 10 ^ (60 : Int).toNat) (fun Q' h => ?_) (p60 _) (by unfold CMulW; decide +kernel) h
        exact opp (i := 10 ^ (60 : Int).toNat) (j := 10 ^ (60 : Int).toNat) (p60 _) (p60 _) dB h
      have hfar : (0 : Int) < 10 ^ (60 : Int).toNat * 10 ^ (60 : Int).toNat * 10 ^ (60 : Int).toNat * 10 ^ (60 : Int).toNat * 10 ^ (60 : Int).toNat := by decide +kernel
      generalize (10 : Int) ^ (60 : Int).toNat * 10 ^ (60 : Int).toNat * 10 ^ (60 : Int).toNat * 10 ^ (60 : Int).toNat * 10 ^ (60 : Int).toNat = far at hfar ⊢
      refine opp (i := (if x < 0 then -x else x) % far) (j := if decide (10 ^ (18 : Int).toNat ≤ (if x < 0 then -x else x)) then 1 else 0) (fun Q' h => ?_) (fun Q' h => ?_) (.inr ?_) ?_
      · exact opp (i := if x < 0 then -x else x) (j := far) (absv (K := K) rfl) (vv rfl) hfar h
      · refine op0 (i := if x < 0 then -x else x) (j := 10 ^ (18 : Int).toNat) (absv (K := K) rfl) (fun Q' h => opp (i := 10) (j := 18) cc cc ⟨by omega, by omega, by omega⟩ h) ?_
        exact .inr ⟨_, rfl, h⟩
      · split <;> omega
      refine op0 (i := x % 2305843009213693951 + 104729 * k) (j := 7) (fun Q' h => ?_) cc ?_
      · refine op0 (i := x % 2305843009213693951) (j := 104729 * k) (fun Q' h => ?_) (fun Q' h => ?_) h
        · exact opp (i := x) (j := 2305843009213693951) (vv rfl) cc (by show (0 : Int) < 2305843009213693951; omega) h
        · exact opp (i := 104729) (j := k) cc (vv rfl) (.inl ⟨by omega, by omega⟩) h
      exact ⟨by show 3 ≤ sizeLine; decide, fun p hp => kont _ _ p hp⟩
end
end RS
end
section
set_option maxRecDepth 100000
set_option maxHeartbeats 2000000
set_option synthInstance.maxHeartbeats 2000000
set_option synthInstance.maxSize 4000
namespace RS
open PySem PySem.Spec PyProof.Rows L2 DL
local macro_rules | `(tactic| walk_at "dsem") => `(tactic| simp only [dstart, dRet, dOp, dSl, dTup, dLst, dCons, dNil, dNoPart, dC, dCB, dUn, dCall, dAnd, dOr, dNot, dIf, dIsN, dNext, dSeq, dIfS, dDrop, dAsg, dgName, dFor, dYes, dLc, dLc2, dwipe, dPar, dPar3, dParT, dgTupN, setN, dLstM, dDNewM, dDisp1,
  asB_b, asI_i, asT_t, asL_l, asS_l, asS_t, zx_tt, zx_tl, ex_l, ex_t, e_test, e_andV, e_orV, e_notV, e_chain, e_gtup, e_gcons, e_gnil, e_zx, e_ex, e_seq, e_rg1, e_aug, e_get, e_part, e_inM, e_put, e_app, e_ext, e_ixM, e_lenM, e_frz, e_var, muAt_s, mdAt_s, frzAt_l, frzAt_d, vAt_s, atI_s,
  at0, at1, at2, f_repT, e_star, starX_t, f_add, f_addT, f_addL, f_mul, f_mulL, f_sub, f_mod, f_div, f_pow, f_lt, f_le, f_gt, f_ge, f_neg, f_isB, f_notB, f_eqI, f_eqS, f_eqB, f_eqT, f_eqL, f_neI, f_neS, f_neB, f_neT, f_neL, f_ixL, f_ixT, f_slL, f_slT, f_lenT, f_lenL, f_tupT, f_tupL, f_lstT, f_lstL, f_all, f_sum, f_bestL, f_bestT, f_min2, f_intB, f_sort, f_sortD, isi_ii, isi_ib, isi_tt, isi_ss, f_inT, f_inL, f_inIT, f_inIL,
  mut_int, mut_tup, mut_lst, mut_str, mut_bl, mut_non, mut_pot, mut_dct, mut_scr, isn_non, isn_int, isn_tup, isn_str,
  eN, eP, eNs, eIs, eVr, eW, eR, ePl, eCor, eXc, eEv_r, eEv_s, eFn_t, eFn_s, eFn_x, eFn_n, eSt_n, eSt_s, ev_ne, ev_eq, mut_ev, isi_ev, e_ir3, e_ir1, ir3_i, ir1_i,
  List.map_cons, List.map_nil, List.length_cons, List.length_nil, List.replicate, List.append_nil, List.nil_append, List.cons_append, List.set_cons_zero, List.set_cons_succ, List.getElem?_cons_zero, List.getElem?_cons_succ, List.getElem?_nil, List.zip_cons_cons, List.zip_nil_left, List.foldl_cons, List.foldl_nil, Nat.reduceAdd, Nat.reduceSub, Nat.reduceLeDiff, true_and, and_true, decide_true, if_true, if_false, Bool.false_eq_true, Bool.not_true, Bool.not_false])
section
variable {P : Program} {w : World} {K : PySem.W.Frag} {mg : Str → Option Value} {base : Heap} {TT : Tb}
abbrev s__law_scheme : Stmt := topS 72
abbrev N__law_scheme : List Str := ["_law_pot_here", "_law_many", "_law_rest", "_law_blocks", "_law_one", "_law_block"]
abbrev P__law_scheme : List Str := ["_law_pot_here", "_law_many"]
theorem sc__law_scheme : FnScope N__law_scheme P__law_scheme (defScope s__law_scheme) := ⟨rfl, rfl, rfl, by decide +kernel, rfl, by decide +kernel, by decide +kernel⟩

abbrev vN (l : List Nat) : List V := l.map fun i => V.int (i : Nat)
theorem erase_map {α β : Type} (f : α → β) : ∀ (l : List α) (k : Nat), (l.map f).eraseIdx k = (l.eraseIdx k).map f
  | [], _ => rfl
  | a :: l, 0 => rfl
  | a :: l, k + 1 => by
    show f a :: (l.map f).eraseIdx k = f a :: (l.eraseIdx k).map f
    rw [erase_map f l k]
theorem erase_perm {α : Type} : ∀ (l : List α) (k : Nat) (h : k < l.length), (l[k] :: l.eraseIdx k).Perm l
  | a :: l, 0, _ => List.Perm.refl _
  | a :: l, k + 1, h => by
    show (l[k]'(by simpa using h) :: a :: l.eraseIdx k).Perm (a :: l)
    exact (List.Perm.swap _ _ _).trans ((erase_perm l k (by simpa using h)).cons a)
/-- nothing stood at a, or a table -/
def NT (H : Hp) (a : Addr) : Prop := ∀ o, H a = some o → ∃ ps, o = .tbl ps
theorem NT.of {H : Hp} {a : Addr} (h : H a = none) : NT H a := fun o e => by rw [h] at e; cases e
theorem NT.ne {H : Hp} {a b : Addr} {o : HO} (h : NT H a) (hb : H b = some o) (n : ∀ ps, o ≠ .tbl ps) : b ≠ a := fun z => by
  rw [z] at hb
  obtain ⟨ps, e⟩ := h o hb
  exact n ps e
/-- while a scheme is drawn -/
structure Sc (TT : Tb) (q : Option Addr) (H : Hp) (S n : Nat) (H' : Hp) (S' : Nat) (rl bl : Addr) (rs : List Nat) (bs : List (Addr × List Nat)) : Prop where
  pot : PotOk q S' H'
  tab : Tabs TT H'
  fr : DL.Fr q H H'
  nrl : NT H rl
  nbl : NT H bl
  nbs : ∀ x ∈ bs, NT H x.1
  hrl : H' rl = some (.lst (vN rs))
  hbl : H' bl = some (.lst (bs.map fun x => V.ref x.1))
  hbs : ∀ x ∈ bs, H' x.1 = some (.lst (vN x.2))
  ne : rl ≠ bl
  nrb : ∀ x ∈ bs, x.1 ≠ rl
  nbb : ∀ x ∈ bs, x.1 ≠ bl
  nd : (bs.map (·.1)).Nodup
  perm : (rs ++ (bs.map (·.2)).flatten).Perm (List.range n)
  bne : ∀ x ∈ bs, x.2 ≠ []
  cnt : S' + 2 * rs.length ≤ S + 2 * n
section
variable {q : Option Addr} {H H1 H' : Hp} {S S' S1 n : Nat} {rl bl : Addr} {rs : List Nat} {bs : List (Addr × List Nat)} {m : List Addr}
theorem Sc.len (c : Sc TT q H S n H' S' rl bl rs bs) : rs.length ≤ n ∧ (bs.map (·.2)).flatten.length ≤ n ∧ bs.length ≤ n := by
  have e := c.perm.length_eq
  rw [List.length_append, List.length_range] at e
  have go : ∀ l : List (Addr × List Nat), (∀ x ∈ l, x.2 ≠ []) → l.length ≤ (l.map (·.2)).flatten.length := by
    intro l
    induction l with
    | nil => intro _; simp
    | cons b l ih =>
      intro hb
      rw [List.map_cons, List.flatten_cons, List.length_append, List.length_cons]
      have := ih fun c hc => hb c (List.mem_cons_of_mem _ hc)
      have := List.length_pos_iff.mpr (hb b List.mem_cons_self)
      omega
  have := go bs c.bne
  omega
/-- behind what kept all but the pot and tables -/
theorem Sc.on (c : Sc TT q H S n H' S' rl bl rs bs) (hq : ∀ p, q = some p → ∃ o, H p = some o ∧ ∀ ps, o ≠ .tbl ps) (f : DL.Fr q H' H1) (hp : PotOk q S1 H1) (ht : Tabs TT H1) (hc : S1 + 2 * rs.length ≤ S + 2 * n) : Sc TT q H S n H1 S1 rl bl rs bs := by
  have nq : ∀ a, NT H a → q ≠ some a := fun a h z => by
    obtain ⟨o, ho, hn⟩ := hq a z
    exact h.ne ho hn rfl
  have nt : ∀ (xs : List V) ps, HO.lst xs ≠ .tbl ps := fun xs ps z => by cases z
  exact ⟨hp, ht, c.fr.trans f, c.nrl, c.nbl, c.nbs, f _ _ c.hrl (nq _ c.nrl) (nt _), f _ _ c.hbl (nq _ c.nbl) (nt _), fun x hx => f _ _ (c.hbs x hx) (nq _ (c.nbs x hx)) (nt _), c.ne, c.nrb, c.nbb, c.nd, c.perm, c.bne, hc⟩
theorem Sc.nw (c : Sc TT q H S n H' S' rl bl rs bs) (hq : ∀ p, q = some p → ∃ o, H p = some o ∧ ∀ ps, o ≠ .tbl ps) (f : Nw H' H1) : Sc TT q H S n H1 S' rl bl rs bs := c.on hq f.fr (c.pot.nw f) (tabs_nw c.tab f) c.cnt
/-- a new list of ours is written -/
theorem Sc.fr_upd (c : Sc TT q H S n H' S' rl bl rs bs) (hq : ∀ p, q = some p → ∃ o, H p = some o ∧ ∀ ps, o ≠ .tbl ps) {a : Addr} {xs ys : List V} (h : NT H a) (h' : H' a = some (.lst xs)) : PotOk q S' (upd H' a (.lst ys)) ∧ Tabs TT (upd H' a (.lst ys)) ∧ DL.Fr q H (upd H' a (.lst ys)) := by
  refine ⟨fun p hp => ?_, tabs_upd c.tab h', fun b o hb n1 n2 => ?_⟩
  · obtain ⟨x, y, z, h1, h2, h3⟩ := c.pot p hp
    refine ⟨x, y, z, ?_, h2, h3⟩
    obtain ⟨o, ho, hn⟩ := hq p hp
    rw [upd_ne (h.ne ho hn)]
    exact h1
  · rw [upd_ne (h.ne hb n2)]
    exact c.fr b o hb n1 n2
theorem Sc.pop (c : Sc TT q H S n H' S' rl bl rs bs) (hq : ∀ p, q = some p → ∃ o, H p = some o ∧ ∀ ps, o ≠ .tbl ps) {k : Nat} (hk : k < rs.length) : PotOk q S' (upd H' rl (.lst ((vN rs).eraseIdx k))) ∧ Tabs TT (upd H' rl (.lst ((vN rs).eraseIdx k))) ∧ DL.Fr q H (upd H' rl (.lst ((vN rs).eraseIdx k))) ∧ upd H' rl (.lst ((vN rs).eraseIdx k)) rl = some (.lst (vN (rs.eraseIdx k))) := by
  obtain ⟨h1, h2, h3⟩ := c.fr_upd hq (ys := (vN rs).eraseIdx k) c.nrl c.hrl
  refine ⟨h1, h2, h3, ?_⟩
  rw [upd_same]
  have : (vN rs).eraseIdx k = vN (rs.eraseIdx k) := by
    unfold vN
    rw [erase_map]
  rw [this]
/-- the number that was popped goes to a new block -/
theorem Sc.fresh (c : Sc TT q H S n H' S' rl bl rs bs) (hq : ∀ p, q = some p → ∃ o, H p = some o ∧ ∀ ps, o ≠ .tbl ps) {k : Nat} (hk : k < rs.length) {l : Addr} {G : Hp} {S2 : Nat} (hG : ∀ a o, H' a = some o → a ≠ rl → q ≠ some a → (∀ ps, o ≠ .tbl ps) → G a = some o) (hG2 : G rl = some (.lst (vN (rs.eraseIdx k)))) (p1 : PotOk q S2 G) (p2 : Tabs TT G) (p3 : DL.Fr q H G) (hl : G l = none) (hHl : NT H l)
    (hc : S2 + 2 * (rs.length - 1) ≤ S + 2 * n) :
    Sc TT q H S n (upd (upd G l (.lst [.int (rs[k] : Nat)])) bl (.lst (bs.map (fun x => V.ref x.1) ++ [.ref l]))) S2 rl bl (rs.eraseIdx k) (bs ++ [(l, [rs[k]])]) := by
  have nq : ∀ a, NT H a → q ≠ some a := fun a h z => by
    obtain ⟨o, ho, hn⟩ := hq a z
    exact h.ne ho hn rfl
  have nt : ∀ (xs : List V) ps, HO.lst xs ≠ .tbl ps := fun xs ps z => by cases z
  have gbl : G bl = some (.lst (bs.map fun x => V.ref x.1)) := hG _ _ c.hbl (fun z => c.ne z.symm) (nq _ c.nbl) (nt _)
  have gbs : ∀ x ∈ bs, G x.1 = some (.lst (vN x.2)) := fun x hx => hG _ _ (c.hbs x hx) (c.nrb x hx) (nq _ (c.nbs x hx)) (nt _)
  have lrl : rl ≠ l := ne_of_none hG2 hl
  have lbl : bl ≠ l := ne_of_none gbl hl
  have lbs : ∀ x ∈ bs, x.1 ≠ l := fun x hx => ne_of_none (gbs x hx) hl
  have n1 : Nw G (upd G l (.lst [.int (rs[k] : Nat)])) := Nw.upd hl
  have g2 := n1 _ _ gbl
  refine ⟨fun p hp => ?_, tabs_upd (tabs_nw p2 n1) g2, fun b o hb m1 m2 => ?_, c.nrl, c.nbl, fun x hx => ?_, ?_, ?_, fun x hx => ?_, c.ne, fun x hx => ?_, fun x hx => ?_, ?_, ?_, fun x hx => ?_, ?_⟩
  · obtain ⟨x, y, z, e1, e2, e3⟩ := p1 p hp
    refine ⟨x, y, z, ?_, e2, e3⟩
    obtain ⟨o, ho, hn⟩ := hq p hp
    rw [upd_ne (c.nbl.ne ho hn)]
    exact n1 _ _ e1
  · rw [upd_ne (c.nbl.ne hb m2)]
    exact n1 _ _ (p3 b o hb m1 m2)
  · rcases List.mem_append.mp hx with z | z
    · exact c.nbs x z
    · rw [List.mem_singleton.mp z]; exact hHl
  · rw [upd_ne c.ne]; exact n1 _ _ hG2
  · rw [upd_same, List.map_append] <;> rfl
  · rcases List.mem_append.mp hx with z | z
    · rw [upd_ne (c.nbb x z)]; exact n1 _ _ (gbs x z)
    · rw [List.mem_singleton.mp z, upd_ne (Ne.symm lbl), upd_same] <;> rfl
  · rcases List.mem_append.mp hx with z | z
    · exact c.nrb x z
    · rw [List.mem_singleton.mp z]; exact Ne.symm lrl
  · rcases List.mem_append.mp hx with z | z
    · exact c.nbb x z
    · rw [List.mem_singleton.mp z]; exact Ne.symm lbl
  · rw [List.map_append, List.nodup_append]
    refine ⟨c.nd, by simp, fun a ha b hb e => ?_⟩
    obtain ⟨x, hx, rfl⟩ := List.mem_map.mp ha
    have : b = l := by simpa using hb
    exact lbs x hx (e.trans this)
  · have e := erase_perm rs k hk
    refine List.Perm.trans ?_ c.perm
    rw [List.map_append, List.flatten_append]
    show (rs.eraseIdx k ++ ((bs.map (·.2)).flatten ++ [[rs[k]]].flatten)).Perm _
    rw [show [[rs[k]]].flatten = [rs[k]] from rfl, ← List.append_assoc]
    refine List.perm_append_comm.trans ?_
    exact (e.append_right _)
  · rcases List.mem_append.mp hx with z | z
    · exact c.bne x z
    · rw [List.mem_singleton.mp z]; simp
  · rw [List.length_eraseIdx_of_lt hk]
    exact hc
/-- .. or to the last one -/
theorem Sc.last (c : Sc TT q H S n H' S' rl bl rs bs) (hq : ∀ p, q = some p → ∃ o, H p = some o ∧ ∀ ps, o ≠ .tbl ps) {k : Nat} (hk : k < rs.length) {pre : List (Addr × List Nat)} {x : Addr × List Nat} (hb : bs = pre ++ [x]) {G : Hp} {S2 : Nat} (hG : ∀ a o, H' a = some o → a ≠ rl → q ≠ some a → (∀ ps, o ≠ .tbl ps) → G a = some o) (hG2 : G rl = some (.lst (vN (rs.eraseIdx k)))) (p1 : PotOk q S2 G) (p2 : Tabs TT G) (p3 : DL.Fr q H G)
    (hc : S2 + 2 * (rs.length - 1) ≤ S + 2 * n) :
    G x.1 = some (.lst (vN x.2)) ∧ Sc TT q H S n (upd G x.1 (.lst (vN x.2 ++ [.int (rs[k] : Nat)]))) S2 rl bl (rs.eraseIdx k) (pre ++ [(x.1, x.2 ++ [rs[k]])]) := by
  subst hb
  have nq : ∀ a, NT H a → q ≠ some a := fun a h z => by
    obtain ⟨o, ho, hn⟩ := hq a z
    exact h.ne ho hn rfl
  have nt : ∀ (xs : List V) ps, HO.lst xs ≠ .tbl ps := fun xs ps z => by cases z
  have gbl : G bl = some (.lst ((pre ++ [x]).map fun x => V.ref x.1)) := hG _ _ c.hbl (fun z => c.ne z.symm) (nq _ c.nbl) (nt _)
  have gbs : ∀ y ∈ pre ++ [x], G y.1 = some (.lst (vN y.2)) := fun y hy => hG _ _ (c.hbs y hy) (c.nrb y hy) (nq _ (c.nbs y hy)) (nt _)
  have hx : x ∈ pre ++ [x] := by simp
  have gx := gbs x hx
  have hpre : ∀ y ∈ pre, y ∈ pre ++ [x] := fun y hy => List.mem_append_left _ hy
  have nx : ∀ y ∈ pre, y.1 ≠ x.1 := fun y hy e => by
    have := c.nd
    rw [List.map_append, List.nodup_append] at this
    exact this.2.2 y.1 (List.mem_map.mpr ⟨y, hy, rfl⟩) x.1 (by simp) e
  have back : ∀ y ∈ pre ++ [(x.1, x.2 ++ [rs[k]])], y ∈ pre ∨ y = (x.1, x.2 ++ [rs[k]]) := fun y hy => by simpa using hy
  refine ⟨gx, fun p hp => ?_, tabs_upd p2 gx, fun b o hb m1 m2 => ?_, c.nrl, c.nbl, fun y hy => ?_, ?_, ?_, fun y hy => ?_, c.ne, fun y hy => ?_, fun y hy => ?_, ?_, ?_, fun y hy => ?_, ?_⟩
  · obtain ⟨a, b, d, e1, e2, e3⟩ := p1 p hp
    refine ⟨a, b, d, ?_, e2, e3⟩
    obtain ⟨o, ho, hn⟩ := hq p hp
    rw [upd_ne ((c.nbs x hx).ne ho hn)]
    exact e1
  · rw [upd_ne ((c.nbs x hx).ne hb m2)]
    exact p3 b o hb m1 m2
  · rcases back y hy with z | z
    · exact c.nbs y (hpre y z)
    · rw [z]; exact c.nbs x hx
  · rw [upd_ne (Ne.symm (c.nrb x hx))]; exact hG2
  · rw [upd_ne (Ne.symm (c.nbb x hx)), gbl, List.map_append, List.map_append] <;> rfl
  · rcases back y hy with z | z
    · rw [upd_ne (nx y z)]; exact gbs y (hpre y z)
    · rw [z]
      show upd G x.1 _ x.1 = _
      rw [upd_same]
      unfold vN
      rw [List.map_append] <;> rfl
  · rcases back y hy with z | z
    · exact c.nrb y (hpre y z)
    · rw [z]; exact c.nrb x hx
  · rcases back y hy with z | z
    · exact c.nbb y (hpre y z)
    · rw [z]; exact c.nbb x hx
  · have := c.nd
    rw [List.map_append] at this ⊢
    exact this
  · have e := erase_perm rs k hk
    refine List.Perm.trans ?_ c.perm
    rw [List.map_append, List.flatten_append, List.map_append, List.flatten_append]
    show (rs.eraseIdx k ++ ((pre.map (·.2)).flatten ++ [x.2 ++ [rs[k]]].flatten)).Perm (rs ++ ((pre.map (·.2)).flatten ++ [x.2].flatten))
    rw [show [x.2 ++ [rs[k]]].flatten = x.2 ++ [rs[k]] by simp, show [x.2].flatten = x.2 by simp, ← List.append_assoc, ← List.append_assoc]
    refine List.perm_append_comm.trans ?_
    show ((rs[k]) :: (rs.eraseIdx k ++ (pre.map (·.2)).flatten ++ x.2)).Perm _
    rw [List.append_assoc]
    exact e.append_right ((pre.map (·.2)).flatten ++ x.2)
  · rcases back y hy with z | z
    · exact c.bne y (hpre y z)
    · rw [z]; simp
  · rw [List.length_eraseIdx_of_lt hk]
    exact hc
/-- the data that stand there -/
theorem rep_vN {K : PySem.W.Frag} {G : Hp} {a : Addr} {l : List Nat} (ha : hid G m a = some (.lst (vN l))) (hl : l.length ≤ 1000) : Rep K q (hid G m) (.ref a) (.lst (l.map eN)) := by
  have e1 : vN l = (l.map Int.ofNat).map V.int := by unfold vN; rw [List.map_map] <;> rfl
  have e2 : l.map eN = (l.map Int.ofNat).map D.int := by rw [List.map_map] <;> rfl
  rw [e2]
  have r := ints_reps (K := K) (q := q) (G := hid G m) (l.map Int.ofNat)
  rw [← e1] at r
  exact .lst ha r.1 (by rw [List.length_map, List.length_map, sizeLine_eq]; omega) r.2
theorem rep_bs {K : PySem.W.Frag} {G : Hp} (h1 : hid G m bl = some (.lst (bs.map fun x => V.ref x.1))) (h2 : ∀ x ∈ bs, hid G m x.1 = some (.lst (vN x.2))) (h3 : bs.length ≤ 40) (h4 : ∀ x ∈ bs, x.2.length ≤ 1000) : Rep K q (hid G m) (.ref bl) (.lst (bs.map fun x => D.lst (x.2.map eN))) := by
  refine .lst h1 (by rw [List.length_map, List.length_map]) (by rw [List.length_map, sizeLine_eq]; omega) fun i v d e1 e2 => ?_
  rw [List.getElem?_map] at e1 e2
  cases hx : bs[i]? with
  | none => rw [hx] at e1; cases e1
  | some x =>
    rw [hx] at e1 e2
    cases e1
    cases e2
    have hxm := List.mem_of_getElem? hx
    exact rep_vN (h2 x hxm) (h4 x hxm)
theorem Sc.few (c : Sc TT q H S n H' S' rl bl rs bs) : ∀ x ∈ bs, x.2.length ≤ n := fun x hx => by
  have := c.len.2.1
  have go : ∀ l : List (Addr × List Nat), x ∈ l → x.2.length ≤ (l.map (·.2)).flatten.length := by
    intro l
    induction l with
    | nil => intro h; simp at h
    | cons b l ih =>
      intro h
      rw [List.map_cons, List.flatten_cons, List.length_append]
      rcases List.mem_cons.mp h with e | e
      · rw [← e]; omega
      · have := ih e; omega
  have := go bs hx
  omega
theorem Sc.rest (c : Sc TT q H S n H' S' rl bl rs bs) (hn : n ≤ 40) (hm : ∀ a ∈ m, ∃ o, H a = some o ∧ ∀ ps, o ≠ .tbl ps) {K : PySem.W.Frag} : Rep K q (hid H' m) (.ref rl) (.lst (rs.map eN)) ∧ Rep K q (hid H' m) (.ref bl) (.lst (bs.map fun x => D.lst (x.2.map eN))) := by
  have nm : ∀ a, NT H a → a ∉ m := fun a h z => by
    obtain ⟨o, ho, hn⟩ := hm a z
    exact h.ne ho hn rfl
  obtain ⟨l1, l2, l3⟩ := c.len
  refine ⟨rep_vN (hid_in c.hrl (nm _ c.nrl)) (by omega), .lst (hid_in c.hbl (nm _ c.nbl)) (by rw [List.length_map, List.length_map]) (by rw [List.length_map, sizeLine_eq]; omega) fun i v d h1 h2 => ?_⟩
  rw [List.getElem?_map] at h1 h2
  cases hx : bs[i]? with
  | none => rw [hx] at h1; cases h1
  | some x =>
    rw [hx] at h1 h2
    cases h1
    cases h2
    have hxm := List.mem_of_getElem? hx
    refine rep_vN (hid_in (c.hbs x hxm) (nm _ (c.nbs x hxm))) ?_
    have go : ∀ l : List (Addr × List Nat), x ∈ l → x.2.length ≤ (l.map (·.2)).flatten.length := by
      intro l
      induction l with
      | nil => intro h; simp at h
      | cons b l ih =>
        intro h
        rw [List.map_cons, List.flatten_cons, List.length_append]
        rcases List.mem_cons.mp h with e | e
        · rw [← e]; omega
        · have := ih e; omega
    have := go bs hxm
    omega
end
theorem zip_perm : ∀ {bs cs : List (List Nat)}, cs.length = bs.length → (∀ q ∈ bs.zip cs, q.2.Perm q.1) → cs.flatten.Perm bs.flatten
  | [], [], _, _ => List.Perm.refl _
  | [], _ :: _, h, _ => by simp at h
  | _ :: _, [], h, _ => by simp at h
  | b :: bs, c :: cs, h, hp => by
    rw [List.flatten_cons, List.flatten_cons]
    exact (hp (b, c) List.mem_cons_self).append (zip_perm (by simpa using h) fun q hq => hp q (List.mem_cons_of_mem _ hq))
theorem nat_ints {l : List Nat} {ys : List Int} (h : ys.Perm (l.map Int.ofNat)) : ∃ ks : List Nat, ys.map D.int = ks.map eN ∧ ks.Perm l := by
  refine ⟨ys.map Int.toNat, ?_, ?_⟩
  · rw [List.map_map]
    apply List.map_congr_left
    intro y hy
    obtain ⟨a, _, e⟩ := List.mem_map.mp (h.mem_iff.mp hy)
    rw [← e] <;> rfl
  · have := h.map Int.toNat
    rw [List.map_map] at this
    have e : l.map (Int.toNat ∘ Int.ofNat) = l := by
      have : (Int.toNat ∘ Int.ofNat) = id := by funext x; rfl
      rw [this, List.map_id]
    rwa [e] at this
theorem last_ok {K : PySem.W.Frag} : ∃ t, SndS K TT (tRet (tCB (rTupO K) (tCons (tLc (iSeq K (tVar 3)) (gName 5) tYes (tCB (rTupO K) (tCons (tCB (rSortX K) (tCons (tVar 5) tNil)) tNil)) [5]) tNil))) t ∧
    ∀ (E : DEnds) (a b c d e : Option D) (bs : List (List Nat)) (S : Nat), bs.length ≤ 40 → (∀ cs : List (List Nat), cs.length = bs.length → (∀ q ∈ bs.zip cs, q.2.Perm q.1) → E.rt (ePl cs) S) → t E [a, b, c, some (.lst (bs.map fun l => .lst (l.map eN))), d, e] S := by
  refine ex_snd ?_
  intro E a b c d e bs S hl h
  walk_at "dsem"
  rw [List.length_map]
  refine ⟨lt_line (by omega), ?_⟩
  refine lcD_ind (fun l : List Nat => D.lst (l.map eN)) (fun rem acc S' => S' = S ∧ ∃ done cs : List (List Nat), done ++ rem = bs ∧ acc = cs.map eNs ∧ cs.length = done.length ∧ ∀ q ∈ done.zip cs, q.2.Perm q.1) ?_ ?_ bs [] S ⟨rfl, [], [], rfl, rfl, rfl, fun q hq => by simp at hq⟩
  · rintro l rem acc S' k1 k2 ⟨rfl, done, cs, hd, rfl, hc, hr⟩ g1 g2
    walk_at "dsem"
    refine .inl ⟨l.map Int.ofNat, by rw [List.map_map] <;> rfl, fun ys hp _ => ?_⟩
    obtain ⟨ks, e1, e2⟩ := nat_ints hp
    rw [e1]
    refine g1 _ _ ⟨rfl, done ++ [l], cs ++ [ks], by rw [← hd]; simp, by rw [map_snoc] <;> rfl, by rw [List.length_append, List.length_append, hc] <;> rfl, fun q hq => ?_⟩
    rw [List.zip_append hc.symm] at hq
    rcases List.mem_append.mp hq with z | z
    · exact hr q z
    · have : q = (l, ks) := by simpa using z
      rw [this]
      exact e2
  · rintro acc S' ⟨rfl, done, cs, hd, rfl, hc, hr⟩
    rw [List.append_nil] at hd
    subst hd
    walk_at "dsem"
    exact h cs hc hr
theorem ok__law_scheme {f : Addr} {fd : FuncData} (F : Fun K "_law_scheme" "_law_scheme" s__law_scheme f fd) (T : Tx K mg) (F__law_take : Fk P w K mg base "_law_take" 1 P__law_take (spOf K TT sp__law_take)) : FnOk P w K mg base CX0 2 f fd P__law_scheme (spOf K TT sp__law_scheme) := by
  refine F.ok sc__law_scheme (fun vs H Q E h => ?_) (fun cdv A outer s H vs Q E hr h => ?_)
  · obtain ⟨q, m, ds, S, Qd, h1, _, _, _, _, h6, _⟩ := h
    rw [h1.1]
    exact len__law_scheme ds S Qd h6
  · have hu := hr.units
    obtain ⟨q, m, ds, S, Qd, hR, hq, hd, hp, ht, hs, kont⟩ := h
    obtain ⟨n, rfl, h1, h2, h3, hs⟩ := hs
    have h3 : S + 100 ≤ 1000000000 := h3
    refine ⟨_, (pss_cons (ps_par (i := 2) (j := 3) rfl sc__law_scheme.nd rfl rfl (by decide) rfl rfl (pa_cons (pe_listRg rfl (by rfl) T.nb_list (prg_1 (by rfl) T.nb_range (pv 1))) (pa_cons (pe_lst pa_nil) pa_nil)) (by rfl))
    (pss_cons (ps_while PassesOwn.never (pt_cmpR (neK (K := K) rfl hu) (pv 2) (pe_lst pa_nil) (nomark _))
      (pss_cons (ps_set (i := 4) sc__law_scheme.nd rfl (by first | exact Or.inl rfl | exact Or.inr rfl) (pe_bm PySem.F.plainAttrs_list PySem.F.slot_list_pop PySem.F.type_list_pop mt_popAt (pv 2) (pa_cons (pe_callF F__law_take (hr.mono (by decide)) (by rfl) (pa_cons (pv 0) (pa_cons (pe_callB (lenK (K := K) rfl) (by rfl) T.nb_len (by decide +kernel) (pa_cons (pv 2) pa_nil)) pa_nil))) pa_nil)))
      (pss_one (ps_if (PW.pt (pw_and (pt_cmpR (neK (K := K) rfl hu) (pv 3) (pe_lst pa_nil) (nomark _)) (pw_and1 (pt_cmpR (eqK (K := K) rfl hu) (pe_callF F__law_take (hr.mono (by decide)) (by rfl) (pa_cons (pv 0) (pa_cons pe_int pa_nil))) pe_int (nomark _)))))
        (pss_one (ps_expr (pe_bm PySem.F.plainAttrs_list PySem.F.slot_list_append PySem.F.type_list_append mt_append (pe_ix ix_list (pv 3) (pe_un un_neg pe_int) (fun _ _ => rfl)) (pa_cons (pv 4) pa_nil))))
        (pss_one (ps_expr (pe_bm PySem.F.plainAttrs_list PySem.F.slot_list_append PySem.F.type_list_append mt_append (pv 3) (pa_cons (pe_lst (pa_cons (pv 4) pa_nil)) pa_nil))))))))
    (pss_one (ps_ret (pe_callTy (tupK (K := K) rfl) (by rfl) T.nb_tuple (by decide +kernel) (pa_cons (pe_lcV (vs := [5]) [("_law_block", 5)] rfl sc__law_scheme.nd (seqK (K := K) rfl (pv 3)) (show blkC N__law_scheme (defScope s__law_scheme) _ [("_law_block", 5)] = true by decide +kernel) rfl (fun _ _ _ _ _ => (pg_name (i := 5) sc__law_scheme.nd rfl (by first | exact Or.inl rfl | exact Or.inr rfl))) (fun _ _ _ _ _ => pts_nil) (fun _ _ _ _ _ => (pe_callTy (tupK (K := K) rfl) (by rfl) T.nb_tuple (by decide +kernel) (pa_cons (pe_callB (sortK (K := K) rfl rfl) (by rfl) T.nb_sorted (by decide +kernel) (pa_cons (pv 5) pa_nil)) pa_nil)))) pa_nil)))))), ?_⟩
    have hq' : ∀ p, q = some p → ∃ o, H p = some o ∧ ∀ ps, o ≠ .tbl ps := fun p e => hd p (hq p e)
    have hm' : ∀ a ∈ m, ∃ o, H a = some o ∧ ∀ ps, o ≠ .tbl ps := hd
    obtain ⟨v0, v1, rfl, r0, r1⟩ := reps2 hR
    cases r1
    cases r0
    rename_i p hqp
    obtain ⟨t, hsnd, hlast⟩ := last_ok (K := K) (TT := TT)
    generalize tRet (tCB (rTupO K) (tCons (tLc (iSeq K (tVar 3)) (gName 5) tYes (tCB (rTupO K) (tCons (tCB (rSortX K) (tCons (tVar 5) tNil)) tNil)) [5]) tNil)) = last at hsnd ⊢
    simp only [tNext, tSeq, tAsg, tIfS, tTest, gName, tDrop, tPar, tCons, tNil, tLst, tLstRg, tRg1]
    have σ0 : (L2.start N__law_scheme [V.ref p, V.int ↑n]) = [some (.ref p), some (.int n), none, none, none, none] := rfl
    rw [σ0]
    refine ⟨_, rfl, n, rfl, RgOk.of_le (by omega) (by omega) (by omega) (by omega), fun rl hrl => ?_⟩
    refine ⟨by show 0 ≤ sizeLine; omega, fun bl hbl => ?_⟩
    refine ⟨_, _, rfl, ?_⟩
    have dom : ∀ (G : Hp) (SG : Nat), PotOk q SG G → DL.Fr q H G → ∀ a ∈ m, ∃ o, G a = some o ∧ ∀ ps, o ≠ .tbl ps := fun G SG g1 g2 a ha => by
      obtain ⟨o, ho, hn⟩ := hd a ha
      by_cases hqa : q = some a
      · obtain ⟨x, y, z, e, _⟩ := g1 a hqa
        exact ⟨_, e, fun ps z => by cases z⟩
      · exact ⟨o, g2 a o ho hqa hn, hn⟩
    have take : ∀ (G : Hp) (SG N : Nat) (Q' : VK), PotOk q SG G → Tabs TT G → DL.Fr q H G → 1 ≤ N → N ≤ 1000 → SG ≤ S + 80 → (∀ v G2, v < N → PotOk q (SG + 1) G2 → Tabs TT G2 → DL.Fr q G G2 → Q' (.int (v : Nat)) G2) → spOf K TT sp__law_take ([.ref p, .int (N : Nat)] ++ []) G Q' E0 := fun G SG N Q' g1 g2 g3 g4 g5 g6 h => by
      refine ⟨q, m, [.pot, eN N], SG, fun d S2 => (∃ v, v < N ∧ d = eN v) ∧ S2 ≤ SG + 1, Reps.cons (.pot hqp) (Reps.cons (.int _) Reps.nil), hq, dom G SG g1 g3, g1, g2, ⟨N, rfl, g4, by omega, by show SG + 1 ≤ 1000000000; omega, fun v S2 hv hS2 => ⟨⟨v, hv, rfl⟩, hS2⟩⟩, ?_⟩
      rintro v' G2 S2 d ⟨⟨v, hv, rfl⟩, hS2⟩ r2 p2 t2 f2
      cases r2
      refine h v G2 hv (fun p' hp' => ?_) t2 f2
      obtain ⟨x, y, z, e1, e2, e3⟩ := p2 p' hp'
      exact ⟨x, y, z, e1, e2, by omega⟩
    have nonil : ∀ (i : Nat) (σ : L2.St) (G : Hp) (SG : Nat) (a : Addr) (ds : List D) (Q' : VK), σ[i]? = some (some (.ref a)) → Rep K q (hid G m) (.ref a) (.lst ds) → okD (.lst ds) = true → PotOk q SG G → DL.Fr q H G → (∀ l, G l = none → Q' (.bl (!eqD (.lst ds) (.lst []))) (upd G l (.lst []))) → tOp (rNeX K) (tVar i) (fun σ H Q => ([] : List V).length ≤ sizeLine ∧ ∀ p, H p = none → Q (.ref p) (upd H p (.lst []))) σ G Q' := fun i σ G SG a ds Q' hσ r ho g1 g2 h => by
      refine ⟨.ref a, hσ, by show 0 ≤ sizeLine; omega, fun l hl => .inr ?_⟩
      have no : ∀ z, G z = none → z ∉ m := fun z hz hm => by
        obtain ⟨o, e, _⟩ := dom G SG g1 g2 z hm
        rw [hz] at e
        cases e
      have ho2 : okD (.lst []) = true := (eqe_nat.lst.sh []).ok (by decide)
      have r2 := rep_lst (K := K) (q := q) (m := m) (vs := []) (ds := []) hl no Reps.nil (by show 0 ≤ sizeLine; omega)
      exact ⟨_, _, rep_dp _ _ (r.mono (Nw.upd hl).ex) (okD_of ho).1, rep_dp _ _ r2 (okD_of ho2).1, (okD_of ho).2, (okD_of ho2).2, h l hl⟩
    have c0 : Sc TT q H S n (upd (upd H rl (.lst (rgV 0 n))) bl (.lst [])) S rl bl (List.range n) [] := by
      have n1 : Nw H (upd H rl (.lst (rgV 0 n))) := Nw.upd hrl
      have n2 := n1.trans (Nw.upd (o := .lst []) hbl)
      have hb : H bl = none := by
        cases e : H bl with
        | none => rfl
        | some o =>
          have := n1 _ _ e
          rw [hbl] at this
          cases this
      have hne : rl ≠ bl := fun z => by
        rw [← z, upd_same] at hbl
        cases hbl
      refine ⟨hp.nw n2, tabs_nw ht n2, n2.fr, NT.of hrl, NT.of hb, fun x hx => by simp at hx, ?_, upd_same, fun x hx => by simp at hx, hne, fun x hx => by simp at hx, fun x hx => by simp at hx, by simp, by simp, fun x hx => by simp at hx, by rw [List.length_range]; exact Nat.le_refl _⟩
      rw [upd_ne hne, upd_same]
      have : rgV 0 (n : Int) = vN (List.range n) := by
        unfold rgV vN
        rw [show ((n : Int) - 0).toNat = n by omega]
        apply List.map_congr_left
        intro i _
        rw [Int.zero_add]
      rw [this]
    refine ⟨fun k σ' H' => ∃ (rs : List Nat) (bs : List (Addr × List Nat)) (S' : Nat) (x : Option V), σ' = [some (.ref p), some (.int n), some (.ref rl), some (.ref bl), x, none] ∧ Sc TT q H S n H' S' rl bl rs bs ∧ k = rs.length, ⟨n, _, _, _, _, rfl, c0, by rw [List.length_range]⟩, ?_⟩
    rintro k σ' H' ⟨rs, bs, S', x, rfl, c, rfl⟩
    obtain ⟨len1, len2, len3⟩ := c.len
    have hcnt := c.cnt
    obtain ⟨r1, _⟩ := c.rest h2 hm' (K := K) (m := m)
    refine nonil 2 _ H' S' rl (rs.map eN) _ rfl r1 ((eqe_nat.lst.sh rs).ok (by decide)) c.pot c.fr fun l hl => ?_
    refine ⟨_, rfl, ?_⟩
    have c1 := c.nw hq' (Nw.upd (o := .lst []) hl)
    rw [show eqD (.lst (rs.map eN)) (.lst []) = decide (rs = []) from eqe_nat.lst.eq rs []]
    generalize upd H' l (.lst []) = H1 at c1 ⊢
    by_cases hrs : rs = []
    · rw [decide_eq_true hrs]
      simp only [Bool.not_true, if_false, Bool.false_eq_true]
      subst hrs
      obtain ⟨q1, r2⟩ := c1.rest h2 hm' (K := K) (m := m)
      have hperm := c1.perm
      rw [List.nil_append] at hperm
      have hsl : ∀ {v : V} {d : D}, Rep K q (hid H1 m) v d → Slot K ⟨q, H, m⟩ m H1 v d := fun r => .fz r
      refine hsnd.run ⟨q, H, m⟩ m _ H1 S' [none, none, none, some (.lst (bs.map fun x => D.lst (x.2.map eN))), none, none] _ { nx := fun _ S' => False, rt := Qd } ?_ ?_ ⟨?_, ?_, ?_, ?_⟩
      · refine ⟨fun _ h => h, hq, dom H1 S' c1.pot c1.fr, c1.pot, c1.tab, c1.fr, fun a ha h0 => absurd ha h0, fun i d e => ?_, fun i j d e v hij h1 h2 h3 => ?_, rfl⟩
        · match i, e with
          | 3, e =>
            cases e
            exact ⟨_, rfl, .fz r2⟩
          | i + 6, e => simp at e
        · match i, h1 with
          | 3, h1 =>
            cases h1
            cases h3
          | i + 6, h1 => simp at h1
      · have e := hlast { nx := fun _ S' => False, rt := Qd } none none none none none (bs.map (·.2)) S' (by rw [List.length_map]; omega) fun cs hc hr => ?_
        · rw [List.map_map] at e
          exact e
        · have hp2 := (zip_perm hc hr).trans hperm
          have hbl : ∀ b ∈ cs, b ≠ [] := fun b hb e => by
            obtain ⟨i, hi, eb⟩ := List.mem_iff_getElem.mp hb
            have hi2 : i < (bs.map (·.2)).length := by omega
            have := hr ((bs.map (·.2))[i], cs[i]) (zip_get (i := i) (List.getElem?_eq_getElem hi2) (List.getElem?_eq_getElem hi))
            rw [eb, e] at this
            have hx := this.symm.eq_nil
            rw [List.getElem_map] at hx
            exact c1.bne _ (List.getElem_mem _) hx
          refine hs cs S' ⟨fun e => ?_, hbl, hp2.symm.nodup List.nodup_range, fun v => by rw [hp2.mem_iff, List.mem_range]⟩ (by simp at hcnt; omega)
          rw [e] at hp2
          have := hp2.length_eq
          simp at this
          omega
      · intro _ _ _ _ _ h
        exact h.elim
      · intro _ _ _ _ _ h
        exact h.elim
      · intro _ _ _ _ _ h
        exact h.elim
      · intro m' v H2 S2 d h r l
        exact kont _ _ _ _ h (r.mono (Ex.less l.sub)) l.pot l.tab l.fr
    · rw [decide_eq_false hrs]
      simp only [Bool.not_false, if_true]
      have hlen : 0 < rs.length := List.length_pos_iff.mpr hrs
      refine ⟨fun σ' H' => ∃ (us : List Nat) (bs : List (Addr × List Nat)) (S' : Nat) (x : Option V), σ' = [some (.ref p), some (.int n), some (.ref rl), some (.ref bl), x, none] ∧ Sc TT q H S n H' S' rl bl us bs ∧ us.length < rs.length, fun σ' H' ⟨us, bs, S', x, h1, h2, h3⟩ => ⟨us.length, h3, us, bs, S', x, h1, h2, rfl⟩, ?_⟩
      simp only [tNext, tSeq, tAsg, tIfS, tTest, gName, tDrop, tCons, tNil, tLst, tAnd]
      refine ⟨.ref rl, rfl, .inl ⟨rfl, _, SqL.of c1.hrl⟩, ⟨_, rfl, ⟨_, rfl, rl, _, rfl, .inl (SqL.of c1.hrl), ?_⟩⟩⟩
      show spOf K TT sp__law_take ([.ref p, .int ((vN rs).length : Nat)] ++ []) H1 _ E0
      rw [show (vN rs).length = rs.length from List.length_map _]
      refine take H1 S' rs.length _ c1.pot c1.tab c1.fr hlen (by omega) (by omega) fun v G2 hv p2 t2 f2 => ?_
      have nq : ∀ a, NT H a → q ≠ some a := fun a h z => by
        obtain ⟨o, ho, hn⟩ := hq' a z
        exact h.ne ho hn rfl
      have nt : ∀ (xs : List V) ps, HO.lst xs ≠ .tbl ps := fun xs ps z => by cases z
      have nm : ∀ a, NT H a → a ∉ m := fun a h z => by
        obtain ⟨o, ho, hn⟩ := hm' a z
        exact h.ne ho hn rfl
      have hrl2 := f2 _ _ c1.hrl (nq _ c1.nrl) (nt _)
      simp only [tNil]
      refine ⟨rl, vN rs, (v : Nat), v, .int (rs[v] : Nat), rfl, rfl, hrl2, by omega, by omega, (ixN_seq (n := (vN rs).length) (i := (v : Nat)) (j := v) ?_).1, ?_, ?_⟩
      · unfold ixN
        rw [if_pos (by omega), if_pos (by rw [List.length_map]; omega), Int.toNat_natCast]
      · rw [List.getElem?_map, List.getElem?_eq_getElem hv] <;> rfl
      -- behind the pop
      have e3 : upd G2 rl (.lst ((vN rs).eraseIdx v)) = upd G2 rl (.lst (vN (rs.eraseIdx v))) := by rw [show (vN rs).eraseIdx v = vN (rs.eraseIdx v) from erase_map _ _ _]
      rw [e3]
      have hG3 : ∀ a o, H1 a = some o → a ≠ rl → q ≠ some a → (∀ ps, o ≠ .tbl ps) → upd G2 rl (.lst (vN (rs.eraseIdx v))) a = some o := fun a o h1 h2 h3 h4 => by
        rw [upd_ne h2]
        exact f2 a o h1 h3 h4
      have hR3 : upd G2 rl (.lst (vN (rs.eraseIdx v))) rl = some (.lst (vN (rs.eraseIdx v))) := upd_same
      have p3 : PotOk q (S' + 1) (upd G2 rl (.lst (vN (rs.eraseIdx v)))) := fun p' hp' => by
        obtain ⟨x, y, z, e1, e2, e3⟩ := p2 p' hp'
        obtain ⟨o, ho, hn⟩ := hq' p' hp'
        exact ⟨x, y, z, by rw [upd_ne (c1.nrl.ne ho hn)]; exact e1, e2, e3⟩
      have t3 : Tabs TT (upd G2 rl (.lst (vN (rs.eraseIdx v)))) := tabs_upd t2 hrl2
      have fr3 : DL.Fr q H (upd G2 rl (.lst (vN (rs.eraseIdx v)))) := fun b o hb n1 n2 => by
        rw [upd_ne (c1.nrl.ne hb n2)]
        exact f2 _ _ (c1.fr b o hb n1 n2) n1 n2
      generalize upd G2 rl (.lst (vN (rs.eraseIdx v))) = G3 at hG3 hR3 p3 t3 fr3 ⊢
      have hb3 : G3 bl = some (.lst (bs.map fun x => V.ref x.1)) := hG3 _ _ c1.hbl (fun z => c1.ne z.symm) (nq _ c1.nbl) (nt _)
      have hbs3 : ∀ x ∈ bs, G3 x.1 = some (.lst (vN x.2)) := fun x hx => hG3 _ _ (c1.hbs x hx) (c1.nrb x hx) (nq _ (c1.nbs x hx)) (nt _)
      have r3 := rep_bs (K := K) (q := q) (m := m) (bl := bl) (bs := bs) (G := G3) (hid_in hb3 (nm _ c1.nbl)) (fun x hx => hid_in (hbs3 x hx) (nm _ (c1.nbs x hx))) (by omega) (fun x hx => by have := c1.few x hx; omega)
      have eqB := (eqe_nat.lst).lst
      have mm : (bs.map fun x => D.lst (x.2.map eN)) = (bs.map (·.2)).map fun l : List Nat => D.lst (l.map eN) := by rw [List.map_map] <;> rfl
      refine nonil 3 _ G3 (S' + 1) bl _ _ rfl r3 (by rw [mm]; exact (eqB.sh (bs.map (·.2))).ok (by decide)) p3 fr3 fun l3 hl3 => ?_
      refine ⟨_, rfl, ?_⟩
      rw [mm, show eqD (.lst ((bs.map (·.2)).map fun l : List Nat => D.lst (l.map eN))) (.lst []) = decide (bs.map (·.2) = []) from eqB.eq (bs.map (·.2)) []]
      have n4 : Nw G3 (upd G3 l3 (.lst [])) := Nw.upd hl3
      have hG4 : ∀ a o, H1 a = some o → a ≠ rl → q ≠ some a → (∀ ps, o ≠ .tbl ps) → upd G3 l3 (.lst []) a = some o := fun a o h1 h2 h3 h4 => n4 _ _ (hG3 a o h1 h2 h3 h4)
      have hR4 := n4 _ _ hR3
      have p4 := p3.nw n4
      have t4 := tabs_nw t3 n4
      have fr4 := fr3.trans (n4.fr (q := q))
      generalize upd G3 l3 (.lst []) = G4 at hG4 hR4 p4 t4 fr4 ⊢
      have hel : (rs.eraseIdx v).length < rs.length := by rw [List.length_eraseIdx_of_lt hv]; omega
      have fresh : ∀ (G : Hp) (SG : Nat) (x : Option V), (∀ a o, H1 a = some o → a ≠ rl → q ≠ some a → (∀ ps, o ≠ .tbl ps) → G a = some o) → G rl = some (.lst (vN (rs.eraseIdx v))) → PotOk q SG G → Tabs TT G → DL.Fr q H G → SG + 2 * (rs.length - 1) ≤ S + 2 * n →
          tBM K "list" rAppend (tVar 3) (tCons (tLst (tCons (tVar 4) tNil)) tNil) [some (V.ref p), some (V.int ↑n), some (V.ref rl), some (V.ref bl), some (.int (rs[v] : Nat)), none] G fun _ H1 => ∃ us bs S' x_3, [some (V.ref p), some (V.int ↑n), some (V.ref rl), some (V.ref bl), some (.int (rs[v] : Nat)), none] = [some (V.ref p), some (V.int ↑n), some (V.ref rl), some (V.ref bl), x_3, none] ∧ Sc TT q H S n H1 S' rl bl us bs ∧ us.length < rs.length := fun G SG x g1 g2 g3 g4 g5 g6 => by
        have gbl := g1 _ _ c1.hbl (fun z => c1.ne z.symm) (nq _ c1.nbl) (nt _)
        refine ⟨.ref bl, rfl, .inl ⟨rfl, _, SqL.of gbl⟩, ?_⟩
        refine ⟨.int (rs[v] : Nat), rfl, by show 1 ≤ sizeLine; rw [sizeLine_eq]; omega, fun l hl => ?_⟩
        have hHl : NT H l := fun o e => by
          by_cases hql : q = some l
          · obtain ⟨x, y, z, e1, _⟩ := g3 l hql
            rw [hl] at e1
            cases e1
          · by_cases ho : ∃ ps, o = .tbl ps
            · exact ho
            · have := g5 l o e hql fun ps z => ho ⟨ps, z⟩
              rw [hl] at this
              cases this
        refine ⟨bl, _, .ref l, rfl, rfl, Nw.upd hl _ _ gbl, by rw [List.length_map, sizeLine_eq]; omega, ?_⟩
        exact ⟨_, _, _, _, rfl, c1.fresh hq' hv g1 g2 g3 g4 g5 hl hHl g6, hel⟩
      by_cases hb : bs.map (·.2) = []
      · rw [decide_eq_true hb]
        simp only [Bool.not_true, if_false, Bool.false_eq_true]
        exact fresh G4 (S' + 1) none hG4 hR4 p4 t4 fr4 (by omega)
      · rw [decide_eq_false hb]
        simp only [Bool.not_false, if_true]
        obtain ⟨pre, y, hbs⟩ : ∃ pre y, bs = pre ++ [y] := by
          have hne : bs ≠ [] := fun e => hb (by rw [e] <;> rfl)
          exact ⟨bs.dropLast, bs.getLast hne, (List.dropLast_concat_getLast hne).symm⟩
        refine ⟨.ref p, rfl, ?_⟩
        show spOf K TT sp__law_take ([.ref p, .int (3 : Nat)] ++ []) G4 _ E0
        refine take G4 (S' + 1) 3 _ p4 t4 fr4 (by omega) (by omega) (by omega) fun u G5 hu p5 t5 f5 => ?_
        have hG5 : ∀ a o, H1 a = some o → a ≠ rl → q ≠ some a → (∀ ps, o ≠ .tbl ps) → G5 a = some o := fun a o h1 h2 h3 h4 => f5 _ _ (hG4 a o h1 h2 h3 h4) h3 h4
        have hR5 := f5 _ _ hR4 (nq _ c1.nrl) (nt _)
        have fr5 := fr4.trans f5
        refine .inl ⟨rfl, _, rfl, ?_⟩
        have e0 : decide (V.int (u : Nat) = V.int 0) = decide (u = 0) := by
          by_cases c : u = 0
          · subst c; rfl
          · rw [decide_eq_false c, decide_eq_false]
            intro z
            injection z with z
            omega
        rw [e0]
        by_cases cu : u = 0
        · rw [decide_eq_true cu, if_pos rfl]
          obtain ⟨gy, sc⟩ := c1.last hq' hv hbs hG5 hR5 p5 t5 fr5 (by omega)
          have gbl := hG5 _ _ c1.hbl (fun z => c1.ne z.symm) (nq _ c1.nbl) (nt _)
          have hat : atI (bs.map fun x => V.ref x.1) (-1) = some (.ref y.1) := by
            rw [hbs, List.map_append]
            exact atI_last _ _
          have hyl := c1.few y (by rw [hbs]; simp)
          refine ⟨.ref bl, rfl, 1, rfl, ?_⟩
          refine ⟨bl, _, -1, .ref y.1, rfl, rfl, SqL.of gbl, hat, .inl ⟨rfl, _, SqL.of gy⟩, ?_⟩
          refine ⟨.int (rs[v] : Nat), rfl, ?_⟩
          refine ⟨y.1, _, .int (rs[v] : Nat), rfl, rfl, gy, by rw [List.length_map, sizeLine_eq]; omega, ?_⟩
          exact ⟨_, _, _, _, rfl, sc, hel⟩
        · rw [decide_eq_false cu, if_neg (by decide)]
          exact fresh G5 (S' + 1 + 1) none hG5 hR5 p5 t5 fr5 (by omega)
end
end RS
end
section
set_option maxRecDepth 100000
set_option maxHeartbeats 2000000
set_option synthInstance.maxHeartbeats 2000000
set_option synthInstance.maxSize 4000
namespace RS
open PySem PySem.Spec PyProof.Rows L2 DL
/-! ### the law -/
theorem fun_okGS {P : Program} {w : World} {K : PySem.W.Frag} {mg : Str → Option Value} {base : Heap} {x qual : Str} {st : Stmt} {f : Addr} {fd : FuncData} {N ps : List Str} {k : Nat} {sp : Sp} (F : Fun K x qual st f fd) (S : FnScope N ps (defScope st)) (len : ∀ vs H Q E, sp vs H Q E → vs.length = ps.length)
    (hbody : ∀ (cdv : Value) (A : Around) (outer : List Env) (s : Shared) (H : Hp) (vs : List V) (Q : VK) (E : XK), Room k (A.deeper (envOfC qual (defScope st) s.heap.objs.size f cdv)) → A.guards = some [] → sp vs H Q E →
      ∃ t, PSs (cxOf CX0 P w K mg base N qual (defScope st) f cdv A outer s H E).nox (defBody st) t ∧ t { nx := fun _ H' => Q .non H', rt := Q } (L2.start N vs) H) : FnG P w K mg base (k + 1) f fd ps sp := by
  obtain ⟨oc, od, kV, doc, pm, an, cdv, ct, osl, rfl, lk, hcd⟩ := F.ex
  refine ⟨len, fun A outer s H args us vs Q E hr hg e0 hb r h => ?_⟩
  refine LamX.run_ofS lk hcd S hr e0 hb r (len _ _ _ _ h) fun hr' => ?_
  obtain ⟨t, hP, q⟩ := hbody cdv A outer s H vs Q E hr' hg h
  exact ⟨t, hP.nox, q⟩
/-- what stood at the law's entry stands; the tables are sound -/
structure Kp (TT : Tb) (H0 H : Hp) : Prop where
  ex : DL.Ex H0 H
  tab : Tabs TT H
section
variable {K : PySem.W.Frag} {TT : Tb} {H0 H H' : Hp} {p l : Addr} {x y c : Int} {S n : Nat} {Q : VK}
theorem Kp.nw (k : Kp TT H0 H) (h : Nw H H') : Kp TT H0 H' := ⟨fun a o e n => h a o (k.ex a o e n), tabs_nw k.tab h⟩
theorem Kp.nt (k : Kp TT H0 H) (h : H p = none) : NT H0 p := fun o e => by
  by_cases ho : ∃ ps, o = .tbl ps
  · exact ho
  · have := k.ex p o e fun ps z => ho ⟨ps, z⟩
    rw [h] at this
    cases this
theorem Kp.fr (k : Kp TT H0 H) (hn : NT H0 p) (f : DL.Fr (some p) H H') (t : Tabs TT H') : Kp TT H0 H' := ⟨fun a o e n => f a o (k.ex a o e n) (fun z => by
  cases z
  obtain ⟨ps, z⟩ := hn o e
  exact n ps z) n, t⟩
/-- what a pot's draws leave -/
abbrev Left (TT : Tb) (H0 H : Hp) (p : Addr) (S : Nat) (Q : VK) : Prop := ∀ (H' : Hp) (x y c : Int), Kp TT H0 H' → H' p = some (.lst [.int x, .int y, .int c]) → 0 ≤ c → c ≤ S → DL.Fr (some p) H H' → Q (.bl true) H'
theorem right_run {ms : List Md} (k : Kp TT H0 H) (hn : NT H0 p) (hp : H p = some (.lst [.int x, .int y, .int c])) (h0 : 0 ≤ c) (h1 : c ≤ S) (hl : H l = some (.lst (ms.map fun m => V.str (eMd m)))) (hlp : l ≠ p) (hz : n ≤ 800) (hm : ms.length ≤ 4) (hS : S + 200000 ≤ Bd)
    (h : Left TT H0 H p (S + 200000) Q) : spOf K TT sp__law_right [.ref p, .int n, .ref l] H Q E0 := by
  refine ⟨some p, [p], [.pot, eN n, eMs ms], S, fun d S' => d = .bl true ∧ S' ≤ S + 200000, .cons (.pot rfl) (.cons (.int _) (.cons ?_ Reps.nil)), fun q e => by cases e; simp, fun a ha => ?_, fun q e => ?_, k.tab, ⟨n, ms, rfl, hz, hm, hS, fun S' hS' => ⟨rfl, hS'⟩⟩, ?_⟩
  · refine .lst (hid_in hl (by simpa using hlp)) (by rw [List.length_map, List.length_map]) (by rw [List.length_map, sizeLine_eq]; omega) fun i v d hv hd => ?_
    rw [List.getElem?_map] at hv hd
    cases e : ms[i]? with
    | none => rw [e] at hv; cases hv
    | some m =>
      rw [e] at hv hd
      cases hv
      cases hd
      exact .str _
  · rw [List.mem_singleton.mp ha]
    exact ⟨_, hp, fun ps z => by cases z⟩
  · cases e
    exact ⟨x, y, c, hp, h0, h1⟩
  · rintro v H' S' d ⟨rfl, hS'⟩ r pt tb fr
    cases r
    obtain ⟨x', y', c', e, c0, c1⟩ := pt p rfl
    exact h H' x' y' c' (k.fr hn fr tb) e c0 (by omega) fr
theorem wide_run (k : Kp TT H0 H) (hn : NT H0 p) (hp : H p = some (.lst [.int x, .int y, .int c])) (h0 : 0 ≤ c) (h1 : c ≤ S) (hS : S + 200000 ≤ Bd)
    (h : Left TT H0 H p (S + 200000) Q) : spOf K TT sp__law_wide_right [.ref p] H Q E0 := by
  refine ⟨some p, [p], [.pot], S, fun d S' => d = .bl true ∧ S' ≤ S + 200000, .cons (.pot rfl) Reps.nil, fun q e => by cases e; simp, fun a ha => ?_, fun q e => ?_, k.tab, ⟨rfl, hS, fun S' hS' => ⟨rfl, hS'⟩⟩, ?_⟩
  · rw [List.mem_singleton.mp ha]
    exact ⟨_, hp, fun ps z => by cases z⟩
  · cases e
    exact ⟨x, y, c, hp, h0, h1⟩
  · rintro v H' S' d ⟨rfl, hS'⟩ r pt tb fr
    cases r
    obtain ⟨x', y', c', e, c0, c1⟩ := pt p rfl
    exact h H' x' y' c' (k.fr hn fr tb) e c0 (by omega) fr
end
/-- the law's promise -/
def spLaw (K : PySem.W.Frag) (TT : Tb) : Sp := fun vs H Q _ => ∃ (a : Addr) (ns : List Int), vs = [.ref a] ∧ SqL K H a (ns.map V.int) ∧ ns.length ≤ 63 ∧ Tabs TT H ∧ ∀ H', Q (.bl true) H'
section
variable {P : Program} {w : World} {K : PySem.W.Frag} {mg : Str → Option Value} {base : Heap} {TT : Tb}
abbrev s_law : Stmt := topS 95
abbrev N_law : List Str := ["_law_script", "_law_k", "_law_pot_here", "_law_turn"]
abbrev P_law : List Str := ["_law_script"]
theorem sc_law : FnScope N_law P_law (defScope s_law) := ⟨rfl, rfl, rfl, by decide +kernel, rfl, by decide +kernel, by decide +kernel⟩
theorem ok_law {f : Addr} {fd : FuncData} (F : Fun K "law" "law" s_law f fd) (T : Tx K mg) (F__law_pot : Fk P w K mg base "_law_pot" 1 P__law_pot (spPot K)) (F__law_right : FkG P w K mg base "_law_right" 8 P__law_right (spOf K TT sp__law_right)) (F__law_wide_right : FkG P w K mg base "_law_wide_right" 8 P__law_wide_right (spOf K TT sp__law_wide_right)) : FnG P w K mg base 9 f fd P_law (spLaw K TT) := by
  refine fun_okGS (k := 8) F sc_law (fun vs H Q E h => ?_) fun cdv A outer s H vs Q E hr hgd h => ?_
  · obtain ⟨a, ns, rfl, _⟩ := h
    rfl
  obtain ⟨a, ns, rfl, hS, hns, ht, h⟩ := h
  refine ⟨_, (pss_cons (ps_if (PW.pt (pw_or (pt_not (pt_val (pe_callG F__law_right (hr.mono (by decide)) hgd (by rfl) (pa_cons (pe_callF F__law_pot (hr.mono (by decide)) (by rfl) (pa_cons (pv 0) (pa_cons pe_int pa_nil))) (pa_cons pe_int (pa_cons (pe_lst (pa_cons pe_str pa_nil)) pa_nil)))))) (pw_or1 (pt_not (pt_val (pe_callG F__law_wide_right (hr.mono (by decide)) hgd (by rfl) (pa_cons (pe_callF F__law_pot (hr.mono (by decide)) (by rfl) (pa_cons (pv 0) (pa_cons pe_int pa_nil))) pa_nil))))))) (pss_one (ps_ret pe_bl)) pss_nil)
    (pss_cons (ps_for PassesOwn.never rfl (pi_range1 (by rfl) T.nb_range (pa_cons (pe_op (addK (K := K) rfl) pe_int (pe_callB (call_min2D rfl) (by rfl) T.nb_min (by decide +kernel) (pa_cons pe_int (pa_cons (pe_callB (lenK (K := K) rfl) (by rfl) T.nb_len (by decide +kernel) (pa_cons (pv 0) pa_nil)) pa_nil)))) pa_nil)) (pg_name (i := 1) sc_law.nd rfl (by first | exact Or.inl rfl | exact Or.inr rfl))
      (pss_cons (ps_set (i := 2) sc_law.nd rfl (by first | exact Or.inl rfl | exact Or.inr rfl) (pe_callF F__law_pot (hr.mono (by decide)) (by rfl) (pa_cons (pv 0) (pa_cons (pv 1) pa_nil))))
    (pss_one (ps_if (pt_not (pt_val (pe_callB (allK (K := K) rfl rfl) (by rfl) T.nb_all (by decide +kernel) (pa_cons (pe_lcV (vs := [3]) [("_law_turn", 3)] rfl sc_law.nd (pi_range1 (by rfl) T.nb_range (pa_cons pe_int pa_nil)) (show blkC N_law (defScope s_law) _ [("_law_turn", 3)] = true by decide +kernel) rfl (fun _ _ _ _ _ => (pg_name (i := 3) sc_law.nd rfl (by first | exact Or.inl rfl | exact Or.inr rfl))) (fun _ _ _ _ _ => pts_nil) (fun _ _ _ _ _ => (pe_callG F__law_right (hr.mono (by decide)) hgd (by rfl) (pa_cons (pv 2) (pa_cons pe_int (pa_cons (pe_lst (pa_cons pe_str (pa_cons pe_str (pa_cons pe_str (pa_cons pe_str pa_nil))))) pa_nil)))))) pa_nil)))) (pss_one (ps_ret pe_bl)) pss_nil))))
    (pss_one (ps_ret pe_bl)))), ?_⟩
  have σ0 : (L2.start N_law [V.ref a]) = [some (.ref a), none, none, none] := rfl
  rw [σ0]
  simp only [tNext, tSeq, tAsg, tRet, tIfS, gName, tOr, tNot, tB, tCons, tNil, tLst, tCall, tC]
  have n0 : ∀ (xs : List V) ps, HO.lst xs ≠ .tbl ps := fun xs ps z => by cases z
  have k0 : Kp TT H H := ⟨DL.Ex.refl H, ht⟩
  -- a pot is made
  have mkPot : ∀ (G : Hp) (k : Nat) (Q' : VK), Kp TT H G → k ≤ 100 → (∀ (x y : Int) (p : Addr), G p = none → NT H p → Kp TT H (upd G p (.lst [.int x, .int y, .int 0])) → Q' (.ref p) (upd G p (.lst [.int x, .int y, .int 0]))) → spPot K ([.ref a, .int (k : Nat)] ++ []) G Q' E0 := fun G k Q' kg hk hq =>
    ⟨a, ns, k, rfl, sql_ex kg.ex hS, hk, fun x y p hp => hq x y p hp (kg.nt hp) (kg.nw (Nw.upd hp))⟩
  refine ⟨_, rfl, mkPot H 0 _ k0 (by omega) fun x y p hp np kp => ?_⟩
  refine ⟨by show 1 ≤ sizeLine; decide, fun l hl => ?_⟩
  have hpl : upd (upd H p (.lst [.int x, .int y, .int 0])) l (.lst [V.str "exact"]) p = some (.lst [.int x, .int y, .int 0]) := by
    rw [upd_ne (ne_of_none upd_same hl), upd_same]
  have lp : l ≠ p := Ne.symm (ne_of_none (o := .lst [.int x, .int y, .int 0]) upd_same hl)
  refine right_run (ms := [.ex]) (n := 380) (S := 0) (kp.nw (Nw.upd hl)) np hpl (by omega) (by omega) upd_same lp (by omega) (by decide) (by decide) fun H1 x1 y1 c1 k1 _ _ _ _ => ?_
  refine ⟨true, rfl, ?_⟩
  simp only [Bool.not_true, Bool.false_eq_true, if_false]
  refine ⟨_, rfl, mkPot H1 0 _ k1 (by omega) fun x y p hp np kp => ?_⟩
  refine wide_run (S := 0) kp np upd_same (by omega) (by omega) (by decide) fun H2 x2 y2 c2 k2 _ _ _ _ => ?_
  refine ⟨true, rfl, ?_⟩
  simp only [Bool.not_true, Bool.false_eq_true, if_false]
  clear hpl lp
  refine ⟨_, rfl, a, _, rfl, .inl (sql_ex k2.ex hS), 2, (ns.map V.int).length, rfl, ?_⟩
  refine .inl ⟨_, _, rfl, rfl, ?_⟩
  rw [List.length_map]
  obtain ⟨m, em, hm⟩ : ∃ m : Nat, (1 + (if (ns.length : Int) < 2 then (ns.length : Int) else 2)) = (m : Int) ∧ m ≤ 3 := by
    by_cases c : (ns.length : Int) < 2
    · rw [if_pos c]; exact ⟨1 + ns.length, by omega, by omega⟩
    · rw [if_neg c]; exact ⟨3, by omega, by omega⟩
  refine ⟨m, congrArg (fun z => [V.int z]) em, by omega, by omega, ?_⟩
  refine ⟨fun i n σ G => n = m - i ∧ i ≤ m ∧ Kp TT H G ∧ ∃ (s1 s2 : Option V), σ = [some (.ref a), s1, s2, none], ⟨m, rfl, Nat.zero_le _, k2, none, none, rfl⟩, ?_⟩
  rintro i n σ G ⟨rfl, hi, kg, s1, s2, rfl⟩
  by_cases hlt : i < m
  · refine .inr ⟨show i < (m : Int).toNat by omega, fun σ G => i + 1 ≤ m ∧ Kp TT H G ∧ ∃ (s1 s2 : Option V), σ = [some (.ref a), s1, s2, none], fun σ' G' ⟨h1, h2, h3⟩ => ⟨m - (i + 1), by omega, rfl, h1, h2, h3⟩, fun x G' y => ?_⟩
    obtain ⟨rfl, rfl⟩ := y
    simp only [tSeq, tAsg, tIfS, gName, tNot, tB, tRet, tNext, tCons, tNil, tLst, tCall, tC]
    refine ⟨_, rfl, _, rfl, ?_⟩
    have ei : (0 : Int) + (i : Nat) = ((i : Nat) : Int) := by omega
    rw [ei]
    refine mkPot G' i _ kg (by omega) fun x y p hp np kp => ?_
    have hp1 : upd G' p (.lst [.int x, .int y, .int 0]) p = some (.lst [.int x, .int y, .int 0]) := upd_same
    generalize upd G' p (.lst [.int x, .int y, .int 0]) = G1 at kp hp1 ⊢
    have es : (([some (V.ref a), s1, s2, none] : L2.St).set 1 (some (V.int (i : Nat)))).set 2 (some (V.ref p)) = [some (V.ref a), some (V.int (i : Nat)), some (V.ref p), none] := rfl
    rw [es]
    refine ⟨2, rfl, by omega, by omega, fun Dl hD => ?_⟩
    have nD := kp.nt hD
    have pD : p ≠ Dl := ne_of_none hp1 hD
    refine ⟨fun j n G => n = 2 - j ∧ j ≤ 2 ∧ Kp TT H G ∧ G Dl = some (.lst ((List.replicate j true).map V.bl)) ∧ ∃ x y c : Int, G p = some (.lst [.int x, .int y, .int c]) ∧ 0 ≤ c ∧ c ≤ (200000 * j : Nat),
      ⟨2, rfl, by omega, kp.nw (Nw.upd hD), upd_same, x, y, 0, by rw [upd_ne pD]; exact hp1, by omega, by omega⟩, ?_⟩
    rintro j n G ⟨rfl, hj, kg, gD, x1, y1, c1, gp, c0, c2⟩
    by_cases hj2 : j < 2
    · refine .inr ⟨show j < (2 : Int).toNat by omega, fun G => j + 1 ≤ 2 ∧ Kp TT H G ∧ G Dl = some (.lst ((List.replicate (j + 1) true).map V.bl)) ∧ ∃ x y c : Int, G p = some (.lst [.int x, .int y, .int c]) ∧ 0 ≤ c ∧ c ≤ (200000 * (j + 1) : Nat), fun G ⟨h1, h2⟩ => ⟨2 - (j + 1), by omega, rfl, h1, h2⟩, fun z G' yz => ?_⟩
      obtain ⟨rfl, rfl⟩ := yz
      refine ⟨rfl, ?_⟩
      simp only [tYes, if_true, tCall, tCons, tNil, tC, tLst]
      refine ⟨.ref p, rfl, by show 4 ≤ sizeLine; decide, fun l hl => ?_⟩
      have n1 := Nw.upd (o := .lst [V.str "exact", V.str "between", V.str "floor", V.str "ceiling"]) hl
      have lp : l ≠ p := Ne.symm (ne_of_none gp hl)
      refine right_run (ms := [.ex, .bt, .fl, .ce]) (n := 60) (S := 200000 * j) (kg.nw n1) np (n1 _ _ gp) c0 c2 upd_same lp (by omega) (by decide) (by show _ ≤ 1000000000; omega) fun H3 x3 y3 c3 k3 hp3 c30 c33 fr3 => ?_
      have gD3 := fr3 _ _ (n1 _ _ gD) (fun z => pD (Option.some.inj z)) (n0 _)
      refine ⟨_, gD3, by rw [List.length_map, List.length_replicate, sizeLine_eq]; omega, by omega, ⟨fun b o hb hn => ?_, tabs_upd k3.tab gD3⟩, ?_, x3, y3, c3, by rw [upd_ne pD]; exact hp3, c30, by omega⟩
      · rw [upd_ne (nD.ne hb hn)]
        exact k3.ex b o hb hn
      · rw [upd_same, List.replicate_succ', List.map_append] <;> rfl
    · have ej : j = 2 := by omega
      subst ej
      refine .inl ⟨show (2 : Int).toNat ≤ 2 by omega, ?_⟩
      refine ⟨Dl, _, rfl, SqL.of gD, ?_⟩
      refine ⟨true, rfl, ?_⟩
      simp only [Bool.not_true, Bool.false_eq_true, if_false]
      exact ⟨by omega, kg, _, _, rfl⟩
  · have hi2 : i = m := by omega
    subst hi2
    refine .inl ⟨show (i : Int).toNat ≤ i by omega, ?_⟩
    exact h G
end
end RS
end
section
set_option maxRecDepth 100000
set_option maxHeartbeats 2000000
namespace RS
open PySem PySem.Spec PyProof.Rows L2 DL
/-! ### every def's promise, by name -/
def TTof (K : PySem.W.Frag) : Tb := [(tbOf K "true_moments", lq_true_moments), (tbOf K "reasons", lq_reasons)]
structure DS (K : PySem.W.Frag) (mg : Str → Option Value) (h base : Heap) : Prop where
  X : K.In h
  G : h.Ns mainGlobals mg
  c : He.SaysE fa fn K
  e : exB K = true
  t_true_moments : LamX.TabB base mg (cdOf K "true_moments") (tbOf K "true_moments")
  t_reasons : LamX.TabB base mg (cdOf K "reasons") (tbOf K "reasons")
section
variable {P : Program} {w : World} {K : PySem.W.Frag} {mg : Str → Option Value} {h base : Heap}
structure ExS (K : PySem.W.Frag) : Prop where
  c1 : cdB K "true_moments" = true
  c2 : cdB K "reasons" = true
  ne : tbOf K "true_moments" ≠ tbOf K "reasons"
  rd : He.tupB K "READ" [.str "read"] = true
theorem exS (e : exB K = true) : ExS K := by
  obtain ⟨e1, r⟩ := He.ba e
  obtain ⟨e2, r⟩ := He.ba r
  obtain ⟨e3, e4⟩ := He.ba r
  exact ⟨e1, e2, fun z => by rw [z] at e3; simp at e3, e4⟩
theorem cdB_of {x : Str} (e : cdB K x = true) : (∀ oc od fd osl, K.lookup (He.ga K x) = some ⟨oc, od, .func fd, osl⟩ → fd.code = .ref (cdOf K x)) ∧ PySem.W.codeHdIn K (cdOf K x) (tbOf K x) = true ∧ K.lookup (tbOf K x) = none := by
  obtain ⟨e1, r⟩ := He.ba e
  obtain ⟨e2, e3⟩ := He.ba r
  refine ⟨fun oc od fd osl q => ?_, e2, Option.isNone_iff_eq_none.mp e3⟩
  rw [q] at e1
  have e1' : (match fd.code with
    | .ref c => c == cdOf K x
    | _ => false) = true := e1
  split at e1'
  · rename_i c hc
    rw [hc, beq_iff_eq.mp e1']
  · cases e1'
theorem DS.fun (D : DS K mg h base) {x nm : Str} {i : Nat} (j : Nat) (hj : fn[j]? = some (hdD x nm i)) (hg : fa[j]? = some (.glo x)) (l : Nat) (hk : fa[l]? = some (.keep x)) :
    ∃ fd, Fun K nm nm (topS i) (He.ga K x) fd ∧ mg x = some (.ref (He.ga K x)) := by
  obtain ⟨oc, od, osl, kV, doc, pm, an, cdv, ct, q, cd⟩ := D.c.def_ j hj
  exact ⟨_, fun_mk q cd (He.keep_ok (D.c.fact l hk)), He.glo_ok D.X D.G (D.c.fact j hg)⟩
theorem DS.code (D : DS K mg h base) {x nm : Str} {st : Stmt} {fd : FuncData} (hx : x = "true_moments" ∨ x = "reasons") (F : Fun K nm nm st (He.ga K x) fd) : fd.code = .ref (cdOf K x) := by
  obtain ⟨oc, od, kV, doc, pm, an, cdv, ct, osl, _, lk, _⟩ := F.ex
  rcases hx with rfl | rfl
  · exact (cdB_of (exS D.e).c1).1 _ _ _ _ lk
  · exact (cdB_of (exS D.e).c2).1 _ _ _ _ lk
theorem DS.u_true_moments (D : DS K mg h base) : ∀ p ∈ TTof K, p.1 = tbOf K "true_moments" → p.2 = lq_true_moments := by
  intro p hp e
  rcases List.mem_cons.mp hp with rfl | hp
  · rfl
  · rcases List.mem_cons.mp hp with rfl | hp
    · exact absurd e.symm (exS D.e).ne
    · cases hp
theorem DS.u_reasons (D : DS K mg h base) : ∀ p ∈ TTof K, p.1 = tbOf K "reasons" → p.2 = lq_reasons := by
  intro p hp e
  rcases List.mem_cons.mp hp with rfl | hp
  · exact absurd e (exS D.e).ne
  · rcases List.mem_cons.mp hp with rfl | hp
    · rfl
    · cases hp
theorem DS.read (D : DS K mg h base) : KT K (He.ga K "READ") [.str "read"] := by
  rcases He.tupB_ok (exS D.e).rd (fun _ => none) with q | ⟨o, its, n, q, oc, od, hs, r⟩
  · first
      | exact absurd q (by rintro (q | ⟨o, q⟩) <;> cases q)
      | (rcases q with q | ⟨o, q⟩ <;> exact absurd q (by simp))
  · exact ⟨o, its, n, q, oc, od, hs, r⟩
theorem DS.tx (D : DS K mg h base) : Tx K mg where
  nb_isinstance := He.free_ok D.X D.G (D.c.fact 150 (f := .free "isinstance") rfl)
  nb_int := He.free_ok D.X D.G (D.c.fact 151 (f := .free "int") rfl)
  nb_bool := He.free_ok D.X D.G (D.c.fact 152 (f := .free "bool") rfl)
  nb_tuple := He.free_ok D.X D.G (D.c.fact 153 (f := .free "tuple") rfl)
  nb_str := He.free_ok D.X D.G (D.c.fact 154 (f := .free "str") rfl)
  nb_len := He.free_ok D.X D.G (D.c.fact 155 (f := .free "len") rfl)
  nb_all := He.free_ok D.X D.G (D.c.fact 156 (f := .free "all") rfl)
  nb_zip := He.free_ok D.X D.G (D.c.fact 157 (f := .free "zip") rfl)
  nb_sum := He.free_ok D.X D.G (D.c.fact 158 (f := .free "sum") rfl)
  nb_max := He.free_ok D.X D.G (D.c.fact 159 (f := .free "max") rfl)
  nb_min := He.free_ok D.X D.G (D.c.fact 160 (f := .free "min") rfl)
  nb_sorted := He.free_ok D.X D.G (D.c.fact 161 (f := .free "sorted") rfl)
  nb_range := He.free_ok D.X D.G (D.c.fact 162 (f := .free "range") rfl)
  nb_list := He.free_ok D.X D.G (D.c.fact 163 (f := .free "list") rfl)
  nb_enumerate := He.free_ok D.X D.G (D.c.fact 164 (f := .free "enumerate") rfl)
  nb_abs := He.free_ok D.X D.G (D.c.fact 165 (f := .free "abs") rfl)
  nb_dict := He.free_ok D.X D.G (D.c.fact 166 (f := .free "dict") rfl)
  nb_repr := He.free_ok D.X D.G (D.c.fact 167 (f := .free "repr") rfl)
  g_TABLE := He.str_ok D.X D.G (D.c.fact 168 (f := .str "TABLE" "table") rfl)
  g_SUM := He.str_ok D.X D.G (D.c.fact 169 (f := .str "SUM" "sum") rfl)
  g_GREATEST := He.str_ok D.X D.G (D.c.fact 170 (f := .str "GREATEST" "max") rfl)
  g_EXACT := He.str_ok D.X D.G (D.c.fact 171 (f := .str "EXACT" "exact") rfl)
  g_FLOOR := He.str_ok D.X D.G (D.c.fact 172 (f := .str "FLOOR" "floor") rfl)
  g_CEILING := He.str_ok D.X D.G (D.c.fact 173 (f := .str "CEILING" "ceiling") rfl)
  g_STEP := He.str_ok D.X D.G (D.c.fact 174 (f := .str "STEP" "step") rfl)
  g_CORNER_PARTS := He.int_ok D.X D.G (D.c.fact 175 (f := .int "CORNER_PARTS" 3) rfl)
  g_PART_SIZE := He.int_ok D.X D.G (D.c.fact 176 (f := .int "PART_SIZE" 2) rfl)
  g_RUN_PARTS := He.int_ok D.X D.G (D.c.fact 177 (f := .int "RUN_PARTS" 2) rfl)
  g_STEP_PARTS := He.int_ok D.X D.G (D.c.fact 178 (f := .int "STEP_PARTS" 3) rfl)
  g_TRIPLE_PARTS := He.int_ok D.X D.G (D.c.fact 179 (f := .int "TRIPLE_PARTS" 3) rfl)
  g_READ := ⟨_, He.glo_ok D.X D.G (D.c.fact 180 (f := .glo "READ") rfl), D.read⟩
theorem kf_is_number (D : DS K mg h base) (T : Tx K mg) : Fk P w K mg base "is_number" 1 P_is_number (spOf K (TTof K) sp_is_number) := by
  obtain ⟨fd, F, hm⟩ := D.fun (x := "is_number") (nm := "is_number") (i := 5) 0 rfl rfl 75 rfl
  exact fk_mk F hm (F.binds (ps := P_is_number) fun _ _ _ _ _ _ us hl => match us, hl with | [_], _ => rfl) (ok_is_number F T)
theorem kf_state_number (D : DS K mg h base) (T : Tx K mg) : Fk P w K mg base "state_number" 1 P_state_number (spOf K (TTof K) sp_state_number) := by
  obtain ⟨fd, F, hm⟩ := D.fun (x := "state_number") (nm := "state_number") (i := 8) 1 rfl rfl 76 rfl
  exact fk_mk F hm (F.binds (ps := P_state_number) fun _ _ _ _ _ _ us hl => match us, hl with | [_, _], _ => rfl) (ok_state_number F T)
theorem kf_causes_from (D : DS K mg h base) (T : Tx K mg) : Fk P w K mg base "causes_from" 1 P_causes_from (spOf K (TTof K) sp_causes_from) := by
  obtain ⟨fd, F, hm⟩ := D.fun (x := "causes_from") (nm := "causes_from") (i := 11) 2 rfl rfl 77 rfl
  exact fk_mk F hm (F.binds (ps := P_causes_from) fun _ _ _ _ _ _ us hl => match us, hl with | [_, _], _ => rfl) (ok_causes_from F T)
theorem kf_begins (D : DS K mg h base) (T : Tx K mg) : Fk P w K mg base "begins" 1 P_begins (spOf K (TTof K) sp_begins) := by
  obtain ⟨fd, F, hm⟩ := D.fun (x := "begins") (nm := "begins") (i := 12) 3 rfl rfl 78 rfl
  exact fk_mk F hm (F.binds (ps := P_begins) fun _ _ _ _ _ _ us hl => match us, hl with | [_], _ => rfl) (ok_begins F T)
theorem kf_accepts (D : DS K mg h base) (T : Tx K mg) : Fk P w K mg base "accepts" 1 P_accepts (spOf K (TTof K) sp_accepts) := by
  obtain ⟨fd, F, hm⟩ := D.fun (x := "accepts") (nm := "accepts") (i := 21) 4 rfl rfl 79 rfl
  exact fk_mk F hm (F.binds (ps := P_accepts) fun _ _ _ _ _ _ us hl => match us, hl with | [_, _, _], _ => rfl) (ok_accepts F T)
theorem kf_changed (D : DS K mg h base) (T : Tx K mg) : Fk P w K mg base "changed_corners" 1 P_changed (spOf K (TTof K) sp_changed) := by
  obtain ⟨fd, F, hm⟩ := D.fun (x := "changed_corners") (nm := "changed") (i := 22) 5 rfl rfl 80 rfl
  exact fk_mk F hm (F.binds (ps := P_changed) fun _ _ _ _ _ _ us hl => match us, hl with | [_, _, _], _ => rfl) (ok_changed F T)
theorem kf_is_read_event (D : DS K mg h base) (T : Tx K mg) : Fk P w K mg base "is_read_event" 1 P_is_read_event (spOf K (TTof K) sp_is_read_event) := by
  obtain ⟨fd, F, hm⟩ := D.fun (x := "is_read_event") (nm := "is_read_event") (i := 34) 6 rfl rfl 81 rfl
  exact fk_mk F hm (F.binds (ps := P_is_read_event) fun _ _ _ _ _ _ us hl => match us, hl with | [_], _ => rfl) (ok_is_read_event F T)
theorem kf_changed2 (D : DS K mg h base) (T : Tx K mg) : Fk P w K mg base "changed_runs" 1 P_changed2 (spOf K (TTof K) sp_changed2) := by
  obtain ⟨fd, F, hm⟩ := D.fun (x := "changed_runs") (nm := "changed") (i := 37) 7 rfl rfl 82 rfl
  exact fk_mk F hm (F.binds (ps := P_changed2) fun _ _ _ _ _ _ us hl => match us, hl with | [_, _, _], _ => rfl) (ok_changed2 F T)
theorem kf_read_moments (D : DS K mg h base) (T : Tx K mg) : Fk P w K mg base "read_moments" 1 P_read_moments (spOf K (TTof K) sp_read_moments) := by
  obtain ⟨fd, F, hm⟩ := D.fun (x := "read_moments") (nm := "read_moments") (i := 40) 8 rfl rfl 83 rfl
  exact fk_mk F hm (F.binds (ps := P_read_moments) fun _ _ _ _ _ _ us hl => match us, hl with | [_], _ => rfl) (ok_read_moments F T)
theorem kf_block_numbers (D : DS K mg h base) (T : Tx K mg) : Fk P w K mg base "block_numbers" 1 P_block_numbers (spOf K (TTof K) sp_block_numbers) := by
  obtain ⟨fd, F, hm⟩ := D.fun (x := "block_numbers") (nm := "block_numbers") (i := 51) 9 rfl rfl 84 rfl
  exact fk_mk F hm (F.binds (ps := P_block_numbers) fun _ _ _ _ _ _ us hl => match us, hl with | [_], _ => rfl) (ok_block_numbers F T)
theorem kf_steps_with_reads (D : DS K mg h base) (T : Tx K mg) : Fk P w K mg base "steps_with_reads" 1 P_steps_with_reads (spOf K (TTof K) sp_steps_with_reads) := by
  obtain ⟨fd, F, hm⟩ := D.fun (x := "steps_with_reads") (nm := "steps_with_reads") (i := 52) 10 rfl rfl 85 rfl
  exact fk_mk F hm (F.binds (ps := P_steps_with_reads) fun _ _ _ _ _ _ us hl => match us, hl with | [_], _ => rfl) (ok_steps_with_reads F T)
theorem kf__law_pot (D : DS K mg h base) (T : Tx K mg) : Fk P w K mg base "_law_pot" 1 P__law_pot (spPot K) := by
  obtain ⟨fd, F, hm⟩ := D.fun (x := "_law_pot") (nm := "_law_pot") (i := 63) 11 rfl rfl 86 rfl
  exact ⟨_, fd, ok__law_pot F T, hm, F.kp, (F.binds (ps := P__law_pot) fun _ _ _ _ _ _ us hl => match us, hl with | [_, _], _ => rfl)⟩
theorem kf__law_take (D : DS K mg h base) (T : Tx K mg) : Fk P w K mg base "_law_take" 1 P__law_take (spOf K (TTof K) sp__law_take) := by
  obtain ⟨fd, F, hm⟩ := D.fun (x := "_law_take") (nm := "_law_take") (i := 64) 12 rfl rfl 87 rfl
  exact fk_mk F hm (F.binds (ps := P__law_take) fun _ _ _ _ _ _ us hl => match us, hl with | [_, _], _ => rfl) (ok__law_take F T)
theorem kf__law_index (D : DS K mg h base) (T : Tx K mg) : Fk P w K mg base "_law_index" 1 P__law_index (spOf K (TTof K) sp__law_index) := by
  obtain ⟨fd, F, hm⟩ := D.fun (x := "_law_index") (nm := "_law_index") (i := 70) 13 rfl rfl 88 rfl
  exact fk_mk F hm (F.binds (ps := P__law_index) fun _ _ _ _ _ _ us hl => match us, hl with | [_, _], _ => rfl) (ok__law_index F T)
theorem kf__law_moves (D : DS K mg h base) (T : Tx K mg) : Fk P w K mg base "_law_moves" 1 P__law_moves (spOf K (TTof K) sp__law_moves) := by
  obtain ⟨fd, F, hm⟩ := D.fun (x := "_law_moves") (nm := "_law_moves") (i := 73) 14 rfl rfl 89 rfl
  exact fk_mk F hm (F.binds (ps := P__law_moves) fun _ _ _ _ _ _ us hl => match us, hl with | [_, _], _ => rfl) (ok__law_moves F T)
theorem kf__law_put (D : DS K mg h base) (T : Tx K mg) : Fk P w K mg base "_law_put" 1 P__law_put (spOf K (TTof K) sp__law_put) := by
  obtain ⟨fd, F, hm⟩ := D.fun (x := "_law_put") (nm := "_law_put") (i := 74) 15 rfl rfl 90 rfl
  exact fk_mk F hm (F.binds (ps := P__law_put) fun _ _ _ _ _ _ us hl => match us, hl with | [_, _, _], _ => rfl) (ok__law_put F T)
theorem kf__law_let (D : DS K mg h base) (T : Tx K mg) : Fk P w K mg base "_law_let" 1 P__law_let (spOf K (TTof K) sp__law_let) := by
  obtain ⟨fd, F, hm⟩ := D.fun (x := "_law_let") (nm := "_law_let") (i := 80) 16 rfl rfl 91 rfl
  exact fk_mk F hm (F.binds (ps := P__law_let) fun _ _ _ _ _ _ us hl => match us, hl with | [_, _, _], _ => rfl) (ok__law_let F T)
theorem kf__law_is_int (D : DS K mg h base) (T : Tx K mg) : Fk P w K mg base "_law_is_int" 1 P__law_is_int (spOf K (TTof K) sp__law_is_int) := by
  obtain ⟨fd, F, hm⟩ := D.fun (x := "_law_is_int") (nm := "_law_is_int") (i := 82) 17 rfl rfl 92 rfl
  exact fk_mk F hm (F.binds (ps := P__law_is_int) fun _ _ _ _ _ _ us hl => match us, hl with | [_], _ => rfl) (ok__law_is_int F T)
theorem kf__law_marked (D : DS K mg h base) (T : Tx K mg) : Fk P w K mg base "_law_marked" 1 P__law_marked (spOf K (TTof K) sp__law_marked) := by
  obtain ⟨fd, F, hm⟩ := D.fun (x := "_law_marked") (nm := "_law_marked") (i := 83) 18 rfl rfl 93 rfl
  exact fk_mk F hm (F.binds (ps := P__law_marked) fun _ _ _ _ _ _ us hl => match us, hl with | [_, _], _ => rfl) (ok__law_marked F T)
theorem kf_is_integer (D : DS K mg h base) (T : Tx K mg) : Fk P w K mg base "is_integer" 2 P_is_integer (spOf K (TTof K) sp_is_integer) := by
  obtain ⟨fd, F, hm⟩ := D.fun (x := "is_integer") (nm := "is_integer") (i := 4) 19 rfl rfl 94 rfl
  exact fk_mk F hm (F.binds (ps := P_is_integer) fun _ _ _ _ _ _ us hl => match us, hl with | [_, _, _], _ => rfl) (ok_is_integer F T (kf_is_number D T))
theorem kf_result (D : DS K mg h base) (T : Tx K mg) : Fk P w K mg base "result" 2 P_result (spOf K (TTof K) sp_result) := by
  obtain ⟨fd, F, hm⟩ := D.fun (x := "result") (nm := "result") (i := 9) 20 rfl rfl 95 rfl
  exact fk_mk F hm (F.binds (ps := P_result) fun _ _ _ _ _ _ us hl => match us, hl with | [_, _], _ => rfl) (ok_result F T (kf_state_number D T))
theorem kf_values_from (D : DS K mg h base) (T : Tx K mg) : Fk P w K mg base "values_from" 2 P_values_from (spOf K (TTof K) sp_values_from) := by
  obtain ⟨fd, F, hm⟩ := D.fun (x := "values_from") (nm := "values_from") (i := 13) 21 rfl rfl 96 rfl
  exact fk_mk F hm (F.binds (ps := P_values_from) fun _ _ _ _ _ _ us hl => match us, hl with | [_, _], _ => rfl) (ok_values_from F T (kf_causes_from D T))
theorem kf_states (D : DS K mg h base) (T : Tx K mg) : Fk P w K mg base "states" 2 P_states (spOf K (TTof K) sp_states) := by
  obtain ⟨fd, F, hm⟩ := D.fun (x := "states") (nm := "states") (i := 39) 22 rfl rfl 97 rfl
  exact fk_mk F hm (F.binds (ps := P_states) fun _ _ _ _ _ _ us hl => match us, hl with | [_], _ => rfl) (ok_states F T (kf_changed2 D T))
theorem kf_span (D : DS K mg h base) (T : Tx K mg) : Fk P w K mg base "span" 2 P_span (spOf K (TTof K) sp_span) := by
  obtain ⟨fd, F, hm⟩ := D.fun (x := "span") (nm := "span") (i := 41) 23 rfl rfl 98 rfl
  exact fk_mk F hm (F.binds (ps := P_span) fun _ _ _ _ _ _ us hl => match us, hl with | [_], _ => rfl) (ok_span F T (kf_read_moments D T))
theorem kf_inner_steps (D : DS K mg h base) (T : Tx K mg) : Fk P w K mg base "inner_steps" 2 P_inner_steps (spOf K (TTof K) sp_inner_steps) := by
  obtain ⟨fd, F, hm⟩ := D.fun (x := "inner_steps") (nm := "inner_steps") (i := 53) 24 rfl rfl 99 rfl
  exact fk_mk F hm (F.binds (ps := P_inner_steps) fun _ _ _ _ _ _ us hl => match us, hl with | [_, _, _], _ => rfl) (ok_inner_steps F T (kf_block_numbers D T) (kf_steps_with_reads D T))
theorem kf__law_of (D : DS K mg h base) (T : Tx K mg) : Fk P w K mg base "_law_of" 2 P__law_of (spOf K (TTof K) sp__law_of) := by
  obtain ⟨fd, F, hm⟩ := D.fun (x := "_law_of") (nm := "_law_of") (i := 65) 25 rfl rfl 100 rfl
  exact fk_mk F hm (F.binds (ps := P__law_of) fun _ _ _ _ _ _ us hl => match us, hl with | [_, _], _ => rfl) (ok__law_of F T (kf__law_take D T))
theorem kf__law_variable (D : DS K mg h base) (T : Tx K mg) : Fk P w K mg base "_law_variable" 2 P__law_variable (spOf K (TTof K) sp__law_variable) := by
  obtain ⟨fd, F, hm⟩ := D.fun (x := "_law_variable") (nm := "_law_variable") (i := 66) 26 rfl rfl 101 rfl
  exact fk_mk F hm (F.binds (ps := P__law_variable) fun _ _ _ _ _ _ us hl => match us, hl with | [_, _], _ => rfl) (ok__law_variable F T (kf__law_take D T))
theorem kf__law_told (D : DS K mg h base) (T : Tx K mg) : Fk P w K mg base "_law_told" 2 P__law_told (spOf K (TTof K) sp__law_told) := by
  obtain ⟨fd, F, hm⟩ := D.fun (x := "_law_told") (nm := "_law_told") (i := 71) 27 rfl rfl 102 rfl
  exact fk_mk F hm (F.binds (ps := P__law_told) fun _ _ _ _ _ _ us hl => match us, hl with | [_, _], _ => rfl) (ok__law_told F T (kf__law_index D T))
theorem kf__law_scheme (D : DS K mg h base) (T : Tx K mg) : Fk P w K mg base "_law_scheme" 2 P__law_scheme (spOf K (TTof K) sp__law_scheme) := by
  obtain ⟨fd, F, hm⟩ := D.fun (x := "_law_scheme") (nm := "_law_scheme") (i := 72) 28 rfl rfl 103 rfl
  exact fk_mk F hm (F.binds (ps := P__law_scheme) fun _ _ _ _ _ _ us hl => match us, hl with | [_, _], _ => rfl) (ok__law_scheme F T (kf__law_take D T))
theorem kf__law_begin (D : DS K mg h base) (T : Tx K mg) : Fk P w K mg base "_law_begin" 2 P__law_begin (spOf K (TTof K) sp__law_begin) := by
  obtain ⟨fd, F, hm⟩ := D.fun (x := "_law_begin") (nm := "_law_begin") (i := 75) 29 rfl rfl 104 rfl
  exact fk_mk F hm (F.binds (ps := P__law_begin) fun _ _ _ _ _ _ us hl => match us, hl with | [_, _], _ => rfl) (ok__law_begin F T (kf__law_take D T))
theorem kf__law_walked (D : DS K mg h base) (T : Tx K mg) : Fk P w K mg base "_law_walked" 2 P__law_walked (spOf K (TTof K) sp__law_walked) := by
  obtain ⟨fd, F, hm⟩ := D.fun (x := "_law_walked") (nm := "_law_walked") (i := 77) 30 rfl rfl 105 rfl
  exact fk_mk F hm (F.binds (ps := P__law_walked) fun _ _ _ _ _ _ us hl => match us, hl with | [_], _ => rfl) (ok__law_walked F T (kf__law_put D T))
theorem kf__law_inverted (D : DS K mg h base) (T : Tx K mg) : Fk P w K mg base "_law_inverted" 2 P__law_inverted (spOf K (TTof K) sp__law_inverted) := by
  obtain ⟨fd, F, hm⟩ := D.fun (x := "_law_inverted") (nm := "_law_inverted") (i := 84) 31 rfl rfl 106 rfl
  exact fk_mk F hm (F.binds (ps := P__law_inverted) fun _ _ _ _ _ _ us hl => match us, hl with | [_, _], _ => rfl) (ok__law_inverted F T (kf__law_marked D T))
theorem kf_are_values (D : DS K mg h base) (T : Tx K mg) : Fk P w K mg base "are_values" 3 P_are_values (spOf K (TTof K) sp_are_values) := by
  obtain ⟨fd, F, hm⟩ := D.fun (x := "are_values") (nm := "are_values") (i := 6) 32 rfl rfl 107 rfl
  exact fk_mk F hm (F.binds (ps := P_are_values) fun _ _ _ _ _ _ us hl => match us, hl with | [_, _], _ => rfl) (ok_are_values F T (kf_is_integer D T))
theorem kf_reachable (D : DS K mg h base) (T : Tx K mg) : Fk P w K mg base "reachable" 3 P_reachable (spOf K (TTof K) sp_reachable) := by
  obtain ⟨fd, F, hm⟩ := D.fun (x := "reachable") (nm := "reachable") (i := 14) 33 rfl rfl 108 rfl
  exact fk_mk F hm (F.binds (ps := P_reachable) fun _ _ _ _ _ _ us hl => match us, hl with | [_], _ => rfl) (ok_reachable F T (kf_begins D T) (kf_values_from D T))
theorem kf_is_part (D : DS K mg h base) (T : Tx K mg) : Fk P w K mg base "is_part" 3 P_is_part (spOf K (TTof K) sp_is_part) := by
  obtain ⟨fd, F, hm⟩ := D.fun (x := "is_part") (nm := "is_part") (i := 24) 34 rfl rfl 109 rfl
  exact fk_mk F hm (F.binds (ps := P_is_part) fun _ _ _ _ _ _ us hl => match us, hl with | [_, _, _], _ => rfl) (ok_is_part F T (kf_is_integer D T))
theorem kf_corner_results (D : DS K mg h base) (T : Tx K mg) : Fk P w K mg base "corner_results" 3 P_corner_results (spOf K (TTof K) sp_corner_results) := by
  obtain ⟨fd, F, hm⟩ := D.fun (x := "corner_results") (nm := "corner_results") (i := 26) 35 rfl rfl 110 rfl
  exact fk_mk F hm (F.binds (ps := P_corner_results) fun _ _ _ _ _ _ us hl => match us, hl with | [_, _], _ => rfl) (ok_corner_results F T (kf_changed D T) (kf_result D T))
theorem kf_is_step_event (D : DS K mg h base) (T : Tx K mg) : Fk P w K mg base "is_step_event" 3 P_is_step_event (spOf K (TTof K) sp_is_step_event) := by
  obtain ⟨fd, F, hm⟩ := D.fun (x := "is_step_event") (nm := "is_step_event") (i := 33) 36 rfl rfl 111 rfl
  exact fk_mk F hm (F.binds (ps := P_is_step_event) fun _ _ _ _ _ _ us hl => match us, hl with | [_, _, _], _ => rfl) (ok_is_step_event F T (kf_is_integer D T))
theorem kf_read_values (D : DS K mg h base) (T : Tx K mg) : Fk P w K mg base "read_values" 3 P_read_values (spOf K (TTof K) sp_read_values) := by
  obtain ⟨fd, F, hm⟩ := D.fun (x := "read_values") (nm := "read_values") (i := 42) 37 rfl rfl 112 rfl
  exact fk_mk F hm (F.binds (ps := P_read_values) fun _ _ _ _ _ _ us hl => match us, hl with | [_, _], _ => rfl) (ok_read_values F T (kf_read_moments D T) (kf_states D T))
theorem kf_span_results (D : DS K mg h base) (T : Tx K mg) : Fk P w K mg base "span_results" 3 P_span_results (spOf K (TTof K) sp_span_results) := by
  obtain ⟨fd, F, hm⟩ := D.fun (x := "span_results") (nm := "span_results") (i := 44) 38 rfl rfl 113 rfl
  exact fk_mk F hm (F.binds (ps := P_span_results) fun _ _ _ _ _ _ us hl => match us, hl with | [_, _], _ => rfl) (ok_span_results F T (kf_result D T) (kf_span D T) (kf_states D T))
theorem kf_moments_where (D : DS K mg h base) (T : Tx K mg) : Fk P w K mg base "moments_where" 3 P_moments_where (spOf K (TTof K) sp_moments_where) := by
  obtain ⟨fd, F, hm⟩ := D.fun (x := "moments_where") (nm := "moments_where") (i := 45) 39 rfl rfl 114 rfl
  exact fk_mk F hm (F.binds (ps := P_moments_where) fun _ _ _ _ _ _ us hl => match us, hl with | [_, _, _], _ => rfl) (ok_moments_where F T (kf_span D T))
theorem kf_late_steps (D : DS K mg h base) (T : Tx K mg) : Fk P w K mg base "late_steps" 3 P_late_steps (spOf K (TTof K) sp_late_steps) := by
  obtain ⟨fd, F, hm⟩ := D.fun (x := "late_steps") (nm := "late_steps") (i := 54) 40 rfl rfl 115 rfl
  exact fk_mk F hm (F.binds (ps := P_late_steps) fun _ _ _ _ _ _ us hl => match us, hl with | [_, _], _ => rfl) (ok_late_steps F T (kf_inner_steps D T))
theorem kf_early_steps (D : DS K mg h base) (T : Tx K mg) : Fk P w K mg base "early_steps" 3 P_early_steps (spOf K (TTof K) sp_early_steps) := by
  obtain ⟨fd, F, hm⟩ := D.fun (x := "early_steps") (nm := "early_steps") (i := 55) 41 rfl rfl 116 rfl
  exact fk_mk F hm (F.binds (ps := P_early_steps) fun _ _ _ _ _ _ us hl => match us, hl with | [_, _], _ => rfl) (ok_early_steps F T (kf_inner_steps D T))
theorem kf_values_ahead (D : DS K mg h base) (T : Tx K mg) : Fk P w K mg base "values_ahead" 3 P_values_ahead (spOf K (TTof K) sp_values_ahead) := by
  obtain ⟨fd, F, hm⟩ := D.fun (x := "values_ahead") (nm := "values_ahead") (i := 59) 42 rfl rfl 117 rfl
  exact fk_mk F hm (F.binds (ps := P_values_ahead) fun _ _ _ _ _ _ us hl => match us, hl with | [_, _], _ => rfl) (ok_values_ahead F T (kf_states D T))
theorem kf__law_number (D : DS K mg h base) (T : Tx K mg) : Fk P w K mg base "_law_number" 3 P__law_number (spOf K (TTof K) sp__law_number) := by
  obtain ⟨fd, F, hm⟩ := D.fun (x := "_law_number") (nm := "_law_number") (i := 67) 43 rfl rfl 118 rfl
  exact fk_mk F hm (F.binds (ps := P__law_number) fun _ _ _ _ _ _ us hl => match us, hl with | [_], _ => rfl) (ok__law_number F T (kf__law_of D T) (kf__law_take D T))
theorem kf__law_tape (D : DS K mg h base) (T : Tx K mg) : Fk P w K mg base "_law_tape" 3 P__law_tape (spOf K (TTof K) sp__law_tape) := by
  obtain ⟨fd, F, hm⟩ := D.fun (x := "_law_tape") (nm := "_law_tape") (i := 76) 44 rfl rfl 119 rfl
  exact fk_mk F hm (F.binds (ps := P__law_tape) fun _ _ _ _ _ _ us hl => match us, hl with | [_, _, _, _], _ => rfl) (ok__law_tape F T (kf__law_begin D T) (kf__law_moves D T) (kf__law_of D T) (kf__law_put D T) (kf__law_take D T))
theorem kf__law_seen (D : DS K mg h base) (T : Tx K mg) : Fk P w K mg base "_law_seen" 3 P__law_seen (spOf K (TTof K) sp__law_seen) := by
  obtain ⟨fd, F, hm⟩ := D.fun (x := "_law_seen") (nm := "_law_seen") (i := 78) 45 rfl rfl 120 rfl
  exact fk_mk F hm (F.binds (ps := P__law_seen) fun _ _ _ _ _ _ us hl => match us, hl with | [_, _], _ => rfl) (ok__law_seen F T (kf__law_walked D T))
theorem kf__law_within (D : DS K mg h base) (T : Tx K mg) : Fk P w K mg base "_law_within" 3 P__law_within (spOf K (TTof K) sp__law_within) := by
  obtain ⟨fd, F, hm⟩ := D.fun (x := "_law_within") (nm := "_law_within") (i := 79) 46 rfl rfl 121 rfl
  exact fk_mk F hm (F.binds (ps := P__law_within) fun _ _ _ _ _ _ us hl => match us, hl with | [_, _], _ => rfl) (ok__law_within F T (kf__law_told D T) (kf__law_walked D T))
theorem kf__law_skewed (D : DS K mg h base) (T : Tx K mg) : Fk P w K mg base "_law_skewed" 3 P__law_skewed (spOf K (TTof K) sp__law_skewed) := by
  obtain ⟨fd, F, hm⟩ := D.fun (x := "_law_skewed") (nm := "_law_skewed") (i := 85) 47 rfl rfl 122 rfl
  exact fk_mk F hm (F.binds (ps := P__law_skewed) fun _ _ _ _ _ _ us hl => match us, hl with | [_, _, _], _ => rfl) (ok__law_skewed F T (kf__law_let D T) (kf__law_put D T) (kf__law_told D T))
theorem kf__law_wide_sum (D : DS K mg h base) (T : Tx K mg) : Fk P w K mg base "_law_wide_sum" 3 P__law_wide_sum (spOf K (TTof K) sp__law_wide_sum) := by
  obtain ⟨fd, F, hm⟩ := D.fun (x := "_law_wide_sum") (nm := "_law_wide_sum") (i := 90) 48 rfl rfl 123 rfl
  exact fk_mk F hm (F.binds (ps := P__law_wide_sum) fun _ _ _ _ _ _ us hl => match us, hl with | [_], _ => rfl) (ok__law_wide_sum F T (kf__law_of D T) (kf__law_take D T))
theorem kf__law_spread_tape (D : DS K mg h base) (T : Tx K mg) : Fk P w K mg base "_law_spread_tape" 3 P__law_spread_tape (spOf K (TTof K) sp__law_spread_tape) := by
  obtain ⟨fd, F, hm⟩ := D.fun (x := "_law_spread_tape") (nm := "_law_spread_tape") (i := 91) 49 rfl rfl 124 rfl
  exact fk_mk F hm (F.binds (ps := P__law_spread_tape) fun _ _ _ _ _ _ us hl => match us, hl with | [_, _, _, _], _ => rfl) (ok__law_spread_tape F T (kf__law_moves D T) (kf__law_of D T) (kf__law_put D T) (kf__law_take D T))
theorem kf__law_corners (D : DS K mg h base) (T : Tx K mg) : Fk P w K mg base "_law_corners" 3 P__law_corners (spOf K (TTof K) sp__law_corners) := by
  obtain ⟨fd, F, hm⟩ := D.fun (x := "_law_corners") (nm := "_law_corners") (i := 92) 50 rfl rfl 125 rfl
  exact fk_mk F hm (F.binds (ps := P__law_corners) fun _ _ _ _ _ _ us hl => match us, hl with | [_, _], _ => rfl) (ok__law_corners F T (kf__law_marked D T) (kf__law_put D T) (kf__law_walked D T))
theorem kf_is_state (D : DS K mg h base) (T : Tx K mg) : Fk P w K mg base "is_state" 4 P_is_state (spOf K (TTof K) sp_is_state) := by
  obtain ⟨fd, F, hm⟩ := D.fun (x := "is_state") (nm := "is_state") (i := 7) 51 rfl rfl 126 rfl
  exact fk_mk F hm (F.binds (ps := P_is_state) fun _ _ _ _ _ _ us hl => match us, hl with | [_, _], _ => rfl) (ok_is_state F T (kf_are_values D T))
theorem kf_holds (D : DS K mg h base) (T : Tx K mg) : Fk P w K mg base "holds" 4 P_holds (spOf K (TTof K) sp_holds) := by
  obtain ⟨fd, F, hm⟩ := D.fun (x := "holds") (nm := "holds") (i := 27) 52 rfl rfl 127 rfl
  exact fk_mk F hm (F.binds (ps := P_holds) fun _ _ _ _ _ _ us hl => match us, hl with | [_, _, _], _ => rfl) (ok_holds F T (kf_accepts D T) (kf_corner_results D T))
theorem kf_run_result (D : DS K mg h base) (T : Tx K mg) : Fk P w K mg base "run_result" 4 P_run_result (spOf K (TTof K) sp_run_result) := by
  obtain ⟨fd, F, hm⟩ := D.fun (x := "run_result") (nm := "run_result") (i := 43) 53 rfl rfl 128 rfl
  exact fk_mk F hm (F.binds (ps := P_run_result) fun _ _ _ _ _ _ us hl => match us, hl with | [_, _, _], _ => rfl) (ok_run_result F T (kf_read_values D T) (kf_result D T))
theorem kf_inversions (D : DS K mg h base) (T : Tx K mg) : Fk P w K mg base "inversions" 4 P_inversions (spOf K (TTof K) sp_inversions) := by
  obtain ⟨fd, F, hm⟩ := D.fun (x := "inversions") (nm := "inversions") (i := 56) 54 rfl rfl 129 rfl
  exact fk_mk F hm (F.binds (ps := P_inversions) fun _ _ _ _ _ _ us hl => match us, hl with | [_, _], _ => rfl) (ok_inversions F T (kf_early_steps D T) (kf_late_steps D T))
theorem kf_exchanges (D : DS K mg h base) (T : Tx K mg) : Fk P w K mg base "exchanges" 4 P_exchanges (spOf K (TTof K) sp_exchanges) := by
  obtain ⟨fd, F, hm⟩ := D.fun (x := "exchanges") (nm := "exchanges") (i := 57) 55 rfl rfl 130 rfl
  exact fk_mk F hm (F.binds (ps := P_exchanges) fun _ _ _ _ _ _ us hl => match us, hl with | [_, _], _ => rfl) (ok_exchanges F T (kf_changed2 D T) (kf_early_steps D T) (kf_late_steps D T) (kf_span D T) (kf_states D T) (kf_steps_with_reads D T))
theorem kf_fits_run (D : DS K mg h base) (T : Tx K mg) : Fk P w K mg base "fits_run" 4 P_fits_run (spOf K (TTof K) sp_fits_run) := by
  obtain ⟨fd, F, hm⟩ := D.fun (x := "fits_run") (nm := "fits_run") (i := 60) 56 rfl rfl 131 rfl
  exact fk_mk F hm (F.binds (ps := P_fits_run) fun _ _ _ _ _ _ us hl => match us, hl with | [_, _, _, _, _], _ => rfl) (ok_fits_run F T (kf_span D T) (kf_states D T) (kf_steps_with_reads D T) (kf_values_ahead D T))
theorem kf__law_function (D : DS K mg h base) (T : Tx K mg) : Fk P w K mg base "_law_function" 4 P__law_function (spOf K (TTof K) sp__law_function) := by
  obtain ⟨fd, F, hm⟩ := D.fun (x := "_law_function") (nm := "_law_function") (i := 68) 57 rfl rfl 132 rfl
  exact fk_mk F hm (F.binds (ps := P__law_function) fun _ _ _ _ _ _ us hl => match us, hl with | [_, _], _ => rfl) (ok__law_function F T (kf__law_number D T) (kf__law_of D T))
theorem kf__law_is_let (D : DS K mg h base) (T : Tx K mg) : Fk P w K mg base "_law_is_let" 4 P__law_is_let (spOf K (TTof K) sp__law_is_let) := by
  obtain ⟨fd, F, hm⟩ := D.fun (x := "_law_is_let") (nm := "_law_is_let") (i := 81) 58 rfl rfl 133 rfl
  exact fk_mk F hm (F.binds (ps := P__law_is_let) fun _ _ _ _ _ _ us hl => match us, hl with | [_, _, _, _], _ => rfl) (ok__law_is_let F T (kf__law_let D T) (kf__law_seen D T) (kf__law_told D T) (kf__law_within D T))
theorem kf__law_is_blame (D : DS K mg h base) (T : Tx K mg) : FkG P w K mg base "_law_is_blame" 4 P__law_is_blame (spOf K (TTof K) sp__law_is_blame) := by
  obtain ⟨fd, F, hm⟩ := D.fun (x := "_law_is_blame") (nm := "_law_is_blame") (i := 86) 59 rfl rfl 134 rfl
  exact ⟨_, fd, ok__law_is_blame F T (kf__law_inverted D T) (kf__law_is_int D T) (kf__law_marked D T) (kf__law_skewed D T) (kf__law_walked D T), hm, F.kp, (F.binds (ps := P__law_is_blame) fun _ _ _ _ _ _ us hl => match us, hl with | [_, _, _, _, _], _ => rfl)⟩
theorem kf__law_reasons_right (D : DS K mg h base) (T : Tx K mg) : Fk P w K mg base "_law_reasons_right" 4 P__law_reasons_right (spOf K (TTof K) sp__law_reasons_right) := by
  obtain ⟨fd, F, hm⟩ := D.fun (x := "_law_reasons_right") (nm := "_law_reasons_right") (i := 87) 60 rfl rfl 135 rfl
  exact fk_mk F hm (F.binds (ps := P__law_reasons_right) fun _ _ _ _ _ _ us hl => match us, hl with | [_, _, _, _, _], _ => rfl) (ok__law_reasons_right F T (kf__law_seen D T) (kf__law_told D T) (kf__law_walked D T))
theorem kf_is_corner (D : DS K mg h base) (T : Tx K mg) : Fk P w K mg base "is_corner" 5 P_is_corner (spOf K (TTof K) sp_is_corner) := by
  obtain ⟨fd, F, hm⟩ := D.fun (x := "is_corner") (nm := "is_corner") (i := 25) 61 rfl rfl 136 rfl
  exact fk_mk F hm (F.binds (ps := P_is_corner) fun _ _ _ _ _ _ us hl => match us, hl with | [_, _], _ => rfl) (ok_is_corner F T (kf_is_part D T) (kf_is_state D T) (kf_reachable D T))
theorem kf_may_begin (D : DS K mg h base) (T : Tx K mg) : Fk P w K mg base "may_begin" 5 P_may_begin (spOf K (TTof K) sp_may_begin) := by
  obtain ⟨fd, F, hm⟩ := D.fun (x := "may_begin") (nm := "may_begin") (i := 35) 62 rfl rfl 137 rfl
  exact fk_mk F hm (F.binds (ps := P_may_begin) fun _ _ _ _ _ _ us hl => match us, hl with | [_, _], _ => rfl) (ok_may_begin F T (kf_is_state D T))
theorem kf_true_moments (D : DS K mg h base) (T : Tx K mg) : Fk P w K mg base "true_moments" 5 P_true_moments (spOf K (TTof K) sp_true_moments) := by
  obtain ⟨fd, F, hm⟩ := D.fun (x := "true_moments") (nm := "true_moments") (i := 46) 63 rfl rfl 138 rfl
  exact fk_mk F hm (F.binds (ps := P_true_moments) fun _ _ _ _ _ _ us hl => match us, hl with | [_, _, _], _ => rfl) (ok_true_moments F T (kf_moments_where D T) (kf_run_result D T) (kf_span_results D T) (D.code (Or.inl rfl) F) D.t_true_moments (List.mem_cons_self ..) D.u_true_moments)
theorem kf_is_accepted (D : DS K mg h base) (T : Tx K mg) : Fk P w K mg base "is_accepted" 5 P_is_accepted (spOf K (TTof K) sp_is_accepted) := by
  obtain ⟨fd, F, hm⟩ := D.fun (x := "is_accepted") (nm := "is_accepted") (i := 47) 64 rfl rfl 139 rfl
  exact fk_mk F hm (F.binds (ps := P_is_accepted) fun _ _ _ _ _ _ us hl => match us, hl with | [_, _, _, _], _ => rfl) (ok_is_accepted F T (kf_accepts D T) (kf_run_result D T) (kf_span_results D T))
theorem kf__law_world (D : DS K mg h base) (T : Tx K mg) : Fk P w K mg base "_law_world" 5 P__law_world (spOf K (TTof K) sp__law_world) := by
  obtain ⟨fd, F, hm⟩ := D.fun (x := "_law_world") (nm := "_law_world") (i := 69) 65 rfl rfl 140 rfl
  exact fk_mk F hm (F.binds (ps := P__law_world) fun _ _ _ _ _ _ us hl => match us, hl with | [_, _, _], _ => rfl) (ok__law_world F T (kf__law_function D T) (kf__law_of D T) (kf__law_take D T) (kf__law_variable D T))
theorem kf_is_run (D : DS K mg h base) (T : Tx K mg) : Fk P w K mg base "is_run" 6 P_is_run (spOf K (TTof K) sp_is_run) := by
  obtain ⟨fd, F, hm⟩ := D.fun (x := "is_run") (nm := "is_run") (i := 36) 66 rfl rfl 141 rfl
  exact fk_mk F hm (F.binds (ps := P_is_run) fun _ _ _ _ _ _ us hl => match us, hl with | [_, _, _], _ => rfl) (ok_is_run F T (kf_changed2 D T) (kf_is_read_event D T) (kf_is_step_event D T) (kf_may_begin D T))
theorem kf_reasons (D : DS K mg h base) (T : Tx K mg) : Fk P w K mg base "reasons" 6 P_reasons (spOf K (TTof K) sp_reasons) := by
  obtain ⟨fd, F, hm⟩ := D.fun (x := "reasons") (nm := "reasons") (i := 48) 67 rfl rfl 142 rfl
  exact fk_mk F hm (F.binds (ps := P_reasons) fun _ _ _ _ _ _ us hl => match us, hl with | [_, _, _, _], _ => rfl) (ok_reasons F T (kf_is_accepted D T) (kf_moments_where D T) (kf_run_result D T) (kf_span_results D T) (kf_true_moments D T) (D.code (Or.inr rfl) F) D.t_reasons (List.mem_cons_of_mem _ (List.mem_cons_self ..)) D.u_reasons)
theorem kf_blame (D : DS K mg h base) (T : Tx K mg) : Fk P w K mg base "blame" 6 P_blame (spOf K (TTof K) sp_blame) := by
  obtain ⟨fd, F, hm⟩ := D.fun (x := "blame") (nm := "blame") (i := 58) 68 rfl rfl 143 rfl
  exact fk_mk F hm (F.binds (ps := P_blame) fun _ _ _ _ _ _ us hl => match us, hl with | [_, _, _, _], _ => rfl) (ok_blame F T (kf_exchanges D T) (kf_holds D T) (kf_is_accepted D T))
theorem kf_shows_blame (D : DS K mg h base) (T : Tx K mg) : Fk P w K mg base "shows_blame" 6 P_shows_blame (spOf K (TTof K) sp_shows_blame) := by
  obtain ⟨fd, F, hm⟩ := D.fun (x := "shows_blame") (nm := "shows_blame") (i := 61) 69 rfl rfl 144 rfl
  exact fk_mk F hm (F.binds (ps := P_shows_blame) fun _ _ _ _ _ _ us hl => match us, hl with | [_, _, _, _, _], _ => rfl) (ok_shows_blame F T (kf_fits_run D T) (kf_holds D T) (kf_inversions D T) (kf_is_corner D T) (kf_is_integer D T) (kf_states D T))
theorem kf__law_shown_right (D : DS K mg h base) (T : Tx K mg) : FkG P w K mg base "_law_shown_right" 7 P__law_shown_right (spOf K (TTof K) sp__law_shown_right) := by
  obtain ⟨fd, F, hm⟩ := D.fun (x := "_law_shown_right") (nm := "_law_shown_right") (i := 88) 70 rfl rfl 145 rfl
  exact ⟨_, fd, ok__law_shown_right F T (kf__law_is_blame D T) (kf__law_is_let D T) (kf__law_reasons_right D T) (kf_blame D T) (kf_is_accepted D T) (kf_reasons D T) (kf_shows_blame D T), hm, F.kp, (F.binds (ps := P__law_shown_right) fun _ _ _ _ _ _ us hl => match us, hl with | [_, _, _, _], _ => rfl)⟩
theorem kf__law_run_right (D : DS K mg h base) (T : Tx K mg) : FkG P w K mg base "_law_run_right" 7 P__law_run_right (spOf K (TTof K) sp__law_run_right) := by
  obtain ⟨fd, F, hm⟩ := D.fun (x := "_law_run_right") (nm := "_law_run_right") (i := 93) 71 rfl rfl 146 rfl
  exact ⟨_, fd, ok__law_run_right F T (kf__law_corners D T) (kf__law_inverted D T) (kf__law_is_blame D T) (kf__law_is_let D T) (kf__law_marked D T) (kf_blame D T) (kf_early_steps D T) (kf_exchanges D T) (kf_inversions D T) (kf_is_run D T) (kf_late_steps D T) (kf_reasons D T) (kf_shows_blame D T), hm, F.kp, (F.binds (ps := P__law_run_right) fun _ _ _ _ _ _ us hl => match us, hl with | [_, _, _], _ => rfl)⟩
theorem kf__law_right (D : DS K mg h base) (T : Tx K mg) : FkG P w K mg base "_law_right" 8 P__law_right (spOf K (TTof K) sp__law_right) := by
  obtain ⟨fd, F, hm⟩ := D.fun (x := "_law_right") (nm := "_law_right") (i := 89) 72 rfl rfl 147 rfl
  exact ⟨_, fd, ok__law_right F T (kf__law_scheme D T) (kf__law_shown_right D T) (kf__law_tape D T) (kf__law_walked D T) (kf__law_world D T) (kf_exchanges D T) (kf_inversions D T) (kf_span D T), hm, F.kp, (F.binds (ps := P__law_right) fun _ _ _ _ _ _ us hl => match us, hl with | [_, _, _], _ => rfl)⟩
theorem kf__law_wide_right (D : DS K mg h base) (T : Tx K mg) : FkG P w K mg base "_law_wide_right" 8 P__law_wide_right (spOf K (TTof K) sp__law_wide_right) := by
  obtain ⟨fd, F, hm⟩ := D.fun (x := "_law_wide_right") (nm := "_law_wide_right") (i := 94) 73 rfl rfl 148 rfl
  exact ⟨_, fd, ok__law_wide_right F T (kf__law_run_right D T) (kf__law_scheme D T) (kf__law_spread_tape D T) (kf__law_take D T) (kf__law_wide_sum D T), hm, F.kp, (F.binds (ps := P__law_wide_right) fun _ _ _ _ _ _ us hl => match us, hl with | [_], _ => rfl)⟩
theorem kf_law (D : DS K mg h base) (T : Tx K mg) : FkG P w K mg base "law" 9 P_law (spLaw K (TTof K)) := by
  obtain ⟨fd, F, hm⟩ := D.fun (x := "law") (nm := "law") (i := 95) 74 rfl rfl 149 rfl
  exact ⟨_, fd, ok_law F T (kf__law_pot D T) (kf__law_right D T) (kf__law_wide_right D T), hm, F.kp, (F.binds (ps := P_law) fun _ _ _ _ _ _ us hl => match us, hl with | [_], _ => rfl)⟩
end
end RS
end
section
set_option maxRecDepth 100000
set_option maxHeartbeats 2000000
namespace RS
open PySem PySem.Spec PyProof.Rows L2 DL
/-! ### the end: the law's call over the head's heap -/
/-- what is tracked at the call: the two tables, the script where the head does not hold it -/
def hp0 (K : PySem.W.Frag) (p q a : Addr) (ob : Obj) (xs : List V) : Hp := fun b =>
  if b = p ∨ b = q then some (.tbl #[]) else if b = a ∧ K.lookup a = none then some (.frz ob (.lst xs)) else none
section
variable {w : World} {K : PySem.W.Frag} {mg mb : Str → Option Value} {h : Heap} {p q c d a : Addr} {ob : Obj} {xs : List V}
theorem hp0_p : hp0 K p q a ob xs p = some (.tbl #[]) := if_pos (.inl rfl)
theorem hp0_q : hp0 K p q a ob xs q = some (.tbl #[]) := if_pos (.inr rfl)
theorem hp0_cases (b : Addr) : ((b = p ∨ b = q) ∧ hp0 K p q a ob xs b = some (.tbl #[])) ∨ (b = a ∧ K.lookup a = none ∧ hp0 K p q a ob xs b = some (.frz ob (.lst xs))) ∨ hp0 K p q a ob xs b = none := by
  by_cases e : b = p ∨ b = q
  · exact .inl ⟨e, if_pos e⟩
  · by_cases e2 : b = a ∧ K.lookup a = none
    · exact .inr (.inl ⟨e2.1, e2.2, (if_neg e).trans (if_pos e2)⟩)
    · exact .inr (.inr ((if_neg e).trans (if_neg e2)))
/-- the head's heap, as the law's call finds it -/
structure Gd (K : PySem.W.Frag) (mg mb : Str → Option Value) (h : Heap) (p q a : Addr) (ob : Obj) (xs : List V) : Prop where
  X : K.In h
  g : h.Ns mainGlobals mg
  b : h.Ns builtinsNs mb
  bb : ∀ x : Str, x ≠ "__name__" → mb x = bootBuiltins x
  lim : h.NoLimit
  bm : ∃ (m : Addr) (o : Obj), mg "__builtins__" = some (.ref m) ∧ m ≠ builtinsNs ∧ h.get? m = some o ∧ o.cls = .type "module" ∧ o.dict = some builtinsNs ∧ o.data = .plain
  ep : h.get? p = tb0
  eq : h.get? q = tb0
  np : K.lookup p = none
  nq : K.lookup q = none
  ea : h.get? a = some ob
  sq : ∃ (its : Array Value) (n : Nat), ob.data = .seq its n
variable (D : Gd K mg mb h p q a ob xs)
include D
theorem Gd.tb {b : Addr} (e : b = p ∨ b = q) : h.get? b = tb0 := by
  rcases e with rfl | rfl
  · exact D.ep
  · exact D.eq
/-- neither a list nor an empty table: not tracked -/
theorem Gd.free {b : Addr} {o : Obj} (e : h.get? b = some o) (h1 : o.data ≠ .fields #[]) (h2 : ∀ its n, o.data ≠ .seq its n) : hp0 K p q a ob xs b = none := by
  rcases hp0_cases (K := K) (p := p) (q := q) (a := a) (ob := ob) (xs := xs) b with ⟨z, _⟩ | ⟨rfl, _, _⟩ | z
  · have t := e.symm.trans (D.tb z)
    cases t
    exact absurd rfl h1
  · have t := e.symm.trans D.ea
    cases t
    obtain ⟨its, n, t⟩ := D.sq
    exact absurd t (h2 _ _)
  · exact z
theorem Gd.freeK {b : Addr} {o : Obj} (e : K.lookup b = some o) : hp0 K p q a ob xs b = none := by
  rcases hp0_cases (K := K) (p := p) (q := q) (a := a) (ob := ob) (xs := xs) b with ⟨z, _⟩ | ⟨rfl, z, _⟩ | z
  · rcases z with rfl | rfl
    · rw [D.np] at e
      cases e
    · rw [D.nq] at e
      cases e
  · rw [z] at e
    cases e
  · exact z
theorem Gd.ns {b : Addr} {m : Str → Option Value} (z : h.Ns b m) : (hidT h (hp0 K p q a ob xs)).Ns b m := by
  obtain ⟨o, es, n, e, t, r⟩ := z
  refine ⟨o, es, n, hidT_get e (D.free e ?_ fun its k => ?_), t, r⟩ <;> rw [t] <;> intro z <;> cases z
theorem Gd.kin : K.In (hidT h (hp0 K p q a ob xs)) := fun b o e => hidT_get (D.X b o e) (D.freeK e)
theorem Gd.mod : L2.Mod K mg (hidT h (hp0 K p q a ob xs)) := by
  obtain ⟨mc, l1, l2⟩ := D.lim
  exact ⟨D.kin, D.ns D.g, ⟨mb, D.ns D.b, D.bb⟩, ⟨mc, D.ns l1, l2⟩⟩
theorem Gd.tabB {r : Addr} (C : PySem.W.CodeHd h c r) (hr : r = p ∨ r = q) : LamX.TabB (hidT h (hp0 K p q a ob xs)) mg c r := by
  have er := D.tb hr
  refine ⟨?_, ?_, ?_⟩
  · obtain ⟨o, us, file, tf, flags, tg, inF, text, tt, e, k1, k2, k3, k⟩ := C
    refine ⟨o, us, file, tf, flags, tg, inF, text, tt, hidT_get e (D.free e ?_ fun its n => ?_), k1, k2, k3, k⟩
    · rw [k2]
      intro z
      cases z
      cases k3
    · rw [k2]
      intro z
      cases z
  · obtain ⟨m, o, k1, k2, k3, k4, k5, k6⟩ := D.bm
    refine ⟨m, o, k1, k2, ?_, ?_, hidT_get k3 (D.free k3 ?_ fun its n => ?_), k4, k5, k6⟩
    · rintro rfl
      obtain ⟨o', es, n, e, t, _⟩ := D.g
      rw [k3] at e
      cases e
      rw [k6] at t
      cases t
    · rintro rfl
      rw [k3] at er
      cases er
      cases k6
    · rw [k6]
      intro z
      cases z
    · rw [k6]
      intro z
      cases z
  · rintro rfl
    obtain ⟨o', es, n, e, t, _⟩ := D.g
    rw [er] at e
    cases e
    cases t
end
/-- the call -/
theorem law_end {P : Program} {w : World} {K : PySem.W.Frag} {mg mb : Str → Option Value} {s : Shared} {fa a c d : Addr} {fd : FuncData} {vs : List Value} {ns : List Int}
    (D : Gd K mg mb s.heap (tbOf K "true_moments") (tbOf K "reasons") a { cls := .type "list", data := .seq vs.toArray } (ns.map V.int)) (hg : s.gens = #[]) (hi : IntsAre vs ns) (hl : ns.length ≤ 63)
    (C1 : PySem.W.CodeHd s.heap c (tbOf K "true_moments")) (C2 : PySem.W.CodeHd s.heap d (tbOf K "reasons"))
    (F : ∀ base : Heap, LamX.TabB base mg c (tbOf K "true_moments") → LamX.TabB base mg d (tbOf K "reasons") → FnG P w K mg base 9 fa fd P_law (spLaw K (TTof K)) ∧ ∀ (s' : Shared) (u : Value), BindsTo s' fd ⟨[u], []⟩ (P_law.zip [u])) :
    codeAny (model P w) callerA (.call (.ref fa) ⟨[.ref a], []⟩) (fun r s' => r = .ok (.ret (.bool true)) ∧ OldK s.heap s'.heap ∧ s'.os = s.os ∧ AllBare s'.gens) s := by
  have hlx : (ns.map V.int).length ≤ sizeLine := by
    rw [List.length_map]
    exact Nat.le_trans hl (by decide)
  have rv := vals_ints hi
  obtain ⟨FG, hb⟩ := F _ (D.tabB C1 (.inl rfl)) (D.tabB C2 (.inr rfl))
  have hok : HOk P w (hp0 K (tbOf K "true_moments") (tbOf K "reasons") a { cls := .type "list", data := .seq vs.toArray } (ns.map V.int)) s.heap := by
    intro b u e
    rcases hp0_cases (K := K) (p := tbOf K "true_moments") (q := tbOf K "reasons") (a := a) (ob := { cls := .type "list", data := .seq vs.toArray }) (xs := ns.map V.int) b with ⟨z, y⟩ | ⟨rfl, _, y⟩ | y
    · cases y.symm.trans e
      exact D.tb z
    · cases y.symm.trans e
      exact ⟨D.ea, hlx, vs, _, rv, D.ea⟩
    · cases y.symm.trans e
  have env : Env0 P w K mg (hidT s.heap (hp0 K (tbOf K "true_moments") (tbOf K "reasons") a { cls := .type "list", data := .seq vs.toArray } (ns.map V.int))) callerA [] s (hp0 K (tbOf K "true_moments") (tbOf K "reasons") a { cls := .type "list", data := .seq vs.toArray } (ns.map V.int)) :=
    { frames := rfl, mod := D.mod, bs := fun b o e => of_hidT e, bsz := Nat.le_of_eq (hidT_size _ _), funs := trivial, frf := (fun b z => absurd (show b ∈ ([] : List Addr) from z) (by simp)), hok := hok, bare := .of_eq hg }
  have hS : SqL K (hp0 K (tbOf K "true_moments") (tbOf K "reasons") a { cls := .type "list", data := .seq vs.toArray } (ns.map V.int)) a (ns.map V.int) := by
    cases e : K.lookup a with
    | some o =>
      have t := (D.X a o e).symm.trans D.ea
      cases t
      refine .inr ⟨_, vs.toArray, _, e, rfl, rfl, rfl, ?_, by simpa using rv⟩
      rw [List.size_toArray, ← rv.length]
      exact hlx
    | none =>
      rcases hp0_cases (K := K) (p := tbOf K "true_moments") (q := tbOf K "reasons") (a := a) (ob := { cls := .type "list", data := .seq vs.toArray }) (xs := ns.map V.int) a with ⟨z, y⟩ | ⟨_, _, y⟩ | y
      · have t := D.ea.symm.trans (D.tb z)
        cases t
      · exact .inl (.inr ⟨_, y⟩)
      · exfalso
        unfold hp0 at y
        split at y
        · cases y
        · rw [if_pos ⟨rfl, e⟩] at y
          cases y
  refine codeAny_mono (FG.run callerA [] s _ ⟨[.ref a], []⟩ [.ref a] [.ref a] (fun v _ => v = .bl true) (fun _ _ _ => False) ⟨rfl, by decide, by decide⟩ rfl env (hb s (.ref a)) (.cons rfl .nil) ⟨a, ns, rfl, hS, hl, ?_, fun _ => rfl⟩) ?_
  · intro r hr
    rcases List.mem_cons.mp hr with rfl | hr
    · exact LamX.TabS.nil hp0_p
    · rcases List.mem_cons.mp hr with rfl | hr
      · exact LamX.TabS.nil hp0_q
      · cases hr
  · intro r s' z
    match r, z with
    | .error e, z => exact False.elim z
    | .ok .next, z => exact False.elim z
    | .ok .brk, z => exact False.elim z
    | .ok .cont, z => exact False.elim z
    | .ok (.ret u), z =>
      obtain ⟨v, H', os, bare, un, ok', ru, rfl⟩ := z
      obtain rfl : u = Value.bool true := ru
      have tbs : ∀ b, b = tbOf K "true_moments" ∨ b = tbOf K "reasons" → ∃ more : Array Value, s'.heap.get? b = some { cls := .none, data := .fields more } := by
        intro b e
        have t : hp0 K (tbOf K "true_moments") (tbOf K "reasons") a { cls := .type "list", data := .seq vs.toArray } (ns.map V.int) b = some (.tbl #[]) := if_pos e
        obtain ⟨more, y⟩ := un.tbls b #[] t
        exact ⟨_, ok' b _ y⟩
      have rest : ∀ b o, ¬ (b = tbOf K "true_moments" ∨ b = tbOf K "reasons") → s.heap.get? b = some o → s'.heap.get? b = some o := by
        intro b o n e
        rcases hp0_cases (K := K) (p := tbOf K "true_moments") (q := tbOf K "reasons") (a := a) (ob := { cls := .type "list", data := .seq vs.toArray }) (xs := ns.map V.int) b with ⟨z, _⟩ | ⟨rfl, _, y⟩ | y
        · exact absurd z n
        · cases e.symm.trans D.ea
          exact (ok' _ _ (un.frzs _ _ _ y)).1
        · exact un.keep b o e y (fun z => absurd (show b ∈ ([] : List Addr) from z) (by simp)) (by simp)
      have ct : ∀ b, b = tbOf K "true_moments" ∨ b = tbOf K "reasons" → isCodeTable s.heap b := by
        rintro b (rfl | rfl)
        · exact (C1.tab D.ep).isCodeTable
        · exact (C2.tab D.eq).isCodeTable
      refine ⟨rfl, ⟨fun b o e => ?_, fun b o e => ?_⟩, os, bare⟩
      · by_cases z : b = tbOf K "true_moments" ∨ b = tbOf K "reasons"
        · obtain ⟨more, y⟩ := tbs b z
          cases e.symm.trans (D.tb z)
          exact .inr (.inl ⟨ct b z, rfl, #[], more, rfl, by rw [Array.empty_append]; exact y⟩)
        · exact .inl (rest b o z e)
      · by_cases z : b = tbOf K "true_moments" ∨ b = tbOf K "reasons"
        · obtain ⟨more, y⟩ := tbs b z
          exact ⟨_, y⟩
        · exact ⟨o, rest b o z e⟩
theorem law_walk {q : Program} {loose : List Str} {XP : (Str → Option Value) → Heap → Prop} {d : DefRec} (hdf : d.params.defaults = []) (hn : d.name = ("law" : Str)) :
    PySem.W.WalkO q loose XP hkX.says (PySem.W.OpenLaw.row PySem.Challenge.rw_readskew_k82_whole_runs_shown_or_blamed).toRowW d [] (fun f vs => PySem.call f vs) := by
  refine Att.attach_callB (n := 63) rfl hdf fun w s₀ s₁ mg mb fa o pm cd doc a vs ns G Y ho hd hcd hmg hobj hints hlen hbits hg => ?_
  obtain ⟨K, X, c, e, t1, t2⟩ := Y
  obtain ⟨c1, h1, n1⟩ := cdB_of (exS e).c1
  obtain ⟨c2, h2, n2⟩ := cdB_of (exS e).c2
  have D : Gd K mg mb s₁.heap (tbOf K "true_moments") (tbOf K "reasons") a { cls := .type "list", data := .seq vs.toArray } (ns.map V.int) :=
    { X := X, g := G.T.g, b := G.T.b, bb := G.T.builtins, lim := G.T.nolimit, bm := G.T.bmain, ep := t1, eq := t2, np := n1, nq := n2, ea := hobj, sq := ⟨_, _, rfl⟩ }
  have bm : ∀ base, LamX.TabB base mg (cdOf K "true_moments") (tbOf K "true_moments") → LamX.TabB base mg (cdOf K "reasons") (tbOf K "reasons") → DS K mg s₁.heap base := fun base b1 b2 => ⟨X, G.T.g, c, e, b1, b2⟩
  obtain ⟨fd, F, hm⟩ := (bm _ (D.tabB (PySem.W.codeHd_of_K X h1) (.inl rfl)) (D.tabB (PySem.W.codeHd_of_K X h2) (.inr rfl))).fun (x := "law") (nm := "law") (i := 95) 74 rfl rfl 149 rfl
  rw [hn] at hmg
  obtain rfl : fa = He.ga K "law" := by
    have z := hmg.symm.trans hm
    injection z with z
    injection z
  refine law_end (fd := fd) D hg hints hlen (PySem.W.codeHd_of_K X h1) (PySem.W.codeHd_of_K X h2) fun base b1 b2 => ⟨?_, fun s' u => ?_⟩
  · have E := bm base b1 b2
    exact ok_law F E.tx (kf__law_pot E E.tx) (kf__law_right E E.tx) (kf__law_wide_right E E.tx)
  · obtain ⟨oc, od, kV, doc, pm, an, cdv, ct, osl, rfl, lk, hcd⟩ := F.ex
    exact .of_eq rfl
end RS
open PySem PySem.W PySem.Calls PyProof.Rows
theorem PySem.Challenge.cw_readskew_k82_whole_runs_shown_or_blamed_holds : PySem.Challenge.rw_readskew_k82_whole_runs_shown_or_blamed.Holds := by
  w_on; o_law
  refine HandSHeadRun.head_any (r := RS.RW) (q := view RS.RW.prog [95]) (H := RS.hkX) (ob := RS.obT) (M := 20000) (loose := RS.nms) (d := HandSHeadRun.topDef RS.RW.prog 95) (kwd := []) RS.obT_eq
    (by kernel_rfl) (fun s => by kernel_rfl) RS.run (by kernel_rfl) (by kernel_rfl) (by kernel_rfl) (by rfl) (by first | assumption | decide +kernel) (by decide +kernel) ⟨rfl, rfl, rfl, rfl, rfl, by decide +kernel⟩ ?hw ?hc
  case hw => w_witness2
  case hc => exact RS.law_walk (by kernel_rfl) (by kernel_rfl)
end
