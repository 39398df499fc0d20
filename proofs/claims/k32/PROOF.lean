import PyProof.Rows.All
import Wide.All
import OpenK.AllK
import Wide.FinOn
import HandS.ForMost
import HandS.Exc
import HandS.TryOnly
import HandS.ExcOwn
import HandS.WordsExc
import HandS.HeadHook1
import KE.GoesEnum
import KE.GoesZip
import KE.GoesMore
import HandS.Wide
import HandS.IsInst
import PyProof.ReprRoads
import HandS.Style
import HandS.EndBits
import HandS.More
import HandS.ExcInit
import HandS.ExcField
import HandS.ExcIs
import HandS.Head0
import HandS.Head1
import HandS.Head2
import HandS.HeadEnd
import HandS.HeadHook2
import HandS.HeadNt
import KE.KExcIs
import HandS.Star
import PySem.Challenge.RW_lampstays_k32_least_examples
import KE.SortData
import HandS.CallLocal
import HandS.Set
import HandS.SetFor
import HandS.SortInts
import HandS.Iter
import PyProof.ListRange
import HandS.Conv
import HandS.SortRule
import KE.DataMinMax
import HandS.Deep
import HandS.TupMul
set_option Elab.async false
set_option linter.all false
set_option autoImplicit false
set_option maxRecDepth 100000
set_option maxHeartbeats 0
/-! text DLa -/
/-! DL: a layer of data over HandS: values as trees, lists that a def owns, one world of mutable things that is told by a state. -/
namespace DL
open PySem PySem.Spec PyProof.Rows L2

/-- data; op: a thing known by its value alone; vw: a look at a list that the def at hand owns -/
inductive D where
  | non | bl (b : Bool) | int (i : Int) | str (s : Str)
  | tup (xs : List D) | lst (xs : List D) | dct (kvs : List (Key × D)) | op (v : V) | fn (x : Str) | vw (xs : List D)
  /-- a list of ints that is read alone (the script) -/
  | scr (ns : List Int)

/-- the mutable things: a state, where they stand, what is true of them -/
structure Wld where
  M : Type
  reg : M → Addr → Prop
  J : M → Hp → Hp → Prop
  held : ∀ {μ S H a}, J μ S H → reg μ a → H a ≠ none
  loc : ∀ {μ S S' H H'}, J μ S H → Same S S' → (∀ a, reg μ a → H' a = H a) → J μ S' H'
/-- nothing is told there -/
def Fr (H : Hp) (a : Addr) : Prop := H a = none ∨ ∃ _ : Array Value, False
/-- (no condition: kept for the shape of older proofs) -/
def NT (_ : HO) : Prop := ∀ _ : Array Value, False → False
theorem NT.all {o : HO} : NT o := fun _ h => h
theorem Fr.nt {H : Hp} {a : Addr} {o : HO} {p : Prop} (f : Fr H a) (e : H a = some o) (_ : NT o := by intro _ h; cases h) : p := by
  rcases f with f | ⟨_, f⟩
  · rw [e] at f; cases f
  · exact f.elim
theorem Fr.no {H : Hp} {a : Addr} (f : Fr H a) : H a = none := by
  rcases f with f | ⟨_, f⟩
  · exact f
  · exact f.elim
theorem Fr.of {H : Hp} {a : Addr} (h : ∀ o, H a = some o → ¬ NT o) : Fr H a := by
  cases e : H a with
  | none => exact .inl e
  | some o => exact absurd NT.all (h _ e)

section
variable (K : PySem.W.Frag) (rg : Addr → Prop)
mutual
def Rd (S H : Hp) : D → V → Prop
  | .non, v => v = .non
  | .bl b, v => v = .bl b
  | .int i, v => v = .int i
  | .str s, v => v = .str s
  | .tup xs, v => ∃ a vs, v = .ref a ∧ SqT K S a vs ∧ RdL S H xs vs
  | .lst xs, v => ∃ a vs, v = .ref a ∧ S a = some (.lst vs) ∧ RdL S H xs vs
  | .dct kvs, v => ∃ a ws, v = .ref a ∧ S a = some (.dK ws) ∧ RdK S H kvs ws
  | .op x, v => v = x
  | .fn x, v => v = .ref (He.ga K x)
  | .scr ns, v => ∃ a, v = .ref a ∧ SqL K S a (ns.map V.int)
  | .vw xs, v => ∃ a vs, v = .ref a ∧ ¬ rg a ∧ H a = some (.lst vs) ∧ RdL S H xs vs
def RdL (S H : Hp) : List D → List V → Prop
  | [], vs => vs = []
  | d :: ds, vs => ∃ v r, vs = v :: r ∧ Rd S H d v ∧ RdL S H ds r
def RdK (S H : Hp) : List (Key × D) → List (Key × V) → Prop
  | [], vs => vs = []
  | (k, d) :: ds, vs => ∃ v r, vs = (k, v) :: r ∧ Rd S H d v ∧ RdK S H ds r
end
end

/-! no look at an owned list within -/
mutual
def sta : D → Bool
  | .tup xs => staL xs
  | .lst xs => staL xs
  | .dct kvs => staK kvs
  | .vw _ => false
  | .non => true | .bl _ => true | .int _ => true | .str _ => true | .op _ => true | .fn _ => true | .scr _ => true
def staL : List D → Bool
  | [] => true
  | d :: ds => sta d && staL ds
def staK : List (Key × D) → Bool
  | [] => true
  | (_, d) :: ds => sta d && staK ds
end

section
variable {K : PySem.W.Frag} {rg rg' : Addr → Prop} {S S' H H' : Hp}
theorem seqT_mono {a : Addr} {xs : List V} (e : Same S S') (h : SqT K S a xs) : SqT K S' a xs := by
  rcases h with (h | ⟨o, h⟩) | h
  · exact .inl (.inl (e _ _ h))
  · exact .inl (.inr ⟨o, e _ _ h⟩)
  · exact .inr h
theorem seqL_mono {a : Addr} {xs : List V} (e : Same S S') (h : SqL K S a xs) : SqL K S' a xs := e.seq h
/-! what is read stays, where the stable part grows and owned lists stay (the owned ones need only be there where there is a look) -/
mutual
theorem Rd.mono (e : Same S S') (k : ∀ a vs, ¬ rg a → H a = some (.lst vs) → ¬ rg' a ∧ H' a = some (.lst vs)) : ∀ (d : D) (v : V), Rd K rg S H d v → Rd K rg' S' H' d v
  | .non, _, h => h
  | .bl _, _, h => h
  | .int _, _, h => h
  | .str _, _, h => h
  | .op _, _, h => h
  | .fn _, _, h => h
  | .scr ns, _, h => by
    obtain ⟨a, e1, h1⟩ := h
    exact ⟨a, e1, e.seq h1⟩
  | .tup xs, _, h => by
    obtain ⟨a, vs, e1, h1, h2⟩ := h
    exact ⟨a, vs, e1, seqT_mono e h1, RdL.mono e k xs vs h2⟩
  | .lst xs, _, h => by
    obtain ⟨a, vs, e1, h1, h2⟩ := h
    exact ⟨a, vs, e1, e _ _ h1, RdL.mono e k xs vs h2⟩
  | .dct kvs, _, h => by
    obtain ⟨a, vs, e1, h1, h2⟩ := h
    exact ⟨a, vs, e1, e _ _ h1, RdK.mono e k kvs vs h2⟩
  | .vw xs, _, h => by
    obtain ⟨a, vs, e1, h0, h1, h2⟩ := h
    exact ⟨a, vs, e1, (k _ _ h0 h1).1, (k _ _ h0 h1).2, RdL.mono e k xs vs h2⟩
theorem RdL.mono (e : Same S S') (k : ∀ a vs, ¬ rg a → H a = some (.lst vs) → ¬ rg' a ∧ H' a = some (.lst vs)) : ∀ (ds : List D) (vs : List V), RdL K rg S H ds vs → RdL K rg' S' H' ds vs
  | [], _, h => h
  | d :: ds, _, h => by
    obtain ⟨v, r, e1, h1, h2⟩ := h
    exact ⟨v, r, e1, Rd.mono e k d v h1, RdL.mono e k ds r h2⟩
theorem RdK.mono (e : Same S S') (k : ∀ a vs, ¬ rg a → H a = some (.lst vs) → ¬ rg' a ∧ H' a = some (.lst vs)) : ∀ (ds : List (Key × D)) (vs : List (Key × V)), RdK K rg S H ds vs → RdK K rg' S' H' ds vs
  | [], _, h => h
  | (k', d) :: ds, _, h => by
    obtain ⟨v, r, e1, h1, h2⟩ := h
    exact ⟨v, r, e1, Rd.mono e k d v h1, RdK.mono e k ds r h2⟩
end
/-! stable data leans on the stable part alone -/
mutual
theorem Rd.sta (e : Same S S') : ∀ (d : D) (v : V), sta d = true → Rd K rg S H d v → Rd K rg' S' H' d v
  | .non, _, _, h => h
  | .bl _, _, _, h => h
  | .int _, _, _, h => h
  | .str _, _, _, h => h
  | .op _, _, _, h => h
  | .fn _, _, _, h => h
  | .scr ns, _, _, h => by
    obtain ⟨a, e1, h1⟩ := h
    exact ⟨a, e1, e.seq h1⟩
  | .tup xs, _, t, h => by
    obtain ⟨a, vs, e1, h1, h2⟩ := h
    exact ⟨a, vs, e1, seqT_mono e h1, RdL.sta e xs vs (by simpa only [DL.sta] using t) h2⟩
  | .lst xs, _, t, h => by
    obtain ⟨a, vs, e1, h1, h2⟩ := h
    exact ⟨a, vs, e1, e _ _ h1, RdL.sta e xs vs (by simpa only [DL.sta] using t) h2⟩
  | .dct kvs, _, t, h => by
    obtain ⟨a, vs, e1, h1, h2⟩ := h
    exact ⟨a, vs, e1, e _ _ h1, RdK.sta e kvs vs (by simpa only [DL.sta] using t) h2⟩
  | .vw _, _, t, _ => by simp [DL.sta] at t
theorem RdL.sta (e : Same S S') : ∀ (ds : List D) (vs : List V), staL ds = true → RdL K rg S H ds vs → RdL K rg' S' H' ds vs
  | [], _, _, h => h
  | d :: ds, _, t, h => by
    obtain ⟨v, r, e1, h1, h2⟩ := h
    simp only [staL, Bool.and_eq_true] at t
    exact ⟨v, r, e1, Rd.sta e d v t.1 h1, RdL.sta e ds r t.2 h2⟩
theorem RdK.sta (e : Same S S') : ∀ (ds : List (Key × D)) (vs : List (Key × V)), staK ds = true → RdK K rg S H ds vs → RdK K rg' S' H' ds vs
  | [], _, _, h => h
  | (k', d) :: ds, _, t, h => by
    obtain ⟨v, r, e1, h1, h2⟩ := h
    simp only [staK, Bool.and_eq_true] at t
    exact ⟨v, r, e1, Rd.sta e d v t.1 h1, RdK.sta e ds r t.2 h2⟩
end
theorem RdL.length : ∀ {ds : List D} {vs : List V}, RdL K rg S H ds vs → vs.length = ds.length
  | [], _, h => by cases h; rfl
  | d :: ds, _, h => by
    obtain ⟨v, r, e1, h1, h2⟩ := h
    rw [e1, List.length_cons, List.length_cons, RdL.length h2]
theorem RdL.get : ∀ {ds : List D} {vs : List V} {i : Nat} {d : D}, RdL K rg S H ds vs → ds[i]? = some d → ∃ v, vs[i]? = some v ∧ Rd K rg S H d v
  | [], _, _, _, _, e => by simp at e
  | d :: ds, _, 0, _, h, e => by
    obtain ⟨v, r, e1, h1, h2⟩ := h
    simp at e; subst e; subst e1
    exact ⟨v, rfl, h1⟩
  | d :: ds, _, i + 1, d', h, e => by
    obtain ⟨v, r, e1, h1, h2⟩ := h
    subst e1
    obtain ⟨v', q1, q2⟩ := RdL.get (i := i) (d := d') h2 (by simpa using e)
    exact ⟨v', by simpa using q1, q2⟩
theorem RdL.getV : ∀ {ds : List D} {vs : List V} {i : Nat} {v : V}, RdL K rg S H ds vs → vs[i]? = some v → ∃ d, ds[i]? = some d ∧ Rd K rg S H d v
  | [], _, _, _, h, e => by cases h; simp at e
  | d :: ds, _, 0, _, h, e => by
    obtain ⟨v, r, e1, h1, h2⟩ := h
    subst e1
    simp at e; subst e
    exact ⟨d, rfl, h1⟩
  | d :: ds, _, i + 1, v', h, e => by
    obtain ⟨v, r, e1, h1, h2⟩ := h
    subst e1
    obtain ⟨d', q1, q2⟩ := RdL.getV (i := i) (v := v') h2 (by simpa using e)
    exact ⟨d', by simpa using q1, q2⟩
theorem RdL.append : ∀ {ds es : List D} {vs ws : List V}, RdL K rg S H ds vs → RdL K rg S H es ws → RdL K rg S H (ds ++ es) (vs ++ ws)
  | [], _, _, _, h, g => by cases h; exact g
  | d :: ds, _, _, _, h, g => by
    obtain ⟨v, r, e1, h1, h2⟩ := h
    subst e1
    exact ⟨v, _, rfl, h1, RdL.append h2 g⟩
theorem RdL.one {d : D} {v : V} (h : Rd K rg S H d v) : RdL K rg S H [d] [v] := ⟨v, [], rfl, h, rfl⟩
theorem RdL.take : ∀ {ds : List D} {vs : List V} (n : Nat), RdL K rg S H ds vs → RdL K rg S H (ds.take n) (vs.take n)
  | _, _, 0, _ => by simp [RdL]
  | [], _, _ + 1, h => by cases h; simp [RdL]
  | d :: ds, _, n + 1, h => by
    obtain ⟨v, r, e1, h1, h2⟩ := h
    subst e1
    exact ⟨v, _, rfl, h1, RdL.take n h2⟩
theorem RdL.drop : ∀ {ds : List D} {vs : List V} (n : Nat), RdL K rg S H ds vs → RdL K rg S H (ds.drop n) (vs.drop n)
  | _, _, 0, h => h
  | [], _, _ + 1, h => by cases h; simp [RdL]
  | d :: ds, _, n + 1, h => by
    obtain ⟨v, r, e1, h1, h2⟩ := h
    subst e1
    exact RdL.drop n h2
theorem RdL.reverse : ∀ {ds : List D} {vs : List V}, RdL K rg S H ds vs → RdL K rg S H ds.reverse vs.reverse
  | [], _, h => by cases h; simp [RdL]
  | d :: ds, _, h => by
    obtain ⟨v, r, e1, h1, h2⟩ := h
    subst e1
    rw [List.reverse_cons, List.reverse_cons]
    exact (RdL.reverse h2).append (.one h1)
theorem staL_all : ∀ {ds : List D}, staL ds = true ↔ ∀ d ∈ ds, DL.sta d = true
  | [] => by simp [staL]
  | d :: ds => by simp [staL, staL_all]
theorem staL_append {ds es : List D} (h : staL ds = true) (g : staL es = true) : staL (ds ++ es) = true := by
  rw [staL_all] at *
  intro d hd
  rcases List.mem_append.mp hd with q | q
  · exact h d q
  · exact g d q
theorem staL_sub {ds es : List D} (h : staL ds = true) (g : ∀ d ∈ es, d ∈ ds) : staL es = true := by
  rw [staL_all] at *
  exact fun d hd => h d (g d hd)
end

/-! ### the state of the run -/
section
variable (Z : Wld)
structure Ok (μ : Z.M) (S H : Hp) : Prop where
  sub : Same S H
  j : Z.J μ S H
  off : ∀ a, Z.reg μ a → S a = none
  nt : ∀ a o, S a = some o → NT o
structure Ext (μ : Z.M) (S H : Hp) (μ' : Z.M) (S' H' : Hp) : Prop where
  ok : Ok Z μ' S' H'
  keep : ∀ a o, ¬ Z.reg μ a → NT o → H a = some o → H' a = some o
  same : Same S S'
  new : ∀ a, S' a ≠ none → S a ≠ none ∨ Fr H a
  reg : ∀ a, Z.reg μ' a → Z.reg μ a ∨ Fr H a
  there : ∀ a, Fr H' a → Fr H a
end
section
variable {Z : Wld} {μ μ' μ'' : Z.M} {S H S' H' S'' H'' : Hp}
theorem Ext.refl (h : Ok Z μ S H) : Ext Z μ S H μ S H := ⟨h, fun _ _ _ _ e => e, fun _ _ e => e, fun _ e => .inl e, fun _ e => .inl e, fun _ e => e⟩
theorem Ext.trans (x : Ext Z μ S H μ' S' H') (y : Ext Z μ' S' H' μ'' S'' H'') : Ext Z μ S H μ'' S'' H'' where
  ok := y.ok
  keep := fun a o n nt e => y.keep a o (fun r => by
    rcases x.reg a r with q | q
    · exact n q
    · exact q.nt e nt) nt (x.keep a o n nt e)
  same := x.same.trans y.same
  new := fun a e => by
    rcases y.new a e with q | q
    · exact x.new a q
    · exact .inr (x.there a q)
  reg := fun a e => by
    rcases y.reg a e with q | q
    · exact x.reg a q
    · exact .inr (x.there a q)
  there := fun a e => x.there a (y.there a e)
theorem fr_upd {H : Hp} {p : Addr} {o : HO} (n : H p = none) {a : Addr} (f : Fr (upd H p o) a) : Fr H a := by
  by_cases h : a = p
  · rw [h]; exact .inl n
  · unfold Fr at f; rw [upd_ne h] at f; exact f
/-- a new stable object -/
theorem Ok.put (x : Ok Z μ S H) {p : Addr} {o : HO} (n : H p = none) (ho : NT o := by intro _ h; cases h) : Ext Z μ S H μ (upd S p o) (upd H p o) := by
  have nS : S p = none := by
    cases q : S p with
    | none => rfl
    | some u => rw [x.sub p u q] at n; cases n
  have nr : ∀ a, Z.reg μ a → a ≠ p := fun a r e => by
    have := Z.held x.j r
    rw [e] at this
    exact this n
  have sm : Same S (upd S p o) := fun a u e => by rw [upd_ne (ne_of_none e nS)]; exact e
  refine ⟨⟨fun a u e => ?_, Z.loc x.j sm fun a r => upd_ne (nr a r), fun a r => ?_, fun a u e => by
    by_cases h : a = p
    · rw [h, upd_same] at e; cases e; exact ho
    · rw [upd_ne h] at e; exact x.nt a u e⟩, fun a u _ _ e => ?_, sm, fun a e => ?_, fun a r => .inl r, fun a e => fr_upd n e⟩
  · by_cases h : a = p
    · subst h; rw [upd_same] at e ⊢; exact e
    · rw [upd_ne h] at e ⊢; exact x.sub a u e
  · rw [upd_ne (nr a r)]; exact x.off a r
  · rw [upd_ne (ne_of_none e n)]; exact e
  · by_cases h : a = p
    · subst h; exact .inr (.inl n)
    · rw [upd_ne h] at e; exact .inl e
/-- a new object that is not stable (owned) -/
theorem Ok.putOwn (x : Ok Z μ S H) {p : Addr} {o : HO} (n : H p = none) : Ext Z μ S H μ S (upd H p o) := by
  have nS : S p = none := by
    cases q : S p with
    | none => rfl
    | some u => rw [x.sub p u q] at n; cases n
  have nr : ∀ a, Z.reg μ a → a ≠ p := fun a r e => by
    have := Z.held x.j r
    rw [e] at this
    exact this n
  refine ⟨⟨fun a u e => ?_, Z.loc x.j (Same.refl S) fun a r => upd_ne (nr a r), fun a r => x.off a r, x.nt⟩, fun a u _ _ e => ?_, fun a u e => e, fun a e => .inl e, fun a r => .inl r, fun a e => fr_upd n e⟩
  · have h := x.sub a u e
    rw [upd_ne (ne_of_none h n)]; exact h
  · rw [upd_ne (ne_of_none e n)]; exact e
/-- an object that stands and is neither stable nor of the region is from now on stable -/
theorem Ok.freeze (x : Ok Z μ S H) {p : Addr} {o : HO} (n : H p = some o) (nr : ¬ Z.reg μ p) (ho : NT o := by intro _ h; cases h) : Ok Z μ (upd S p o) H := by
  have sm : Same S (upd S p o) := fun a u e => by
    by_cases h : a = p
    · subst h; rw [upd_same]; rw [← n]; exact x.sub a u e
    · rw [upd_ne h]; exact e
  refine ⟨fun a u e => ?_, Z.loc x.j sm fun _ _ => rfl, fun a r => ?_, fun a u e => by
    by_cases h : a = p
    · rw [h, upd_same] at e; cases e; exact ho
    · rw [upd_ne h] at e; exact x.nt a u e⟩
  · by_cases h : a = p
    · subst h; rw [upd_same] at e; rw [n]; exact e
    · rw [upd_ne h] at e; exact x.sub a u e
  · rw [upd_ne (fun e => nr (by rw [← e]; exact r))]; exact x.off a r
end
end DL
/-! text DLb -/
/-! DL, second part: slots, judgements, the rules of plain expressions. -/
namespace DL
open PySem PySem.Spec PyProof.Rows L2

/-- an exception as data: its class, its field if it has one -/
structure Xc where
  cls : Str
  fs : List (Str × D)
/-- a built-in class of exceptions -/
def bexc (x : Str) : Option String :=
  if x = "ValueError" then some "ValueError" else if x = "TypeError" then some "TypeError" else if x = "KeyError" then some "KeyError" else if x = "ZeroDivisionError" then some "ZeroDivisionError" else none
/-- the class of that name -/
def clsV (K : PySem.W.Frag) (x : Str) : Value := match bexc x with
  | some t => .type t
  | none => .ref (He.ga K x)
def vCls (K : PySem.W.Frag) (x : Str) : V := match bexc x with
  | some t => .ty t
  | none => .ref (He.ga K x)
section
variable (K : PySem.W.Frag) (rg : Addr → Prop)
def RdF (S H : Hp) : List (Str × D) → List (Str × V) → Prop
  | [], vs => vs = []
  | (k, d) :: ds, vs => ∃ v r, vs = (k, v) :: r ∧ sta d = true ∧ Rd K rg S H d v ∧ RdF S H ds r
def XcR (S H : Hp) (x : Xc) (cls : Value) (d : Option Addr) : Prop :=
  cls = clsV K x.cls ∧ ((x.fs = [] ∧ d = none) ∨ ∃ dd ws, d = some dd ∧ H dd = some (.xd ws) ∧ S dd = some (.xd ws) ∧ RdF K rg S H x.fs ws)
end

inductive Slot where
  | un | val (d : D) | own (xs : List D)
  /-- a caught exception: where it stands, its class, its dict, what it is -/
  | exc (a : Addr) (cls : Value) (d : Option Addr) (y : Xc)
abbrev Rho := List Slot

/-- where an owned list may not stand -/
abbrev fb (Z : Wld) (B : Hp) (μ : Z.M) : Addr → Prop := fun a => Z.reg μ a ∨ ¬ Fr B a
section
variable (K : PySem.W.Frag) (Z : Wld) (B : Hp)
def SlotR (μ : Z.M) (S H : Hp) : Slot → Option V → Prop
  | .un, _ => True
  | .val d, o => ∃ v, o = some v ∧ sta d = true ∧ Rd K (fb Z B μ) S H d v
  | .own xs, o => ∃ a vs, o = some (.ref a) ∧ H a = some (.lst vs) ∧ S a = none ∧ ¬ fb Z B μ a ∧ staL xs = true ∧ RdL K (fb Z B μ) S H xs vs
  | .exc a cls d y, o => o = some (.ref a) ∧ XcR K (fb Z B μ) S H y cls d
/-- B: the heap at the def's entry -/
structure EnvR (μ : Z.M) (S H : Hp) (ρ : Rho) (σ : L2.St) : Prop where
  len : σ.length = ρ.length
  get : ∀ (i : Nat) (s : Slot), ρ[i]? = some s → ∃ o, σ[i]? = some o ∧ SlotR K Z B μ S H s o
  apart : ∀ (i j : Nat) (xs ys : List D) (a : Addr), ρ[i]? = some (.own xs) → ρ[j]? = some (.own ys) → σ[i]? = some (some (.ref a)) → σ[j]? = some (some (.ref a)) → i = j
  dom : ∀ a, Fr H a → Fr B a
end

section
variable {K : PySem.W.Frag} {Z : Wld} {B : Hp} {μ μ' : Z.M} {S S' H H' : Hp} {ρ : Rho} {σ : L2.St}
theorem Ext.lst (x : Ext Z μ S H μ' S' H') : ∀ (a : Addr) (vs : List V), ¬ fb Z B μ a → H a = some (.lst vs) → ¬ fb Z B μ' a ∧ H' a = some (.lst vs) := fun a vs n e => by
  refine ⟨fun r => ?_, x.keep a _ (fun z => n (.inl z)) (fun _ h => by cases h) e⟩
  rcases r with r | r
  · rcases x.reg a r with q | q
    · exact n (.inl q)
    · exact q.nt e
  · exact n (.inr r)
theorem Rd.ext (x : Ext Z μ S H μ' S' H') {d : D} {v : V} (h : Rd K (fb Z B μ) S H d v) : Rd K (fb Z B μ') S' H' d v := h.mono x.same x.lst
theorem RdL.ext (x : Ext Z μ S H μ' S' H') {d : List D} {v : List V} (h : RdL K (fb Z B μ) S H d v) : RdL K (fb Z B μ') S' H' d v := h.mono x.same x.lst
theorem RdF.ext (x : Ext Z μ S H μ' S' H') : ∀ {fs : List (Str × D)} {ws : List (Str × V)}, RdF K (fb Z B μ) S H fs ws → RdF K (fb Z B μ') S' H' fs ws
  | [], _, h => h
  | (k, d) :: fs, _, h => by
    obtain ⟨v, r, e, t, h1, h2⟩ := h
    exact ⟨v, r, e, t, h1.ext x, RdF.ext x h2⟩
theorem XcR.ext (x : Ext Z μ S H μ' S' H') {y : Xc} {cls : Value} {d : Option Addr} (h : XcR K (fb Z B μ) S H y cls d) : XcR K (fb Z B μ') S' H' y cls d := by
  obtain ⟨h1, h2⟩ := h
  refine ⟨h1, h2.imp id ?_⟩
  rintro ⟨dd, ws, q1, q2, q3, q4⟩
  exact ⟨dd, ws, q1, x.ok.sub _ _ (x.same _ _ q3), x.same _ _ q3, RdF.ext x q4⟩
theorem RdF.sta {K : PySem.W.Frag} {rg rg' : Addr → Prop} {S H H' : Hp} : ∀ {fs : List (Str × D)} {ws : List (Str × V)}, RdF K rg S H fs ws → RdF K rg' S H' fs ws
  | [], _, h => h
  | (k, d) :: fs, _, h => by
    obtain ⟨v, r, e, t, h1, h2⟩ := h
    exact ⟨v, r, e, t, h1.sta (Same.refl S) _ _ t, h2.sta⟩
theorem SlotR.ext (x : Ext Z μ S H μ' S' H') {s : Slot} {o : Option V} (h : SlotR K Z B μ S H s o) : SlotR K Z B μ' S' H' s o := by
  cases s with
  | un => trivial
  | val d =>
    obtain ⟨v, e, t, r⟩ := h
    exact ⟨v, e, t, r.ext x⟩
  | own xs =>
    obtain ⟨a, vs, e, h1, h2, h3, h4, h5⟩ := h
    refine ⟨a, vs, e, (x.lst a vs h3 h1).2, ?_, (x.lst a vs h3 h1).1, h4, h5.ext x⟩
    cases q : S' a with
    | none => rfl
    | some o =>
      rcases x.new a (by rw [q]; simp) with z | z
      · exact absurd h2 z
      · exact z.nt h1
  | exc a cls d y => exact ⟨h.1, h.2.ext x⟩
theorem EnvR.ext (x : Ext Z μ S H μ' S' H') (h : EnvR K Z B μ S H ρ σ) : EnvR K Z B μ' S' H' ρ σ :=
  ⟨h.len, fun i s e => let ⟨o, q1, q2⟩ := h.get i s e; ⟨o, q1, q2.ext x⟩, h.apart, fun a e => h.dom a (x.there a e)⟩
/-- what was owned elsewhere is from now on stable -/
theorem Ext.frz (x : Ext Z μ S H μ' S' H') {p : Addr} {o : HO} (n : Fr H p) (e : H' p = some o) (nr : ¬ Z.reg μ' p) (ho : NT o := by intro _ h; cases h) : Ext Z μ S H μ' (upd S' p o) H' := by
  refine ⟨x.ok.freeze e nr ho, x.keep, fun a u q => ?_, fun a q => ?_, x.reg, x.there⟩
  · have h := x.same a u q
    have h0 := x.ok.sub a u h
    by_cases hp : a = p
    · subst hp; rw [upd_same]; rw [e] at h0; exact h0
    · rw [upd_ne hp]; exact h
  · by_cases hp : a = p
    · subst hp; exact .inr n
    · rw [upd_ne hp] at q; exact x.new a q
end

/-! ### the judgements -/
section
variable (Z : Wld)
abbrev DT0 (M : Type) := Rho → M → (D → M → Prop) → (Xc → M → Prop) → Prop
abbrev DTA0 (M : Type) := Rho → M → (List D → M → Prop) → (Xc → M → Prop) → Prop
abbrev DTT0 (M : Type) := Rho → M → (Bool → M → Prop) → (Xc → M → Prop) → Prop
abbrev DT := DT0 Z.M
abbrev DTA := DTA0 Z.M
abbrev DTT := DTT0 Z.M
end
/-- contexts that differ in nothing that a rule asks -/
structure Fm where
  ι : Type
  X : ι → Cx
  K : PySem.W.Frag
  hK : ∀ i, (X i).K = K
section
variable (Z : Wld) (F : Fm) (W : WX)
/-- what a wish for exceptions is worth -/
def Wish (B : Hp) (μ : Z.M) (S H : Hp) (σ : L2.St) (E : Xc → Z.M → Prop) : Prop :=
  ∀ (x : Xc) (μ' : Z.M) (S' H' : Hp) (cls : Value) (d : Option Addr), Ext Z μ S H μ' S' H' → XcR F.K (fb Z B μ') S' H' x cls d → E x μ' → W cls d σ H'
def DE (e : Expr) (t : DT Z) : Prop := ∃ te : TE, (∀ i, PE (F.X i) e te) ∧ ∀ (B : Hp) (ρ : Rho) (σ : L2.St) (μ : Z.M) (S H : Hp) (R : D → Z.M → Prop) (E : Xc → Z.M → Prop) (Q : VK),
  EnvR F.K Z B μ S H ρ σ → Ok Z μ S H → t ρ μ R E → Wish Z F W B μ S H σ E →
  (∀ (v : V) (d : D) (μ' : Z.M) (S' H' : Hp), Ext Z μ S H μ' S' H' → Rd F.K (fb Z B μ') S' H' d v → R d μ' → Q v H') → te σ H Q
def DA (es : List Expr) (t : DTA Z) : Prop := ∃ te : TA, (∀ i, PA (F.X i) es te) ∧ ∀ (B : Hp) (ρ : Rho) (σ : L2.St) (μ : Z.M) (S H : Hp) (R : List D → Z.M → Prop) (E : Xc → Z.M → Prop) (Q : List V → Hp → Prop),
  EnvR F.K Z B μ S H ρ σ → Ok Z μ S H → t ρ μ R E → Wish Z F W B μ S H σ E →
  (∀ (v : List V) (d : List D) (μ' : Z.M) (S' H' : Hp), Ext Z μ S H μ' S' H' → RdL F.K (fb Z B μ') S' H' d v → d.length = es.length → R d μ' → Q v H') → te σ H Q
def DB (e : Expr) (t : DTT Z) : Prop := ∃ te : TT, (∀ i, PT (F.X i) e te) ∧ ∀ (B : Hp) (ρ : Rho) (σ : L2.St) (μ : Z.M) (S H : Hp) (R : Bool → Z.M → Prop) (E : Xc → Z.M → Prop) (Q : Bool → Hp → Prop),
  EnvR F.K Z B μ S H ρ σ → Ok Z μ S H → t ρ μ R E → Wish Z F W B μ S H σ E →
  (∀ (b : Bool) (μ' : Z.M) (S' H' : Hp), Ext Z μ S H μ' S' H' → R b μ' → Q b H') → te σ H Q
def DW (e : Expr) (t : DTT Z) : Prop := ∃ te : TT, (∀ i, PW (F.X i) e te) ∧ ∀ (B : Hp) (ρ : Rho) (σ : L2.St) (μ : Z.M) (S H : Hp) (R : Bool → Z.M → Prop) (E : Xc → Z.M → Prop) (Q : Bool → Hp → Prop),
  EnvR F.K Z B μ S H ρ σ → Ok Z μ S H → t ρ μ R E → Wish Z F W B μ S H σ E →
  (∀ (b : Bool) (μ' : Z.M) (S' H' : Hp), Ext Z μ S H μ' S' H' → R b μ' → Q b H') → te σ H Q
/-- an expression that gives a new list -/
def DF (e : Expr) (t : DTA Z) : Prop := ∃ te : TE, (∀ i, PE (F.X i) e te) ∧ ∀ (B : Hp) (ρ : Rho) (σ : L2.St) (μ : Z.M) (S H : Hp) (R : List D → Z.M → Prop) (E : Xc → Z.M → Prop) (Q : VK),
  EnvR F.K Z B μ S H ρ σ → Ok Z μ S H → t ρ μ R E → Wish Z F W B μ S H σ E →
  (∀ (a : Addr) (vs : List V) (ds : List D) (μ' : Z.M) (S' H' : Hp), Ext Z μ S H μ' S' H' → Fr H a → H' a = some (.lst vs) → S' a = none → ¬ fb Z B μ' a → RdL F.K (fb Z B μ') S' H' ds vs → R ds μ' → Q (.ref a) H') → te σ H Q
end
section
variable {Z : Wld} {F : Fm} {W : WX} {B : Hp} {μ μ' : Z.M} {S H S' H' : Hp} {σ : L2.St} {E : Xc → Z.M → Prop}
theorem Wish.ext (h : Wish Z F W B μ S H σ E) (x : Ext Z μ S H μ' S' H') : Wish Z F W B μ' S' H' σ E := fun y μ2 S2 H2 cls d x2 => h y μ2 S2 H2 cls d (x.trans x2)
end

/-! ### readings by data -/
section
variable {Z : Wld}
def dVar {M : Type} (i : Nat) : DT0 M := fun ρ μ R _ => match ρ[i]? with
  | some (.val d) => R d μ
  | some (.own xs) => R (.vw xs) μ
  | _ => False
def dC {M : Type} (d : D) : DT0 M := fun _ μ R _ => R d μ
/-- an operator's answer by data alone -/
abbrev Sm2 := D → D → (D → Prop) → Prop
abbrev Sm1 := D → (D → Prop) → Prop
abbrev SmL := List D → (D → Prop) → Prop
def d2 {M : Type} (sm : Sm2) (ta tb : DT0 M) : DT0 M := fun ρ μ R E => ta ρ μ (fun a μ1 => tb ρ μ1 (fun b μ2 => sm a b fun d => R d μ2) E) E
def d1 {M : Type} (sm : Sm1) (ta : DT0 M) : DT0 M := fun ρ μ R E => ta ρ μ (fun a μ1 => sm a fun d => R d μ1) E
def dL {M : Type} (sm : SmL) (ta : DTA0 M) : DT0 M := fun ρ μ R E => ta ρ μ (fun a μ1 => sm a fun d => R d μ1) E
def dNil {M : Type} : DTA0 M := fun _ μ R _ => R [] μ
def dCons {M : Type} (ta : DT0 M) (tr : DTA0 M) : DTA0 M := fun ρ μ R E => ta ρ μ (fun a μ1 => tr ρ μ1 (fun as μ2 => R (a :: as) μ2) E) E
def dB {M : Type} (ta : DT0 M) : DTT0 M := fun ρ μ R E => ta ρ μ (fun d μ1 => ∃ b, d = .bl b ∧ R b μ1) E
def dAnd {M : Type} (t u : DTT0 M) : DTT0 M := fun ρ μ R E => t ρ μ (fun c μ1 => if c = true then u ρ μ1 R E else R false μ1) E
def dOr {M : Type} (t u : DTT0 M) : DTT0 M := fun ρ μ R E => t ρ μ (fun c μ1 => if c = true then R true μ1 else u ρ μ1 R E) E
def dNot {M : Type} (t : DTT0 M) : DTT0 M := fun ρ μ R E => t ρ μ (fun c μ1 => R (!c) μ1) E
def dAndV {M : Type} (ta tb : DT0 M) : DT0 M := fun ρ μ R E => ta ρ μ (fun d μ1 => ∃ c, d = .bl c ∧ if c = true then tb ρ μ1 R E else R (.bl false) μ1) E
def dOrV {M : Type} (ta tb : DT0 M) : DT0 M := fun ρ μ R E => ta ρ μ (fun d μ1 => ∃ c, d = .bl c ∧ if c = true then R (.bl true) μ1 else tb ρ μ1 R E) E
def dNotV {M : Type} (ta : DT0 M) : DT0 M := fun ρ μ R E => ta ρ μ (fun d μ1 => ∃ c, d = .bl c ∧ R (.bl (!c)) μ1) E
def dIf {M : Type} (t : DTT0 M) (ta tb : DT0 M) : DT0 M := fun ρ μ R E => t ρ μ (fun c μ1 => if c = true then ta ρ μ1 R E else tb ρ μ1 R E) E
def dChain {M : Type} (sm sm' : Sm2) (ta tb tc : DT0 M) : DT0 M := fun ρ μ R E => ta ρ μ (fun a μ1 => tb ρ μ1 (fun b μ2 => sm a b fun d => ∃ k, d = .bl k ∧
  if k = true then tc ρ μ2 (fun c μ3 => sm' b c fun d' => R d' μ3) E else R (.bl false) μ2) E) E
def dTup {M : Type} (ta : DTA0 M) : DT0 M := fun ρ μ R E => ta ρ μ (fun ds μ1 => ds.length ≤ sizeLine ∧ R (.tup ds) μ1) E
def dLst {M : Type} (ta : DTA0 M) : DTA0 M := fun ρ μ R E => ta ρ μ (fun ds μ1 => ds.length ≤ sizeLine ∧ R ds μ1) E
/-- a new list, kept as it is -/
def dFrz {M : Type} (ta : DTA0 M) : DT0 M := fun ρ μ R E => ta ρ μ (fun ds μ1 => R (.lst ds) μ1) E
def truD : D → Option Bool
  | .non => some false
  | .bl b => some b
  | .int i => some (i != 0)
  | .str s => if s.length ≤ sizeLine then some ((s.length : Int) != 0) else none
  | .tup xs => some (!xs.isEmpty)
  | .lst xs => some (!xs.isEmpty)
  | .vw xs => some (!xs.isEmpty)
  | .dct kvs => some (!kvs.isEmpty)
  | .op _ => none
  | .fn _ => none
  | .scr ns => some (!ns.isEmpty)
def dTru {M : Type} (ta : DT0 M) : DTT0 M := fun ρ μ R E => ta ρ μ (fun d μ1 => ∃ b, truD d = some b ∧ R b μ1) E
end

section
variable {Z : Wld} {F : Fm} {W : WX} {e a b c : Expr} {es rest : List Expr} {ta tb tc : DT Z} {tA tR : DTA Z} {t u : DTT Z} {pos : Pos}
theorem dx_var {i : Nat} {x : Str} (h : ∀ j, PE (F.X j) (.Name x pos) (tVar i)) : DE Z F W (.Name x pos) (dVar i) := by
  refine ⟨_, h, fun B ρ σ μ S H R E Q env ok h hE hQ => ?_⟩
  have hv : dVar i ρ μ R E = (match ρ[i]? with | some (.val d) => R d μ | some (.own xs) => R (.vw xs) μ | _ => False) := rfl
  rw [hv] at h
  cases q : ρ[i]? with
  | none => rw [q] at h; exact h.elim
  | some s =>
    rw [q] at h
    obtain ⟨o, e1, e2⟩ := env.get i s q
    cases s with
    | un => exact h.elim
    | val d =>
      obtain ⟨v, rfl, _, r⟩ := e2
      exact ⟨v, e1, hQ v d μ S H (.refl ok) r h⟩
    | own xs =>
      obtain ⟨p, vs, rfl, h1, h2, h3, h4, h5⟩ := e2
      exact ⟨_, e1, hQ _ (.vw xs) μ S H (.refl ok) ⟨p, vs, rfl, h3, h1, h5⟩ h⟩
    | exc a cls d y => exact h.elim
theorem dx_c {v : V} {d : D} (h : ∀ j, PE (F.X j) e (tC v)) (r : ∀ rg S H, Rd F.K rg S H d v) : DE Z F W e (dC d) :=
  ⟨_, h, fun B ρ σ μ S H R E Q env ok h hE hQ => hQ v d μ S H (.refl ok) (r _ _ _) h⟩
theorem dx_int {i : Int} {j} : DE Z F W (.Constant (.int i) j pos) (dC (.int i)) := dx_c (fun _ => pe_int) fun _ _ _ => rfl
theorem dx_bl {i : Bool} {j} : DE Z F W (.Constant (.bool i) j pos) (dC (.bl i)) := dx_c (fun _ => pe_bl) fun _ _ _ => rfl
theorem dx_non {j} : DE Z F W (.Constant .none j pos) (dC .non) := dx_c (fun _ => pe_non) fun _ _ _ => rfl
theorem dx_str {x : Str} {j} : DE Z F W (.Constant (.str x) j pos) (dC (.str x)) := dx_c (fun _ => pe_str) fun _ _ _ => rfl

/-- an operator by data -/
def OpD (Z : Wld) (F : Fm) (f : Value → Value → Sem Value) (sm : Sm2) : Prop := ∃ r : R2, (∀ i, OpR (F.X i) f r) ∧
  ∀ (rg : Addr → Prop) (μ : Z.M) (S H : Hp) (a b : D) (x y : V) (R : D → Prop) (Q : VK), Ok Z μ S H → Rd F.K rg S H a x → Rd F.K rg S H b y → sm a b R →
    (∀ (v : V) (d : D) (S' H' : Hp), Ext Z μ S H μ S' H' → Rd F.K rg S' H' d v → R d → Q v H') → r x y H Q
def UnD (Z : Wld) (F : Fm) (f : Value → Sem Value) (sm : Sm1) : Prop := ∃ r : V → Hp → VK → Prop, (∀ i, UnR (F.X i) f r) ∧
  ∀ (rg : Addr → Prop) (μ : Z.M) (S H : Hp) (a : D) (x : V) (R : D → Prop) (Q : VK), Ok Z μ S H → Rd F.K rg S H a x → sm a R →
    (∀ (v : V) (d : D) (S' H' : Hp), Ext Z μ S H μ S' H' → Rd F.K rg S' H' d v → R d → Q v H') → r x H Q
def CallD (Z : Wld) (F : Fm) (f : Value) (sm : SmL) : Prop := ∃ r : List V → Hp → VK → Prop, (∀ i, CallR (F.X i) f r) ∧
  ∀ (rg : Addr → Prop) (μ : Z.M) (S H : Hp) (as : List D) (xs : List V) (R : D → Prop) (Q : VK), Ok Z μ S H → RdL F.K rg S H as xs → sm as R →
    (∀ (v : V) (d : D) (S' H' : Hp), Ext Z μ S H μ S' H' → Rd F.K rg S' H' d v → R d → Q v H') → r xs H Q
theorem dx_op {op : Operator} {sm : Sm2} (ho : OpD Z F (binaryOp op) sm) (ha : DE Z F W a ta) (hb : DE Z F W b tb) : DE Z F W (.BinOp a op b pos) (d2 sm ta tb) := by
  obtain ⟨ta', pa, ha⟩ := ha
  obtain ⟨tb', pb, hb⟩ := hb
  obtain ⟨r, pr, hr⟩ := ho
  refine ⟨_, fun i => pe_op (pr i) (pa i) (pb i), fun B ρ σ μ S H R E Q env ok h hE hQ => ?_⟩
  refine ha B ρ σ μ S H _ E _ env ok h hE fun v d μ1 S1 H1 x1 r1 h1 => ?_
  refine hb B ρ σ μ1 S1 H1 _ E _ (env.ext x1) x1.ok h1 (hE.ext x1) fun v2 dd μ2 S2 H2 x2 r2 h2 => ?_
  exact hr (fb Z B _) μ2 S2 H2 d dd v v2 _ Q x2.ok (r1.ext x2) r2 h2 fun v3 d3 S3 H3 x3 r3 h3 => hQ v3 d3 μ2 S3 H3 (x1.trans (x2.trans x3)) r3 h3
theorem dx_un {op : UnaryOp} {sm : Sm1} (ho : UnD Z F (unaryOp op) sm) (ha : DE Z F W a ta) : DE Z F W (.UnaryOp op a pos) (d1 sm ta) := by
  obtain ⟨ta', pa, ha⟩ := ha
  obtain ⟨r, pr, hr⟩ := ho
  refine ⟨_, fun i => pe_un (pr i) (pa i), fun B ρ σ μ S H R E Q env ok h hE hQ => ?_⟩
  refine ha B ρ σ μ S H _ E _ env ok h hE fun v d μ1 S1 H1 x1 r1 h1 => ?_
  exact hr (fb Z B _) μ1 S1 H1 d v _ Q x1.ok r1 h1 fun v3 d3 S3 H3 x3 r3 h3 => hQ v3 d3 μ1 S3 H3 (x1.trans x3) r3 h3
theorem dx_cmp {op : CmpOp} {sm : Sm2} (ho : OpD Z F (compareOp op) sm) (ha : DE Z F W a ta) (hb : DE Z F W b tb) (hm : behindInMarks op b = false) : DE Z F W (.Compare a [op] [b] pos) (d2 sm ta tb) := by
  obtain ⟨ta', pa, ha⟩ := ha
  obtain ⟨tb', pb, hb⟩ := hb
  obtain ⟨r, pr, hr⟩ := ho
  refine ⟨_, fun i => pe_cmpR (pr i) (pa i) (pb i) hm, fun B ρ σ μ S H R E Q env ok h hE hQ => ?_⟩
  refine ha B ρ σ μ S H _ E _ env ok h hE fun v d μ1 S1 H1 x1 r1 h1 => ?_
  refine hb B ρ σ μ1 S1 H1 _ E _ (env.ext x1) x1.ok h1 (hE.ext x1) fun v2 dd μ2 S2 H2 x2 r2 h2 => ?_
  exact hr (fb Z B _) μ2 S2 H2 d dd v v2 _ Q x2.ok (r1.ext x2) r2 h2 fun v3 d3 S3 H3 x3 r3 h3 => hQ v3 d3 μ2 S3 H3 (x1.trans (x2.trans x3)) r3 h3
theorem Rd.bl_inv {rg : Addr → Prop} {S H : Hp} {k : Bool} {v : V} (h : Rd F.K rg S H (.bl k) v) : v = .bl k := h
theorem db_cmp {op : CmpOp} {sm : Sm2} (ho : OpD Z F (compareOp op) sm) (ha : DE Z F W a ta) (hb : DE Z F W b tb) (hm : behindInMarks op b = false) : DB Z F W (.Compare a [op] [b] pos) (dB (d2 sm ta tb)) := by
  obtain ⟨ta', pa, ha⟩ := ha
  obtain ⟨tb', pb, hb⟩ := hb
  obtain ⟨r, pr, hr⟩ := ho
  refine ⟨_, fun i => pt_cmpR (pr i) (pa i) (pb i) hm, fun B ρ σ μ S H R E Q env ok h hE hQ => ?_⟩
  refine ha B ρ σ μ S H _ E _ env ok h hE fun v d μ1 S1 H1 x1 r1 h1 => ?_
  refine hb B ρ σ μ1 S1 H1 _ E _ (env.ext x1) x1.ok h1 (hE.ext x1) fun v2 dd μ2 S2 H2 x2 r2 h2 => ?_
  refine hr (fb Z B _) μ2 S2 H2 d dd v v2 _ _ x2.ok (r1.ext x2) r2 h2 fun v3 d3 S3 H3 x3 r3 h3 => ?_
  obtain ⟨k, rfl, h3⟩ := h3
  exact ⟨k, r3, hQ k μ2 S3 H3 (x1.trans (x2.trans x3)) h3⟩
theorem dx_chain {op op' : CmpOp} {sm sm' : Sm2} (ho : OpD Z F (compareOp op) sm) (ho' : OpD Z F (compareOp op') sm') (ha : DE Z F W a ta) (hb : DE Z F W b tb) (hc : DE Z F W c tc)
    (hm : lastMarks [op, op'] [b, c] = false) : DE Z F W (.Compare a [op, op'] [b, c] pos) (dChain sm sm' ta tb tc) := by
  obtain ⟨ta', pa, ha⟩ := ha
  obtain ⟨tb', pb, hb⟩ := hb
  obtain ⟨tc', pc, hc⟩ := hc
  obtain ⟨r, pr, hr⟩ := ho
  obtain ⟨r', pr', hr'⟩ := ho'
  refine ⟨_, fun i => pe_chain (pr i) (pr' i) (pa i) (pb i) (pc i) hm, fun B ρ σ μ S H R E Q env ok h hE hQ => ?_⟩
  refine ha B ρ σ μ S H _ E _ env ok h hE fun v d μ1 S1 H1 x1 r1 h1 => ?_
  refine hb B ρ σ μ1 S1 H1 _ E _ (env.ext x1) x1.ok h1 (hE.ext x1) fun v2 dd μ2 S2 H2 x2 r2 h2 => ?_
  have x12 := x1.trans x2
  refine hr (fb Z B _) μ2 S2 H2 d dd v v2 _ _ x2.ok (r1.ext x2) r2 h2 fun v3 d3 S3 H3 x3 r3 h3 => ?_
  obtain ⟨k, rfl, h3⟩ := h3
  have x123 := x12.trans x3
  refine ⟨k, r3, ?_⟩
  cases k with
  | false => exact hQ _ (.bl false) μ2 S3 H3 x123 rfl h3
  | true =>
    refine hc B ρ σ μ2 S3 H3 _ E _ (env.ext x123) x3.ok h3 (hE.ext x123) fun v4 d4 μ4 S4 H4 x4 r4 h4 => ?_
    exact hr' (fb Z B _) μ4 S4 H4 dd d4 v2 v4 _ Q x4.ok (r2.ext (x3.trans x4)) r4 h4 fun v5 d5 S5 H5 x5 r5 h5 => hQ v5 d5 μ4 S5 H5 (x123.trans (x4.trans x5)) r5 h5
theorem db_chain {op op' : CmpOp} {sm sm' : Sm2} (ho : OpD Z F (compareOp op) sm) (ho' : OpD Z F (compareOp op') sm') (ha : DE Z F W a ta) (hb : DE Z F W b tb) (hc : DE Z F W c tc)
    (hm : lastMarks [op, op'] [b, c] = false) : DB Z F W (.Compare a [op, op'] [b, c] pos) (dB (dChain sm sm' ta tb tc)) := by
  obtain ⟨ta', pa, ha⟩ := ha
  obtain ⟨tb', pb, hb⟩ := hb
  obtain ⟨tc', pc, hc⟩ := hc
  obtain ⟨r, pr, hr⟩ := ho
  obtain ⟨r', pr', hr'⟩ := ho'
  refine ⟨_, fun i => pt_chain (pr i) (pr' i) (pa i) (pb i) (pc i) hm, fun B ρ σ μ S H R E Q env ok h hE hQ => ?_⟩
  refine ha B ρ σ μ S H _ E _ env ok h hE fun v d μ1 S1 H1 x1 r1 h1 => ?_
  refine hb B ρ σ μ1 S1 H1 _ E _ (env.ext x1) x1.ok h1 (hE.ext x1) fun v2 dd μ2 S2 H2 x2 r2 h2 => ?_
  have x12 := x1.trans x2
  refine hr (fb Z B _) μ2 S2 H2 d dd v v2 _ _ x2.ok (r1.ext x2) r2 h2 fun v3 d3 S3 H3 x3 r3 h3 => ?_
  obtain ⟨k, rfl, h3⟩ := h3
  have x123 := x12.trans x3
  refine ⟨k, r3, ?_⟩
  cases k with
  | false =>
    obtain ⟨k2, e2, h3⟩ := h3
    cases e2
    exact ⟨_, rfl, hQ false μ2 S3 H3 x123 h3⟩
  | true =>
    refine hc B ρ σ μ2 S3 H3 _ E _ (env.ext x123) x3.ok h3 (hE.ext x123) fun v4 d4 μ4 S4 H4 x4 r4 h4 => ?_
    refine hr' (fb Z B _) μ4 S4 H4 dd d4 v2 v4 _ _ x4.ok (r2.ext (x3.trans x4)) r4 h4 fun v5 d5 S5 H5 x5 r5 h5 => ?_
    obtain ⟨k5, rfl, h5⟩ := h5
    exact ⟨k5, r5, hQ k5 μ4 S5 H5 (x123.trans (x4.trans x5)) h5⟩

/-! ### and, or, not, if -/
theorem dw_and1 (ha : DB Z F W a t) : DW Z F W (.BoolOp .And [a] pos) t := let ⟨te, p, h⟩ := ha; ⟨te, fun i => pw_and1 (p i), h⟩
theorem dw_or1 (ha : DB Z F W a t) : DW Z F W (.BoolOp .Or [a] pos) t := let ⟨te, p, h⟩ := ha; ⟨te, fun i => pw_or1 (p i), h⟩
theorem dw_and (ha : DB Z F W a t) (hb : DW Z F W (.BoolOp .And (b :: rest) pos) u) : DW Z F W (.BoolOp .And (a :: b :: rest) pos) (dAnd t u) := by
  obtain ⟨ta', pa, ha⟩ := ha
  obtain ⟨tb', pb, hb⟩ := hb
  refine ⟨_, fun i => pw_and (pa i) (pb i), fun B ρ σ μ S H R E Q env ok h hE hQ => ?_⟩
  refine ha B ρ σ μ S H _ E _ env ok h hE fun k μ1 S1 H1 x1 h1 => ?_
  cases k with
  | true => exact hb B ρ σ μ1 S1 H1 _ E _ (env.ext x1) x1.ok h1 (hE.ext x1) fun k2 μ2 S2 H2 x2 h2 => hQ k2 μ2 S2 H2 (x1.trans x2) h2
  | false => exact hQ false μ1 S1 H1 x1 h1
theorem dw_or (ha : DB Z F W a t) (hb : DW Z F W (.BoolOp .Or (b :: rest) pos) u) : DW Z F W (.BoolOp .Or (a :: b :: rest) pos) (dOr t u) := by
  obtain ⟨ta', pa, ha⟩ := ha
  obtain ⟨tb', pb, hb⟩ := hb
  refine ⟨_, fun i => pw_or (pa i) (pb i), fun B ρ σ μ S H R E Q env ok h hE hQ => ?_⟩
  refine ha B ρ σ μ S H _ E _ env ok h hE fun k μ1 S1 H1 x1 h1 => ?_
  cases k with
  | false => exact hb B ρ σ μ1 S1 H1 _ E _ (env.ext x1) x1.ok h1 (hE.ext x1) fun k2 μ2 S2 H2 x2 h2 => hQ k2 μ2 S2 H2 (x1.trans x2) h2
  | true => exact hQ true μ1 S1 H1 x1 h1
theorem dw_b (h : DW Z F W e t) : DB Z F W e t := let ⟨te, p, h⟩ := h; ⟨te, fun i => (p i).pt, h⟩
theorem db_not (ha : DB Z F W a t) : DB Z F W (.UnaryOp .Not a pos) (dNot t) := by
  obtain ⟨ta', pa, ha⟩ := ha
  exact ⟨_, fun i => pt_not (pa i), fun B ρ σ μ S H R E Q env ok h hE hQ => ha B ρ σ μ S H _ E _ env ok h hE fun k μ1 S1 H1 x1 h1 => hQ (!k) μ1 S1 H1 x1 h1⟩
theorem db_val (ha : DE Z F W a ta) (he : ∀ i whole, isTrue a (F.X i).env whole = (do let v ← whole; standAt a.pos; holding [v] (truthy v))) : DB Z F W a (dB ta) := by
  obtain ⟨ta', pa, ha⟩ := ha
  refine ⟨_, fun i => pt_val (pa i) (he i), fun B ρ σ μ S H R E Q env ok h hE hQ => ha B ρ σ μ S H _ E _ env ok h hE fun v d μ1 S1 H1 x1 r1 h1 => ?_⟩
  obtain ⟨k, rfl, h1⟩ := h1
  exact ⟨k, r1, hQ k μ1 S1 H1 x1 h1⟩
theorem truD_ok {d : D} {v : V} {k : Bool} {rg : Addr → Prop} {S H : Hp} (sub : Same S H) (r : Rd F.K rg S H d v) (h : truD d = some k) : TruV F.K v H k := by
  cases d with
  | non => cases r; cases h; rfl
  | bl b => cases r; cases h; rfl
  | int i => cases r; cases h; rfl
  | str s =>
    cases r
    simp only [truD] at h
    split at h
    · rename_i hz
      cases h
      exact ⟨hz, rfl⟩
    · cases h
  | tup xs =>
    obtain ⟨a, vs, rfl, h1, h2⟩ := r
    cases h
    refine .inr (.inl ⟨vs, seqT_mono sub h1, ?_⟩)
    have := h2.length
    cases xs <;> cases vs <;> simp_all
  | lst xs =>
    obtain ⟨a, vs, rfl, h1, h2⟩ := r
    cases h
    refine .inl ⟨vs, SqL.of (sub _ _ h1), ?_⟩
    have := h2.length
    cases xs <;> cases vs <;> simp_all
  | vw xs =>
    obtain ⟨a, vs, rfl, h0, h1, h2⟩ := r
    cases h
    refine .inl ⟨vs, SqL.of h1, ?_⟩
    have := h2.length
    cases xs <;> cases vs <;> simp_all
  | dct kvs =>
    obtain ⟨a, vs, rfl, h1, h2⟩ := r
    cases h
    refine .inr (.inr ⟨vs, sub _ _ h1, ?_⟩)
    cases kvs with
    | nil => cases h2; rfl
    | cons p q =>
      obtain ⟨k, d⟩ := p
      obtain ⟨v, r, rfl, _⟩ := h2
      rfl
  | op _ => cases h
  | fn _ => cases h
  | scr ns =>
    obtain ⟨a, rfl, h1⟩ := r
    cases h
    exact .inl ⟨_, sub.seq h1, by cases ns <;> rfl⟩
theorem db_tru (ha : DE Z F W a ta) (he : ∀ i whole, isTrue a (F.X i).env whole = (do let v ← whole; standAt a.pos; holding [v] (truthy v))) : DB Z F W a (dTru ta) := by
  obtain ⟨ta', pa, ha⟩ := ha
  refine ⟨fun σ H Q => ta' σ H fun x H' => ∃ k, TruV F.K x H' k ∧ Q k H', fun i => by rw [← F.hK i]; exact pt_truth (pa i) (he i), fun B ρ σ μ S H R E Q env ok h hE hQ => ?_⟩
  refine ha B ρ σ μ S H _ E _ env ok h hE fun v d μ1 S1 H1 x1 r1 h1 => ?_
  obtain ⟨k, e, h1⟩ := h1
  exact ⟨k, truD_ok x1.ok.sub r1 e, hQ k μ1 S1 H1 x1 h1⟩
theorem dx_one {op} (h : DE Z F W a ta) : DE Z F W (.BoolOp op [a] pos) ta := let ⟨te, p, h⟩ := h; ⟨te, fun i => pe_one (p i), h⟩
theorem dx_and (ha : DE Z F W a ta) (hb : DE Z F W (.BoolOp .And (b :: rest) pos) tb) : DE Z F W (.BoolOp .And (a :: b :: rest) pos) (dAndV ta tb) := by
  obtain ⟨ta', pa, ha⟩ := ha
  obtain ⟨tb', pb, hb⟩ := hb
  refine ⟨_, fun i => pe_and (pa i) (pb i), fun B ρ σ μ S H R E Q env ok h hE hQ => ?_⟩
  refine ha B ρ σ μ S H _ E _ env ok h hE fun v d μ1 S1 H1 x1 r1 h1 => ?_
  obtain ⟨k, rfl, h1⟩ := h1
  refine ⟨k, r1, ?_⟩
  cases k with
  | true => exact hb B ρ σ μ1 S1 H1 _ E _ (env.ext x1) x1.ok h1 (hE.ext x1) fun v2 d2 μ2 S2 H2 x2 r2 h2 => hQ v2 d2 μ2 S2 H2 (x1.trans x2) r2 h2
  | false => exact hQ _ (.bl false) μ1 S1 H1 x1 rfl h1
theorem dx_or (ha : DE Z F W a ta) (hb : DE Z F W (.BoolOp .Or (b :: rest) pos) tb) : DE Z F W (.BoolOp .Or (a :: b :: rest) pos) (dOrV ta tb) := by
  obtain ⟨ta', pa, ha⟩ := ha
  obtain ⟨tb', pb, hb⟩ := hb
  refine ⟨_, fun i => pe_or (pa i) (pb i), fun B ρ σ μ S H R E Q env ok h hE hQ => ?_⟩
  refine ha B ρ σ μ S H _ E _ env ok h hE fun v d μ1 S1 H1 x1 r1 h1 => ?_
  obtain ⟨k, rfl, h1⟩ := h1
  refine ⟨k, r1, ?_⟩
  cases k with
  | false => exact hb B ρ σ μ1 S1 H1 _ E _ (env.ext x1) x1.ok h1 (hE.ext x1) fun v2 d2 μ2 S2 H2 x2 r2 h2 => hQ v2 d2 μ2 S2 H2 (x1.trans x2) r2 h2
  | true => exact hQ _ (.bl true) μ1 S1 H1 x1 rfl h1
theorem dx_not (ha : DE Z F W a ta) : DE Z F W (.UnaryOp .Not a pos) (dNotV ta) := by
  obtain ⟨ta', pa, ha⟩ := ha
  refine ⟨_, fun i => pe_not (pa i), fun B ρ σ μ S H R E Q env ok h hE hQ => ha B ρ σ μ S H _ E _ env ok h hE fun v d μ1 S1 H1 x1 r1 h1 => ?_⟩
  obtain ⟨k, rfl, h1⟩ := h1
  exact ⟨k, r1, hQ _ (.bl (!k)) μ1 S1 H1 x1 rfl h1⟩
theorem dx_if (hc : DB Z F W c t) (ha : DE Z F W a ta) (hb : DE Z F W b tb) : DE Z F W (.IfExp c a b pos) (dIf t ta tb) := by
  obtain ⟨tc', pc, hc⟩ := hc
  obtain ⟨ta', pa, ha⟩ := ha
  obtain ⟨tb', pb, hb⟩ := hb
  refine ⟨_, fun i => pe_ifExp (pc i) (pa i) (pb i), fun B ρ σ μ S H R E Q env ok h hE hQ => ?_⟩
  refine hc B ρ σ μ S H _ E _ env ok h hE fun k μ1 S1 H1 x1 h1 => ?_
  cases k with
  | true => exact ha B ρ σ μ1 S1 H1 _ E _ (env.ext x1) x1.ok h1 (hE.ext x1) fun v2 d2 μ2 S2 H2 x2 r2 h2 => hQ v2 d2 μ2 S2 H2 (x1.trans x2) r2 h2
  | false => exact hb B ρ σ μ1 S1 H1 _ E _ (env.ext x1) x1.ok h1 (hE.ext x1) fun v2 d2 μ2 S2 H2 x2 r2 h2 => hQ v2 d2 μ2 S2 H2 (x1.trans x2) r2 h2

/-! ### arguments, displays, calls of built-ins -/
theorem da_nil : DA Z F W [] dNil := ⟨_, fun _ => pa_nil, fun B ρ σ μ S H R E Q env ok h hE hQ => hQ [] [] μ S H (.refl ok) rfl rfl h⟩
theorem da_cons (ha : DE Z F W e ta) (hr : DA Z F W es tR) (hs : ∀ i, starEach (e :: es) (F.X i).env = (false, eval e (F.X i).env) :: starEach es (F.X i).env := by intro _; rfl) : DA Z F W (e :: es) (dCons ta tR) := by
  obtain ⟨ta', pa, ha⟩ := ha
  obtain ⟨tb', pb, hb⟩ := hr
  refine ⟨_, fun i => pa_cons (pa i) (pb i) (hs i), fun B ρ σ μ S H R E Q env ok h hE hQ => ?_⟩
  refine ha B ρ σ μ S H _ E _ env ok h hE fun v d μ1 S1 H1 x1 r1 h1 => ?_
  exact hb B ρ σ μ1 S1 H1 _ E _ (env.ext x1) x1.ok h1 (hE.ext x1) fun vs ds μ2 S2 H2 x2 r2 l2 h2 => hQ (v :: vs) (d :: ds) μ2 S2 H2 (x1.trans x2) ⟨v, vs, rfl, r1.ext x2, r2⟩ (by rw [List.length_cons, List.length_cons, l2]) h2
theorem dx_tup {k} (h : DA Z F W es tA) : DE Z F W (.Tuple es k pos) (dTup tA) := by
  obtain ⟨ta', pa, ha⟩ := h
  refine ⟨_, fun i => pe_tup (pa i), fun B ρ σ μ S H R E Q env ok h hE hQ => ?_⟩
  refine ha B ρ σ μ S H _ E _ env ok h hE fun vs ds μ1 S1 H1 x1 r1 _ h1 => ⟨by rw [r1.length]; exact h1.1, fun p hp => ?_⟩
  have x2 := x1.ok.put (o := .tup vs) hp
  exact hQ _ (.tup ds) μ1 _ _ (x1.trans x2) ⟨p, vs, rfl, SqT.of upd_same, r1.ext x2⟩ h1.2
theorem df_lst (h : DA Z F W es tA) : DF Z F W (.List es pos) (dLst tA) := by
  obtain ⟨ta', pa, ha⟩ := h
  refine ⟨_, fun i => pe_lst (pa i), fun B ρ σ μ S H R E Q env ok h hE hQ => ?_⟩
  refine ha B ρ σ μ S H _ E _ env ok h hE fun vs ds μ1 S1 H1 x1 r1 _ h1 => ⟨by rw [r1.length]; exact h1.1, fun p hp => ?_⟩
  have x2 := x1.ok.putOwn (o := .lst vs) hp
  have hp0 : Fr H p := x1.there p (.inl hp)
  have hS : S1 p = none := by
    cases q : S1 p with
    | none => rfl
    | some o => rw [x1.ok.sub p o q] at hp; cases hp
  exact hQ p vs ds μ1 _ _ (x1.trans x2) hp0 upd_same hS (fun r => r.elim (fun r => Z.held x1.ok.j r hp) fun r => r (env.dom p hp0)) (r1.ext x2) h1.2
theorem dx_frz (h : DF Z F W e tA) : DE Z F W e (dFrz tA) := by
  obtain ⟨ta', pa, ha⟩ := h
  refine ⟨_, pa, fun B ρ σ μ S H R E Q env ok h hE hQ => ?_⟩
  refine ha B ρ σ μ S H _ E _ env ok h hE fun a vs ds μ1 S1 H1 x1 n1 e1 s1 g1 r1 h1 => ?_
  have x2 := x1.frz n1 e1 fun r => g1 (.inl r)
  refine hQ _ (.lst ds) μ1 _ _ x2 ⟨a, vs, rfl, upd_same, ?_⟩ h1
  exact r1.mono (fun b o q => by rw [upd_ne (ne_of_none q s1)]; exact q) fun b ws n q => ⟨n, q⟩
theorem dx_callB {x : Str} {id : String} {sm : SmL} {p : Pos} (hc : CallD Z F (.builtin id) sm) (hg : ∀ i, Gl (F.X i) x) (hm : ∀ i, (F.X i).mg x = none) (hv : bootBuiltins x = some (.builtin id)) (ha : DA Z F W (e :: es) tA)
    (hn : x ≠ "__name__" := by decide) (hdb : (x == ("__debug__" : Str)) = false := by decide)
    (he : ∀ i, starEach (e :: es) (F.X i).env = (false, eval e (F.X i).env) :: starEach es (F.X i).env := by intro _; rfl) (hpl : ∀ i, (backTo pos (starEach es (F.X i).env)).any (·.1) = false := by intro _; rfl) : DE Z F W (.Call (.Name x p) (e :: es) [] pos) (dL sm tA) := by
  obtain ⟨ta', pa, ha⟩ := ha
  obtain ⟨r, pr, hr⟩ := hc
  refine ⟨_, fun i => pe_callB (pr i) (hg i) (hm i) hv (pa i) hn hdb (he i) (hpl i), fun B ρ σ μ S H R E Q env ok h hE hQ => ?_⟩
  refine ha B ρ σ μ S H _ E _ env ok h hE fun vs ds μ1 S1 H1 x1 r1 _ h1 => ?_
  exact hr (fb Z B _) μ1 S1 H1 ds vs _ Q x1.ok r1 h1 fun v3 d3 S3 H3 x3 r3 h3 => hQ v3 d3 μ1 S3 H3 (x1.trans x3) r3 h3
theorem dx_callTy {x : Str} {id : String} {sm : SmL} {p : Pos} (hc : CallD Z F (.type id) sm) (hg : ∀ i, Gl (F.X i) x) (hm : ∀ i, (F.X i).mg x = none) (hv : bootBuiltins x = some (.type id)) (ha : DA Z F W (e :: es) tA)
    (hn : x ≠ "__name__" := by decide) (hdb : (x == ("__debug__" : Str)) = false := by decide)
    (he : ∀ i, starEach (e :: es) (F.X i).env = (false, eval e (F.X i).env) :: starEach es (F.X i).env := by intro _; rfl) (hpl : ∀ i, (backTo pos (starEach es (F.X i).env)).any (·.1) = false := by intro _; rfl) : DE Z F W (.Call (.Name x p) (e :: es) [] pos) (dL sm tA) := by
  obtain ⟨ta', pa, ha⟩ := ha
  obtain ⟨r, pr, hr⟩ := hc
  refine ⟨_, fun i => pe_callTy (pr i) (hg i) (hm i) hv (pa i) hn hdb (he i) (hpl i), fun B ρ σ μ S H R E Q env ok h hE hQ => ?_⟩
  refine ha B ρ σ μ S H _ E _ env ok h hE fun vs ds μ1 S1 H1 x1 r1 _ h1 => ?_
  exact hr (fb Z B _) μ1 S1 H1 ds vs _ Q x1.ok r1 h1 fun v3 d3 S3 H3 x3 r3 h3 => hQ v3 d3 μ1 S3 H3 (x1.trans x3) r3 h3
end
end DL
/-! text DLc -/
/-! DL, third part: what is walked, targets, statements, loops, comprehensions, the promise of a def. -/
namespace DL
open PySem PySem.Spec PyProof.Rows L2

/-! ### data without lists; a look taken as a list -/
mutual
def nl : D → Bool
  | .non => true | .bl _ => true | .int _ => true | .str _ => true | .op _ => true | .fn _ => true
  | .tup xs => nlL xs
  | .lst _ => false | .dct _ => false | .vw _ => false | .scr _ => false
def nlL : List D → Bool
  | [] => true
  | d :: ds => nl d && nlL ds
end
mutual
def fr : D → D
  | .tup xs => .tup (frL xs)
  | .lst xs => .lst (frL xs)
  | .vw xs => .lst (frL xs)
  | .dct kvs => .dct (frK kvs)
  | .non => .non | .bl b => .bl b | .int i => .int i | .str s => .str s | .op v => .op v | .fn x => .fn x | .scr ns => .scr ns
def frL : List D → List D
  | [] => []
  | d :: ds => fr d :: frL ds
def frK : List (Key × D) → List (Key × D)
  | [] => []
  | (k, d) :: ds => (k, fr d) :: frK ds
end
mutual
theorem sta_fr : ∀ d : D, sta (fr d) = true
  | .tup xs => by simp only [fr, sta]; exact staL_fr xs
  | .lst xs => by simp only [fr, sta]; exact staL_fr xs
  | .vw xs => by simp only [fr, sta]; exact staL_fr xs
  | .dct kvs => by simp only [fr, sta]; exact staK_fr kvs
  | .non => rfl | .bl _ => rfl | .int _ => rfl | .str _ => rfl | .op _ => rfl | .fn _ => rfl | .scr _ => rfl
theorem staL_fr : ∀ ds : List D, staL (frL ds) = true
  | [] => rfl
  | d :: ds => by simp only [frL, staL, sta_fr d, staL_fr ds, Bool.and_self]
theorem staK_fr : ∀ ds : List (Key × D), staK (frK ds) = true
  | [] => rfl
  | (k, d) :: ds => by simp only [frK, staK, sta_fr d, staK_fr ds, Bool.and_self]
end
mutual
theorem fr_sta : ∀ d : D, sta d = true → fr d = d
  | .tup xs, h => by simp only [sta] at h; simp only [fr, frL_sta xs h]
  | .lst xs, h => by simp only [sta] at h; simp only [fr, frL_sta xs h]
  | .vw xs, h => by simp [sta] at h
  | .dct kvs, h => by simp only [sta] at h; simp only [fr, frK_sta kvs h]
  | .non, _ => rfl | .bl _, _ => rfl | .int _, _ => rfl | .str _, _ => rfl | .op _, _ => rfl | .fn _, _ => rfl | .scr _, _ => rfl
theorem frL_sta : ∀ ds : List D, staL ds = true → frL ds = ds
  | [], _ => rfl
  | d :: ds, h => by
    simp only [staL, Bool.and_eq_true] at h
    simp only [frL, fr_sta d h.1, frL_sta ds h.2]
theorem frK_sta : ∀ ds : List (Key × D), staK ds = true → frK ds = ds
  | [], _ => rfl
  | (k, d) :: ds, h => by
    simp only [staK, Bool.and_eq_true] at h
    simp only [frK, fr_sta d h.1, frK_sta ds h.2]
end
mutual
theorem sta_nl : ∀ d : D, nl d = true → sta d = true
  | .tup xs, h => by simp only [nl] at h; simp only [sta]; exact staL_nl xs h
  | .lst _, h => by simp [nl] at h
  | .vw _, h => by simp [nl] at h
  | .dct _, h => by simp [nl] at h
  | .scr _, h => by simp [nl] at h
  | .non, _ => rfl | .bl _, _ => rfl | .int _, _ => rfl | .str _, _ => rfl | .op _, _ => rfl | .fn _, _ => rfl
theorem staL_nl : ∀ ds : List D, nlL ds = true → staL ds = true
  | [], _ => rfl
  | d :: ds, h => by
    simp only [nlL, Bool.and_eq_true] at h
    simp only [staL, sta_nl d h.1, staL_nl ds h.2, Bool.and_self]
end

section
variable {K : PySem.W.Frag} {Z : Wld} {B : Hp} {μ μ' : Z.M} {S S' H H' : Hp}
open Classical in
/-- all that is new since B and is a list is taken as stable -/
noncomputable def frz (Z : Wld) (B : Hp) (μ : Z.M) (S H : Hp) : Hp := fun a => if ¬ fb Z B μ a ∧ (∃ vs, H a = some (.lst vs)) ∧ S a = none then H a else S a
theorem frz_or (a : Addr) : (frz Z B μ S H a = S a) ∨ (¬ fb Z B μ a ∧ (∃ vs, H a = some (.lst vs)) ∧ S a = none ∧ frz Z B μ S H a = H a) := by
  unfold frz
  split
  · rename_i h; exact .inr ⟨h.1, h.2.1, h.2.2, rfl⟩
  · exact .inl rfl
theorem frz_same : Same S (frz Z B μ S H) := fun a o e => by
  rcases frz_or (Z := Z) (B := B) (μ := μ) (S := S) (H := H) a with q | ⟨_, _, n, _⟩
  · rw [q]; exact e
  · rw [n] at e; cases e
theorem frz_ok (x : Ok Z μ S H) : Ok Z μ (frz Z B μ S H) H := by
  refine ⟨fun a o e => ?_, Z.loc x.j frz_same fun _ _ => rfl, fun a r => ?_, fun a o e => by
    rcases frz_or (Z := Z) (B := B) (μ := μ) (S := S) (H := H) a with q | ⟨_, ⟨vs, h⟩, _, q⟩
    · rw [q] at e; exact x.nt a o e
    · rw [q, h] at e; cases e; exact fun _ h => by cases h⟩
  · rcases frz_or (Z := Z) (B := B) (μ := μ) (S := S) (H := H) a with q | ⟨_, _, _, q⟩
    · rw [q] at e; exact x.sub a o e
    · rw [q] at e; exact e
  · rcases frz_or (Z := Z) (B := B) (μ := μ) (S := S) (H := H) a with q | ⟨n, _⟩
    · rw [q]; exact x.off a r
    · exact absurd (.inl r) n
theorem frz_lst (x : Ok Z μ S H) {a : Addr} {vs : List V} (n : ¬ fb Z B μ a) (e : H a = some (.lst vs)) : frz Z B μ S H a = some (.lst vs) := by
  unfold frz
  split
  · exact e
  · rename_i h
    cases q : S a with
    | none => exact absurd ⟨n, ⟨vs, e⟩, q⟩ h
    | some o => rw [x.sub a o q] at e; rw [e]
mutual
theorem Rd.frz (x : Ok Z μ S H) : ∀ (d : D) (v : V), Rd K (fb Z B μ) S H d v → Rd K (fb Z B μ) (frz Z B μ S H) H (fr d) v
  | .tup xs, _, h => by
    obtain ⟨a, vs, e1, h1, h2⟩ := h
    simp only [fr]
    exact ⟨a, vs, e1, seqT_mono frz_same h1, RdL.frz x xs vs h2⟩
  | .lst xs, _, h => by
    obtain ⟨a, vs, e1, h1, h2⟩ := h
    simp only [fr]
    exact ⟨a, vs, e1, frz_same _ _ h1, RdL.frz x xs vs h2⟩
  | .vw xs, _, h => by
    obtain ⟨a, vs, e1, h0, h1, h2⟩ := h
    simp only [fr]
    exact ⟨a, vs, e1, frz_lst x h0 h1, RdL.frz x xs vs h2⟩
  | .dct kvs, _, h => by
    obtain ⟨a, vs, e1, h1, h2⟩ := h
    simp only [fr]
    exact ⟨a, vs, e1, frz_same _ _ h1, RdK.frz x kvs vs h2⟩
  | .non, _, h => h
  | .bl _, _, h => h
  | .int _, _, h => h
  | .str _, _, h => h
  | .op _, _, h => h
  | .fn _, _, h => h
  | .scr ns, _, h => by
    obtain ⟨a, e1, h1⟩ := h
    exact ⟨a, e1, frz_same.seq h1⟩
theorem RdL.frz (x : Ok Z μ S H) : ∀ (ds : List D) (vs : List V), RdL K (fb Z B μ) S H ds vs → RdL K (fb Z B μ) (frz Z B μ S H) H (frL ds) vs
  | [], _, h => h
  | d :: ds, _, h => by
    obtain ⟨v, r, e1, h1, h2⟩ := h
    exact ⟨v, r, e1, Rd.frz x d v h1, RdL.frz x ds r h2⟩
theorem RdK.frz (x : Ok Z μ S H) : ∀ (ds : List (Key × D)) (vs : List (Key × V)), RdK K (fb Z B μ) S H ds vs → RdK K (fb Z B μ) (frz Z B μ S H) H (frK ds) vs
  | [], _, h => h
  | (k, d) :: ds, _, h => by
    obtain ⟨v, r, e1, h1, h2⟩ := h
    exact ⟨v, r, e1, Rd.frz x d v h1, RdK.frz x ds r h2⟩
end
/-! data without lists stands also where the lists are no longer told -/
mutual
theorem Rd.thaw (k : ∀ a vs, S a = some (.tup vs) → S' a = some (.tup vs)) (kf : ∀ a o vs, S a = some (.frz o (.tup vs)) → S' a = some (.frz o (.tup vs))) {rg rg' : Addr → Prop} : ∀ (d : D) (v : V), nl d = true → Rd K rg S H d v → Rd K rg' S' H' d v
  | .tup xs, _, t, h => by
    obtain ⟨a, vs, e1, h1, h2⟩ := h
    refine ⟨a, vs, e1, ?_, RdL.thaw k kf xs vs (by simpa only [nl] using t) h2⟩
    rcases h1 with (h1 | ⟨o, h1⟩) | h1
    · exact .inl (.inl (k _ _ h1))
    · exact .inl (.inr ⟨o, kf _ _ _ h1⟩)
    · exact .inr h1
  | .lst _, _, t, _ => by simp [nl] at t
  | .vw _, _, t, _ => by simp [nl] at t
  | .dct _, _, t, _ => by simp [nl] at t
  | .scr _, _, t, _ => by simp [nl] at t
  | .non, _, _, h => h
  | .bl _, _, _, h => h
  | .int _, _, _, h => h
  | .str _, _, _, h => h
  | .op _, _, _, h => h
  | .fn _, _, _, h => h
theorem RdL.thaw (k : ∀ a vs, S a = some (.tup vs) → S' a = some (.tup vs)) (kf : ∀ a o vs, S a = some (.frz o (.tup vs)) → S' a = some (.frz o (.tup vs))) {rg rg' : Addr → Prop} : ∀ (ds : List D) (vs : List V), nlL ds = true → RdL K rg S H ds vs → RdL K rg' S' H' ds vs
  | [], _, _, h => h
  | d :: ds, _, t, h => by
    obtain ⟨v, r, e1, h1, h2⟩ := h
    simp only [nlL, Bool.and_eq_true] at t
    exact ⟨v, r, e1, Rd.thaw k kf d v t.1 h1, RdL.thaw k kf ds r t.2 h2⟩
end
end

/-! ### the run of a def, what is wanted behind a statement -/
section
variable (F : Fm) (Z : Wld)
structure Run (μ0 : Z.M) (S0 H0 : Hp) (ρ : Rho) (σ : L2.St) (μ : Z.M) (S H : Hp) : Prop where
  env : EnvR F.K Z H0 μ S H ρ σ
  ext : Ext Z μ0 S0 H0 μ S H
structure EndsD0 (M : Type) where
  nx : Rho → M → Prop
  rt : D → M → Prop
  ex : Xc → Rho → M → Prop := fun _ _ _ => False
  bk : Rho → M → Prop := fun _ _ => False
  ct : Rho → M → Prop := fun _ _ => False
abbrev EndsD := EndsD0 Z.M
abbrev DTS0 (M : Type) := EndsD0 M → Rho → M → Prop
abbrev DTS := DTS0 Z.M
end
section
variable (Z : Wld) (F : Fm) (W : WX)
/-- the ends by data and the ends of the layer below -/
structure Lk (μ0 : Z.M) (S0 H0 S : Hp) (B : EndsD Z) (L : L2.Ends) : Prop where
  nx : ∀ ρ' σ' μ' S' H', Run F Z μ0 S0 H0 ρ' σ' μ' S' H' → Same S S' → B.nx ρ' μ' → L.nx σ' H'
  bk : ∀ ρ' σ' μ' S' H', Run F Z μ0 S0 H0 ρ' σ' μ' S' H' → Same S S' → B.bk ρ' μ' → L.bk σ' H'
  ct : ∀ ρ' σ' μ' S' H', Run F Z μ0 S0 H0 ρ' σ' μ' S' H' → Same S S' → B.ct ρ' μ' → L.ct σ' H'
  rt : ∀ (v : V) (d : D) μ' S' H', Ext Z μ0 S0 H0 μ' S' H' → sta d = true → Rd F.K (fb Z H0 μ') S' H' d v → B.rt d μ' → L.rt v H'
  ex : ∀ (x : Xc) ρ' σ' μ' S' H' cls dd, Run F Z μ0 S0 H0 ρ' σ' μ' S' H' → Same S S' → XcR F.K (fb Z H0 μ') S' H' x cls dd → B.ex x ρ' μ' → W cls dd σ' H'
def DS (st : Stmt) (t : DTS Z) : Prop := ∃ ts : TS, (∀ i, PS (F.X i) st ts) ∧ ∀ μ0 S0 H0 ρ σ μ S H (B : EndsD Z) (L : L2.Ends), Run F Z μ0 S0 H0 ρ σ μ S H → t B ρ μ → Lk Z F W μ0 S0 H0 S B L → ts L σ H
def DSs (st : List Stmt) (t : DTS Z) : Prop := ∃ ts : TS, (∀ i, PSs (F.X i) st ts) ∧ ∀ μ0 S0 H0 ρ σ μ S H (B : EndsD Z) (L : L2.Ends), Run F Z μ0 S0 H0 ρ σ μ S H → t B ρ μ → Lk Z F W μ0 S0 H0 S B L → ts L σ H
/-- a target; ix: the slots that it fills -/
abbrev DG := D → Rho → (Rho → Prop) → Prop
def DGJ (tg : Expr) (ix : List Nat) (g : DG) : Prop := ∃ tg' : TG, (∀ i, PG (F.X i) tg tg') ∧ ∀ (B : Hp) (d : D) (v : V) ρ σ (μ : Z.M) S H (R : Rho → Prop) (Q : L2.St → Hp → Prop),
  EnvR F.K Z B μ S H ρ σ → Ok Z μ S H → Rd F.K (fb Z B μ) S H d v → g d ρ R → (∀ ρ' σ', EnvR F.K Z B μ S H ρ' σ' → R ρ' → (∀ vs : List Nat, (∀ i ∈ ix, i ∈ vs) → wipe σ' vs = wipe σ vs) → Q σ' H) → tg' v σ H Q
abbrev DGs := List D → Rho → (Rho → Prop) → Prop
def DGJs (tgs : List Expr) (ix : List Nat) (g : DGs) : Prop := ∃ tg' : TGs, (∀ i, PGs (F.X i) tgs tg') ∧ ∀ (B : Hp) (d : List D) (v : List V) ρ σ (μ : Z.M) S H (R : Rho → Prop) (Q : L2.St → Hp → Prop),
  EnvR F.K Z B μ S H ρ σ → Ok Z μ S H → RdL F.K (fb Z B μ) S H d v → g d ρ R → (∀ ρ' σ', EnvR F.K Z B μ S H ρ' σ' → R ρ' → (∀ vs : List Nat, (∀ i ∈ ix, i ∈ vs) → wipe σ' vs = wipe σ vs) → Q σ' H) → tg' v σ H Q
/-- J walks ds -/
def Wk (K : PySem.W.Frag) (J : It) (ds : List D) (B : Hp) (μ : Z.M) (S H : Hp) : Prop :=
  ∀ i, (i < ds.length → J.go i H) ∧ (ds.length = i → J.stop i H) ∧ ∀ x H' d, ds[i]? = some d → J.yld i H x H' → ∃ S', Ext Z μ S H μ S' H' ∧ Rd K (fb Z B μ) S' H' d x
def DI (tg e : Expr) (t : DTA Z) : Prop := ∃ wi : TI, (∀ i, PI (F.X i) tg e wi) ∧ ∀ (B : Hp) (ρ : Rho) (σ : L2.St) (μ : Z.M) (S H : Hp) (R : List D → Z.M → Prop) (E : Xc → Z.M → Prop) (Q : It → Hp → Prop),
  EnvR F.K Z B μ S H ρ σ → Ok Z μ S H → t ρ μ R E → Wish Z F W B μ S H σ E →
  (∀ (J : It) (ds : List D) (μ' : Z.M) (S' H' : Hp), Ext Z μ S H μ' S' H' → (∀ μ2 S2 H2, Ok Z μ2 S2 H2 → Same S' S2 → Wk Z F.K J ds B μ2 S2 H2) → R ds μ' → Q J H') → wi σ H Q
def DIc (tg e : Expr) (t : DTA Z) : Prop := ∃ wi : TI, (∀ i, PI (F.X i) tg e wi) ∧ ∀ (B : Hp) (ρ : Rho) (σ : L2.St) (μ : Z.M) (S H : Hp) (R : List D → Z.M → Prop) (E : Xc → Z.M → Prop) (Q : It → Hp → Prop),
  EnvR F.K Z B μ S H ρ σ → Ok Z μ S H → t ρ μ R E → Wish Z F W B μ S H σ E →
  (∀ (J : It) (ds : List D) (μ' : Z.M) (S' H' : Hp), Ext Z μ S H μ' S' H' → (∀ μ2 S2 H2, Ext Z μ' S' H' μ2 S2 H2 → Wk Z F.K J ds B μ2 S2 H2) → R ds μ' → Q J H') → wi σ H Q
end
section
variable {Z : Wld} {F : Fm} {W : WX} {μ0 μ μ' : Z.M} {S0 H0 S H S' H' : Hp} {ρ : Rho} {σ : L2.St} {B : EndsD Z} {L : L2.Ends}
theorem Run.up (r : Run F Z μ0 S0 H0 ρ σ μ S H) (x : Ext Z μ S H μ' S' H') : Run F Z μ0 S0 H0 ρ σ μ' S' H' := ⟨r.env.ext x, r.ext.trans x⟩
theorem Run.ok (r : Run F Z μ0 S0 H0 ρ σ μ S H) : Ok Z μ S H := r.ext.ok
theorem Lk.wish (k : Lk Z F W μ0 S0 H0 S B L) (r : Run F Z μ0 S0 H0 ρ σ μ S H) : Wish Z F W H0 μ S H σ (fun x μ' => B.ex x ρ μ') :=
  fun x μ' S' H' cls d e q h => k.ex x ρ σ μ' S' H' cls d (r.up e) e.same q h
theorem Lk.same (k : Lk Z F W μ0 S0 H0 S B L) (e : Same S S') : Lk Z F W μ0 S0 H0 S' B L :=
  ⟨fun ρ' σ' μ' S2 H' r s h => k.nx ρ' σ' μ' S2 H' r (e.trans s) h, fun ρ' σ' μ' S2 H' r s h => k.bk ρ' σ' μ' S2 H' r (e.trans s) h, fun ρ' σ' μ' S2 H' r s h => k.ct ρ' σ' μ' S2 H' r (e.trans s) h, k.rt,
    fun x ρ' σ' μ' S2 H' cls dd r s h => k.ex x ρ' σ' μ' S2 H' cls dd r (e.trans s) h⟩
theorem Lk.with {nx' : Rho → Z.M → Prop} {nx2 : L2.St → Hp → Prop} (k : Lk Z F W μ0 S0 H0 S B L) (h : ∀ ρ' σ' μ' S' H', Run F Z μ0 S0 H0 ρ' σ' μ' S' H' → Same S S' → nx' ρ' μ' → nx2 σ' H') :
    Lk Z F W μ0 S0 H0 S { B with nx := nx' } { L with nx := nx2 } := ⟨h, k.bk, k.ct, k.rt, k.ex⟩
theorem DI.c {tg e : Expr} {t : DTA Z} (h : DI Z F W tg e t) : DIc Z F W tg e t := by
  obtain ⟨wi, p, h⟩ := h
  exact ⟨wi, p, fun B ρ σ μ S H R E Q env ok ht hE hQ => h B ρ σ μ S H R E Q env ok ht hE fun J ds μ' S' H' x hw hr => hQ J ds μ' S' H' x (fun μ2 S2 H2 x2 => hw μ2 S2 H2 x2.ok x2.same) hr⟩
end

/-! ### readings of statements by data -/
section
variable {Z : Wld}
def dsNext {M : Type} : DTS0 M := fun B ρ μ => B.nx ρ μ
def dsBreak {M : Type} : DTS0 M := fun B ρ μ => B.bk ρ μ
def dsCont {M : Type} : DTS0 M := fun B ρ μ => B.ct ρ μ
def dsSeq {M : Type} (t u : DTS0 M) : DTS0 M := fun B ρ μ => t { B with nx := u B } ρ μ
def dsDrop {M : Type} (te : DT0 M) : DTS0 M := fun B ρ μ => te ρ μ (fun _ μ' => B.nx ρ μ') fun x μ' => B.ex x ρ μ'
def dsRet {M : Type} (te : DT0 M) : DTS0 M := fun B ρ μ => te ρ μ (fun d μ' => sta d = true ∧ B.rt d μ') fun x μ' => B.ex x ρ μ'
/-- a return that lets an owned list out -/
def dsRetF {M : Type} (te : DT0 M) : DTS0 M := fun B ρ μ => te ρ μ (fun d μ' => B.rt (fr d) μ') fun x μ' => B.ex x ρ μ'
def dsRetN {M : Type} : DTS0 M := fun B ρ μ => B.rt .non μ
def dsIf {M : Type} (c : DTT0 M) (t u : DTS0 M) : DTS0 M := fun B ρ μ => c ρ μ (fun b μ' => if b = true then t B ρ μ' else u B ρ μ') fun x μ' => B.ex x ρ μ'
def dsAsg {M : Type} (te : DT0 M) (g : DG) : DTS0 M := fun B ρ μ => te ρ μ (fun d μ' => g d ρ fun ρ' => B.nx ρ' μ') fun x μ' => B.ex x ρ μ'
/-- a name becomes the owner of a new list -/
def dsOwn {M : Type} (i : Nat) (te : DTA0 M) : DTS0 M := fun B ρ μ => te ρ μ (fun ds μ' => staL ds = true ∧ B.nx (ρ.set i (.own ds)) μ') fun x μ' => B.ex x ρ μ'
def dName (i : Nat) : DG := fun d ρ R => sta d = true ∧ R (ρ.set i (.val d))
def dgTup (n : Nat) (g : DGs) : DG := fun d ρ R => ∃ ds, (d = .tup ds ∨ d = .lst ds) ∧ ds.length = n ∧ g ds ρ R
def dgNil : DGs := fun ds ρ R => ds = [] ∧ R ρ
def dgCons (g : DG) (u : DGs) : DGs := fun ds ρ R => ∃ d r, ds = d :: r ∧ g d ρ fun ρ' => u r ρ' R
def dsAug {M : Type} (i : Nat) (te : DT0 M) (sm : Sm2) : DTS0 M := fun B ρ μ => ∃ d, ρ[i]? = some (.val d) ∧ te ρ μ (fun y μ' => sm d y fun z => sta z = true ∧ B.nx (ρ.set i (.val z)) μ') fun x μ' => B.ex x ρ μ'
def loopD {M : Type} (g : DG) (tb : DTS0 M) (B : EndsD0 M) : List D → Rho → M → Prop
  | [], ρ, μ => B.nx ρ μ
  | d :: ds, ρ, μ => g d ρ fun ρ' => tb { B with nx := loopD g tb B ds, ct := loopD g tb B ds, bk := B.nx } ρ' μ
def dsFor {M : Type} (ti : DTA0 M) (g : DG) (tb : DTS0 M) : DTS0 M := fun B ρ μ => ti ρ μ (fun ds μ' => loopD g tb B ds ρ μ') fun x μ' => B.ex x ρ μ'
def whileD {M : Type} (c : DTT0 M) (tb : DTS0 M) (B : EndsD0 M) : Nat → Rho → M → Prop
  | 0, _, _ => False
  | n + 1, ρ, μ => c ρ μ (fun b μ' => if b = true then tb { B with nx := whileD c tb B n, ct := whileD c tb B n, bk := B.nx } ρ μ' else B.nx ρ μ') fun x μ' => B.ex x ρ μ'
def dsWhile {M : Type} (c : DTT0 M) (tb : DTS0 M) : DTS0 M := fun B ρ μ => ∃ n, whileD c tb B n ρ μ
/-- the owner's list grows -/
def dsApp {M : Type} (i : Nat) (te : DT0 M) : DTS0 M := fun B ρ μ => ∃ xs, ρ[i]? = some (.own xs) ∧ te ρ μ (fun d μ' => sta d = true ∧ xs.length < sizeLine ∧ B.nx (ρ.set i (.own (xs ++ [d]))) μ') fun x μ' => B.ex x ρ μ'
def dsExt {M : Type} (i : Nat) (te : DT0 M) : DTS0 M := fun B ρ μ => ∃ xs, ρ[i]? = some (.own xs) ∧ te ρ μ (fun d μ' => ∃ ys, d = .lst ys ∧ staL ys = true ∧ xs.length + ys.length ≤ sizeLine ∧ B.nx (ρ.set i (.own (xs ++ ys))) μ') fun x μ' => B.ex x ρ μ'
/-- x[k] = e, x an owner -/
def dsSet {M : Type} (i : Nat) (tk te : DT0 M) : DTS0 M := fun B ρ μ => ∃ xs, ρ[i]? = some (.own xs) ∧ te ρ μ (fun d μ' => sta d = true ∧ tk ρ μ' (fun y μ2 => ∃ k j, y = .int k ∧ ixN xs.length k = some j ∧ B.nx (ρ.set i (.own (xs.set j d))) μ2) fun x μ2 => B.ex x ρ μ2) fun x μ' => B.ex x ρ μ'
def wipeR (ρ : Rho) : List Nat → Rho
  | [] => ρ
  | v :: vs => (wipeR ρ vs).set v .un
def compD {M : Type} (g : DG) (tt : DTT0 M) (te : DT0 M) (R : List D → M → Prop) (E : Xc → M → Prop) (ρ : Rho) : List D → List D → M → Prop
  | [], acc, μ => R acc μ
  | d :: ds, acc, μ => g d ρ fun ρ' => tt ρ' μ (fun b μ' => if b = true then te ρ' μ' (fun y μ2 => sta y = true ∧ acc.length < sizeLine ∧ compD g tt te R E ρ ds (acc ++ [y]) μ2) (fun _ _ => False) else compD g tt te R E ρ ds acc μ') fun _ _ => False
def dComp {M : Type} (ti : DTA0 M) (g : DG) (tt : DTT0 M) (te : DT0 M) (vs : List Nat) : DTA0 M := fun ρ μ R E => ti ρ μ (fun ds μ' => compD g tt te R E (wipeR ρ vs) ds [] μ') E
def dYes {M : Type} : DTT0 M := fun _ μ R _ => R true μ
end

/-! ### slots stored -/
section
variable {K : PySem.W.Frag} {Z : Wld} {B : Hp} {μ : Z.M} {S H : Hp} {ρ : Rho} {σ : L2.St}
theorem EnvR.put (h : EnvR K Z B μ S H ρ σ) {i : Nat} {d : D} {v : V} (t : sta d = true) (r : Rd K (fb Z B μ) S H d v) : EnvR K Z B μ S H (ρ.set i (.val d)) (σ.set i (some v)) := by
  refine ⟨by rw [List.length_set, List.length_set, h.len], fun j s e => ?_, fun j k xs ys a e1 e2 e3 e4 => ?_, h.dom⟩
  · by_cases hj : i = j
    · subst hj
      have hi : i < ρ.length := by
        have := (List.getElem?_eq_some_iff.mp e).1
        rwa [List.length_set] at this
      rw [List.getElem?_set_self hi] at e
      cases e
      exact ⟨_, List.getElem?_set_self (by rw [h.len]; exact hi), v, rfl, t, r⟩
    · rw [List.getElem?_set_ne hj] at e ⊢
      exact h.get j s e
  · have own : ∀ {m : Nat} {zs : List D}, (ρ.set i (.val d))[m]? = some (.own zs) → i ≠ m ∧ ρ[m]? = some (.own zs) := fun {m zs} e => by
      by_cases hm : i = m
      · subst hm
        have hi : i < ρ.length := by
          have := (List.getElem?_eq_some_iff.mp e).1
          rwa [List.length_set] at this
        rw [List.getElem?_set_self hi] at e
        cases e
      · rw [List.getElem?_set_ne hm] at e
        exact ⟨hm, e⟩
    obtain ⟨n1, q1⟩ := own e1
    obtain ⟨n2, q2⟩ := own e2
    rw [List.getElem?_set_ne n1] at e3
    rw [List.getElem?_set_ne n2] at e4
    exact h.apart j k xs ys a q1 q2 e3 e4
/-- any slot but an owner's -/
theorem EnvR.putS (h : EnvR K Z B μ S H ρ σ) {i : Nat} {s : Slot} {o : Option V} (hs : SlotR K Z B μ S H s o) (no : ∀ xs, s ≠ .own xs) : EnvR K Z B μ S H (ρ.set i s) (σ.set i o) := by
  have inb : ∀ {m : Nat} {s' : Slot}, i = m → (ρ.set i s)[m]? = some s' → s' = s ∧ (σ.set i o)[m]? = some o := fun {m s'} e q => by
    subst e
    have hi : i < ρ.length := by
      have := (List.getElem?_eq_some_iff.mp q).1
      rwa [List.length_set] at this
    rw [List.getElem?_set_self hi] at q
    cases q
    exact ⟨rfl, List.getElem?_set_self (by rw [h.len]; exact hi)⟩
  refine ⟨by rw [List.length_set, List.length_set, h.len], fun j s' e => ?_, fun j k xs ys a e1 e2 e3 e4 => ?_, h.dom⟩
  · by_cases hj : i = j
    · obtain ⟨rfl, q⟩ := inb hj e
      exact ⟨o, q, hs⟩
    · rw [List.getElem?_set_ne hj] at e ⊢
      exact h.get j s' e
  · by_cases hj : i = j
    · exact absurd (inb hj e1).1.symm (no xs)
    · by_cases hk : i = k
      · exact absurd (inb hk e2).1.symm (no ys)
      · rw [List.getElem?_set_ne hj] at e1 e3
        rw [List.getElem?_set_ne hk] at e2 e4
        exact h.apart j k xs ys a e1 e2 e3 e4
theorem EnvR.putExc (h : EnvR K Z B μ S H ρ σ) {i : Nat} {a : Addr} {cls : Value} {d : Option Addr} {y : Xc} {v : V} (hs : SlotR K Z B μ S H (.exc a cls d y) (some v)) : EnvR K Z B μ S H (ρ.set i (.exc a cls d y)) (σ.set i (some v)) :=
  h.putS hs fun xs z => by cases z
/-- a new owner: its list stands where no owner's does -/
theorem EnvR.putOwn (h : EnvR K Z B μ S H ρ σ) {i : Nat} {ds : List D} {a : Addr} {vs : List V} (e : H a = some (.lst vs)) (n : S a = none) (nf : ¬ fb Z B μ a) (t : staL ds = true) (r : RdL K (fb Z B μ) S H ds vs)
    (apart : ∀ (j : Nat) (xs : List D), ρ[j]? = some (.own xs) → σ[j]? ≠ some (some (.ref a))) : EnvR K Z B μ S H (ρ.set i (.own ds)) (σ.set i (some (.ref a))) := by
  refine ⟨by rw [List.length_set, List.length_set, h.len], fun j s e' => ?_, fun j k xs ys b e1 e2 e3 e4 => ?_, h.dom⟩
  · by_cases hj : i = j
    · subst hj
      have hi : i < ρ.length := by
        have := (List.getElem?_eq_some_iff.mp e').1
        rwa [List.length_set] at this
      rw [List.getElem?_set_self hi] at e'
      cases e'
      exact ⟨_, List.getElem?_set_self (by rw [h.len]; exact hi), a, vs, rfl, e, n, nf, t, r⟩
    · rw [List.getElem?_set_ne hj] at e' ⊢
      exact h.get j s e'
  · by_cases hj : i = j
    · by_cases hk : i = k
      · rw [← hj, ← hk]
      · subst hj
        rw [List.getElem?_set_ne hk] at e2 e4
        have hi : i < σ.length := by
          have := (List.getElem?_eq_some_iff.mp e3).1
          rwa [List.length_set] at this
        rw [List.getElem?_set_self hi] at e3
        cases e3
        exact absurd e4 (apart k ys e2)
    · rw [List.getElem?_set_ne hj] at e1 e3
      by_cases hk : i = k
      · subst hk
        have hi : i < σ.length := by
          have := (List.getElem?_eq_some_iff.mp e4).1
          rwa [List.length_set] at this
        rw [List.getElem?_set_self hi] at e4
        cases e4
        exact absurd e3 (apart j xs e1)
      · rw [List.getElem?_set_ne hk] at e2 e4
        exact h.apart j k xs ys b e1 e2 e3 e4
/-- the heap changes at an owner's list alone -/
theorem EnvR.grow (h : EnvR K Z B μ S H ρ σ) {i : Nat} {xs ys : List D} {a : Addr} {vs ws : List V} (hi : ρ[i]? = some (.own xs)) (hs : σ[i]? = some (some (.ref a))) (e : H a = some (.lst vs)) (n : S a = none) (nf : ¬ fb Z B μ a)
    (t : staL ys = true) (r : RdL K (fb Z B μ) S H ys ws) : EnvR K Z B μ S (upd H a (.lst ws)) (ρ.set i (.own ys)) σ := by
  have hiρ := (List.getElem?_eq_some_iff.mp hi).1
  have stab : ∀ {d : D} {v : V}, DL.sta d = true → Rd K (fb Z B μ) S H d v → Rd K (fb Z B μ) S (upd H a (.lst ws)) d v := fun t r => r.sta (Same.refl S) _ _ t
  refine ⟨by rw [List.length_set, h.len], fun j s e' => ?_, fun j k xs' ys' b e1 e2 e3 e4 => ?_, fun b q => ?_⟩
  · by_cases hj : i = j
    · subst hj
      rw [List.getElem?_set_self hiρ] at e'
      cases e'
      exact ⟨_, hs, a, ws, rfl, upd_same, n, nf, t, RdL.sta (Same.refl S) _ _ t r⟩
    · rw [List.getElem?_set_ne hj] at e'
      obtain ⟨o, q1, q2⟩ := h.get j s e'
      refine ⟨o, q1, ?_⟩
      cases s with
      | un => trivial
      | val d =>
        obtain ⟨v, z1, z2, z3⟩ := q2
        exact ⟨v, z1, z2, stab z2 z3⟩
      | own zs =>
        obtain ⟨b, us, z1, z2, z3, z4, z5, z6⟩ := q2
        have hb : b ≠ a := fun z => by
          subst z
          subst z1
          exact hj (h.apart i j xs zs b hi e' hs q1)
        exact ⟨b, us, z1, by rw [upd_ne hb]; exact z2, z3, z4, z5, RdL.sta (Same.refl S) _ _ z5 z6⟩
      | exc b cls dd y =>
        obtain ⟨z1, z2, z3⟩ := q2
        refine ⟨z1, z2, z3.imp id ?_⟩
        rintro ⟨d2, us, q1', q2', q3', q4'⟩
        exact ⟨d2, us, q1', by rw [upd_ne (ne_of_none q3' n)]; exact q2', q3', q4'.sta⟩
  · have own : ∀ {m : Nat} {zs : List D}, (ρ.set i (.own ys))[m]? = some (.own zs) → ∃ zs', ρ[m]? = some (.own zs') := fun {m zs} e => by
      by_cases hm : i = m
      · subst hm; exact ⟨xs, hi⟩
      · rw [List.getElem?_set_ne hm] at e
        exact ⟨zs, e⟩
    obtain ⟨z1, q1⟩ := own e1
    obtain ⟨z2, q2⟩ := own e2
    exact h.apart j k z1 z2 b q1 q2 e3 e4
  · by_cases hb : b = a
    · subst hb; rw [Fr, upd_same] at q; exact (show False by rcases q with q | ⟨_, q⟩ <;> cases q).elim
    · rw [Fr, upd_ne hb] at q; exact h.dom b q
theorem EnvR.wipe (h : EnvR K Z B μ S H ρ σ) : ∀ vs : List Nat, EnvR K Z B μ S H (wipeR ρ vs) (L2.wipe σ vs)
  | [] => h
  | v :: vs => by
    have ih := EnvR.wipe h vs
    unfold wipeR L2.wipe
    refine ⟨by rw [List.length_set, List.length_set, ih.len], fun j s e => ?_, fun j k xs ys a e1 e2 e3 e4 => ?_, ih.dom⟩
    · by_cases hj : v = j
      · subst hj
        have hi : v < (wipeR ρ vs).length := by
          have := (List.getElem?_eq_some_iff.mp e).1
          rwa [List.length_set] at this
        rw [List.getElem?_set_self hi] at e
        cases e
        exact ⟨_, List.getElem?_set_self (by rw [ih.len]; exact hi), trivial⟩
      · rw [List.getElem?_set_ne hj] at e ⊢
        exact ih.get j s e
    · have own : ∀ {m : Nat} {zs : List D}, ((wipeR ρ vs).set v .un)[m]? = some (.own zs) → v ≠ m ∧ (wipeR ρ vs)[m]? = some (.own zs) := fun {m zs} e => by
        by_cases hm : v = m
        · subst hm
          have hi : v < (wipeR ρ vs).length := by
            have := (List.getElem?_eq_some_iff.mp e).1
            rwa [List.length_set] at this
          rw [List.getElem?_set_self hi] at e
          cases e
        · rw [List.getElem?_set_ne hm] at e
          exact ⟨hm, e⟩
      obtain ⟨n1, q1⟩ := own e1
      obtain ⟨n2, q2⟩ := own e2
      rw [List.getElem?_set_ne n1] at e3
      rw [List.getElem?_set_ne n2] at e4
      exact ih.apart j k xs ys a q1 q2 e3 e4
end
end DL
/-! text DLd -/
/-! DL, fourth part: the rules of statements, loops, comprehensions. -/
namespace DL
open PySem PySem.Spec PyProof.Rows L2
section
variable {Z : Wld} {F : Fm} {W : WX} {e a b c : Expr} {es rest : List Expr} {ta tb tc te : DT Z} {tA tR : DTA Z} {tt : DTT Z} {t u : DTS Z} {pos : Pos} {st : Stmt} {sts : List Stmt} {g : DG} {ix : List Nat}
theorem dss_nil : DSs Z F W [] dsNext := ⟨_, fun _ => pss_nil, fun μ0 S0 H0 ρ σ μ S H B L r h k => k.nx _ _ _ _ _ r (Same.refl _) h⟩
theorem dss_cons (h1 : DS Z F W st t) (h2 : DSs Z F W sts u) : DSs Z F W (st :: sts) (dsSeq t u) := by
  obtain ⟨t1, p1, h1⟩ := h1
  obtain ⟨t2, p2, h2⟩ := h2
  refine ⟨_, fun i => pss_cons (p1 i) (p2 i), fun μ0 S0 H0 ρ σ μ S H B L r h k => ?_⟩
  exact h1 μ0 S0 H0 ρ σ μ S H _ _ r h (k.with fun ρ' σ' μ' S' H' r' s' h' => h2 μ0 S0 H0 ρ' σ' μ' S' H' _ _ r' h' (k.same s'))
theorem dss_one (h1 : DS Z F W st t) : DSs Z F W [st] t := let ⟨t1, p1, h1⟩ := h1; ⟨_, fun i => pss_one (p1 i), h1⟩
theorem ds_pass : DS Z F W (.Pass pos) dsNext := ⟨_, fun _ => ps_pass, fun μ0 S0 H0 ρ σ μ S H B L r h k => k.nx _ _ _ _ _ r (Same.refl _) h⟩
theorem ds_break : DS Z F W (.Break pos) dsBreak := ⟨_, fun _ => ps_break, fun μ0 S0 H0 ρ σ μ S H B L r h k => k.bk _ _ _ _ _ r (Same.refl _) h⟩
theorem ds_cont : DS Z F W (.Continue pos) dsCont := ⟨_, fun _ => ps_continue, fun μ0 S0 H0 ρ σ μ S H B L r h k => k.ct _ _ _ _ _ r (Same.refl _) h⟩
theorem ds_expr (h : DE Z F W e ta) (hs : ∀ i, swapsWith e none pos.line (F.X i).env = pure false := by intro _; rfl) : DS Z F W (.Expr e pos) (dsDrop ta) := by
  obtain ⟨te, p, h⟩ := h
  refine ⟨_, fun i => ps_expr (p i) (hs i), fun μ0 S0 H0 ρ σ μ S H B L r ht k => ?_⟩
  exact h H0 ρ σ μ S H _ _ _ r.env r.ok ht (k.wish r) fun v d μ' S' H' x _ hd => k.nx _ _ _ _ _ (r.up x) x.same hd
theorem ds_ret (h : DE Z F W e ta) : DS Z F W (.Return (some e) pos) (dsRet ta) := by
  obtain ⟨te, p, h⟩ := h
  refine ⟨_, fun i => ps_ret (p i), fun μ0 S0 H0 ρ σ μ S H B L r ht k => ?_⟩
  exact h H0 ρ σ μ S H _ _ _ r.env r.ok ht (k.wish r) fun v d μ' S' H' x rd hd => k.rt v d μ' S' H' (r.ext.trans x) hd.1 rd hd.2
theorem Ext.frzAll {μ0 μ : Z.M} {S0 H0 S H : Hp} (x : Ext Z μ0 S0 H0 μ S H) : Ext Z μ0 S0 H0 μ (DL.frz Z H0 μ S H) H := by
  refine ⟨frz_ok x.ok, x.keep, x.same.trans frz_same, fun a q => ?_, x.reg, x.there⟩
  rcases frz_or (Z := Z) (B := H0) (μ := μ) (S := S) (H := H) a with z | ⟨n, _⟩
  · rw [z] at q; exact x.new a q
  · refine .inr ?_
    exact Classical.byContradiction fun w => n (.inr w)
theorem ds_retF (h : DE Z F W e ta) : DS Z F W (.Return (some e) pos) (dsRetF ta) := by
  obtain ⟨te, p, h⟩ := h
  refine ⟨_, fun i => ps_ret (p i), fun μ0 S0 H0 ρ σ μ S H B L r ht k => ?_⟩
  refine h H0 ρ σ μ S H _ _ _ r.env r.ok ht (k.wish r) fun v d μ' S' H' x rd hd => ?_
  have x2 := r.ext.trans x
  exact k.rt v (fr d) μ' _ H' x2.frzAll (sta_fr d) (rd.frz x2.ok) hd
theorem ds_retN : DS Z F W (.Return none pos) dsRetN := ⟨_, fun _ => ps_retN, fun μ0 S0 H0 ρ σ μ S H B L r h k => k.rt .non .non μ S H r.ext rfl rfl h⟩
theorem ds_if {x y : List Stmt} (hc : DB Z F W c tt) (ha : DSs Z F W x t) (hb : DSs Z F W y u) : DS Z F W (.If c x y pos) (dsIf tt t u) := by
  obtain ⟨tc, pc, hc⟩ := hc
  obtain ⟨t1, p1, ha⟩ := ha
  obtain ⟨t2, p2, hb⟩ := hb
  refine ⟨_, fun i => ps_if (pc i) (p1 i) (p2 i), fun μ0 S0 H0 ρ σ μ S H B L r ht k => ?_⟩
  refine hc H0 ρ σ μ S H _ _ _ r.env r.ok ht (k.wish r) fun v μ' S' H' x h => ?_
  cases v with
  | true => exact ha μ0 S0 H0 ρ σ μ' S' H' B L (r.up x) h (k.same x.same)
  | false => exact hb μ0 S0 H0 ρ σ μ' S' H' B L (r.up x) h (k.same x.same)
theorem ds_asg {tg : Expr} (h : DE Z F W e ta) (hg : DGJ Z F tg ix g) (hs : ∀ i, swapsWithSole [tg] e pos.line (F.X i).env = pure false := by intro _; rfl) (hw : ∀ i, swappedStores [tg] e (F.X i).env = pure none := by intro _; rfl) (h1 : ∀ i, (assignEach [tg] (F.X i).env).map (·.2) = [assign tg (F.X i).env] := by intro _; rfl) :
    DS Z F W (.Assign [tg] e pos) (dsAsg ta g) := by
  obtain ⟨te, p, h⟩ := h
  obtain ⟨tg', pg, hg⟩ := hg
  refine ⟨_, fun i => ps_asg (p i) (pg i) (hs i) (hw i) (h1 i), fun μ0 S0 H0 ρ σ μ S H B L r ht k => ?_⟩
  refine h H0 ρ σ μ S H _ _ _ r.env r.ok ht (k.wish r) fun v d μ' S' H' x rd hd => ?_
  exact hg H0 d v ρ σ μ' S' H' _ _ (r.env.ext x) x.ok rd hd fun ρ' σ' env' h' _ => k.nx _ _ _ _ _ ⟨env', r.ext.trans x⟩ x.same h'
theorem ds_set {i : Nat} {x : Str} {pos' : Pos} (h : DE Z F W e ta) (hN : ∀ j, (F.X j).N.Nodup) (hi : ∀ j, (F.X j).N[i]? = some x) (hx : ∀ j, Loc (F.X j).env.scope x)
    (hs : ∀ j, swapsWith e (some (.Name x pos')) pos.line (F.X j).env = pure false := by intro _; rfl) (hf : ∀ j, (F.X j).fn x = true ∨ (F.X j).env.scope.names.lookup x = some .local := by first | exact fun _ => .inl rfl | exact fun _ => .inr rfl) :
    DS Z F W (.Assign [.Name x pos'] e pos) (dsAsg ta (dName i)) := by
  obtain ⟨te, p, h⟩ := h
  refine ⟨_, fun j => ps_set (hN j) (hi j) (hx j) (p j) (hs j) (hf j), fun μ0 S0 H0 ρ σ μ S H B L r ht k => ?_⟩
  refine h H0 ρ σ μ S H _ _ _ r.env r.ok ht (k.wish r) fun v d μ' S' H' x rd hd => ?_
  exact k.nx _ _ _ _ _ ⟨(r.env.ext x).put hd.1 rd, r.ext.trans x⟩ x.same hd.2
theorem ds_own {i : Nat} {x : Str} {pos' : Pos} (h : DF Z F W e tA) (hN : ∀ j, (F.X j).N.Nodup) (hi : ∀ j, (F.X j).N[i]? = some x) (hx : ∀ j, Loc (F.X j).env.scope x)
    (hs : ∀ j, swapsWith e (some (.Name x pos')) pos.line (F.X j).env = pure false := by intro _; rfl) (hf : ∀ j, (F.X j).fn x = true ∨ (F.X j).env.scope.names.lookup x = some .local := by first | exact fun _ => .inl rfl | exact fun _ => .inr rfl) :
    DS Z F W (.Assign [.Name x pos'] e pos) (dsOwn i tA) := by
  obtain ⟨te, p, h⟩ := h
  refine ⟨_, fun j => ps_set (hN j) (hi j) (hx j) (p j) (hs j) (hf j), fun μ0 S0 H0 ρ σ μ S H B L r ht k => ?_⟩
  refine h H0 ρ σ μ S H _ _ _ r.env r.ok ht (k.wish r) fun a vs ds μ' S' H' x n e1 s1 f1 rd hd => ?_
  refine k.nx _ _ _ _ _ ⟨(r.env.ext x).putOwn e1 s1 f1 hd.1 rd fun j xs q1 q2 => ?_, r.ext.trans x⟩ x.same hd.2
  obtain ⟨o, z1, z2⟩ := r.env.get j _ q1
  rw [q2] at z1
  cases z1
  obtain ⟨a', vs', z3, z4, _⟩ := z2
  cases z3
  exact n.nt z4
/-! ### targets -/
theorem wipe_set {σ : L2.St} {i : Nat} {v : Option V} : ∀ {vs : List Nat}, i ∈ vs → wipe (σ.set i v) vs = wipe σ vs
  | [], h => by cases h
  | j :: vs, h => by
    unfold wipe
    by_cases hm : i ∈ vs
    · rw [wipe_set hm]
    · have e : i = j := by
        rcases List.mem_cons.mp h with z | z
        · exact z
        · exact absurd z hm
      subst e
      have : ∀ (ws : List Nat), i ∉ ws → ∀ τ : L2.St, wipe (τ.set i v) ws = (wipe τ ws).set i v := by
        intro ws
        induction ws with
        | nil => intro _ τ; rfl
        | cons w ws ih =>
          intro hw τ
          unfold wipe
          rw [ih (fun z => hw (List.mem_cons_of_mem _ z))]
          rw [List.set_comm _ _ (fun z => hw (by rw [z]; exact List.mem_cons_self))]
      rw [this vs hm, List.set_set]
theorem dg_name {i : Nat} {x : Str} (hN : ∀ j, (F.X j).N.Nodup) (hi : ∀ j, (F.X j).N[i]? = some x) (hx : ∀ j, Loc (F.X j).env.scope x)
    (hf : ∀ j, (F.X j).fn x = true ∨ (F.X j).env.scope.names.lookup x = some .local := by first | exact fun _ => .inl rfl | exact fun _ => .inr rfl) : DGJ Z F (.Name x pos) [i] (dName i) := by
  refine ⟨_, fun j => pg_name (hN j) (hi j) (hx j) (hf j), fun B d v ρ σ μ S H R Q env ok rd h k => ?_⟩
  exact k _ _ (env.put h.1 rd) h.2 fun vs hv => wipe_set (hv i (by simp))
theorem dgs_nil : DGJs Z F [] [] dgNil := ⟨_, fun _ => pgs_nil, fun B d v ρ σ μ S H R Q env ok rd h k => by
  obtain ⟨rfl, h⟩ := h
  cases rd
  exact ⟨rfl, k ρ σ env h fun _ _ => rfl⟩⟩
theorem dgs_cons {iy : List Nat} {v : DGs} (h1 : DGJ Z F e ix g) (h2 : DGJs Z F es iy v) (hs : ∀ i, (assignEach (e :: es) (F.X i).env).map (·.2) = assign e (F.X i).env :: (assignEach es (F.X i).env).map (·.2) := by intro _; rfl) : DGJs Z F (e :: es) (ix ++ iy) (dgCons g v) := by
  obtain ⟨t1, p1, h1⟩ := h1
  obtain ⟨t2, p2, h2⟩ := h2
  refine ⟨_, fun i => pgs_cons (p1 i) (p2 i) (hs i), fun B d w ρ σ μ S H R Q env ok rd h k => ?_⟩
  obtain ⟨d0, r0, rfl, h⟩ := h
  obtain ⟨v0, vr, rfl, rd1, rd2⟩ := rd
  refine ⟨v0, vr, rfl, h1 B d0 v0 ρ σ μ S H _ _ env ok rd1 h fun ρ' σ' env' h' w' => ?_⟩
  exact h2 B r0 vr ρ' σ' μ S H _ _ env' ok rd2 h' fun ρ2 σ2 env2 h2 w2 => k ρ2 σ2 env2 h2 fun vs hv => (w2 vs fun i hi => hv i (List.mem_append_right _ hi)).trans (w' vs fun i hi => hv i (List.mem_append_left _ hi))
theorem pg_or {X : Cx} {tg : Expr} {a b : TG} (p : PG X tg a) (q : PG X tg b) : PG X tg (fun v σ H Q => a v σ H Q ∨ b v σ H Q) :=
  ⟨fun pins s σ H v u Q I r h => h.elim (fun h => p.run pins s σ H v u Q I r h) fun h => q.run pins s σ H v u Q I r h⟩
theorem dg_tup {k n : Nat} {v : DGs} (hc : ∀ i, (F.X i).calm = true) (h : DGJs Z F es ix v)
    (hn : ∀ i, (assignEach es (F.X i).env).length = n := by intro _; rfl) (hst : ∀ i, (assignEach es (F.X i).env).findIdx? (·.1) = none := by intro _; rfl) : DGJ Z F (.Tuple es k pos) ix (dgTup n v) := by
  obtain ⟨t1, p1, h1⟩ := h
  refine ⟨fun v σ H Q => gTup F.K n t1 v σ H Q ∨ gLst F.K n t1 v σ H Q, fun i => by rw [← F.hK i]; exact pg_or (pg_tup (hc i) (p1 i) (hn i) (hst i)) (pg_lst (hc i) (p1 i) (hn i) (hst i)), fun B d w ρ σ μ S H R Q env ok rd h k => ?_⟩
  obtain ⟨ds, e, hl, h⟩ := h
  rcases e with rfl | rfl
  · obtain ⟨a, vs, rfl, h2, h3⟩ := rd
    exact .inl ⟨a, vs, rfl, seqT_mono ok.sub h2, by rw [h3.length]; exact hl, h1 B ds vs ρ σ μ S H _ _ env ok h3 h k⟩
  · obtain ⟨a, vs, rfl, h2, h3⟩ := rd
    exact .inr ⟨a, vs, rfl, SqL.of (ok.sub _ _ h2), by rw [h3.length]; exact hl, h1 B ds vs ρ σ μ S H _ _ env ok h3 h k⟩
/-- x op= e -/
def IpD (Z : Wld) (F : Fm) (op : Operator) (sm : Sm2) : Prop := ∃ r : TIp, (∀ i, PIp (F.X i) op r) ∧
  ∀ (rg : Addr → Prop) (μ : Z.M) (S H : Hp) (a b : D) (x y : V) (R : D → Prop) (Q : VK), Ok Z μ S H → Rd F.K rg S H a x → Rd F.K rg S H b y → sm a b R →
    (∀ (v : V) (d : D), Rd F.K rg S H d v → R d → Q v H) → r x y H Q
theorem ip_int {op : Operator} {f : Int → Int → Int} (h : ∀ i, PIp (F.X i) op (ipI f)) : IpD Z F op (fun a b R => ∃ i j, a = .int i ∧ b = .int j ∧ R (.int (f i j))) := by
  refine ⟨_, h, fun rg μ S H a b x y R Q ok ra rb hs k => ?_⟩
  obtain ⟨i, j, rfl, rfl, hs⟩ := hs
  exact ⟨i, j, ra, rb, k _ (.int (f i j)) rfl hs⟩
def smAddI : Sm2 := fun a b R => ∃ i j, a = .int i ∧ b = .int j ∧ R (.int (i + j))
def smSubI : Sm2 := fun a b R => ∃ i j, a = .int i ∧ b = .int j ∧ R (.int (i - j))
theorem ipd_add : IpD Z F .Add smAddI := ip_int fun _ => ip_add
theorem ipd_sub : IpD Z F .Sub smSubI := ip_int fun _ => ip_sub
theorem ds_aug {i : Nat} {x : Str} {op : Operator} {sm : Sm2} {pos' : Pos} (h : DE Z F W e ta) (ho : IpD Z F op sm) (hN : ∀ j, (F.X j).N.Nodup) (hi : ∀ j, (F.X j).N[i]? = some x) (hx : ∀ j, Loc (F.X j).env.scope x)
    (hf : ∀ j, (F.X j).fn x = true ∨ (F.X j).env.scope.names.lookup x = some .local := by first | exact fun _ => .inl rfl | exact fun _ => .inr rfl) :
    DS Z F W (.AugAssign (.Name x pos') op e pos) (dsAug i ta sm) := by
  obtain ⟨te, p, h⟩ := h
  obtain ⟨r, pr, hr⟩ := ho
  refine ⟨_, fun j => ps_aug (hN j) (hi j) (hx j) (p j) (pr j) (hf j), fun μ0 S0 H0 ρ σ μ S H B L rn ht k => ?_⟩
  obtain ⟨d, hd, ht⟩ := ht
  obtain ⟨o, z1, z2⟩ := rn.env.get i _ hd
  obtain ⟨v0, rfl, st0, rd0⟩ := z2
  refine ⟨v0, z1, h H0 ρ σ μ S H _ _ _ rn.env rn.ok ht (k.wish rn) fun v y μ' S' H' x rd hy => ?_⟩
  exact hr _ μ' S' H' d y v0 v _ _ x.ok (rd0.ext x) rd hy fun v2 z r2 h2 => k.nx _ _ _ _ _ ⟨(rn.env.ext x).put h2.1 r2, rn.ext.trans x⟩ x.same h2.2

/-! ### loops -/
theorem ds_for {tg iter : Expr} {body : List Stmt} (hp : ∀ i, PassesOwn (model (F.X i).prog (F.X i).w) (F.X i).A (F.X i).env (F.X i).xe) (hc : ∀ i, (F.X i).calm = true) (hi : DI Z F W tg iter tA) (hg : DGJ Z F tg ix g) (hb : DSs Z F W body t)
    (hs : ∀ i x, foldedSetIterable iter (F.X i).env x = pure x := by intro _ _; rfl) : DS Z F W (.For tg iter body [] pos) (dsFor tA g t) := by
  obtain ⟨wi, pi, hi⟩ := hi
  obtain ⟨tg', pg, hg⟩ := hg
  obtain ⟨tb, pb, hb⟩ := hb
  refine ⟨_, fun i => ps_for (hp i) (hc i) (pi i) (pg i) (pb i) (hs i), fun μ0 S0 H0 ρ σ μ S H B L r ht k => ?_⟩
  refine hi H0 ρ σ μ S H _ _ _ r.env r.ok ht (k.wish r) fun J ds μ1 S1 H1 x1 hw h1 => ?_
  refine ⟨fun i m σ' H' => m = ds.length - i ∧ i ≤ ds.length ∧ ∃ ρ' μ' S', Run F Z μ0 S0 H0 ρ' σ' μ' S' H' ∧ Same S1 S' ∧ loopD g t B (ds.drop i) ρ' μ', ⟨ds.length, by simp, Nat.zero_le _, ρ, μ1, S1, r.up x1, Same.refl _, h1⟩, ?_⟩
  rintro i m σ' H' ⟨rfl, hi', ρ', μ', S', r', s', h'⟩
  obtain ⟨w1, w2, w3⟩ := hw μ' S' H' r'.ok s' i
  by_cases hlt : i < ds.length
  · have hd : ds.drop i = ds[i] :: ds.drop (i + 1) := List.drop_eq_getElem_cons hlt
    rw [hd] at h'
    refine .inr ⟨w1 hlt, fun σ2 H2 => ∃ ρ2 μ2 S2, Run F Z μ0 S0 H0 ρ2 σ2 μ2 S2 H2 ∧ Same S1 S2 ∧ loopD g t B (ds.drop (i + 1)) ρ2 μ2, fun σ2 H2 q => ⟨ds.length - (i + 1), by omega, rfl, hlt, q⟩, fun x H2 y => ?_⟩
    obtain ⟨S2, x2, rd⟩ := w3 x H2 ds[i] (List.getElem?_eq_getElem hlt) y
    refine hg H0 ds[i] x ρ' σ' μ' S2 H2 _ _ (r'.env.ext x2) x2.ok rd h' fun ρ2 σ2 env2 h2 _ => ?_
    have s2 : Same S1 S2 := s'.trans x2.same
    have sS : Same S S2 := x1.same.trans s2
    refine hb μ0 S0 H0 ρ2 σ2 μ' S2 H2 _ _ ⟨env2, r'.ext.trans x2⟩ h2 ⟨fun ρ3 σ3 μ3 S3 H3 r3 s3 h3 => ⟨ρ3, μ3, S3, r3, s2.trans s3, h3⟩, fun ρ3 σ3 μ3 S3 H3 r3 s3 h3 => k.nx _ _ _ _ _ r3 (sS.trans s3) h3, fun ρ3 σ3 μ3 S3 H3 r3 s3 h3 => ⟨ρ3, μ3, S3, r3, s2.trans s3, h3⟩, k.rt, fun y ρ3 σ3 μ3 S3 H3 cls dd r3 s3 q3 h3 => k.ex y ρ3 σ3 μ3 S3 H3 cls dd r3 (sS.trans s3) q3 h3⟩
  · have e : i = ds.length := by omega
    subst e
    rw [List.drop_length] at h'
    exact .inl ⟨w2 rfl, k.nx _ _ _ _ _ r' (x1.same.trans s') h'⟩
theorem ds_while {body : List Stmt} (hp : ∀ i, PassesOwn (model (F.X i).prog (F.X i).w) (F.X i).A (F.X i).env (F.X i).xe) (hc : DB Z F W c tt) (hb : DSs Z F W body t) : DS Z F W (.While c body [] pos) (dsWhile tt t) := by
  obtain ⟨tc, pc, hc⟩ := hc
  obtain ⟨tb, pb, hb⟩ := hb
  refine ⟨_, fun i => ps_while (hp i) (pc i) (pb i), fun μ0 S0 H0 ρ σ μ S H B L r ht k => ?_⟩
  obtain ⟨n, ht⟩ := ht
  refine ⟨fun m σ' H' => ∃ ρ' μ' S', Run F Z μ0 S0 H0 ρ' σ' μ' S' H' ∧ Same S S' ∧ whileD tt t B m ρ' μ', ⟨n, ρ, μ, S, r, Same.refl _, ht⟩, ?_⟩
  rintro m σ' H' ⟨ρ', μ', S', r', s', h'⟩
  cases m with
  | zero => exact h'.elim
  | succ m =>
    refine hc H0 ρ' σ' μ' S' H' _ _ _ r'.env r'.ok h' ((k.same s').wish r') fun v μ2 S2 H2 x2 h2 => ?_
    have s2 : Same S S2 := s'.trans x2.same
    cases v with
    | true =>
      rw [if_pos rfl]
      refine ⟨fun σ3 H3 => ∃ ρ3 μ3 S3, Run F Z μ0 S0 H0 ρ3 σ3 μ3 S3 H3 ∧ Same S S3 ∧ whileD tt t B m ρ3 μ3, fun σ3 H3 q => ⟨m, Nat.lt_succ_self m, q⟩, ?_⟩
      exact hb μ0 S0 H0 ρ' σ' μ2 S2 H2 _ _ (r'.up x2) h2 ⟨fun ρ3 σ3 μ3 S3 H3 r3 s3 h3 => ⟨ρ3, μ3, S3, r3, s2.trans s3, h3⟩, fun ρ3 σ3 μ3 S3 H3 r3 s3 h3 => k.nx _ _ _ _ _ r3 (s2.trans s3) h3, fun ρ3 σ3 μ3 S3 H3 r3 s3 h3 => ⟨ρ3, μ3, S3, r3, s2.trans s3, h3⟩, k.rt, fun y ρ3 σ3 μ3 S3 H3 cls dd r3 s3 q3 h3 => k.ex y ρ3 σ3 μ3 S3 H3 cls dd r3 (s2.trans s3) q3 h3⟩
    | false =>
      rw [if_neg Bool.false_ne_true]
      exact k.nx _ _ _ _ _ (r'.up x2) s2 h2

/-! ### what changes an owner's list -/
theorem Run.grow {μ0 μ : Z.M} {S0 H0 S H : Hp} {ρ : Rho} {σ : L2.St} {i : Nat} {xs ys : List D} {a : Addr} {vs ws : List V} (r : Run F Z μ0 S0 H0 ρ σ μ S H) (hi : ρ[i]? = some (.own xs)) (hs : σ[i]? = some (some (.ref a)))
    (e : H a = some (.lst vs)) (n : S a = none) (nf : ¬ fb Z H0 μ a) (t : staL ys = true) (rd : RdL F.K (fb Z H0 μ) S H ys ws) : Run F Z μ0 S0 H0 (ρ.set i (.own ys)) σ μ S (upd H a (.lst ws)) := by
  refine ⟨r.env.grow hi hs e n nf t rd, ?_⟩
  have x := r.ext
  have h0 : Fr H0 a := Classical.byContradiction fun w => nf (.inr w)
  refine ⟨⟨fun b o q => ?_, Z.loc x.ok.j (Same.refl S) fun b q => ?_, x.ok.off, x.ok.nt⟩, fun b o q1 nt q2 => ?_, x.same, x.new, x.reg, fun b q => ?_⟩
  · have hb : b ≠ a := fun z => by rw [z, n] at q; cases q
    rw [upd_ne hb]; exact x.ok.sub b o q
  · exact upd_ne fun z => nf (.inl (by rw [← z]; exact q))
  · have hb : b ≠ a := fun z => by rw [z] at q2; exact h0.nt q2 nt
    rw [upd_ne hb]; exact x.keep b o q1 nt q2
  · by_cases hb : b = a
    · rw [hb]; exact h0
    · rw [Fr, upd_ne hb] at q; exact x.there b q
theorem Run.owner {μ0 μ : Z.M} {S0 H0 S H : Hp} {ρ : Rho} {σ : L2.St} {i : Nat} {xs : List D} (r : Run F Z μ0 S0 H0 ρ σ μ S H) (hi : ρ[i]? = some (.own xs)) :
    ∃ a vs, σ[i]? = some (some (.ref a)) ∧ H a = some (.lst vs) ∧ S a = none ∧ ¬ fb Z H0 μ a ∧ staL xs = true ∧ RdL F.K (fb Z H0 μ) S H xs vs := by
  obtain ⟨o, z1, z2⟩ := r.env.get i _ hi
  obtain ⟨a, vs, rfl, h⟩ := z2
  exact ⟨a, vs, z1, h⟩
theorem ds_app {i : Nat} {x : Str} {p1 apos cpos : Pos} (ha : DE Z F W e ta) (hv : ∀ j, PE (F.X j) (.Name x p1) (tVar i))
    (hbase : ∀ j, attributeBase (.Name x p1) "append" (F.X j).env (eval (.Name x p1) (F.X j).env) = eval (.Name x p1) (F.X j).env := by intro _; rfl)
    (hfew : ∀ j, ((backTo cpos (starEach [e] (F.X j).env)).all (fun x => !x.1) && (backToKw cpos (keywordEach [] (F.X j).env)).all (fun x => x.1.isSome)
      && decide (([e] : List Expr).length + ([] : List Keyword).length + (if ([] : List Keyword).isEmpty then 0 else 1) < 30)) = true := by intro _; rfl)
    (hline : (apos.endLine == cpos.line) = true := by rfl) (hs1 : ∀ j, starEach [e] (F.X j).env = (false, eval e (F.X j).env) :: starEach [] (F.X j).env := by intro _; rfl)
    (hpl : ∀ j, (backTo cpos (starEach [] (F.X j).env)).any (·.1) = false := by intro _; rfl)
    (hs : ∀ j, swapsWith (.Call (.Attribute (.Name x p1) "append" apos) [e] [] cpos) none pos.line (F.X j).env = pure false := by intro _; rfl) :
    DS Z F W (.Expr (.Call (.Attribute (.Name x p1) "append" apos) [e] [] cpos) pos) (dsApp i ta) := by
  obtain ⟨te, p, ha⟩ := ha
  refine ⟨tDrop (tBM F.K "list" rAppend (tVar i) (tCons te tNil)), fun j => ?_, fun μ0 S0 H0 ρ σ μ S H B L r ht k => ?_⟩
  · rw [← F.hK j]
    exact ps_expr (pe_bm PySem.F.plainAttrs_list PySem.F.slot_list_append PySem.F.type_list_append mt_append (hv j) (pa_cons (p j) pa_nil (hs1 j)) (hbase j) (hfew j) hline (hs1 j) (hpl j)) (hs j)
  · obtain ⟨xs, hi, ht⟩ := ht
    obtain ⟨a, vs, e1, e2, _⟩ := r.owner hi
    refine ⟨_, e1, .inl ⟨rfl, _, SqL.of e2⟩, ?_⟩
    refine ha H0 ρ σ μ S H _ _ _ r.env r.ok ht (k.wish r) fun v d μ' S' H' x rd hd => ?_
    have r' := r.up x
    obtain ⟨a', vs', e1', e2', e3', e4', e5', e6'⟩ := r'.owner hi
    rw [e1] at e1'
    cases e1'
    refine ⟨a, vs', v, rfl, rfl, e2', by rw [e6'.length]; exact hd.2.1, ?_⟩
    exact k.nx _ _ _ _ _ (r'.grow hi e1 e2' e3' e4' (staL_append e5' (by simp [staL, hd.1])) (e6'.append (.one rd))) x.same hd.2.2
theorem ds_ext {i : Nat} {x : Str} {p1 apos cpos : Pos} (ha : DE Z F W e ta) (hv : ∀ j, PE (F.X j) (.Name x p1) (tVar i))
    (hbase : ∀ j, attributeBase (.Name x p1) "extend" (F.X j).env (eval (.Name x p1) (F.X j).env) = eval (.Name x p1) (F.X j).env := by intro _; rfl)
    (hfew : ∀ j, ((backTo cpos (starEach [e] (F.X j).env)).all (fun x => !x.1) && (backToKw cpos (keywordEach [] (F.X j).env)).all (fun x => x.1.isSome)
      && decide (([e] : List Expr).length + ([] : List Keyword).length + (if ([] : List Keyword).isEmpty then 0 else 1) < 30)) = true := by intro _; rfl)
    (hline : (apos.endLine == cpos.line) = true := by rfl) (hs1 : ∀ j, starEach [e] (F.X j).env = (false, eval e (F.X j).env) :: starEach [] (F.X j).env := by intro _; rfl)
    (hpl : ∀ j, (backTo cpos (starEach [] (F.X j).env)).any (·.1) = false := by intro _; rfl)
    (hs : ∀ j, swapsWith (.Call (.Attribute (.Name x p1) "extend" apos) [e] [] cpos) none pos.line (F.X j).env = pure false := by intro _; rfl) :
    DS Z F W (.Expr (.Call (.Attribute (.Name x p1) "extend" apos) [e] [] cpos) pos) (dsExt i ta) := by
  obtain ⟨te, p, ha⟩ := ha
  refine ⟨tDrop (tBM F.K "list" rExtend (tVar i) (tCons te tNil)), fun j => ?_, fun μ0 S0 H0 ρ σ μ S H B L r ht k => ?_⟩
  · rw [← F.hK j]
    exact ps_expr (pe_bm PySem.F.plainAttrs_list PySem.F.slot_list_extend PySem.F.type_list_extend mt_extend (hv j) (pa_cons (p j) pa_nil (hs1 j)) (hbase j) (hfew j) hline (hs1 j) (hpl j)) (hs j)
  · obtain ⟨xs, hi, ht⟩ := ht
    obtain ⟨a, vs, e1, e2, _⟩ := r.owner hi
    refine ⟨_, e1, .inl ⟨rfl, _, SqL.of e2⟩, ?_⟩
    refine ha H0 ρ σ μ S H _ _ _ r.env r.ok ht (k.wish r) fun v d μ' S' H' x rd hd => ?_
    obtain ⟨ys, rfl, hy, hz, hd⟩ := hd
    obtain ⟨b, ws, rfl, hb, hr⟩ := rd
    have r' := r.up x
    obtain ⟨a', vs', e1', e2', e3', e4', e5', e6'⟩ := r'.owner hi
    rw [e1] at e1'
    cases e1'
    refine ⟨a, b, vs', ws, rfl, rfl, e2', x.ok.sub _ _ hb, by rw [e6'.length, hr.length]; exact hz, ?_⟩
    exact k.nx _ _ _ _ _ (r'.grow hi e1 e2' e3' e4' (staL_append e5' hy) (e6'.append hr)) x.same hd
theorem RdL.set {K : PySem.W.Frag} {rg : Addr → Prop} {S H : Hp} {d : D} {v : V} (r : Rd K rg S H d v) : ∀ {ds : List D} {vs : List V} (j : Nat), RdL K rg S H ds vs → RdL K rg S H (ds.set j d) (vs.set j v)
  | [], _, _, h => by cases h; simp [RdL]
  | d0 :: ds, _, 0, h => by
    obtain ⟨v0, w, rfl, h1, h2⟩ := h
    exact ⟨v, w, rfl, r, h2⟩
  | d0 :: ds, _, j + 1, h => by
    obtain ⟨v0, w, rfl, h1, h2⟩ := h
    exact ⟨v0, _, rfl, h1, RdL.set r j h2⟩
theorem ds_setOwn {i : Nat} {x : Str} {ek : Expr} {tk : DT Z} {p1 tpos : Pos} (ha : DE Z F W e ta) (hk : DE Z F W ek tk) (hv : ∀ j, PE (F.X j) (.Name x p1) (tVar i))
    (hg : ∀ (j : F.ι) (tk' : TE), PE (F.X j) ek tk' → PG (F.X j) (.Subscript (.Name x p1) ek tpos) (gSub (tVar i) tk' rSetL))
    (hs : ∀ i, swapsWithSole [.Subscript (.Name x p1) ek tpos] e pos.line (F.X i).env = pure false := by intro _; rfl) (hw : ∀ i, swappedStores [.Subscript (.Name x p1) ek tpos] e (F.X i).env = pure none := by intro _; rfl)
    (h1 : ∀ i, (assignEach [.Subscript (.Name x p1) ek tpos] (F.X i).env).map (·.2) = [assign (.Subscript (.Name x p1) ek tpos) (F.X i).env] := by intro _; rfl) :
    DS Z F W (.Assign [.Subscript (.Name x p1) ek tpos] e pos) (dsSet i tk ta) := by
  obtain ⟨te, p, ha⟩ := ha
  obtain ⟨tk', pk, hk⟩ := hk
  refine ⟨_, fun j => ps_asg (p j) (hg j tk' (pk j)) (hs j) (hw j) (h1 j), fun μ0 S0 H0 ρ σ μ S H B L r ht k => ?_⟩
  obtain ⟨xs, hi, ht⟩ := ht
  refine ha H0 ρ σ μ S H _ _ _ r.env r.ok ht (k.wish r) fun v d μ' S' H' x rd hd => ?_
  have r' := r.up x
  obtain ⟨a, vs, e1, e2, _⟩ := r'.owner hi
  refine ⟨_, e1, ?_⟩
  refine hk H0 ρ σ μ' S' H' _ _ _ r'.env r'.ok hd.2 ((k.same x.same).wish r') fun v2 d2 μ2 S2 H2 x2 rd2 hd2 => ?_
  obtain ⟨k0, j, rfl, hj, hn⟩ := hd2
  have r2 := r'.up x2
  obtain ⟨a', vs', e1', e2', e3', e4', e5', e6'⟩ := r2.owner hi
  rw [e1] at e1'
  cases e1'
  refine ⟨a, vs', k0, j, rfl, rd2, e2', by rw [e6'.length]; exact hj, ?_⟩
  refine k.nx _ _ _ _ _ (r2.grow hi e1 e2' e3' e4' ?_ (RdL.set (rd.ext x2) j e6')) (x.same.trans x2.same) hn
  rw [staL_all] at e5' ⊢
  intro y hy
  rcases List.mem_or_eq_of_mem_set hy with z | z
  · exact e5' y z
  · rw [z]; exact hd.1
end
end DL
/-! text DLi -/
/-! DL: enumerate and zip over lists and tuples in any mix. -/
namespace DL
open PySem PySem.Spec PyProof.Rows L2

/-- a list or a tuple -/
inductive Sk where
  | l | t
def SqK (K : PySem.W.Frag) (H : Hp) : Sk → Addr → List V → Prop
  | .l, a, xs => SqL K H a xs
  | .t, a, xs => SqT K H a xs
def IterK (h : Heap) : Sk → Addr → Addr → Nat → Prop
  | .l, it, a, i => h.IsListIter it a i
  | .t, it, a, i => h.IsTupleIter it a i
def IsK (h : Heap) : Sk → Addr → Array Value → Prop
  | .l, a, its => h.IsList a its
  | .t, a, its => h.IsTuple a its
def begK : Sk → Addr → Obj
  | .l, a => { cls := .type "list_iterator", data := .fields #[.ref a, .int 0 0] }
  | .t, a => { cls := .type "tuple_iterator", data := .fields #[.ref a, .int 0 0] }
theorem draws_k {prog : Program} {w : World} {A : Around} (hh : A.handled = none) (k : Sk) (it a : Addr) (hne : a ≠ it) (items : Array Value) :
    Draws prog w A it [it, a] items.size (fun i v => items[i]? = some v) (fun i h => IterK h k it a i ∧ IsK h k a items) := by
  cases k with
  | l => exact Draws.list hh it a hne items
  | t => exact Draws.tuple hh it a hne items
theorem begins_k (k : Sk) (a : Addr) (items : Array Value) : Begins (.ref a) (begK k a) fun h => IsK h k a items := by
  cases k with
  | l => exact begins_list a items
  | t => exact begins_tuple a items
theorem iterK_beg {h : Heap} {k : Sk} {it a : Addr} (e : h.get? it = some (begK k a)) : IterK h k it a 0 := by
  cases k with
  | l => exact ⟨_, e, rfl, rfl⟩
  | t => exact ⟨_, e, rfl, rfl⟩
theorem IterK.at {h h' : Heap} {k : Sk} {it a : Addr} {i : Nat} (x : IterK h k it a i) (e : ∀ o, h.get? it = some o → h'.get? it = some o) : IterK h' k it a i := by
  cases k with
  | l => exact Heap.IsListIter.at x e
  | t => exact Heap.IsTupleIter.at x e
theorem IterK.get {h : Heap} {k : Sk} {it a : Addr} {i : Nat} (x : IterK h k it a i) : ∃ o, h.get? it = some o ∧ (o.cls = .type "list_iterator" ∨ o.cls = .type "tuple_iterator") ∧ ∀ v, o.data ≠ .cell v := by
  cases k with
  | l => obtain ⟨o, e, c, d⟩ := x; exact ⟨o, e, .inl c, fun v q => by rw [d] at q; cases q⟩
  | t => obtain ⟨o, e, c, d⟩ := x; exact ⟨o, e, .inr c, fun v q => by rw [d] at q; cases q⟩
theorem IsK.ne {h : Heap} {k k' : Sk} {it a b : Addr} {i : Nat} {items : Array Value} (x : IterK h k it a i) (y : IsK h k' b items) : b ≠ it := by
  obtain ⟨o, e, c, _⟩ := x.get
  intro z
  subst z
  cases k' with
  | l =>
    obtain ⟨o', e', c', _⟩ := y
    rw [e] at e'
    cases e'
    rw [c'] at c
    rcases c with c | c <;> (injection c with c; revert c; decide)
  | t =>
    obtain ⟨o', e', c', _⟩ := y
    rw [e] at e'
    cases e'
    rw [c'] at c
    rcases c with c | c <;> (injection c with c; revert c; decide)
section
variable {X : Cx} {pins : List (Addr × Obj)} {σ : L2.St} {H : Hp} {s : Shared} {k : Sk} {a : Addr} {xs ys : List V}
theorem seq_at (I : Inv X pins σ H s) (h : SqK X.K H k a xs) : ∃ its : List Value, Vals xs its ∧ IsK s.heap k a its.toArray ∧ a < s.heap.objs.size := by
  cases k with
  | l => obtain ⟨its, rv, p, _⟩ := I.list h; exact ⟨its, rv, p.isList, p.lt⟩
  | t => obtain ⟨its, rv, p, _⟩ := I.tuple h; exact ⟨its, rv, p, p.lt⟩
theorem seq_inj (I : Inv X pins σ H s) (h : SqK X.K H k a xs) (h' : SqK X.K H k a ys) : xs = ys := by
  cases k with
  | l => exact I.list_inj h h'
  | t => exact I.tuple_inj h h'
end
/-! ### enumerate -/
def ItEK (K : PySem.W.Frag) (k : Sk) (a : Addr) : It :=
  ⟨fun i H => ∃ (xs : List V) (x : V), SqK K H k a xs ∧ xs[i]? = some x, fun i H v H' => ∃ T x, v = .ref T ∧ H T = none ∧ H' = upd H T (.tup [.int (i : Nat), x]) ∧ ∀ xs, SqK K H k a xs → xs[i]? = some x, fun i H => ∃ xs : List V, SqK K H k a xs ∧ xs.length = i⟩
theorem turn_enumK {P : Program} {w : World} {K : PySem.W.Frag} {elts : List Expr} {kk : Nat} {tpos : Pos} (k : Sk) (a e it : Addr) :
    Turn P w K (.Tuple elts kk tpos) (ItEK K k a) [e, it] e (fun i h => (∃ old, IsEnum h e it ((i : Nat) : Int) old) ∧ IterK h k it a i ∧ e ≠ it ∧ e ≠ a) where
  mem := by simp
  obj := fun i h st b hb => by
    obtain ⟨⟨old, he⟩, hi, _⟩ := st
    obtain ⟨o, ho, _, hd⟩ := hi.get
    have e' : b = e ∨ b = it := by simpa using hb
    rcases e' with z | z
    · rw [z]; exact ⟨_, he, fun v q => nomatch q⟩
    · rw [z]; exact ⟨o, ho, hd⟩
  keep := fun i h h' st k => let ⟨⟨old, he⟩, hi, hne, hna⟩ := st; ⟨⟨old, k e (by simp) _ he⟩, hi.at fun o q => k it (by simp) o q, hne, hna⟩
  item := by
    intro X hP hw hK hc i pins s σ H E I hf st hg
    subst hP hw hK
    obtain ⟨⟨old, he⟩, hit, hne, hna⟩ := st
    obtain ⟨xs, x, hq, hx⟩ := hg
    obtain ⟨its, rv, p, hal⟩ := seq_at I hq
    obtain ⟨u, hu, ru⟩ := rv.get hx
    have hel : e < s.heap.objs.size := Heap.lt_size he
    have hil : it < s.heap.objs.size := by obtain ⟨_, q, _⟩ := hit.get; exact Heap.lt_size q
    have hh : X.A.in1.handled = none := I.ok.hd hc
    have hlt : i < its.toArray.size := by
      have := (List.getElem?_eq_some_iff.mp hu).1
      simpa using this
    refine wpAny_pyNext_enum_itemC (draws_k hh k it a (IsK.ne hit p) its.toArray) he ⟨hit, p⟩ hlt hne (by simp [hne, hna]) fun x' h' tk hx' ho st' hT hsz hk => ?_
    obtain ⟨hit', p'⟩ := st'
    have ex : x' = u := by
      have : its.toArray[i]? = some u := by simpa using hu
      rw [hx'] at this
      exact Option.some.inj this
    subst ex
    refine ⟨_, rfl, wpAny_letOwnedTupleGo_enum (s := { s with heap := h', toks := tk + 1 }) ho fun h'' he' sb => ?_⟩
    have hT2 : h''.get? s.heap.objs.size = some { cls := .type "tuple", data := .seq #[.int i tk, x'] } := (sb.2 _ (Nat.ne_of_gt hel)).trans hT
    have new : ObjOk X.prog X.w (upd H s.heap.objs.size (.tup [.int (i : Nat), x])) h'' s.heap.objs.size (.tup [.int (i : Nat), x]) :=
      ⟨by show 2 ≤ sizeLine; decide, [.int i tk, x'], .cons ⟨_, rfl⟩ (.cons ru .nil), ⟨_, hT2, rfl, _, rfl⟩⟩
    have I1 : Inv X pins σ (upd H s.heap.objs.size (.tup [.int (i : Nat), x])) { s with heap := h'', toks := tk + 1 } :=
      I.turnedNew (ch := [e, it]) (fun b ob hb q => (sb.2 b (fun z => hb (by simp [z]))).trans (hk b ob (fun z => hb (by simp [z])) (fun z => hb (by simp [z])) q)) hf (Nat.le_refl _) new
    refine ⟨.ref s.heap.objs.size, _, I1, rfl, ⟨_, x, rfl, I.hok.fresh (Nat.le_refl _), rfl, fun ys hy => by rw [seq_inj I hy hq]; exact hx⟩, ⟨⟨x', ?_⟩, hit'.at fun o q => (sb.2 it (Ne.symm hne)).trans q, hne, hna⟩, fun b hb => ?_⟩
    · have e1 : ((i + 1 : Nat) : Int) = (i : Int) + 1 := by omega
      rw [e1]; exact he'
    · have hb' : b < s.heap.objs.size := by
        have e' : b = e ∨ b = it := by simpa using hb
        rcases e' with z | z
        · rw [z]; exact hel
        · rw [z]; exact hil
      rw [upd_ne (Nat.ne_of_lt hb')]
      exact (hf b hb).1
  done := by
    intro X hP hw hK hc i pins s σ H E I hf st hg
    subst hP hw hK
    obtain ⟨⟨old, he⟩, hit, hne, hna⟩ := st
    obtain ⟨xs, hq, hx⟩ := hg
    obtain ⟨its, rv, p, hal⟩ := seq_at I hq
    obtain ⟨f0, f1, f2, f3, f4, f5⟩ := hf it (by simp)
    have hl := rv.length
    have hh : X.A.in1.handled = none := I.ok.hd hc
    have hn : its.toArray.size = i := by simp; omega
    subst hn
    exact wpAny_pyNext_enum_endD (draws_k hh k it a (IsK.ne hit p) its.toArray) he ⟨hit, p⟩ fun h' eb => ⟨rfl, I.turned (t' := s.toks) (fun b o hb q => eb b o hb q) f0 f1 f3 f4 f5⟩
  self := fun A i s Q E st h => let ⟨⟨_, he⟩, _⟩ := st; wpAny_pyIter_enum he h
def iEnumK (K : PySem.W.Frag) (ta : TA) : TI := fun σ H R => ta σ H fun vs H1 => ∃ k a xs, vs = [.ref a] ∧ SqK K H1 k a xs ∧ R (ItEK K k a) H1
open Sem (wp) in
set_option maxHeartbeats 1000000 in
theorem meets_enumerate_newB1 {v : Value} {o : Obj} {H : Heap → Prop} (B : Begins v o H) :
    Meets (Builtin.«enumerate.__new__» ⟨[.type "enumerate", v], []⟩) (fun _ R s => H s.heap ∧
      R (.ok (.ret (.ref (s.heap.push o).objs.size))) { s with heap := (s.heap.push o).push { cls := .type "enumerate", data := .fields #[.none, .bool false, .ref s.heap.objs.size, rawInt 0, .none, .none] } }) :=
  .of_wp fun prog w A R s h => by
    obtain ⟨hp, g, d, tk, os⟩ := s; obtain ⟨h1, h⟩ := h
    have hsub := sub_enumerate
    have q1 : ∀ {A' : Around} {E : Value → Shared → Prop} {Q : Value → Shared → Prop}, Q (.ref hp.objs.size) ⟨hp.push o, g, d, tk, os⟩ → wpAny (model prog w) A' (pyIter v) Q E ⟨hp, g, d, tk, os⟩ :=
      fun q => B.iter prog w _ _ ⟨hp, g, d, tk, os⟩ _ h1 q
    wp_walk using q1
    refine wpAny_stack_any fun st => wpAny_pure ?_
    split
    · rename_i c _ _ _ _ _
      cases (c == Value.type "enumerate")
      · wp_walk using q1
        exact ⟨_, rfl, h⟩
      · wp_walk using q1
        exact ⟨_, rfl, h⟩
    · wp_walk using q1
      exact ⟨_, rfl, h⟩
theorem callE {prog : Program} {w : World} {A : Around} {E : Value → Shared → Prop} {s : Shared} {v : Value} {o : Obj} {G : Heap → Prop} {Q : Value → Shared → Prop} (B : Begins v o G) (h1 : G s.heap)
    (h : ∀ h', IsEnum h' (s.heap.objs.size + 1) s.heap.objs.size 0 .none → h'.get? s.heap.objs.size = some o → h'.objs.size = s.heap.objs.size + 2 →
      (∀ b o, s.heap.get? b = some o → h'.get? b = some o) → Q (.ref (s.heap.objs.size + 1)) { s with heap := h' }) :
    wpAny (model prog w) A (call (.type "enumerate") [v]) Q E s := by
  refine callType_new F.called_enumerate (by decide) (F.typeCall_enumerate_1 _) (F.newCall_enumerate_1 _) (fun obj => F.args_object_init_2 obj _) F.entry_enumerate_new
    (meets_enumerate_newB1 B) ⟨h1, ?_⟩
  have hz : (s.heap.push o).objs.size = s.heap.objs.size + 1 := Heap.size_push ..
  show _ ∧ _
  rw [hz]
  have he : IsEnum ((s.heap.push o).push { cls := .type "enumerate", data := .fields #[.none, .bool false, .ref s.heap.objs.size, rawInt 0, .none, .none] }) (s.heap.objs.size + 1) s.heap.objs.size 0 .none := by
    have := Heap.get?_push_size (s.heap.push o) (o := { cls := .type "enumerate", data := .fields #[.none, .bool false, .ref s.heap.objs.size, rawInt 0, .none, .none] }) rfl
    rw [hz] at this; exact this
  exact ⟨⟨_, he, rfl⟩, h _ he (Heap.get?_push_of_some _ (Heap.get?_push_size _ B.free)) (by rw [Heap.size_push, hz]) fun b o x => Heap.get?_push_of_some _ (Heap.get?_push_of_some _ x)⟩
theorem pi_enumK {X : Cx} {e : Expr} {ta : TA} {p pos tpos : Pos} {elts : List Expr} {kk : Nat} (hg : Gl X "enumerate") (hm : X.mg "enumerate" = none) (ha : PA X [e] ta) (hs : starEach [e] X.env = [(false, eval e X.env)] := by rfl) :
    PI X (.Tuple elts kk tpos) (.Call (.Name "enumerate" p) [e] [] pos) (iEnumK X.K ta) := by
  refine ⟨fun pins s σ H R I h => ?_⟩
  refine Call_ (ld_blt I hg hm boot_enumerate (PyProof.Rows.callWith_type1 (thn (ha.run pos pins s σ H _ I h) fun us s1 ⟨vs, H1, I1, r1, q1⟩ => ?_) hs rfl))
  obtain ⟨k, a, xs, ex, hq, q⟩ := q1
  subst ex
  cases r1 with
  | cons r rr =>
    cases rr
    cases r
    obtain ⟨its, rv, p', hal⟩ := seq_at I1 hq
    refine callE (begins_k k a its.toArray) p' fun h' he hit hsz hk => wpAny_pyIter_enum he ?_
    have I2 : Inv X pins σ H1 { s1 with heap := h' } := I1.kept (t' := s1.toks) hk
    refine ⟨s1.heap.objs.size + 1, [s1.heap.objs.size + 1, s1.heap.objs.size], _, _, H1, rfl, I2, turn_enumK k a (s1.heap.objs.size + 1) s1.heap.objs.size, ⟨⟨.none, he⟩, iterK_beg hit, Nat.succ_ne_self _, ?_⟩, fun b hb => ?_, q⟩
    · exact Nat.ne_of_gt (Nat.lt_succ_of_lt hal)
    have e' : b = s1.heap.objs.size + 1 ∨ b = s1.heap.objs.size := by simpa using hb
    have hle : s1.heap.objs.size ≤ b := by
      rcases e' with z | z
      · rw [z]; exact Nat.le_add_right _ _
      · rw [z]; exact Nat.le_refl _
    exact I1.fpOk hle (I1.hok.fresh hle)
/-! ### zip -/
def ItZK (K : PySem.W.Frag) (k1 k2 : Sk) (a b : Addr) : It :=
  ⟨fun i H => ∃ (xs ys : List V) (x y : V), SqK K H k1 a xs ∧ SqK K H k2 b ys ∧ xs[i]? = some x ∧ ys[i]? = some y,
    fun i H v H' => ∃ T x y, v = .ref T ∧ H T = none ∧ H' = upd H T (.tup [x, y]) ∧ (∀ xs, SqK K H k1 a xs → xs[i]? = some x) ∧ ∀ ys, SqK K H k2 b ys → ys[i]? = some y,
    fun i H => ∃ xs ys : List V, SqK K H k1 a xs ∧ SqK K H k2 b ys ∧ i = min xs.length ys.length⟩
theorem turn_zipK {P : Program} {w : World} {K : PySem.W.Frag} {elts : List Expr} {kk : Nat} {tpos : Pos} {k1 k2 : Sk} {a b z TI TO i1 i2 : Addr} (D : ZipSep2 z TI TO i1 i2 [i1, a] [i2, b]) :
    Turn P w K (.Tuple elts kk tpos) (ItZK K k1 k2 a b) [z, TI, TO, i1, i2] z (fun i h => IsZip h z TI TO .none ∧ IsTupOf2 h TI (.ref i1) (.ref i2) ∧ (∃ x y, IsTupOf2 h TO x y) ∧ IterK h k1 i1 a i ∧ IterK h k2 i2 b i) where
  mem := by simp
  obj := fun i h st c hc => by
    obtain ⟨hz, hTI, ⟨x, y, hTO⟩, h1, h2⟩ := st
    obtain ⟨o1, e1, _, d1⟩ := h1.get
    obtain ⟨o2, e2, _, d2⟩ := h2.get
    have e' : c = z ∨ c = TI ∨ c = TO ∨ c = i1 ∨ c = i2 := by simpa using hc
    rcases e' with q | q | q | q | q
    · rw [q]; exact ⟨_, hz, fun v q => nomatch q⟩
    · rw [q]; exact ⟨_, hTI, fun v q => nomatch q⟩
    · rw [q]; exact ⟨_, hTO, fun v q => nomatch q⟩
    · rw [q]; exact ⟨o1, e1, d1⟩
    · rw [q]; exact ⟨o2, e2, d2⟩
  keep := fun i h h' st k => by
    obtain ⟨hz, hTI, ⟨x, y, hTO⟩, h1, h2⟩ := st
    exact ⟨k z (by simp) _ hz, k TI (by simp) _ hTI, ⟨x, y, k TO (by simp) _ hTO⟩, h1.at fun o q => k i1 (by simp) o q, h2.at fun o q => k i2 (by simp) o q⟩
  item := by
    intro X hP hw hK hc i pins s σ H E I hf st hg
    subst hP hw hK
    obtain ⟨hz, hTI, ⟨x0, y0, hTO⟩, h1, h2⟩ := st
    obtain ⟨xs, ys, x, y, hqx, hqy, hx, hy⟩ := hg
    obtain ⟨its, rv, p, _⟩ := seq_at I hqx
    obtain ⟨its2, rv2, p2, _⟩ := seq_at I hqy
    obtain ⟨u, hu, ru⟩ := rv.get hx
    obtain ⟨u2, hu2, ru2⟩ := rv2.get hy
    have hzl : z < s.heap.objs.size := Heap.lt_size hz
    have hh : X.A.in1.handled = none := I.ok.hd hc
    have hu' : its.toArray[i]? = some u := by simpa using hu
    have hu2' : its2.toArray[i]? = some u2 := by simpa using hu2
    have hlt1 : i < its.toArray.size := by simpa using (List.getElem?_eq_some_iff.mp hu).1
    have hlt2 : i < its2.toArray.size := by simpa using (List.getElem?_eq_some_iff.mp hu2).1
    have d1 := draws_k (prog := X.prog) (w := X.w) hh k1 i1 a (IsK.ne h1 p) its.toArray
    have d2 := draws_k (prog := X.prog) (w := X.w) hh k2 i2 b (IsK.ne h2 p2) its2.toArray
    refine wpAny_pyNext_zipD2_item D d1 d2 hz hTI hTO ⟨h1, p⟩ ⟨h2, p2⟩ hlt1 hlt2 fun w1 w2 h' tk y1 y2 z' TO' st1' st2' hT hsz hk => ?_
    obtain ⟨h1', p1'⟩ := st1'
    obtain ⟨h2', p2'⟩ := st2'
    have e1 : w1 = u := Option.some.inj (y1.symm.trans hu')
    have e2 : w2 = u2 := Option.some.inj (y2.symm.trans hu2')
    subst e1
    subst e2
    refine ⟨_, rfl, wpAny_letOwnedTupleGo_zip (s := { s with heap := h', toks := tk }) z' fun h'' z'' sb => ?_⟩
    have hT2 : h''.get? s.heap.objs.size = some { cls := .type "tuple", data := .seq #[w1, w2] } := (sb.2 _ (Nat.ne_of_gt hzl)).trans hT
    have new : ObjOk X.prog X.w (upd H s.heap.objs.size (.tup [x, y])) h'' s.heap.objs.size (.tup [x, y]) :=
      ⟨by show 2 ≤ sizeLine; decide, [w1, w2], .cons ru (.cons ru2 .nil), ⟨_, hT2, rfl, _, rfl⟩⟩
    have I1 : Inv X pins σ (upd H s.heap.objs.size (.tup [x, y])) { s with heap := h'', toks := tk } :=
      I.turnedNew (t' := tk) (ch := [z, TI, TO, i1, i2]) (fun c o hb q => (sb.2 c (fun q' => hb (by simp [q']))).trans (hk c o (fun q' => hb (by simp [q'])) (fun q' => hb (by simp [q'])) (fun q' => hb (by simp [q'])) (fun q' => hb (by simp [q'])) q)) hf (Nat.le_refl _) new
    have i1z : i1 ≠ z := fun q => D.zf1 (by rw [q]; simp)
    have i2z : i2 ≠ z := fun q => D.zf2 (by rw [q]; simp)
    have TIi1 := D.TIi1
    have TIi2 := D.TIi2
    refine ⟨.ref s.heap.objs.size, _, I1, rfl, ⟨_, x, y, rfl, I.hok.fresh (Nat.le_refl _), rfl, fun l hl => by rw [seq_inj I hl hqx]; exact hx, fun l hl => by rw [seq_inj I hl hqy]; exact hy⟩, ⟨z'', ?_, ⟨w1, w2, ?_⟩, ?_, ?_⟩, fun c hcm => ?_⟩
    · exact (sb.2 _ D.TIz).trans (hk _ _ D.TIz D.TITO TIi1 TIi2 hTI)
    · exact (sb.2 _ D.TOz).trans TO'
    · exact h1'.at fun o q => (sb.2 _ i1z).trans q
    · exact h2'.at fun o q => (sb.2 _ i2z).trans q
    · have hlt : c < s.heap.objs.size := by
        have e' : c = z ∨ c = TI ∨ c = TO ∨ c = i1 ∨ c = i2 := by simpa using hcm
        rcases e' with q | q | q | q | q
        · rw [q]; exact hzl
        · rw [q]; exact Heap.lt_size hTI
        · rw [q]; exact Heap.lt_size hTO
        · rw [q]; obtain ⟨_, e1, _⟩ := h1.get; exact Heap.lt_size e1
        · rw [q]; obtain ⟨_, e2, _⟩ := h2.get; exact Heap.lt_size e2
      rw [upd_ne (Nat.ne_of_lt hlt)]
      exact (hf c hcm).1
  done := by
    intro X hP hw hK hc i pins s σ H E I hf st hg
    subst hP hw hK
    obtain ⟨hz, hTI, ⟨x0, y0, hTO⟩, h1, h2⟩ := st
    obtain ⟨xs, ys, hqx, hqy, hend⟩ := hg
    obtain ⟨its, rv, p, _⟩ := seq_at I hqx
    obtain ⟨its2, rv2, p2, _⟩ := seq_at I hqy
    have l1 := rv.length
    have l2 := rv2.length
    have hh : X.A.in1.handled = none := I.ok.hd hc
    have d1 := draws_k (prog := X.prog) (w := X.w) hh k1 i1 a (IsK.ne h1 p) its.toArray
    have d2 := draws_k (prog := X.prog) (w := X.w) hh k2 i2 b (IsK.ne h2 p2) its2.toArray
    have s1 : its.toArray.size = xs.length := by simp; omega
    have s2 : its2.toArray.size = ys.length := by simp; omega
    exact wpAny_pyNext_zipD2_end D d1 d2 hz hTI hTO ⟨h1, p⟩ ⟨h2, p2⟩ (by rw [s1]; omega) (by rw [s2]; omega) (by rw [s1, s2]; omega) fun h' tk hk => ⟨rfl, I.turnedL (t' := tk) (ch := [z, TI, TO, i1, i2]) (fun c o hb q =>
      hk c o (fun q' => hb (by simp [q'])) (fun q' => hb (by simp [q'])) (fun q' => hb (by simp [q'])) (fun q' => hb (by simp [q'])) q) hf⟩
  self := fun A i s Q E st h => wpAny_pyIter_zip st.1 h
def iZipK (K : PySem.W.Frag) (ta : TA) : TI := fun σ H R => ta σ H fun vs H1 => ∃ k1 k2 a b xs ys, vs = [.ref a, .ref b] ∧ SqK K H1 k1 a xs ∧ SqK K H1 k2 b ys ∧ R (ItZK K k1 k2 a b) H1
theorem pi_zipK {X : Cx} {e e2 : Expr} {ta : TA} {p pos tpos : Pos} {elts : List Expr} {kk : Nat} (hg : Gl X "zip") (hm : X.mg "zip" = none) (ha : PA X [e, e2] ta)
    (hs : starEach [e, e2] X.env = (false, eval e X.env) :: starEach [e2] X.env := by rfl) (hpl : (backTo pos (starEach [e2] X.env)).any (·.1) = false := by rfl) :
    PI X (.Tuple elts kk tpos) (.Call (.Name "zip" p) [e, e2] [] pos) (iZipK X.K ta) := by
  refine ⟨fun pins s σ H R I h => ?_⟩
  refine Call_ (ld_blt I hg hm PyProof.Rows.boot_zip (PyProof.Rows.callWith_type1 (thn (ha.run pos pins s σ H _ I h) fun us s1 ⟨vs, H1, I1, r1, q1⟩ => ?_) hs hpl))
  obtain ⟨k1, k2, a, b, xs, ys, ex, hqx, hqy, q⟩ := q1
  subst ex
  cases r1 with
  | cons r rr =>
    cases rr with
    | cons r' rr =>
      cases rr
      cases r
      cases r'
      obtain ⟨its, rv, p1, la⟩ := seq_at I1 hqx
      obtain ⟨its2, rv2, p2, lb⟩ := seq_at I1 hqy
      refine zip_begins2 (begins_k k1 a its.toArray) (begins_k k2 b its2.toArray) p1 p2 fun h' hz hTI hTO h1 h2 hsz hk => wpAny_pyIter_zip hz ?_
      have I2 : Inv X pins σ H1 { s1 with heap := h' } := I1.kept (t' := s1.toks) hk
      refine ⟨s1.heap.objs.size + 4, [s1.heap.objs.size + 4, s1.heap.objs.size + 2, s1.heap.objs.size + 3, s1.heap.objs.size, s1.heap.objs.size + 1], _, _, H1, rfl, I2, turn_zipK (zip_sep2 (fp1 := [a]) (fp2 := [b]) (fun c hc => by rw [List.mem_singleton.mp hc]; exact la) (fun c hc => by rw [List.mem_singleton.mp hc]; exact lb)), ⟨hz, hTI, ⟨_, _, hTO⟩, iterK_beg h1, iterK_beg h2⟩, fun c hcm => ?_, q⟩
      have e' : c = s1.heap.objs.size + 4 ∨ c = s1.heap.objs.size + 2 ∨ c = s1.heap.objs.size + 3 ∨ c = s1.heap.objs.size ∨ c = s1.heap.objs.size + 1 := by simpa using hcm
      have hle : s1.heap.objs.size ≤ c := by
        rcases e' with z | z | z | z | z
        · rw [z]; exact Nat.le_add_right _ _
        · rw [z]; exact Nat.le_add_right _ _
        · rw [z]; exact Nat.le_add_right _ _
        · rw [z]; exact Nat.le_refl _
        · rw [z]; exact Nat.le_add_right _ _
      exact I1.fpOk hle (I1.hok.fresh hle)
end DL
/-! text DLe -/
/-! DL, fifth part: what is walked; comprehensions; the promise of a def, its call. -/
namespace DL
open PySem PySem.Spec PyProof.Rows L2

def itemsD : D → Option (List D)
  | .tup xs => some xs
  | .lst xs => some xs
  | .scr ns => some (ns.map .int)
  | _ => none
def itemsC : D → Option (List D)
  | .tup xs => some xs
  | .lst xs => some xs
  | .vw xs => some xs
  | .scr ns => some (ns.map .int)
  | _ => none
def enumF : Nat → List D → List D
  | _, [] => []
  | i, d :: ds => .tup [.int i, d] :: enumF (i + 1) ds
def zipF : List D → List D → List D
  | d :: ds, e :: es => .tup [d, e] :: zipF ds es
  | _, _ => []
def rangeF : Int → Nat → List D
  | _, 0 => []
  | lo, n + 1 => .int lo :: rangeF (lo + 1) n
theorem enumF_length : ∀ (i : Nat) (ds : List D), (enumF i ds).length = ds.length
  | _, [] => rfl
  | i, d :: ds => by simp only [enumF, List.length_cons, enumF_length]
theorem enumF_get : ∀ (i : Nat) (ds : List D) (j : Nat), (enumF i ds)[j]? = ds[j]?.map fun d => .tup [.int ((i + j : Nat)), d]
  | _, [], j => by simp [enumF]
  | i, d :: ds, 0 => by simp [enumF]
  | i, d :: ds, j + 1 => by
    simp only [enumF, List.getElem?_cons_succ]
    rw [enumF_get (i + 1) ds j]
    congr 1
    funext d
    rw [show i + 1 + j = i + (j + 1) by omega]
theorem zipF_length : ∀ ds es : List D, (zipF ds es).length = min ds.length es.length
  | [], _ => by simp [zipF]
  | _ :: _, [] => by simp [zipF]
  | d :: ds, e :: es => by simp only [zipF, List.length_cons, zipF_length]; omega
theorem zipF_get : ∀ (ds es : List D) (j : Nat) (x : D), (zipF ds es)[j]? = some x → ∃ d e, ds[j]? = some d ∧ es[j]? = some e ∧ x = .tup [d, e]
  | [], _, j, x, h => by simp [zipF] at h
  | _ :: _, [], j, x, h => by simp [zipF] at h
  | d :: ds, e :: es, 0, x, h => by simp [zipF] at h; exact ⟨d, e, rfl, rfl, h.symm⟩
  | d :: ds, e :: es, j + 1, x, h => by simpa using zipF_get ds es j x (by simpa [zipF] using h)
theorem rangeF_length : ∀ (lo : Int) (n : Nat), (rangeF lo n).length = n
  | _, 0 => rfl
  | lo, n + 1 => by simp only [rangeF, List.length_cons, rangeF_length]
theorem rangeF_get : ∀ (lo : Int) (n j : Nat), j < n → (rangeF lo n)[j]? = some (.int (lo + j))
  | lo, 0, j, h => by omega
  | lo, n + 1, 0, h => by simp [rangeF]
  | lo, n + 1, j + 1, h => by
    simp only [rangeF, List.getElem?_cons_succ]
    rw [rangeF_get (lo + 1) n j (by omega)]
    congr 2
    omega
theorem sta_at {ds : List D} (h : staL ds = true) {i : Nat} {d : D} (e : ds[i]? = some d) : sta d = true := staL_all.mp h d (List.mem_of_getElem? e)

/-- a list or a tuple that is walked -/
def ItK (K : PySem.W.Frag) : Sk → Addr → It
  | .l, a => Itl K a
  | .t, a => Itt K a
def iSeqK (K : PySem.W.Frag) (tl : TE) : TI := fun σ H R => tl σ H fun x H1 => ∃ k a, x = .ref a ∧ (∃ xs, SqK K H1 k a xs) ∧ R (ItK K k a) H1
theorem pi_seqK {X : Cx} {tg l : Expr} {tl : TE} (hl : PE X l tl) : PI X tg l (iSeqK X.K tl) := by
  refine ⟨fun pins s σ H R I h => ?_⟩
  refine thn (hl.run pins s σ H _ I h) fun v s1 ⟨x, H1, I1, r1, q1⟩ => ?_
  obtain ⟨k, a, e, ⟨xs, hq⟩, q⟩ := q1
  subst e
  cases r1
  cases k with
  | l =>
    obtain ⟨its, rv, p, hz⟩ := I1.list hq
    refine wpAny_pyIter_list p.isList ?_
    refine ⟨s1.heap.objs.size, [s1.heap.objs.size], _, _, H1, rfl, I1.kept (t' := s1.toks) fun b o e => Heap.get?_push_of_some _ e, turn_list a _, ⟨_, Heap.get?_push_size _ rfl, rfl, rfl⟩, fun b hb => ?_, q⟩
    have e : b = s1.heap.objs.size := by simpa using hb
    subst e
    exact I1.fpOk (Nat.le_refl _) (I1.hok.fresh (Nat.le_refl _))
  | t =>
    obtain ⟨its, rv, p, hz⟩ := I1.tuple hq
    refine wpAny_pyIter_tuple (show s1.heap.IsTuple a its.toArray from p) ?_
    refine ⟨s1.heap.objs.size, [s1.heap.objs.size], _, _, H1, rfl, I1.kept (t' := s1.toks) fun b o e => Heap.get?_push_of_some _ e, turn_tuple a _, ⟨_, Heap.get?_push_size _ rfl, rfl, rfl⟩, fun b hb => ?_, q⟩
    have e : b = s1.heap.objs.size := by simpa using hb
    subst e
    exact I1.fpOk (Nat.le_refl _) (I1.hok.fresh (Nat.le_refl _))

section
variable {K : PySem.W.Frag} {rg : Addr → Prop} {S S' H H' : Hp}
theorem rdl_ints : ∀ ns : List Int, RdL K rg S H (ns.map .int) (ns.map V.int)
  | [] => rfl
  | n :: ns => ⟨.int n, ns.map V.int, rfl, rfl, rdl_ints ns⟩
/-- the object of a walked value -/
theorem items_seq {d : D} {ds : List D} {v : V} (sub : Same S H) (r : Rd K rg S H d v) (e : itemsD d = some ds) : ∃ k a vs, v = .ref a ∧ SqK K S k a vs ∧ SqK K H k a vs ∧ RdL K rg S H ds vs := by
  cases d with
  | tup xs =>
    obtain ⟨a, vs, rfl, h1, h2⟩ := r
    cases e
    exact ⟨.t, a, vs, rfl, h1, seqT_mono sub h1, h2⟩
  | lst xs =>
    obtain ⟨a, vs, rfl, h1, h2⟩ := r
    cases e
    exact ⟨.l, a, vs, rfl, SqL.of h1, SqL.of (sub _ _ h1), h2⟩
  | scr ns =>
    obtain ⟨a, rfl, h1⟩ := r
    cases e
    exact ⟨.l, a, _, rfl, h1, sub.seq h1, rdl_ints ns⟩
  | _ => cases e
theorem items_seqC {d : D} {ds : List D} {v : V} (sub : Same S H) (r : Rd K rg S H d v) (e : itemsC d = some ds) : ∃ k a vs, v = .ref a ∧ SqK K H k a vs ∧ (SqK K S k a vs ∨ (k = .l ∧ ¬ rg a ∧ H a = some (.lst vs))) ∧ RdL K rg S H ds vs := by
  cases d with
  | tup xs =>
    obtain ⟨a, vs, rfl, h1, h2⟩ := r
    cases e
    exact ⟨.t, a, vs, rfl, seqT_mono sub h1, .inl h1, h2⟩
  | lst xs =>
    obtain ⟨a, vs, rfl, h1, h2⟩ := r
    cases e
    exact ⟨.l, a, vs, rfl, SqL.of (sub _ _ h1), .inl (SqL.of h1), h2⟩
  | vw xs =>
    obtain ⟨a, vs, rfl, h0, h1, h2⟩ := r
    cases e
    exact ⟨.l, a, vs, rfl, SqL.of h1, .inr ⟨rfl, h0, h1⟩, h2⟩
  | scr ns =>
    obtain ⟨a, rfl, h1⟩ := r
    cases e
    exact ⟨.l, a, _, rfl, sub.seq h1, .inl h1, rdl_ints ns⟩
  | _ => cases e
theorem seqK_mono {k : Sk} {a : Addr} {xs : List V} (e : Same S S') (h : SqK K S k a xs) : SqK K S' k a xs := by
  cases k with
  | l =>
    rcases h with (h | ⟨o, h⟩) | h
    · exact .inl (.inl (e _ _ h))
    · exact .inl (.inr ⟨o, e _ _ h⟩)
    · exact .inr h
  | t => exact seqT_mono e h
end

section
variable {Z : Wld}
def dSeq {M : Type} (ta : DT0 M) : DTA0 M := fun ρ μ R E => ta ρ μ (fun d μ' => ∃ ds, itemsD d = some ds ∧ staL ds = true ∧ R ds μ') E
def dSeqC {M : Type} (ta : DT0 M) : DTA0 M := fun ρ μ R E => ta ρ μ (fun d μ' => ∃ ds, itemsC d = some ds ∧ R ds μ') E
def dEnum {M : Type} (ta : DT0 M) : DTA0 M := fun ρ μ R E => ta ρ μ (fun d μ' => ∃ ds, itemsD d = some ds ∧ staL ds = true ∧ R (enumF 0 ds) μ') E
def dEnumC {M : Type} (ta : DT0 M) : DTA0 M := fun ρ μ R E => ta ρ μ (fun d μ' => ∃ ds, itemsC d = some ds ∧ R (enumF 0 ds) μ') E
def dZip {M : Type} (ta : DTA0 M) : DTA0 M := fun ρ μ R E => ta ρ μ (fun as μ' => ∃ a b ds es, as = [a, b] ∧ itemsD a = some ds ∧ itemsD b = some es ∧ staL ds = true ∧ staL es = true ∧ R (zipF ds es) μ') E
def dZipC {M : Type} (ta : DTA0 M) : DTA0 M := fun ρ μ R E => ta ρ μ (fun as μ' => ∃ a b ds es, as = [a, b] ∧ itemsC a = some ds ∧ itemsC b = some es ∧ R (zipF ds es) μ') E
def dRng1 {M : Type} (ta : DTA0 M) : DTA0 M := fun ρ μ R E => ta ρ μ (fun as μ' => ∃ j : Int, as = [.int j] ∧ -(2 ^ 62) ≤ j ∧ j < 2 ^ 62 ∧ R (rangeF 0 j.toNat) μ') E
def dRng2 {M : Type} (ta : DTA0 M) : DTA0 M := fun ρ μ R E => ta ρ μ (fun as μ' => ∃ i j : Int, as = [.int i, .int j] ∧ (-(2 ^ 62) ≤ i ∧ i < 2 ^ 62 ∧ -(2 ^ 62) ≤ j ∧ j < 2 ^ 62) ∧ R (rangeF i (j - i).toNat) μ') E
end
section
variable {Z : Wld} {F : Fm} {W : WX} {tg e e2 : Expr} {ta : DT Z} {tA : DTA Z} {pos p tpos : Pos} {elts : List Expr} {kk : Nat}
theorem wk_seq {B : Hp} {k : Sk} {a : Addr} {vs : List V} {ds : List D} {μ2 : Z.M} {S2 H2 : Hp} (ok : Ok Z μ2 S2 H2) (h : SqK F.K H2 k a vs) (r : RdL F.K (fb Z B μ2) S2 H2 ds vs) : Wk Z F.K (ItK F.K k a) ds B μ2 S2 H2 := by
  intro i
  have hl := r.length
  refine ⟨fun hi => ?_, fun hi => ?_, fun x H' d hd y => ?_⟩
  · obtain ⟨v, hv, _⟩ := r.get (List.getElem?_eq_getElem hi)
    cases k with
    | l => exact ⟨vs, v, h, hv⟩
    | t => exact ⟨vs, v, h, hv⟩
  · cases k with
    | l => exact ⟨vs, h, by omega⟩
    | t => exact ⟨vs, h, by omega⟩
  · obtain ⟨v, hv, rv⟩ := r.get hd
    have : H' = H2 ∧ vs[i]? = some x := by
      cases k with
      | l => exact ⟨y.1, y.2 vs h⟩
      | t => exact ⟨y.1, y.2 vs h⟩
    obtain ⟨rfl, hx⟩ := this
    rw [hv] at hx
    cases hx
    exact ⟨S2, .refl ok, rv⟩
theorem wk_enum {B : Hp} {k : Sk} {a : Addr} {vs : List V} {ds : List D} {μ2 : Z.M} {S2 H2 : Hp} (ok : Ok Z μ2 S2 H2) (h : SqK F.K H2 k a vs) (r : RdL F.K (fb Z B μ2) S2 H2 ds vs) : Wk Z F.K (ItEK F.K k a) (enumF 0 ds) B μ2 S2 H2 := by
  intro i
  have hl := r.length
  rw [enumF_length]
  refine ⟨fun hi => ?_, fun hi => ?_, fun x H' d hd y => ?_⟩
  · obtain ⟨v, hv, _⟩ := r.get (List.getElem?_eq_getElem hi)
    exact ⟨vs, v, h, hv⟩
  · exact ⟨vs, h, by omega⟩
  · obtain ⟨T, w, rfl, hT, rfl, hw⟩ := y
    rw [enumF_get] at hd
    cases q : ds[i]? with
    | none => rw [q] at hd; cases hd
    | some d0 =>
      rw [q] at hd
      simp only [Option.map_some, Option.some.injEq] at hd
      subst hd
      obtain ⟨v, hv, rv⟩ := r.get q
      have e : v = w := Option.some.inj (hv.symm.trans (hw vs h))
      subst e
      have x2 := ok.put (o := .tup [.int (i : Nat), v]) hT
      refine ⟨_, x2, T, _, rfl, SqT.of upd_same, .int (i : Nat), [v], rfl, ?_, v, [], rfl, rv.ext x2, rfl⟩
      show V.int _ = V.int _
      rw [Nat.zero_add]
theorem wk_zip {B : Hp} {k k' : Sk} {a b : Addr} {vs ws : List V} {ds es : List D} {μ2 : Z.M} {S2 H2 : Hp} (ok : Ok Z μ2 S2 H2) (h : SqK F.K H2 k a vs) (r : RdL F.K (fb Z B μ2) S2 H2 ds vs) (h' : SqK F.K H2 k' b ws) (r' : RdL F.K (fb Z B μ2) S2 H2 es ws) :
    Wk Z F.K (ItZK F.K k k' a b) (zipF ds es) B μ2 S2 H2 := by
  intro i
  have hl := r.length
  have hl' := r'.length
  rw [zipF_length]
  refine ⟨fun hi => ?_, fun hi => ?_, fun x H' d hd y => ?_⟩
  · obtain ⟨v, hv, _⟩ := r.get (List.getElem?_eq_getElem (show i < ds.length by omega))
    obtain ⟨v', hv', _⟩ := r'.get (List.getElem?_eq_getElem (show i < es.length by omega))
    exact ⟨vs, ws, v, v', h, h', hv, hv'⟩
  · exact ⟨vs, ws, h, h', by omega⟩
  · obtain ⟨T, w, w', rfl, hT, rfl, hw, hw'⟩ := y
    obtain ⟨d0, e0, q1, q2, rfl⟩ := zipF_get ds es i d hd
    obtain ⟨v, hv, rv⟩ := r.get q1
    obtain ⟨v', hv', rv'⟩ := r'.get q2
    have e : v = w := Option.some.inj (hv.symm.trans (hw vs h))
    subst e
    have e' : v' = w' := Option.some.inj (hv'.symm.trans (hw' ws h'))
    subst e'
    have x2 := ok.put (o := .tup [v, v']) hT
    exact ⟨_, x2, T, _, rfl, SqT.of upd_same, v, [v'], rfl, rv.ext x2, v', [], rfl, rv'.ext x2, rfl⟩
theorem wk_range {B : Hp} {lo : Int} {n : Nat} {μ2 : Z.M} {S2 H2 : Hp} (ok : Ok Z μ2 S2 H2) : Wk Z F.K (Itr lo n) (rangeF lo n) B μ2 S2 H2 := by
  intro i
  rw [rangeF_length]
  refine ⟨fun hi => hi, fun hi => Nat.le_of_eq hi, fun x H' d hd y => ?_⟩
  have hi : i < n := by
    have := (List.getElem?_eq_some_iff.mp hd).1
    rwa [rangeF_length] at this
  rw [rangeF_get lo n i hi] at hd
  cases hd
  obtain ⟨rfl, rfl⟩ := y
  exact ⟨S2, .refl ok, rfl⟩

theorem di_seq (h : DE Z F W e ta) : DI Z F W tg e (dSeq ta) := by
  obtain ⟨te, p, h⟩ := h
  refine ⟨iSeqK F.K te, fun i => by rw [← F.hK i]; exact pi_seqK (p i), fun B ρ σ μ S H R E Q env ok ht hE hQ => ?_⟩
  refine h B ρ σ μ S H _ E _ env ok ht hE fun v d μ' S' H' x r hd => ?_
  obtain ⟨ds, e1, e2, hd⟩ := hd
  obtain ⟨k, a, vs, rfl, q1, q2, q3⟩ := items_seq x.ok.sub r e1
  exact ⟨k, a, rfl, ⟨vs, q2⟩, hQ _ ds μ' S' H' x (fun μ2 S2 H2 ok2 s2 => wk_seq ok2 (seqK_mono ok2.sub (seqK_mono s2 q1)) (q3.sta s2 _ _ e2)) hd⟩
theorem seqC_ext {B : Hp} {k : Sk} {a : Addr} {vs : List V} {μ' μ2 : Z.M} {S' H' S2 H2 : Hp} (x : Ext Z μ' S' H' μ2 S2 H2) (h : SqK F.K S' k a vs ∨ (k = .l ∧ ¬ fb Z B μ' a ∧ H' a = some (.lst vs))) : SqK F.K H2 k a vs := by
  rcases h with h | ⟨rfl, n, h⟩
  · exact seqK_mono x.ok.sub (seqK_mono x.same h)
  · exact SqL.of (x.lst a vs n h).2
theorem dic_seq (h : DE Z F W e ta) : DIc Z F W tg e (dSeqC ta) := by
  obtain ⟨te, p, h⟩ := h
  refine ⟨iSeqK F.K te, fun i => by rw [← F.hK i]; exact pi_seqK (p i), fun B ρ σ μ S H R E Q env ok ht hE hQ => ?_⟩
  refine h B ρ σ μ S H _ E _ env ok ht hE fun v d μ' S' H' x r hd => ?_
  obtain ⟨ds, e1, hd⟩ := hd
  obtain ⟨k, a, vs, rfl, q1, q2, q3⟩ := items_seqC x.ok.sub r e1
  exact ⟨k, a, rfl, ⟨vs, q1⟩, hQ _ ds μ' S' H' x (fun μ2 S2 H2 x2 => wk_seq x2.ok (seqC_ext x2 q2) (q3.ext x2)) hd⟩
theorem di_enum (hg : ∀ i, Gl (F.X i) "enumerate") (hm : ∀ i, (F.X i).mg "enumerate" = none) (h : DE Z F W e ta) (hs : ∀ i, starEach [e] (F.X i).env = [(false, eval e (F.X i).env)] := by intro _; rfl)
    (hs2 : ∀ i, starEach (e :: []) (F.X i).env = (false, eval e (F.X i).env) :: starEach [] (F.X i).env := by intro _; rfl) : DI Z F W (.Tuple elts kk tpos) (.Call (.Name "enumerate" p) [e] [] pos) (dEnum ta) := by
  obtain ⟨te, pe, h⟩ := h
  refine ⟨iEnumK F.K (tCons te tNil), fun i => by rw [← F.hK i]; exact pi_enumK (hg i) (hm i) (pa_cons (pe i) pa_nil (hs2 i)) (hs i), fun B ρ σ μ S H R E Q env ok ht hE hQ => ?_⟩
  refine h B ρ σ μ S H _ E _ env ok ht hE fun v d μ' S' H' x r hd => ?_
  obtain ⟨ds, e1, e2, hd⟩ := hd
  obtain ⟨k, a, vs, rfl, q1, q2, q3⟩ := items_seq x.ok.sub r e1
  exact ⟨k, a, vs, rfl, q2, hQ _ _ μ' S' H' x (fun μ2 S2 H2 ok2 s2 => wk_enum ok2 (seqK_mono ok2.sub (seqK_mono s2 q1)) (q3.sta s2 _ _ e2)) hd⟩
theorem dic_enum (hg : ∀ i, Gl (F.X i) "enumerate") (hm : ∀ i, (F.X i).mg "enumerate" = none) (h : DE Z F W e ta) (hs : ∀ i, starEach [e] (F.X i).env = [(false, eval e (F.X i).env)] := by intro _; rfl)
    (hs2 : ∀ i, starEach (e :: []) (F.X i).env = (false, eval e (F.X i).env) :: starEach [] (F.X i).env := by intro _; rfl) : DIc Z F W (.Tuple elts kk tpos) (.Call (.Name "enumerate" p) [e] [] pos) (dEnumC ta) := by
  obtain ⟨te, pe, h⟩ := h
  refine ⟨iEnumK F.K (tCons te tNil), fun i => by rw [← F.hK i]; exact pi_enumK (hg i) (hm i) (pa_cons (pe i) pa_nil (hs2 i)) (hs i), fun B ρ σ μ S H R E Q env ok ht hE hQ => ?_⟩
  refine h B ρ σ μ S H _ E _ env ok ht hE fun v d μ' S' H' x r hd => ?_
  obtain ⟨ds, e1, hd⟩ := hd
  obtain ⟨k, a, vs, rfl, q1, q2, q3⟩ := items_seqC x.ok.sub r e1
  exact ⟨k, a, vs, rfl, q1, hQ _ _ μ' S' H' x (fun μ2 S2 H2 x2 => wk_enum x2.ok (seqC_ext x2 q2) (q3.ext x2)) hd⟩
theorem di_zip (hg : ∀ i, Gl (F.X i) "zip") (hm : ∀ i, (F.X i).mg "zip" = none) (h : DA Z F W [e, e2] tA) (hs : ∀ i, starEach [e, e2] (F.X i).env = (false, eval e (F.X i).env) :: starEach [e2] (F.X i).env := by intro _; rfl)
    (hpl : ∀ i, (backTo pos (starEach [e2] (F.X i).env)).any (·.1) = false := by intro _; rfl) : DI Z F W (.Tuple elts kk tpos) (.Call (.Name "zip" p) [e, e2] [] pos) (dZip tA) := by
  obtain ⟨te, pe, h⟩ := h
  refine ⟨iZipK F.K te, fun i => by rw [← F.hK i]; exact pi_zipK (hg i) (hm i) (pe i) (hs i) (hpl i), fun B ρ σ μ S H R E Q env ok ht hE hQ => ?_⟩
  refine h B ρ σ μ S H _ E _ env ok ht hE fun v d μ' S' H' x r _ hd => ?_
  obtain ⟨d1, d2, ds, es, rfl, e1, e2, e3, e4, hd⟩ := hd
  obtain ⟨v1, r0, rfl, r1, v2, r3, rfl, r2, rfl⟩ := r
  obtain ⟨k, a, vs, rfl, q1, q2, q3⟩ := items_seq x.ok.sub r1 e1
  obtain ⟨k', b, ws, rfl, q1', q2', q3'⟩ := items_seq x.ok.sub r2 e2
  exact ⟨k, k', a, b, vs, ws, rfl, q2, q2', hQ _ _ μ' S' H' x (fun μ2 S2 H2 ok2 s2 => wk_zip ok2 (seqK_mono ok2.sub (seqK_mono s2 q1)) (q3.sta s2 _ _ e3) (seqK_mono ok2.sub (seqK_mono s2 q1')) (q3'.sta s2 _ _ e4)) hd⟩
theorem dic_zip (hg : ∀ i, Gl (F.X i) "zip") (hm : ∀ i, (F.X i).mg "zip" = none) (h : DA Z F W [e, e2] tA) (hs : ∀ i, starEach [e, e2] (F.X i).env = (false, eval e (F.X i).env) :: starEach [e2] (F.X i).env := by intro _; rfl)
    (hpl : ∀ i, (backTo pos (starEach [e2] (F.X i).env)).any (·.1) = false := by intro _; rfl) : DIc Z F W (.Tuple elts kk tpos) (.Call (.Name "zip" p) [e, e2] [] pos) (dZipC tA) := by
  obtain ⟨te, pe, h⟩ := h
  refine ⟨iZipK F.K te, fun i => by rw [← F.hK i]; exact pi_zipK (hg i) (hm i) (pe i) (hs i) (hpl i), fun B ρ σ μ S H R E Q env ok ht hE hQ => ?_⟩
  refine h B ρ σ μ S H _ E _ env ok ht hE fun v d μ' S' H' x r _ hd => ?_
  obtain ⟨d1, d2, ds, es, rfl, e1, e2, hd⟩ := hd
  obtain ⟨v1, r0, rfl, r1, v2, r3, rfl, r2, rfl⟩ := r
  obtain ⟨k, a, vs, rfl, q1, q2, q3⟩ := items_seqC x.ok.sub r1 e1
  obtain ⟨k', b, ws, rfl, q1', q2', q3'⟩ := items_seqC x.ok.sub r2 e2
  exact ⟨k, k', a, b, vs, ws, rfl, q1, q1', hQ _ _ μ' S' H' x (fun μ2 S2 H2 x2 => wk_zip x2.ok (seqC_ext x2 q2) (q3.ext x2) (seqC_ext x2 q2') (q3'.ext x2)) hd⟩
theorem di_rng1 (hg : ∀ i, Gl (F.X i) "range") (hm : ∀ i, (F.X i).mg "range" = none) (h : DA Z F W [e] tA) (hs : ∀ i, starEach [e] (F.X i).env = [(false, eval e (F.X i).env)] := by intro _; rfl) :
    DI Z F W tg (.Call (.Name "range" p) [e] [] pos) (dRng1 tA) := by
  obtain ⟨te, pe, h⟩ := h
  refine ⟨_, fun i => pi_range1 (hg i) (hm i) (pe i) (hs i), fun B ρ σ μ S H R E Q env ok ht hE hQ => ?_⟩
  refine h B ρ σ μ S H _ E _ env ok ht hE fun v d μ' S' H' x r _ hd => ?_
  obtain ⟨j, rfl, h1, h2, hd⟩ := hd
  obtain ⟨v1, r0, rfl, r1, rfl⟩ := r
  cases r1
  exact ⟨j, rfl, h1, h2, hQ _ _ μ' S' H' x (fun μ2 S2 H2 ok2 s2 => wk_range ok2) hd⟩
theorem di_rng2 (hg : ∀ i, Gl (F.X i) "range") (hm : ∀ i, (F.X i).mg "range" = none) (h : DA Z F W [e, e2] tA) (hs : ∀ i, starEach [e, e2] (F.X i).env = [(false, eval e (F.X i).env), (false, eval e2 (F.X i).env)] := by intro _; rfl)
    (hs2 : ∀ i, starEach [e2] (F.X i).env = [(false, eval e2 (F.X i).env)] := by intro _; rfl) :
    DI Z F W tg (.Call (.Name "range" p) [e, e2] [] pos) (dRng2 tA) := by
  obtain ⟨te, pe, h⟩ := h
  refine ⟨_, fun i => pi_range2 (hg i) (hm i) (pe i) (hs i) (hs2 i), fun B ρ σ μ S H R E Q env ok ht hE hQ => ?_⟩
  refine h B ρ σ μ S H _ E _ env ok ht hE fun v d μ' S' H' x r _ hd => ?_
  obtain ⟨i, j, rfl, h1, hd⟩ := hd
  obtain ⟨v1, r0, rfl, r1, v2, r3, rfl, r2, rfl⟩ := r
  cases r1
  cases r2
  exact ⟨i, j, rfl, h1, hQ _ _ μ' S' H' x (fun μ2 S2 H2 ok2 s2 => wk_range ok2) hd⟩
end
end DL
/-! text DLf -/
/-! DL, sixth part: comprehensions; the promise of a def, its call. -/
namespace DL
open PySem PySem.Spec PyProof.Rows L2

abbrev Fm.one (X : Cx) : Fm := ⟨Unit, fun _ => X, X.K, fun _ => rfl⟩
abbrev Fm.blk (F : Fm) (scope : Scope) : Fm :=
  ⟨F.ι × Shared × Hp × Addr × List (Str × Addr) × List Addr, fun j => (F.X j.1).blk j.2.1 j.2.2.1 scope (compEnvC scope j.2.2.2.2.1 j.2.2.2.1 (F.X j.1).env) j.2.2.2.2.2, F.K, fun j => F.hK j.1⟩
abbrev W0 : WX := fun _ _ _ _ => False
section
variable (Z : Wld) (F : Fm) (W : WX)
def DTs (ifs : List Expr) (t : DTT Z) : Prop := ∃ te : TT, (∀ i, PTs (F.X i) ifs te) ∧ ∀ (B : Hp) (ρ : Rho) (σ : L2.St) (μ : Z.M) (S H : Hp) (R : Bool → Z.M → Prop) (E : Xc → Z.M → Prop) (Q : Bool → Hp → Prop),
  EnvR F.K Z B μ S H ρ σ → Ok Z μ S H → t ρ μ R E → Wish Z F W B μ S H σ E →
  (∀ (b : Bool) (μ' : Z.M) (S' H' : Hp), Ext Z μ S H μ' S' H' → R b μ' → Q b H') → te σ H Q
end
section
variable {Z : Wld} {F : Fm} {W : WX} {c elt tg iter : Expr} {te : DT Z} {tA : DTA Z} {tt : DTT Z} {g : DG} {ix : List Nat} {ifs : List Expr} {pos : Pos} {scope : Scope} {own : List (Str × Nat)}
theorem dts_nil : DTs Z F W [] dYes := ⟨_, fun _ => pts_nil, fun B ρ σ μ S H R E Q env ok h hE hQ => hQ true μ S H (.refl ok) h⟩
theorem dts_one (h : DB Z F W c tt) : DTs Z F W [c] tt := let ⟨t, p, h⟩ := h; ⟨t, fun i => pts_one (p i), h⟩
/-- what a reading of an expression that gives a new list is worth -/
def DFs (Z : Wld) (F : Fm) (W : WX) (te : TE) (t : DTA Z) : Prop := ∀ (B : Hp) (ρ : Rho) (σ : L2.St) (μ : Z.M) (S H : Hp) (R : List D → Z.M → Prop) (E : Xc → Z.M → Prop) (Q : VK),
  EnvR F.K Z B μ S H ρ σ → Ok Z μ S H → t ρ μ R E → Wish Z F W B μ S H σ E →
  (∀ (a : Addr) (vs : List V) (ds : List D) (μ' : Z.M) (S' H' : Hp), Ext Z μ S H μ' S' H' → Fr H a → H' a = some (.lst vs) → S' a = none → ¬ fb Z B μ' a → RdL F.K (fb Z B μ') S' H' ds vs → R ds μ' → Q (.ref a) H') → te σ H Q
theorem comp_core (hi : DIc Z F W tg iter tA) (hg : DGJ Z (F.blk scope) tg ix g)
    (hix : ∀ i ∈ ix, i ∈ own.map (·.2)) (ht : DTs Z (F.blk scope) W0 ifs tt) (he : DE Z (F.blk scope) W0 elt te) :
    ∃ (wi : TI) (g' : TG) (tt' : TT) (te' : TE), (∀ i, PI (F.X i) tg iter wi) ∧ (∀ i, PG ((F.blk scope).X i) tg g') ∧ (∀ i, PTs ((F.blk scope).X i) ifs tt') ∧ (∀ i, PE ((F.blk scope).X i) elt te') ∧ DFs Z F W (tLc wi g' tt' te' (own.map (·.2))) (dComp tA g tt te (own.map (·.2))) := by
  obtain ⟨wi, pi, hi⟩ := hi
  obtain ⟨g', pg, hg⟩ := hg
  obtain ⟨tt', pt, ht⟩ := ht
  obtain ⟨te', pe, he⟩ := he
  refine ⟨wi, g', tt', te', pi, pg, pt, pe, fun B ρ σ μ S H R E Q env ok h hE hQ => ?_⟩
  refine hi B ρ σ μ S H _ E _ env ok h hE fun J ds μ1 S1 H1 x1 hw h1 => ?_
  intro D hD
  have hD0 : Fr H D := x1.there D (.inl hD)
  have hB : Fr B D := env.dom D hD0
  refine ⟨fun i m H' => m = ds.length - i ∧ i ≤ ds.length ∧ ∃ (μ' : Z.M) (S' : Hp) (acc : List DL.D) (av : List V), Ext Z μ1 S1 H1 μ' S' H' ∧ H' D = some (.lst av) ∧ S' D = none ∧ ¬ fb Z B μ' D ∧ RdL F.K (fb Z B μ') S' H' acc av ∧ staL acc = true ∧
      compD g tt te R E (wipeR ρ (own.map (·.2))) (ds.drop i) acc μ', ⟨ds.length, by simp, Nat.zero_le _, μ1, S1, [], [], x1.ok.putOwn hD, upd_same, ?_, ?_, rfl, rfl, h1⟩, ?_⟩
  · cases q : S1 D with
    | none => rfl
    | some o => rw [x1.ok.sub D o q] at hD; cases hD
  · rintro (r | r)
    · exact Z.held x1.ok.j r hD
    · exact r hB
  rintro i m H' ⟨rfl, hi', μ', S', acc, av, x', e', n', f', r', s', h'⟩
  obtain ⟨w1, w2, w3⟩ := hw μ' S' H' x' i
  by_cases hlt : i < ds.length
  · have hd : ds.drop i = ds[i] :: ds.drop (i + 1) := List.drop_eq_getElem_cons hlt
    rw [hd] at h'
    refine .inr ⟨w1 hlt, fun H2 => ∃ (μ2 : Z.M) (S2 : Hp) (acc2 : List DL.D) (av2 : List V), Ext Z μ1 S1 H1 μ2 S2 H2 ∧ H2 D = some (.lst av2) ∧ S2 D = none ∧ ¬ fb Z B μ2 D ∧ RdL F.K (fb Z B μ2) S2 H2 acc2 av2 ∧ staL acc2 = true ∧
      compD g tt te R E (wipeR ρ (own.map (·.2))) (ds.drop (i + 1)) acc2 μ2, fun H2 q => ⟨ds.length - (i + 1), by omega, rfl, hlt, q⟩, fun x H2 y => ?_⟩
    obtain ⟨S2, x2, rd⟩ := w3 x H2 ds[i] (List.getElem?_eq_getElem hlt) y
    have x12 := x'.trans x2
    have env2 := (((env.ext x1).ext x12)).wipe (own.map (·.2))
    refine hg B ds[i] x _ _ μ' S2 H2 _ _ env2 x2.ok rd h' fun ρ3 σ3 env3 h3 w3 => ?_
    have ew := w3 (own.map (·.2)) hix
    have ww : wipe (wipe σ (own.map (·.2))) (own.map (·.2)) = wipe σ (own.map (·.2)) := by
      have : ∀ (vs ws : List Nat), (∀ i ∈ vs, i ∈ ws) → wipe (wipe σ vs) ws = wipe σ ws := by
        intro vs
        induction vs with
        | nil => intro ws _; rfl
        | cons v vs ih =>
          intro ws hv
          show wipe ((wipe σ vs).set v none) ws = _
          rw [wipe_set (hv v List.mem_cons_self), ih ws fun i hi => hv i (List.mem_cons_of_mem _ hi)]
      exact this _ _ fun i hi => hi
    refine ⟨ew.trans ww |>.trans rfl, ?_⟩
    refine ht B ρ3 σ3 μ' S2 H2 _ _ _ env3 x2.ok h3 (fun _ _ _ _ _ _ _ _ q => q) fun b μ4 S4 H4 x4 h4 => ?_
    have x14 := x12.trans x4
    have eD4 := (x2.trans x4).lst D av f' e'
    have nD4 : S4 D = none := by
      cases q : S4 D with
      | none => rfl
      | some o =>
        rcases (x2.trans x4).new D (by rw [q]; simp) with z | z
        · exact absurd n' z
        · exact z.nt e'
    have r4 : RdL F.K (fb Z B μ4) S4 H4 acc av := r'.ext (x2.trans x4)
    cases b with
    | false => exact ⟨μ4, S4, acc, av, x14, eD4.2, nD4, eD4.1, r4, s', h4⟩
    | true =>
      rw [if_pos rfl]
      refine he B ρ3 σ3 μ4 S4 H4 _ _ _ (env3.ext x4) x4.ok h4 (fun _ _ _ _ _ _ _ _ q => q) fun v d μ5 S5 H5 x5 r5 h5 => ?_
      obtain ⟨hst, hsz, h5⟩ := h5
      have eD5 := x5.lst D av eD4.1 eD4.2
      have nD5 : S5 D = none := by
        cases q : S5 D with
        | none => rfl
        | some o =>
          rcases x5.new D (by rw [q]; simp) with z | z
          · exact absurd nD4 z
          · exact z.nt eD4.2
      have x15 := x14.trans x5
      have rr := (r4.ext x5).append (.one r5)
      have ss : staL (acc ++ [d]) = true := staL_append s' (by simp [staL, hst])
      refine ⟨av, eD5.2, by rw [r'.length]; exact hsz, μ5, S5, acc ++ [d], av ++ [v], ?_, upd_same, nD5, eD5.1, rr.sta (Same.refl S5) _ _ ss, ss, h5⟩
      refine ⟨⟨fun b o q => ?_, Z.loc x15.ok.j (Same.refl _) fun b q => upd_ne fun z => eD5.1 (.inl (by rw [← z]; exact q)), x15.ok.off, x15.ok.nt⟩, fun b o q1 nt q2 => ?_, x15.same, x15.new, x15.reg, fun b q => ?_⟩
      · have hb : b ≠ D := fun z => by rw [z, nD5] at q; cases q
        rw [upd_ne hb]; exact x15.ok.sub b o q
      · have hb : b ≠ D := fun z => by rw [z, hD] at q2; cases q2
        rw [upd_ne hb]; exact x15.keep b o q1 nt q2
      · by_cases hb : b = D
        · rw [hb]; exact .inl hD
        · rw [Fr, upd_ne hb] at q; exact x15.there b q
  · have e : i = ds.length := by omega
    subst e
    rw [List.drop_length] at h'
    exact .inl ⟨w2 rfl, hQ D av acc μ' S' H' (x1.trans x') hD0 e' n' f' r' h'⟩
theorem df_comp (hc : ∀ i, (F.X i).calm = true) (hN : ∀ i, (F.X i).N.Nodup) (hi : DIc Z F W tg iter tA) (ok : ∀ i, BlkOk (F.X i).N (F.X i).env.scope scope own) (hg : DGJ Z (F.blk scope) tg ix g)
    (hix : ∀ i ∈ ix, i ∈ own.map (·.2)) (ht : DTs Z (F.blk scope) W0 ifs tt) (he : DE Z (F.blk scope) W0 elt te) (hs : ∀ i x, foldedSetIterable iter (F.X i).env x = pure x := by intro _ _; rfl) :
    DF Z F W (.ListComp elt [⟨tg, iter, ifs, 0⟩] scope pos) (dComp tA g tt te (own.map (·.2))) := by
  obtain ⟨wi, g', tt', te', pi, pg, pt, pe, sem⟩ := comp_core hi hg hix ht he
  exact ⟨_, fun i => pe_lc (hc i) (hN i) (pi i) (ok i) (fun s H C cl fp => pg (i, s, H, C, cl, fp)) (fun s H C cl fp => pt (i, s, H, C, cl, fp)) (fun s H C cl fp => pe (i, s, H, C, cl, fp)) (hs i), sem⟩
theorem DFs.frz {te : TE} (ha : DFs Z F W te tA) : ∀ (B : Hp) (ρ : Rho) (σ : L2.St) (μ : Z.M) (S H : Hp) (R : D → Z.M → Prop) (E : Xc → Z.M → Prop) (Q : VK),
    EnvR F.K Z B μ S H ρ σ → Ok Z μ S H → dFrz tA ρ μ R E → Wish Z F W B μ S H σ E →
    (∀ (v : V) (d : D) (μ' : Z.M) (S' H' : Hp), Ext Z μ S H μ' S' H' → Rd F.K (fb Z B μ') S' H' d v → R d μ' → Q v H') → te σ H Q := fun B ρ σ μ S H R E Q env ok h hE hQ => by
  refine ha B ρ σ μ S H _ E _ env ok h hE fun a vs ds μ1 S1 H1 x1 n1 e1 s1 g1 r1 h1 => ?_
  have x2 := x1.frz n1 e1 fun r => g1 (.inl r)
  refine hQ _ (.lst ds) μ1 _ _ x2 ⟨a, vs, rfl, upd_same, ?_⟩ h1
  exact r1.mono (fun b o q => by rw [upd_ne (ne_of_none q s1)]; exact q) fun b ws n q => ⟨n, q⟩
/-- name = [..], the name a local -/
theorem ds_setLc {i : Nat} {y : Str} {py spos : Pos} (hc : ∀ i, (F.X i).calm = true) (hN : ∀ i, (F.X i).N.Nodup) (hy : ∀ j, (F.X j).N[i]? = some y) (hyl : ∀ j, (F.X j).env.scope.names.lookup y = some .local) (hk : ∀ j, (F.X j).env.scope.kind = .function)
    (hi : DIc Z F W tg iter tA) (ok : ∀ i, BlkOk (F.X i).N (F.X i).env.scope scope own) (hg : DGJ Z (F.blk scope) tg ix g)
    (hix : ∀ i ∈ ix, i ∈ own.map (·.2)) (ht : DTs Z (F.blk scope) W0 ifs tt) (he : DE Z (F.blk scope) W0 elt te) (hl : (py.line == pos.line) = true := by rfl) (hsc : (scope.names.any fun (n, k) => n == y && (k == .local || k == .cell)) = false := by decide +kernel) (hs : ∀ i x, foldedSetIterable iter (F.X i).env x = pure x := by intro _ _; rfl) :
    DS Z F W (.Assign [.Name y py] (.ListComp elt [⟨tg, iter, ifs, 0⟩] scope pos) spos) (dsAsg (dFrz (dComp tA g tt te (own.map (·.2)))) (dName i)) := by
  obtain ⟨wi, g', tt', te', pi, pg, pt, pe, sem⟩ := comp_core hi hg hix ht he
  refine ⟨_, fun j => ps_setLc (hc j) (hN j) (hy j) (hyl j) (sw_true (hk j) (hyl j) hl hsc) (pi j) (ok j) (fun s H C cl fp => pg (j, s, H, C, cl, fp)) (fun s H C cl fp => pt (j, s, H, C, cl, fp)) (fun s H C cl fp => pe (j, s, H, C, cl, fp)) (hs j), fun μ0 S0 H0 ρ σ μ S H B L r ht k => ?_⟩
  refine sem.frz H0 ρ σ μ S H _ _ _ r.env r.ok ht (k.wish r) fun v d μ' S' H' x rd hd => ?_
  exact k.nx _ _ _ _ _ ⟨(r.env.ext x).put hd.1 rd, r.ext.trans x⟩ x.same hd.2
theorem ds_ownLc {i : Nat} {y : Str} {py spos : Pos} (hc : ∀ i, (F.X i).calm = true) (hN : ∀ i, (F.X i).N.Nodup) (hy : ∀ j, (F.X j).N[i]? = some y) (hyl : ∀ j, (F.X j).env.scope.names.lookup y = some .local) (hk : ∀ j, (F.X j).env.scope.kind = .function)
    (hi : DIc Z F W tg iter tA) (ok : ∀ i, BlkOk (F.X i).N (F.X i).env.scope scope own) (hg : DGJ Z (F.blk scope) tg ix g)
    (hix : ∀ i ∈ ix, i ∈ own.map (·.2)) (ht : DTs Z (F.blk scope) W0 ifs tt) (he : DE Z (F.blk scope) W0 elt te) (hl : (py.line == pos.line) = true := by rfl) (hsc : (scope.names.any fun (n, k) => n == y && (k == .local || k == .cell)) = false := by decide +kernel) (hs : ∀ i x, foldedSetIterable iter (F.X i).env x = pure x := by intro _ _; rfl) :
    DS Z F W (.Assign [.Name y py] (.ListComp elt [⟨tg, iter, ifs, 0⟩] scope pos) spos) (dsOwn i (dComp tA g tt te (own.map (·.2)))) := by
  obtain ⟨wi, g', tt', te', pi, pg, pt, pe, sem⟩ := comp_core hi hg hix ht he
  refine ⟨_, fun j => ps_setLc (hc j) (hN j) (hy j) (hyl j) (sw_true (hk j) (hyl j) hl hsc) (pi j) (ok j) (fun s H C cl fp => pg (j, s, H, C, cl, fp)) (fun s H C cl fp => pt (j, s, H, C, cl, fp)) (fun s H C cl fp => pe (j, s, H, C, cl, fp)) (hs j), fun μ0 S0 H0 ρ σ μ S H B L r ht k => ?_⟩
  refine sem H0 ρ σ μ S H _ _ _ r.env r.ok ht (k.wish r) fun a vs ds μ' S' H' x n e1 s1 f1 rd hd => ?_
  refine k.nx _ _ _ _ _ ⟨(r.env.ext x).putOwn e1 s1 f1 hd.1 rd fun j xs q1 q2 => ?_, r.ext.trans x⟩ x.same hd.2
  obtain ⟨o, z1, z2⟩ := r.env.get j _ q1
  rw [q2] at z1
  cases z1
  obtain ⟨a', vs', z3, z4, _⟩ := z2
  cases z3
  exact n.nt z4
end

/-! ### a def's promise where no guard stands around (repr asks that) -/
structure FnG (P : Program) (w : World) (K : PySem.W.Frag) (mg : Str → Option Value) (base : Heap) (k : Nat) (f : Addr) (fd : FuncData) (ps : List Str) (sp : Sp) : Prop where
  len : ∀ vs H Q E, sp vs H Q E → vs.length = ps.length
  run : ∀ (A : Around) (outer : List PySem.Env) (s : Shared) (H : Hp) (args : Args) (us : List Value) (vs : List V) (Q : VK) (E : XK), Room k A → A.guards = some [] → Env0 P w K mg base A outer s H → BindsTo s fd args (ps.zip us) →
    Vals vs us → sp vs H Q E → codeAny (model P w) A (.call (.ref f) args) (CR (L2.CX P w) outer P w H s Q E) s
theorem FnG.mono {P : Program} {w : World} {K : PySem.W.Frag} {mg : Str → Option Value} {base : Heap} {j k : Nat} {f : Addr} {fd : FuncData} {ps : List Str} {sp : Sp} (G : FnG P w K mg base j f fd ps sp) (h : j ≤ k) : FnG P w K mg base k f fd ps sp :=
  ⟨G.len, fun A outer s H args us vs Q E hr => G.run A outer s H args us vs Q E (hr.mono h)⟩
theorem FnG.of {P : Program} {w : World} {K : PySem.W.Frag} {mg : Str → Option Value} {base : Heap} {k : Nat} {f : Addr} {fd : FuncData} {ps : List Str} {sp : Sp} (G : FnOk P w K mg base (L2.CX P w) k f fd ps sp) : FnG P w K mg base k f fd ps sp :=
  ⟨G.len, fun A outer s H args us vs Q E hr _ => G.run A outer s H args us vs Q E hr⟩
theorem fn_g {P : Program} {w : World} {K : PySem.W.Frag} {mg : Str → Option Value} {base : Heap} {k : Nat} {f : Addr} {fd : FuncData} {x qual : Str} {st : Stmt} {N ps : List Str} {sp : Sp} (F : Fun K x qual st f fd) (S : FnScope N ps (defScope st))
    (len : ∀ vs H Q E, sp vs H Q E → vs.length = ps.length)
    (hbody : ∀ (cdv : Value) (A : Around) (outer : List PySem.Env) (s : Shared) (H : Hp) (vs : List V) (Q : VK) (E : XK), Room k (A.deeper (envOfC qual (defScope st) s.heap.objs.size f cdv)) → (A.deeper (envOfC qual (defScope st) s.heap.objs.size f cdv)).guards = some [] → sp vs H Q E →
      ∃ t, PSs (cxOf (L2.CX P w) P w K mg base N qual (defScope st) f cdv A outer s H E) (defBody st) t ∧ t { nx := fun _ H' => Q .non H', rt := Q } (L2.start N vs) H) : FnG P w K mg base (k + 1) f fd ps sp := by
  obtain ⟨oc, od, kV, doc, pm, an, cdv, ct, osl, rfl, lk, hcd⟩ := F.ex
  refine ⟨len, fun A outer s H args us vs Q E hr gu e0 hb r hsp => ?_⟩
  have KX : K.In s.heap := e0.mod.kin.keeps fun b o e => (e0.bs b o e).1
  have hk : ∀ y ∈ ps.zip us, (defScope st).names.lookup y.1 = some .local ∨ ((defScope st).names.lookup y.1 = some .cell ∧ ((cellsFrom (s.heap.objs.size + 1) (defScope st).names []).lookup y.1).isSome = true) := fun ⟨n, v⟩ hy =>
    (S.par n (List.of_mem_zip hy).1).imp id fun q => ⟨q, PySem.W.cellsFrom_some _ _ _ (.inl q)⟩
  refine codeAny_call_function hr.depth (KX _ _ lk) rfl S.co S.gen rfl (PySem.W.codeRec_of KX hcd) (hb _ _ _ _ ?_)
  refine wpAny_newFunctionEnv_cells S.kind hk fun env he s1 x => ?_
  subst he
  refine ⟨(e0.mod.nolimit.keeps fun b o e => (e0.bs b o e).1).keeps x.toInCall.keep, codeAny_func ?_⟩
  obtain ⟨t, ht, hq⟩ := hbody cdv A outer s H vs Q E (hr.deeper _) gu hsp
  refine wpAny_mono (ht.run [] s1 (L2.start N vs) H _ (inv_start S hr.hd e0 (len _ _ _ _ hsp) r x) hq) (fun fl s' hs => ?_) fun e s' hs => hs
  cases fl with
  | ret u => obtain ⟨v, σ', H', J, rv, q⟩ := hs; exact ⟨v, H', J.os, J.bare, J.base, J.hok, rv, q⟩
  | next => obtain ⟨σ', H', J, q⟩ := hs; exact ⟨.non, H', J.os, J.bare, J.base, J.hok, rfl, q⟩
  | brk => obtain ⟨_, _, _, q⟩ := hs; exact False.elim q
  | cont => obtain ⟨_, _, _, q⟩ := hs; exact False.elim q
section
variable {X : Cx} {k : Nat} {f : Addr} {fd : FuncData} {ps : List Str} {sp : Sp} {E : L2.St → XK} {x : Str} {p pos : Pos} {e : Expr} {es : List Expr} {t : TA}
theorem run_g {pins : List (Addr × Obj)} {σ : L2.St} {H : Hp} {s : Shared} {Q : VK} {us : List Value} {vs : List V} (G : FnG X.prog X.w X.K X.mg X.base k f fd ps sp) (hr : Room k X.A) (gu : X.A.guards = some []) (hb : Binds X.K fd ps []) (hx : PassesAt (L2.CX X.prog X.w) X σ (E σ))
    (I : Inv X pins σ H s) (r : Vals vs us) (h : sp vs H Q (E σ)) : wpAny (model X.prog X.w) X.A (call (.ref f) us) (EP X pins σ Q) X.xe s := by
  have hl : us.length = ps.length := r.length.symm.trans (G.len _ _ _ _ h)
  have b := hb s us I.kIn (by simpa using hl)
  simp only [List.append_nil] at b
  refine wpAny_call (codeAny_mono (G.run X.A X.stack s H ⟨us, []⟩ us vs Q (E σ) hr gu I.env0 b r h) fun r s' hq => ?_)
  match r, hq with
  | .error e, hq => exact hx pins H s e s' I hq
  | .ok (.ret u), hq => exact I.after hq
  | .ok .next, hq => exact False.elim hq
  | .ok .brk, hq => exact False.elim hq
  | .ok .cont, hq => exact False.elim hq
theorem pe_callG (G : FnG X.prog X.w X.K X.mg X.base k f fd ps sp) (hr : Room k X.A) (gu : X.A.guards = some []) (hg : Gl X x) (hm : X.mg x = some (.ref f)) (hk : PySem.W.keepIn X.K (.ref f) = true) (hb : Binds X.K fd ps []) (hx : ∀ σ, PassesAt (L2.CX X.prog X.w) X σ (E σ))
    (ha : PA X (e :: es) t) (hdb : (x == ("__debug__" : Str)) = false := by decide) (he : starEach (e :: es) X.env = (false, eval e X.env) :: starEach es X.env := by rfl) (hpl : (backTo pos (starEach es X.env)).any (·.1) = false := by rfl) :
    PE X (.Call (.Name x p) (e :: es) [] pos) (tCallS sp E t) :=
  ⟨fun pins s σ H Q I h => wpAny_Call_Name_kw (ld_glob I hg hm (PySem.W.callWith_K (h₀ := X.base) I.ok.mod.kin hk (thn (ha.run pos pins s σ H _ I h) fun us s1 ⟨vs, H1, I1, r, q⟩ => ⟨I1.kIn, run_g G hr gu hb (hx σ) I1 r q⟩) he hpl) hdb)⟩
end

/-! ### the promise of a def -/
abbrev SpD0 (M : Type) := List D → M → (D → M → Prop) → (Xc → M → Prop) → Prop
abbrev SpD (Z : Wld) := SpD0 Z.M
def spOf (K : PySem.W.Frag) (Z : Wld) (n : Nat) (sp : SpD Z) : Sp := fun vs H Q E => vs.length = n ∧ ∃ (ds : List D) (μ : Z.M) (S : Hp) (R : D → Z.M → Prop) (Ed : Xc → Z.M → Prop),
  Ok Z μ S H ∧ RdL K (fb Z H μ) S H ds vs ∧ staL ds = true ∧ sp ds μ R Ed ∧
  (∀ (v : V) (d : D) (μ' : Z.M) (S' H' : Hp), Ext Z μ S H μ' S' H' → sta d = true → Rd K (fb Z H μ') S' H' d v → R d μ' → Q v H') ∧
  (∀ (x : Xc) (μ' : Z.M) (S' H' : Hp) (cls : Value) (dd : Option Addr), Ext Z μ S H μ' S' H' → XcR K (fb Z H μ') S' H' x cls dd → Ed x μ' → E cls dd H')
/-- the slots at the entry -/
def startD (N : List Str) (ds : List D) : Rho := ds.map .val ++ List.replicate (N.length - ds.length) .un
theorem start_env {K : PySem.W.Frag} {Z : Wld} {N : List Str} {ds : List D} {vs : List V} {μ : Z.M} {S H : Hp} (r : RdL K (fb Z H μ) S H ds vs) (t : staL ds = true) : EnvR K Z H μ S H (startD N ds) (L2.start N vs) := by
  have hl := r.length
  have nown : ∀ (i : Nat) (xs : List D), (startD N ds)[i]? ≠ some (.own xs) := fun i xs e => by
    have := List.mem_of_getElem? e
    unfold startD at this
    rcases List.mem_append.mp this with q | q
    · obtain ⟨d, _, z⟩ := List.mem_map.mp q
      cases z
    · have := List.eq_of_mem_replicate q
      cases this
  refine ⟨by unfold startD L2.start; simp [hl], fun i s e => ?_, fun i j xs ys a e1 _ _ _ => absurd e1 (nown i xs), fun a q => q⟩
  unfold startD at e
  unfold L2.start
  by_cases hi : i < ds.length
  · rw [List.getElem?_append_left (by simpa using hi), List.getElem?_map, List.getElem?_eq_getElem hi] at e
    rw [List.getElem?_append_left (by simp; omega), List.getElem?_map]
    obtain ⟨v, hv, rv⟩ := r.get (List.getElem?_eq_getElem hi)
    cases e
    exact ⟨some v, by rw [hv]; rfl, v, rfl, sta_at t (List.getElem?_eq_getElem hi), rv⟩
  · rw [List.getElem?_append_right (by simpa using hi)] at e
    have := List.eq_of_mem_replicate (List.mem_of_getElem? e)
    subst this
    rw [List.getElem?_append_right (by simp; omega)]
    have hz := (List.getElem?_eq_some_iff.mp e).1
    simp only [List.length_map, List.length_replicate] at hz
    exact ⟨none, List.getElem?_replicate_of_lt (by simp; omega), trivial⟩
section
variable {P : Program} {w : World} {K : PySem.W.Frag} {mg : Str → Option Value} {base : Heap} {Z : Wld}
/-- THE RULE of a def by data -/
theorem fn_d {x qual : Str} {st : Stmt} {f : Addr} {fd : FuncData} {N ps : List Str} {k : Nat} {sp : SpD Z} {t : DTS Z} (F : Fun K x qual st f fd) (S : FnScope N ps (defScope st))
    (hb : ∀ (cdv : Value) (A : Around) (outer : List PySem.Env) (s : Shared) (H : Hp) (E : XK), Room k (A.deeper (envOfC qual (defScope st) s.heap.objs.size f cdv)) → (A.deeper (envOfC qual (defScope st) s.heap.objs.size f cdv)).guards = some [] →
      DSs Z (Fm.one (cxOf (L2.CX P w) P w K mg base N qual (defScope st) f cdv A outer s H E)) (fun cls d _ H' => E cls d H') (defBody st) t)
    (h : ∀ ds μ R Ed, ds.length = ps.length → sp ds μ R Ed → staL ds = true → t { nx := fun _ μ' => R .non μ', rt := R, ex := fun x _ μ' => Ed x μ' } (startD N ds) μ) :
    FnG P w K mg base (k + 1) f fd ps (spOf K Z ps.length sp) := by
  refine fn_g F S (fun vs H Q E q => q.1) fun cdv A outer s H vs Q E hr gu q => ?_
  obtain ⟨hl, ds, μ, S0, R, Ed, ok, rd, st', hsp, hQ, hE⟩ := q
  obtain ⟨ts, pt, ht⟩ := hb cdv A outer s H E hr gu
  refine ⟨ts, pt (), ht μ S0 H _ _ μ S0 H _ _ ⟨start_env rd st', .refl ok⟩ (h ds μ R Ed (by rw [← rd.length]; exact hl) hsp st') ⟨fun ρ' σ' μ' S' H' r s h => ?_, fun _ _ _ _ _ _ _ h => h.elim, fun _ _ _ _ _ _ _ h => h.elim, fun v d μ' S' H' x s r h => hQ v d μ' S' H' x s r h, fun y ρ' σ' μ' S' H' cls dd r s q h => hE y μ' S' H' cls dd r.ext q h⟩⟩
  exact hQ .non .non μ' S' H' r.ext rfl rfl h
end
section
variable {Z : Wld} {F : Fm} {W : WX} {e : Expr} {es : List Expr} {tA : DTA Z} {x : Str} {p pos : Pos}
def dCall {M : Type} (sp : SpD0 M) (tA : DTA0 M) : DT0 M := fun ρ μ R E => tA ρ μ (fun ds μ1 => staL ds = true ∧ sp ds μ1 R E) E
theorem XcR.sta {K : PySem.W.Frag} {rg rg' : Addr → Prop} {S H : Hp} {y : Xc} {cls : Value} {d : Option Addr} (h : XcR K rg S H y cls d) : XcR K rg' S H y cls d := by
  obtain ⟨h1, h2⟩ := h
  refine ⟨h1, h2.imp id ?_⟩
  rintro ⟨dd, ws, q1, q2, q3, q4⟩
  exact ⟨dd, ws, q1, q2, q3, q4.sta⟩
theorem dx_call {k n : Nat} {f : Addr} {fd : FuncData} {ps : List Str} {sp : SpD Z} (G : ∀ i, FnG (F.X i).prog (F.X i).w (F.X i).K (F.X i).mg (F.X i).base k f fd ps (spOf F.K Z n sp)) (hr : ∀ i, Room k (F.X i).A) (gu : ∀ i, (F.X i).A.guards = some [])
    (hg : ∀ i, Gl (F.X i) x) (hm : ∀ i, (F.X i).mg x = some (.ref f)) (hk : ∀ i, PySem.W.keepIn (F.X i).K (.ref f) = true) (hb : ∀ i, Binds (F.X i).K fd ps []) (tk : ∀ i, Takes (F.X i) W) (ha : DA Z F W (e :: es) tA) (hn : (e :: es).length = n := by rfl)
    (hdb : (x == ("__debug__" : Str)) = false := by decide) (he : ∀ i, starEach (e :: es) (F.X i).env = (false, eval e (F.X i).env) :: starEach es (F.X i).env := by intro _; rfl) (hpl : ∀ i, (backTo pos (starEach es (F.X i).env)).any (·.1) = false := by intro _; rfl) :
    DE Z F W (.Call (.Name x p) (e :: es) [] pos) (dCall sp tA) := by
  obtain ⟨ta, pa, ha⟩ := ha
  refine ⟨_, fun i => pe_callG (G i) (hr i) (gu i) (hg i) (hm i) (hk i) (hb i) (fun σ => passAt (tk i) σ) (pa i) hdb (he i) (hpl i), fun B ρ σ μ S H R E Q env ok h hE hQ => ?_⟩
  refine ha B ρ σ μ S H _ E _ env ok h hE fun vs ds μ1 S1 H1 x1 r1 l1 h1 => ?_
  refine ⟨by rw [r1.length, l1, hn], ds, μ1, S1, R, E, x1.ok, r1.sta (Same.refl S1) _ _ h1.1, h1.1, h1.2, fun v d μ' S' H' x2 st rd hd => hQ v d μ' S' H' (x1.trans x2) (rd.sta (Same.refl S') _ _ st) hd, fun y μ' S' H' cls dd x2 xr hy => hE y μ' S' H' cls dd (x1.trans x2) xr.sta hy⟩
end
end DL
/-! text DLg -/
/-! DL, seventh part: operators, comparisons, subscripts, slices, built-in functions, by data. -/
namespace DL
open PySem PySem.Spec PyProof.Rows L2
/-! ### rules of the layer below that are lacking -/
section
variable {prog : Program} {w : World} {A : Around} {E : Value → Shared → Prop} {s : Shared}
theorem cat_tup0 {t b : Addr} {ws : List Value} {Q : Value → Shared → Prop} (ht : IsTup s.heap t #[]) (hb : IsTup s.heap b ws.toArray) (h : Q (.ref b) s) : wpAny (model prog w) A (binaryOp .Add (.ref t) (.ref b)) Q E s := by
  obtain ⟨⟨cls, dd, data, sl⟩, ho, hc, n, hd⟩ := id ht
  obtain ⟨⟨cls2, dd2, data2, sl2⟩, ho2, hc2, n2, hd2⟩ := id hb
  simp only at hc hd hc2 hd2
  subst hc hd hc2 hd2
  exact concat_meets ⟨_, ho, rfl⟩ ⟨_, ho2, rfl⟩ noFill_tuple_add seq_tuple_add PySem.F.slot_tuple_add PySem.F.entry_tuple_add (PySem.F.args_tuple_add_2 _ _)
    (tuple_addW0 t b #[] ws.toArray n n2 dd dd2 sl sl2 rfl) ⟨ho, ho2, h⟩
end
section
variable {X : Cx}
def rCat0 (K : PySem.W.Frag) : R2 := fun x y H Q => ∃ a b ys, x = .ref a ∧ y = .ref b ∧ SqT K H a [] ∧ SqT K H b ys ∧ Q (.ref b) H
theorem op_cat0 : OpR X (binaryOp .Add) (rCat0 X.K) := by
  intro pins s σ H x y v u Q I rx ry h
  obtain ⟨a, b, ys, rfl, rfl, ha, hb, q⟩ := h
  cases rx
  cases ry
  obtain ⟨its, r, ht, _⟩ := I.tuple ha
  obtain ⟨its2, r2, ht2, _⟩ := I.tuple hb
  cases r
  exact cat_tup0 ht ht2 ⟨.ref b, H, I, rfl, q⟩
/-- t[:], the whole: the very object -/
def rSlW (K : PySem.W.Frag) : V → Option Int → Option Int → Hp → VK → Prop := fun x lo hi H Q => ∃ a xs, x = .ref a ∧ SqT K H a xs ∧ (HT.sIx xs.length 0 lo = 0 ∧ HT.sIx xs.length xs.length hi = xs.length) ∧ Q (.ref a) H
theorem whole_tup {prog : Program} {w : World} {A : Around} {E : Value → Shared → Prop} {s : Shared} {t sl : Addr} {items : Array Value} {vl vu : Value} {lo hi : Option Int} {Q : Value → Shared → Prop} (ht : IsTup s.heap t items) (hs : s.heap.IsSliceOf sl vl vu .none) (pl : IsPart vl lo) (pu : IsPart vu hi)
    (hw : HT.sIx items.size 0 lo = 0 ∧ HT.sIx items.size items.size hi = items.size) (h : Q (.ref t) s) : wpAny (model prog w) A (getItem (.ref t) (.ref sl)) Q E s := by
  obtain ⟨os, hos, hcs, hds⟩ := id hs
  have hTs : s.TypeIs (.ref sl) "slice" := ⟨os, hos, hcs⟩
  unfold getItem
  try with_reducible refine wpAny_holding ?_
  first | refine wpAny_bind (wpAny_pure ?_) | skip
  refine wpAny_bind (wpAny_sequenceKey ht.typeIs (by decide) ?_)
  refine wpAny_bind (wpAny_callSpecial?_slot (name := Str.ofString "__getitem__") ht.typeIs PyProof.Rows.slot_tuple_getitem
    (wpAny_call_entry PyProof.Rows.slot_tuple_getitem ht.typeIs entry_tuple_getitem ?_ (args_tuple_getitem _ _)))
  show wpAny _ _ (Builtin.Tuple.tupleItemsOf (.ref t) >>= _) _ _ s
  refine wpAny_bind (tupleItemsOf_ ht ?_)
  refine wpAny_bind (wpAny_typeOf hTs ?_)
  rw [if_pos (by decide)]
  refine wpAny_bind (HT.sliceApplied_gen hs pl pu ?_)
  have hyes : ((((HT.sIx items.size 0 lo : Nat) : Int) == 0 && (1 : Int) == 1 && (HT.sIx items.size items.size hi - HT.sIx items.size 0 lo) == items.size) = true) := by
    rw [hw.1, hw.2]; simp
  show wpAny _ _ (if (((HT.sIx items.size 0 lo : Nat) : Int) == 0 && (1 : Int) == 1 && (HT.sIx items.size items.size hi - HT.sIx items.size 0 lo) == items.size) = true then _ else _) _ _ s
  rw [if_pos hyes]
  refine wpAny_bind (m := Builtin.Tuple.tupleIsExact _) ?_
  unfold Builtin.Tuple.tupleIsExact
  refine wpAny_bind (wpAny_typeOf ht.typeIs (wpAny_pure ?_))
  rw [if_pos (by simp)]
  refine wpAny_bind (wpAny_rule ?_)
  exact wpAny_bind (wpAny_pure (wpAny_pure ⟨_, rfl, wpAny_pure h⟩))
theorem sl_whole : SlR X (rSlW X.K) := by
  intro pins s σ H x v vl vu lo hi sl Q I rx hs pl pu h
  obtain ⟨a, xs, rfl, hx, hw, q⟩ := h
  cases rx
  obtain ⟨its, r, ht, hz⟩ := I.tuple hx
  have hlen : its.toArray.size = xs.length := by rw [List.size_toArray]; exact r.length.symm
  exact ⟨"tuple", _, PyProof.Rows.slot_tuple_getitem.lookup, ht.typeIs, whole_tup ht hs pl pu (by rw [hlen]; exact hw) ⟨.ref a, H, I, rfl, q⟩⟩
end

section
variable {X : Cx}
/-- lists or tuples, one of them empty -/
def rEmp (K : PySem.W.Frag) (g : Bool → Bool) : R2 := fun x y H Q => ∃ a b xs ys, x = .ref a ∧ y = .ref b ∧ ((SqL K H a xs ∧ SqL K H b ys) ∨ (SqT K H a xs ∧ SqT K H b ys)) ∧ (xs = [] ∨ ys = []) ∧ Q (.bl (g (xs.isEmpty && ys.isEmpty))) H
theorem op_empEq (hu : X.A.units + 64 < cLine) : OpR X (compareOp .Eq) (rEmp X.K fun k => k) := by
  intro pins s σ H x y v u Q I rx ry h
  obtain ⟨a, b, xs, ys, rfl, rfl, hab, he, q⟩ := h
  cases rx
  cases ry
  rcases hab with ⟨ha, hb⟩ | ⟨ha, hb⟩
  · obtain ⟨its, r1, p1, _⟩ := I.list ha
    obtain ⟨its2, r2, p2, _⟩ := I.list hb
    have l1 := r1.length
    have l2 := r2.length
    by_cases hs : its.length = its2.length
    · have z1 : its = [] := by rcases he with e | e <;> subst e <;> simp at l1 l2 <;> apply List.length_eq_zero_iff.mp <;> omega
      have z2 : its2 = [] := by subst z1; apply List.length_eq_zero_iff.mp; simpa using hs.symm
      subst z1 z2
      have x1 : xs = [] := List.length_eq_zero_iff.mp l1
      have x2 : ys = [] := List.length_eq_zero_iff.mp l2
      subst x1 x2
      exact SeqAt.RcAt.lists (e := fun _ => true) p1.isList p2.isList rfl (by omega) (fun j h1 _ => by simp at h1) _ _ _ _ ⟨.bl true, H, I, rfl, q⟩
    · refine SeqAt.RcAt.lists_lengths p1.isList p2.isList (by simpa using hs) (by omega) _ _ _ _ ⟨.bl false, H, I, rfl, ?_⟩
      have e : (xs.isEmpty && ys.isEmpty) = false := by
        cases xs <;> cases ys <;> simp at l1 l2 ⊢
        omega
      rw [e] at q
      exact q
  · obtain ⟨its, r1, p1, _⟩ := I.tuple ha
    obtain ⟨its2, r2, p2, _⟩ := I.tuple hb
    have l1 := r1.length
    have l2 := r2.length
    have z : its.length = 0 ∨ its2.length = 0 := he.imp (fun e => by rw [← l1, e]; rfl) fun e => by rw [← l2, e]; rfl
    refine SeqAt.RcAt.tuples (e := fun _ => true) (let ⟨o, a, b, n, c⟩ := p1; ⟨o, a, b, n, c⟩) (let ⟨o, a, b, n, c⟩ := p2; ⟨o, a, b, n, c⟩) (by omega) (fun j h1 h2 => by
      rw [List.size_toArray] at h1 h2
      omega) _ _ _ _ ⟨.bl (xs.isEmpty && ys.isEmpty), H, I, ?_, q⟩
    show Value.bool _ = Value.bool _
    congr 1
    rw [List.size_toArray, List.size_toArray, ← l1, ← l2]
    rcases he with e | e <;> subst e <;> first | (cases ys <;> simp) | (cases xs <;> simp)
theorem op_empNotEq (hu : X.A.units + 64 < cLine) : OpR X (compareOp .NotEq) (rEmp X.K fun k => !k) := by
  intro pins s σ H x y v u Q I rx ry h
  obtain ⟨a, b, xs, ys, rfl, rfl, hab, he, q⟩ := h
  cases rx
  cases ry
  rcases hab with ⟨ha, hb⟩ | ⟨ha, hb⟩
  · obtain ⟨its, r1, p1, _⟩ := I.list ha
    obtain ⟨its2, r2, p2, _⟩ := I.list hb
    have l1 := r1.length
    have l2 := r2.length
    by_cases hs : its.length = its2.length
    · have z1 : its = [] := by rcases he with e | e <;> subst e <;> simp at l1 l2 <;> apply List.length_eq_zero_iff.mp <;> omega
      have z2 : its2 = [] := by subst z1; apply List.length_eq_zero_iff.mp; simpa using hs.symm
      subst z1 z2
      have x1 : xs = [] := List.length_eq_zero_iff.mp l1
      have x2 : ys = [] := List.length_eq_zero_iff.mp l2
      subst x1 x2
      exact SeqAt.RcNeAt.lists (e := fun _ => true) p1.isList p2.isList rfl (by omega) (fun j h1 _ => by simp at h1) _ _ _ _ ⟨.bl false, H, I, rfl, q⟩
    · refine SeqAt.RcNeAt.lists_lengths p1.isList p2.isList (by simpa using hs) (by omega) _ _ _ _ ⟨.bl true, H, I, rfl, ?_⟩
      have e : (xs.isEmpty && ys.isEmpty) = false := by
        cases xs <;> cases ys <;> simp at l1 l2 ⊢
        omega
      rw [e] at q
      exact q
  · obtain ⟨its, r1, p1, _⟩ := I.tuple ha
    obtain ⟨its2, r2, p2, _⟩ := I.tuple hb
    have l1 := r1.length
    have l2 := r2.length
    have z : its.length = 0 ∨ its2.length = 0 := he.imp (fun e => by rw [← l1, e]; rfl) fun e => by rw [← l2, e]; rfl
    refine SeqAt.RcNeAt.tuples (e := fun _ => true) (let ⟨o, a, b, n, c⟩ := p1; ⟨o, a, b, n, c⟩) (let ⟨o, a, b, n, c⟩ := p2; ⟨o, a, b, n, c⟩) (by omega) (fun j h1 h2 => by
      rw [List.size_toArray] at h1 h2
      omega) _ _ _ _ ⟨.bl (!(xs.isEmpty && ys.isEmpty)), H, I, ?_, q⟩
    show Value.bool _ = Value.bool _
    congr 2
    rw [List.size_toArray, List.size_toArray, ← l1, ← l2]
    rcases he with e | e <;> subst e <;> first | (cases ys <;> simp) | (cases xs <;> simp)
end
/-! ### data told to the library -/
mutual
def pyD : D → PyData
  | .non => .none
  | .bl b => .bool b
  | .int i => .int i
  | .str s => .str s
  | .tup xs => .tuple (pyL xs)
  | .lst xs => .list (pyL xs)
  | .vw xs => .list (pyL xs)
  | .scr ns => .list (ns.map .int)
  | .dct kvs => .dict (pyK kvs)
  | .op _ => .none
  | .fn _ => .none
def pyL : List D → List PyData
  | [] => []
  | d :: ds => pyD d :: pyL ds
def pyK : List (Key × D) → List (PyData × PyData)
  | [] => []
  | (.inl i, d) :: ds => (.int i, pyD d) :: pyK ds
  | (.inr s, d) :: ds => (.str s, pyD d) :: pyK ds
end
/-! nothing but data within -/
mutual
def okD : D → Bool
  | .non => true | .bl _ => true | .int _ => true | .str _ => true | .scr _ => true
  | .tup xs => okL xs
  | .lst xs => okL xs
  | .vw xs => okL xs
  | .dct kvs => okK kvs
  | .op _ => false
  | .fn _ => false
def okL : List D → Bool
  | [] => true
  | d :: ds => okD d && okL ds
def okK : List (Key × D) → Bool
  | [] => true
  | (_, d) :: ds => okD d && okK ds
end
section
variable {K : PySem.W.Frag} {rg : Addr → Prop} {S H : Hp}
theorem dp_ints : ∀ ns : List Int, DpAll K H (ns.map V.int) (ns.map .int)
  | [] => .nil
  | n :: ns => .cons (.int n) (dp_ints ns)
mutual
theorem rd_dp (sub : Same S H) : ∀ (d : D) (v : V), okD d = true → (pyD d).canLay0 = true → Rd K rg S H d v → Dp K H v (pyD d)
  | .non, _, _, _, h => by cases h; exact .non
  | .bl b, _, _, _, h => by cases h; exact .bl b
  | .int i, _, _, _, h => by cases h; exact .int i
  | .str s, _, _, _, h => by cases h; exact .str s
  | .tup xs, _, t, c, h => by
    obtain ⟨a, vs, rfl, h1, h2⟩ := h
    simp only [okD] at t
    simp only [pyD, PyData.canLay0] at c ⊢
    exact .tup (seqT_mono sub h1) (rdl_dp sub xs vs t c h2)
  | .lst xs, _, t, c, h => by
    obtain ⟨a, vs, rfl, h1, h2⟩ := h
    simp only [okD] at t
    simp only [pyD, PyData.canLay0] at c ⊢
    exact .lst (SqL.of (sub _ _ h1)) (rdl_dp sub xs vs t c h2)
  | .vw xs, _, t, c, h => by
    obtain ⟨a, vs, rfl, h0, h1, h2⟩ := h
    simp only [okD] at t
    simp only [pyD, PyData.canLay0] at c ⊢
    exact .lst (SqL.of h1) (rdl_dp sub xs vs t c h2)
  | .scr ns, _, _, _, h => by
    obtain ⟨a, rfl, h1⟩ := h
    simp only [pyD]
    exact .lst (sub.seq h1) (dp_ints ns)
  | .dct kvs, _, _, c, _ => by simp [pyD, PyData.canLay0] at c
  | .op _, _, t, _, _ => by simp [okD] at t
  | .fn _, _, t, _, _ => by simp [okD] at t
theorem rdl_dp (sub : Same S H) : ∀ (ds : List D) (vs : List V), okL ds = true → PyData.canLayAll0 (pyL ds) = true → RdL K rg S H ds vs → DpAll K H vs (pyL ds)
  | [], _, _, _, h => by cases h; exact .nil
  | d :: ds, _, t, c, h => by
    obtain ⟨v, r, rfl, h1, h2⟩ := h
    simp only [okL, Bool.and_eq_true] at t
    simp only [pyL, PyData.canLayAll0, Bool.and_eq_true] at c
    simp only [pyL]
    exact .cons (rd_dp sub d v t.1 c.1 h1) (rdl_dp sub ds r t.2 c.2 h2)
end
end
/-! ### semantics of operators by data -/
def lstOf : D → Option (List D)
  | .lst xs => some xs
  | .vw xs => some xs
  | _ => none
def smAdd : Sm2 := fun a b R => match a, b with
  | .int i, .int j => R (.int (i + j))
  | .str x, .str y => x.length + y.length ≤ sizeLine ∧ R (.str (x ++ y))
  | .tup xs, .tup ys => xs.length + ys.length ≤ sizeLine ∧ R (.tup (xs ++ ys))
  | a, b => ∃ xs ys, lstOf a = some xs ∧ lstOf b = some ys ∧ xs.length + ys.length ≤ sizeLine ∧ R (.lst (xs ++ ys))
def smSub : Sm2 := fun a b R => ∃ i j, a = .int i ∧ b = .int j ∧ R (.int (i - j))
def smMul : Sm2 := fun a b R => match a, b with
  | .int i, .int j => (CMul i j ∨ CMulW i j) ∧ R (.int (i * j))
  | a, .int k => ∃ xs, lstOf a = some xs ∧ -(2 ^ 63) ≤ k ∧ k < 2 ^ 63 ∧ xs.length * k.toNat ≤ sizeLine ∧ R (.lst (List.replicate k.toNat xs).flatten)
  | _, _ => False
def smDiv : Sm2 := fun a b R => ∃ i j, a = .int i ∧ b = .int j ∧ CDivW i j ∧ R (.int (i / j))
def smMod : Sm2 := fun a b R => ∃ i j, a = .int i ∧ b = .int j ∧ 0 < j ∧ R (.int (i % j))
def smPow : Sm2 := fun a b R => ∃ i j, a = .int i ∧ b = .int j ∧ CPow i j ∧ R (.int (i ^ j.toNat))
def smC (p : Int → Int → Bool) : Sm2 := fun a b R => ∃ i j, a = .int i ∧ b = .int j ∧ R (.bl (p i j))
def smLt : Sm2 := smC fun i j => decide (i < j)
def smLe : Sm2 := smC fun i j => decide (i ≤ j)
def smGt : Sm2 := smC fun i j => decide (j < i)
def smGe : Sm2 := smC fun i j => decide (j ≤ i)
def eqD (a b : D) : Bool := PyData.eqv (pyD a) (pyD b)
def cmpOk (a b : D) : Prop := okD a = true ∧ okD b = true ∧ SeqAt.shaped (pyD a) = true ∧ SeqAt.shaped (pyD b) = true
/-- two lists, or two tuples, of which one is empty: the answer -/
def empA : D → D → Option Bool
  | .tup xs, .tup ys => if xs.isEmpty || ys.isEmpty then some (xs.isEmpty && ys.isEmpty) else none
  | a, b => match lstOf a, lstOf b with
    | some xs, some ys => if xs.isEmpty || ys.isEmpty then some (xs.isEmpty && ys.isEmpty) else none
    | _, _ => none
def smEq : Sm2 := fun a b R => match a, b with
  | .str x, .str y => R (.bl (decide (x = y)))
  | a, b => (∃ k, empA a b = some k ∧ R (.bl k)) ∨ (cmpOk a b ∧ R (.bl (eqD a b)))
def smNe : Sm2 := fun a b R => match a, b with
  | .str x, .str y => R (.bl (!decide (x = y)))
  | a, b => (∃ k, empA a b = some k ∧ R (.bl (!k))) ∨ (cmpOk a b ∧ R (.bl (!eqD a b)))
def isNon : D → Bool
  | .non => true
  | _ => false
def smIs : Sm2 := fun a b R => b = .non ∧ (∀ v, a ≠ .op v) ∧ R (.bl (isNon a))
def smIsNot : Sm2 := fun a b R => b = .non ∧ (∀ v, a ≠ .op v) ∧ R (.bl (!isNon a))
def flatD : D → Bool
  | .non => true | .bl _ => true | .int _ => true | .str _ => true
  | _ => false
def inD (x : D) (xs : List D) : Bool := xs.any fun y => eqD y x
def smIn : Sm2 := fun a b R => ∃ xs, itemsC b = some xs ∧ flatD a = true ∧ xs.all flatD = true ∧ R (.bl (inD a xs))
def smNotIn : Sm2 := fun a b R => ∃ xs, itemsC b = some xs ∧ flatD a = true ∧ xs.all flatD = true ∧ R (.bl (!inD a xs))
def smIx : Sm2 := fun a b R => ∃ i, b = .int i ∧ match a with
  | .str z => z.length ≤ sizeLine ∧ ∃ c, atI z.cps.toList i = some c ∧ R (.str ⟨#[c]⟩)
  | a => ∃ xs d, itemsC a = some xs ∧ atI xs i = some d ∧ R d
def cutL {α : Type} (xs : List α) (lo hi : Option Int) : List α := (xs.drop (HT.sIx xs.length 0 lo)).take (HT.sIx xs.length xs.length hi - HT.sIx xs.length 0 lo)
section
variable {Z : Wld} {F : Fm} {W : WX}
theorem opd_int {f : Value → Value → Sem Value} {C : Int → Int → Prop} {g : Int → Int → Int} (h : ∀ i, OpR (F.X i) f (rI C fun i j => .int (g i j))) : OpD Z F f (fun a b R => ∃ i j, a = .int i ∧ b = .int j ∧ C i j ∧ R (.int (g i j))) := by
  refine ⟨_, h, fun rg μ S H a b x y R Q ok ra rb hs k => ?_⟩
  obtain ⟨i, j, rfl, rfl, hc, hs⟩ := hs
  exact ⟨i, j, ra, rb, hc, k _ (.int (g i j)) S H (.refl ok) rfl hs⟩
theorem opd_int0 {f : Value → Value → Sem Value} {g : Int → Int → Int} (h : ∀ i, OpR (F.X i) f (rI0 fun i j => .int (g i j))) : OpD Z F f (fun a b R => ∃ i j, a = .int i ∧ b = .int j ∧ R (.int (g i j))) := by
  refine ⟨_, h, fun rg μ S H a b x y R Q ok ra rb hs k => ?_⟩
  obtain ⟨i, j, rfl, rfl, hs⟩ := hs
  exact ⟨i, j, ra, rb, k _ (.int (g i j)) S H (.refl ok) rfl hs⟩
theorem opd_c {f : Value → Value → Sem Value} {p : Int → Int → Bool} (h : ∀ i, OpR (F.X i) f (rI0 fun i j => .bl (p i j))) : OpD Z F f (smC p) := by
  refine ⟨_, h, fun rg μ S H a b x y R Q ok ra rb hs k => ?_⟩
  obtain ⟨i, j, rfl, rfl, hs⟩ := hs
  exact ⟨i, j, ra, rb, k _ (.bl (p i j)) S H (.refl ok) rfl hs⟩
theorem od_sub : OpD Z F (binaryOp .Sub) smSub := opd_int0 fun _ => op_sub
theorem od_div : OpD Z F (binaryOp .FloorDiv) smDiv := opd_int fun _ => op_fdivW
theorem od_mod : OpD Z F (binaryOp .Mod) smMod := opd_int (C := fun _ j => 0 < j) fun _ => op_mod
theorem od_pow : OpD Z F (binaryOp .Pow) smPow := opd_int fun _ => op_pow
theorem od_lt : OpD Z F (compareOp .Lt) smLt := opd_c fun _ => op_lt
theorem od_le : OpD Z F (compareOp .LtE) smLe := opd_c fun _ => op_le
theorem od_gt : OpD Z F (compareOp .Gt) smGt := opd_c fun _ => op_gt
theorem od_ge : OpD Z F (compareOp .GtE) smGe := opd_c fun _ => op_ge
theorem lstOf_at {rg : Addr → Prop} {S H : Hp} {d : D} {xs : List D} {v : V} (sub : Same S H) (r : Rd F.K rg S H d v) (e : lstOf d = some xs) : ∃ a vs, v = .ref a ∧ H a = some (.lst vs) ∧ RdL F.K rg S H xs vs := by
  cases d with
  | lst ys =>
    obtain ⟨a, vs, rfl, h1, h2⟩ := r
    cases e
    exact ⟨a, vs, rfl, sub _ _ h1, h2⟩
  | vw ys =>
    obtain ⟨a, vs, rfl, h0, h1, h2⟩ := r
    cases e
    exact ⟨a, vs, rfl, h1, h2⟩
  | _ => cases e
theorem or4 {f : Value → Value → Sem Value} {r1 r2 r3 r4 : Fm → R2} (h1 : ∀ i, OpR (F.X i) f (r1 F)) (h2 : ∀ i, OpR (F.X i) f (r2 F)) (h3 : ∀ i, OpR (F.X i) f (r3 F)) (h4 : ∀ i, OpR (F.X i) f (r4 F)) :
    ∀ i, OpR (F.X i) f (fun x y H Q => r1 F x y H Q ∨ r2 F x y H Q ∨ r3 F x y H Q ∨ r4 F x y H Q) := fun i => (h1 i).or ((h2 i).or ((h3 i).or (h4 i)))
/-- data that has grown keeps its reading where a new object comes -/
theorem RdL.new {rg : Addr → Prop} {μ : Z.M} {S H : Hp} {p : Addr} {o : HO} (ok : Ok Z μ S H) (n : H p = none) {ds : List D} {vs : List V} (r : RdL F.K rg S H ds vs) : RdL F.K rg (upd S p o) (upd H p o) ds vs :=
  r.mono (fun b u e => by rw [upd_ne (fun z => by rw [z] at e; rw [ok.sub p u e] at n; cases n)]; exact e) fun a ws nf e => ⟨nf, by rw [upd_ne (ne_of_none e n)]; exact e⟩
theorem od_add : OpD Z F (binaryOp .Add) smAdd := by
  refine ⟨fun x y H Q => (rI0 (fun i j => .int (i + j)) x y H Q) ∨ (∃ i j, x = .str i ∧ y = .str j ∧ i.length + j.length ≤ sizeLine ∧ Q (.str (i ++ j)) H) ∨ rCatT F.K x y H Q ∨ rCat0 F.K x y H Q ∨ rCat x y H Q,
    fun i => by rw [← F.hK i]; exact op_add.or (op_add_str.or (op_catT.or (op_cat0.or op_cat))), fun rg μ S H a b x y R Q ok ra rb hs k => ?_⟩
  have lists : ∀ {a b : D}, Rd F.K rg S H a x → Rd F.K rg S H b y → (∃ xs ys, lstOf a = some xs ∧ lstOf b = some ys ∧ xs.length + ys.length ≤ sizeLine ∧ R (.lst (xs ++ ys))) → rCat x y H Q := fun {a b} ra rb h => by
    obtain ⟨xs, ys, e1, e2, hz, hR⟩ := h
    obtain ⟨p, vs, rfl, q1, q2⟩ := lstOf_at ok.sub ra e1
    obtain ⟨p', ws, rfl, q1', q2'⟩ := lstOf_at ok.sub rb e2
    exact ⟨p, p', vs, ws, rfl, rfl, q1, q1', by rw [q2.length, q2'.length]; exact hz, fun t ht => k _ (.lst (xs ++ ys)) _ _ (ok.put ht) ⟨t, _, rfl, upd_same, (q2.append q2').new ok ht⟩ hR⟩
  cases a with
  | int i => cases b with
    | int j => exact .inl ⟨i, j, ra, rb, k _ (.int (i + j)) S H (.refl ok) rfl hs⟩
    | _ => obtain ⟨xs, ys, e1, _⟩ := hs; cases e1
  | str z => cases b with
    | str z2 => exact .inr (.inl ⟨z, z2, ra, rb, hs.1, k _ (.str (z ++ z2)) S H (.refl ok) rfl hs.2⟩)
    | _ => obtain ⟨xs, ys, e1, _⟩ := hs; cases e1
  | tup xs => cases b with
    | tup ys =>
      obtain ⟨p, vs, rfl, h1, h2⟩ := ra
      obtain ⟨p', ws, rfl, h1', h2'⟩ := id rb
      have q1 := seqT_mono ok.sub h1
      have q1' := seqT_mono ok.sub h1'
      by_cases hv : vs = []
      · subst hv
        have hx : xs = [] := List.length_eq_zero_iff.mp (by rw [← h2.length]; rfl)
        subst hx
        exact .inr (.inr (.inr (.inl ⟨p, p', ws, rfl, rfl, q1, q1', k _ (.tup ys) S H (.refl ok) rb hs.2⟩)))
      · refine .inr (.inr (.inl ⟨p, p', vs, ws, rfl, rfl, q1, q1', hv, by rw [h2.length, h2'.length]; exact hs.1, fun hw => ?_, fun hw t ht => ?_⟩))
        · subst hw
          have hy : ys = [] := List.length_eq_zero_iff.mp (by rw [← h2'.length]; rfl)
          subst hy
          exact k _ (.tup (xs ++ [])) S H (.refl ok) ⟨p, vs, rfl, h1, by rw [List.append_nil]; exact h2⟩ hs.2
        · exact k _ (.tup (xs ++ ys)) _ _ (ok.put ht) ⟨t, _, rfl, SqT.of upd_same, (h2.append h2').new ok ht⟩ hs.2
    | _ => obtain ⟨xs, ys, e1, _⟩ := hs; cases e1
  | _ => exact .inr (.inr (.inr (.inr (lists ra rb hs))))
theorem RdL.rep {K : PySem.W.Frag} {rg : Addr → Prop} {S H : Hp} {ds : List D} {vs : List V} (r : RdL K rg S H ds vs) : ∀ n : Nat, RdL K rg S H (List.replicate n ds).flatten (List.replicate n vs).flatten
  | 0 => rfl
  | n + 1 => by
    rw [List.replicate_succ, List.replicate_succ, List.flatten_cons, List.flatten_cons]
    exact r.append (RdL.rep r n)
theorem od_mul : OpD Z F (binaryOp .Mult) smMul := by
  refine ⟨fun x y H Q => rI CMul (fun i j => .int (i * j)) x y H Q ∨ rI CMulW (fun i j => .int (i * j)) x y H Q ∨ rRep x y H Q, fun i => op_mul.or (op_mulW.or op_rep), fun rg μ S H a b x y R Q ok ra rb hs k => ?_⟩
  cases b with
  | int j =>
    have lists : (∃ xs, lstOf a = some xs ∧ -(2 ^ 63) ≤ j ∧ j < 2 ^ 63 ∧ xs.length * j.toNat ≤ sizeLine ∧ R (.lst (List.replicate j.toNat xs).flatten)) → rRep x y H Q := fun h => by
      obtain ⟨xs, e1, h1, h2, hz, hR⟩ := h
      obtain ⟨p, vs, rfl, q1, q2⟩ := lstOf_at ok.sub ra e1
      exact ⟨p, j, vs, rfl, rb, q1, h1, h2, by rw [q2.length]; exact hz, fun t ht => k _ (.lst _) _ _ (ok.put ht) ⟨t, _, rfl, upd_same, (q2.rep _).new ok ht⟩ hR⟩
    cases a with
    | int i =>
      rcases hs.1 with c | c
      · exact .inl ⟨i, j, ra, rb, c, k _ (.int (i * j)) S H (.refl ok) rfl hs.2⟩
      · exact .inr (.inl ⟨i, j, ra, rb, c, k _ (.int (i * j)) S H (.refl ok) rfl hs.2⟩)
    | _ => exact .inr (.inr (lists hs))
  | _ => cases a <;> exact hs.elim
theorem emp_rd {rg : Addr → Prop} {S H : Hp} {a b : D} {x y : V} {k : Bool} (sub : Same S H) (ra : Rd F.K rg S H a x) (rb : Rd F.K rg S H b y) (e : empA a b = some k) :
    ∃ p q vs ws, x = .ref p ∧ y = .ref q ∧ ((SqL F.K H p vs ∧ SqL F.K H q ws) ∨ (SqT F.K H p vs ∧ SqT F.K H q ws)) ∧ (vs = [] ∨ ws = []) ∧ (vs.isEmpty && ws.isEmpty) = k := by
  have ln : ∀ {vs : List V} {xs : List D}, RdL F.K rg S H xs vs → vs.isEmpty = xs.isEmpty := fun {vs xs} r => by
    have := r.length
    cases vs <;> cases xs <;> simp at this ⊢
  have em : ∀ {vs : List V} {xs : List D}, RdL F.K rg S H xs vs → xs.isEmpty = true → vs = [] := fun {vs xs} r h => by
    have := ln r
    rw [h] at this
    exact List.isEmpty_iff.mp this
  have lists : (∃ xs ys, lstOf a = some xs ∧ lstOf b = some ys ∧ (if xs.isEmpty || ys.isEmpty then some (xs.isEmpty && ys.isEmpty) else none) = some k) → ∃ p q vs ws, x = .ref p ∧ y = .ref q ∧ ((SqL F.K H p vs ∧ SqL F.K H q ws) ∨ (SqT F.K H p vs ∧ SqT F.K H q ws)) ∧ (vs = [] ∨ ws = []) ∧ (vs.isEmpty && ws.isEmpty) = k := fun ⟨xs, ys, e1, e2, e3⟩ => by
    obtain ⟨p, vs, rfl, q1, q2⟩ := lstOf_at sub ra e1
    obtain ⟨p', ws, rfl, q1', q2'⟩ := lstOf_at sub rb e2
    split at e3
    · rename_i h
      rw [Bool.or_eq_true] at h
      cases e3
      exact ⟨p, p', vs, ws, rfl, rfl, .inl ⟨SqL.of q1, SqL.of q1'⟩, h.imp (em q2) (em q2'), by rw [ln q2, ln q2']⟩
    · cases e3
  by_cases ht : (∃ xs, a = .tup xs) ∧ ∃ ys, b = .tup ys
  · obtain ⟨⟨xs, rfl⟩, ys, rfl⟩ := ht
    obtain ⟨p, vs, rfl, q1, q2⟩ := ra
    obtain ⟨p', ws, rfl, q1', q2'⟩ := rb
    have e3 : (if xs.isEmpty || ys.isEmpty then some (xs.isEmpty && ys.isEmpty) else none) = some k := e
    split at e3
    · rename_i h
      rw [Bool.or_eq_true] at h
      cases e3
      exact ⟨p, p', vs, ws, rfl, rfl, .inr ⟨seqT_mono sub q1, seqT_mono sub q1'⟩, h.imp (em q2) (em q2'), by rw [ln q2, ln q2']⟩
    · cases e3
  · refine lists ?_
    have e2 : (match lstOf a, lstOf b with
      | some xs, some ys => if xs.isEmpty || ys.isEmpty then some (xs.isEmpty && ys.isEmpty) else none
      | _, _ => none) = some k := by
      cases a <;> first | exact e | (cases b <;> first | exact e | exact absurd ⟨⟨_, rfl⟩, _, rfl⟩ ht)
    cases ea : lstOf a with
    | none => rw [ea] at e2; cases e2
    | some xs => cases eb : lstOf b with
      | none => rw [ea, eb] at e2; cases e2
      | some ys => rw [ea, eb] at e2; exact ⟨xs, ys, rfl, rfl, e2⟩
theorem od_eq (hu : ∀ i, (F.X i).A.units + 64 < cLine) : OpD Z F (compareOp .Eq) smEq := by
  refine ⟨fun x y H Q => rEq x y H Q ∨ rEmp F.K (fun k => k) x y H Q ∨ rEqD F.K x y H Q, fun i => by rw [← F.hK i]; exact op_eq.or ((op_empEq (hu i)).or (op_eqD (hu i))), fun rg μ S H a b x y R Q ok ra rb hs k => ?_⟩
  have two : ((∃ k, empA a b = some k ∧ R (.bl (k))) ∨ (cmpOk a b ∧ R (.bl (eqD a b)))) → rEq x y H Q ∨ rEmp F.K (fun k => k) x y H Q ∨ rEqD F.K x y H Q := fun h => by
    rcases h with ⟨j, e, hR⟩ | ⟨⟨o1, o2, s1, s2⟩, hs⟩
    · obtain ⟨p, q, vs, ws, e1, e2, e3, e4, e5⟩ := emp_rd ok.sub ra rb e
      exact .inr (.inl ⟨p, q, vs, ws, e1, e2, e3, e4, by rw [e5]; exact k _ (.bl (j)) S H (.refl ok) rfl hR⟩)
    · exact .inr (.inr ⟨pyD a, pyD b, rd_dp ok.sub a x o1 (SeqAt.canLay_of_shaped s1) ra, rd_dp ok.sub b y o2 (SeqAt.canLay_of_shaped s2) rb, s1, s2, k _ (.bl (eqD a b)) S H (.refl ok) rfl hs⟩)
  cases a with
  | str z => cases b with
    | str z2 =>
      cases ra
      cases rb
      refine .inl ⟨rfl, k _ (.bl (decide (z = z2))) S H (.refl ok) ?_ hs⟩
      show V.bl _ = V.bl _
      congr 1
      simp
    | _ => exact two hs
  | _ => exact two hs
theorem od_ne (hu : ∀ i, (F.X i).A.units + 64 < cLine) : OpD Z F (compareOp .NotEq) smNe := by
  refine ⟨fun x y H Q => rNe x y H Q ∨ rEmp F.K (fun k => !k) x y H Q ∨ rNeD F.K x y H Q, fun i => by rw [← F.hK i]; exact op_ne.or ((op_empNotEq (hu i)).or (op_neD (hu i))), fun rg μ S H a b x y R Q ok ra rb hs k => ?_⟩
  have two : ((∃ k, empA a b = some k ∧ R (.bl (!k))) ∨ (cmpOk a b ∧ R (.bl (!eqD a b)))) → rNe x y H Q ∨ rEmp F.K (fun k => !k) x y H Q ∨ rNeD F.K x y H Q := fun h => by
    rcases h with ⟨j, e, hR⟩ | ⟨⟨o1, o2, s1, s2⟩, hs⟩
    · obtain ⟨p, q, vs, ws, e1, e2, e3, e4, e5⟩ := emp_rd ok.sub ra rb e
      exact .inr (.inl ⟨p, q, vs, ws, e1, e2, e3, e4, by rw [e5]; exact k _ (.bl (!j)) S H (.refl ok) rfl hR⟩)
    · exact .inr (.inr ⟨pyD a, pyD b, rd_dp ok.sub a x o1 (SeqAt.canLay_of_shaped s1) ra, rd_dp ok.sub b y o2 (SeqAt.canLay_of_shaped s2) rb, s1, s2, k _ (.bl (!eqD a b)) S H (.refl ok) rfl hs⟩)
  cases a with
  | str z => cases b with
    | str z2 =>
      cases ra
      cases rb
      refine .inl ⟨rfl, k _ (.bl (!decide (z = z2))) S H (.refl ok) ?_ hs⟩
      show V.bl _ = V.bl _
      congr 2
      simp
    | _ => exact two hs
  | _ => exact two hs
theorem rd_non {rg : Addr → Prop} {S H : Hp} {a : D} {x : V} (r : Rd F.K rg S H a x) (n : ∀ v, a ≠ .op v) : decide (x = .non) = isNon a := by
  cases a with
  | non => cases r; rfl
  | bl b => cases r; rfl
  | int i => cases r; rfl
  | str s => cases r; rfl
  | op v => exact absurd rfl (n v)
  | fn x => cases r; rfl
  | tup xs => obtain ⟨p, vs, rfl, _⟩ := r; rfl
  | lst xs => obtain ⟨p, vs, rfl, _⟩ := r; rfl
  | vw xs => obtain ⟨p, vs, rfl, _⟩ := r; rfl
  | dct xs => obtain ⟨p, vs, rfl, _⟩ := r; rfl
  | scr xs => obtain ⟨p, rfl, _⟩ := r; rfl
theorem od_is : OpD Z F (compareOp .Is) smIs := by
  refine ⟨_, fun _ => op_isN, fun rg μ S H a b x y R Q ok ra rb hs k => ?_⟩
  obtain ⟨rfl, hn, hs⟩ := hs
  refine ⟨rb, ?_⟩
  rw [rd_non ra hn]
  exact k _ (.bl _) S H (.refl ok) rfl hs
theorem od_isnot : OpD Z F (compareOp .IsNot) smIsNot := by
  refine ⟨_, fun _ => op_notN, fun rg μ S H a b x y R Q ok ra rb hs k => ?_⟩
  obtain ⟨rfl, hn, hs⟩ := hs
  refine ⟨rb, ?_⟩
  rw [rd_non ra hn]
  exact k _ (.bl _) S H (.refl ok) rfl hs
theorem rd_flat {rg : Addr → Prop} {S H : Hp} {a : D} {x : V} (r : Rd F.K rg S H a x) (f : flatD a = true) : flatV x = true := by
  cases a with
  | non => cases r; rfl
  | bl b => cases r; rfl
  | int i => cases r; rfl
  | str s => cases r; rfl
  | _ => cases f
theorem rd_eqV {rg : Addr → Prop} {S H : Hp} {a b : D} {x y : V} (r : Rd F.K rg S H a x) (f : flatD a = true) (r' : Rd F.K rg S H b y) (f' : flatD b = true) : eqV x y = eqD a b := by
  cases a with
  | non => cases b <;> first | (cases f'; done) | (cases r; cases r'; rfl)
  | bl b0 => cases b <;> first | (cases f'; done) | (cases r; cases r'; rfl)
  | int i => cases b <;> first | (cases f'; done) | (cases r; cases r'; rfl)
  | str s => cases b <;> first | (cases f'; done) | (cases r; cases r'; rfl)
  | _ => cases f
theorem inV_inD {rg : Addr → Prop} {S H : Hp} {a : D} {x : V} (r : Rd F.K rg S H a x) (f : flatD a = true) : ∀ {ds : List D} {vs : List V}, RdL F.K rg S H ds vs → ds.all flatD = true → inV x vs = inD a ds ∧ vs.all flatV = true
  | [], _, h, _ => by cases h; exact ⟨rfl, rfl⟩
  | d :: ds, _, h, t => by
    obtain ⟨v, w, rfl, h1, h2⟩ := h
    simp only [List.all_cons, Bool.and_eq_true] at t
    obtain ⟨q1, q2⟩ := inV_inD r f h2 t.2
    refine ⟨?_, by simp only [List.all_cons, rd_flat h1 t.1, q2, Bool.and_self]⟩
    unfold inV inD at q1 ⊢
    rw [List.any_cons, List.any_cons, rd_eqV h1 t.1 r f, q1]
theorem items_inH {rg : Addr → Prop} {S H : Hp} {d : D} {ds : List D} {v : V} (sub : Same S H) (r : Rd F.K rg S H d v) (e : itemsC d = some ds) : ∃ a vs, v = .ref a ∧ (SqL F.K H a vs ∨ SqT F.K H a vs) ∧ RdL F.K rg S H ds vs := by
  obtain ⟨k, a, vs, rfl, q1, _, q3⟩ := items_seqC sub r e
  cases k with
  | l => exact ⟨a, vs, rfl, .inl q1, q3⟩
  | t => exact ⟨a, vs, rfl, .inr q1, q3⟩
theorem od_in : OpD Z F (compareOp .In) smIn := by
  refine ⟨rIn F.K false, fun i => by rw [← F.hK i]; exact op_in_seq, fun rg μ S H a b x y R Q ok ra rb hs k => ?_⟩
  obtain ⟨xs, e1, f1, f2, hs⟩ := hs
  obtain ⟨p, vs, rfl, q1, q2⟩ := items_inH ok.sub rb e1
  obtain ⟨z1, z2⟩ := inV_inD ra f1 q2 f2
  refine ⟨p, vs, rfl, q1, rd_flat ra f1, z2, ?_⟩
  rw [z1]
  exact k _ (.bl (inD a xs)) S H (.refl ok) rfl hs
theorem od_notin : OpD Z F (compareOp .NotIn) smNotIn := by
  refine ⟨rIn F.K true, fun i => by rw [← F.hK i]; exact op_notIn_seq, fun rg μ S H a b x y R Q ok ra rb hs k => ?_⟩
  obtain ⟨xs, e1, f1, f2, hs⟩ := hs
  obtain ⟨p, vs, rfl, q1, q2⟩ := items_inH ok.sub rb e1
  obtain ⟨z1, z2⟩ := inV_inD ra f1 q2 f2
  refine ⟨p, vs, rfl, q1, rd_flat ra f1, z2, ?_⟩
  rw [z1]
  exact k _ (.bl (!inD a xs)) S H (.refl ok) rfl hs
theorem rdl_atI {rg : Addr → Prop} {S H : Hp} {ds : List D} {vs : List V} (r : RdL F.K rg S H ds vs) {i : Int} {d : D} (e : atI ds i = some d) : ∃ v, atI vs i = some v ∧ Rd F.K rg S H d v := by
  unfold atI at e ⊢
  rw [r.length]
  cases q : ixN ds.length i with
  | none => rw [q] at e; cases e
  | some j =>
    rw [q] at e
    obtain ⟨v, h1, h2⟩ := r.get (show ds[j]? = some d from e)
    exact ⟨v, h1, h2⟩
variable {a b : Expr} {ta tb : DT Z} {pos : Pos}
theorem dx_ix (ha : DE Z F W a ta) (hb : DE Z F W b tb) (hs : PlainIx b := by exact fun _ _ => rfl) : DE Z F W (.Subscript a b pos) (d2 smIx ta tb) := by
  obtain ⟨ta', pa, ha⟩ := ha
  obtain ⟨tb', pb, hb⟩ := hb
  refine ⟨tOp (rIx F.K) ta' tb', fun i => by rw [← F.hK i]; exact pe_ix ix_seq (pa i) (pb i) hs, fun B ρ σ μ S H R E Q env ok h hE hQ => ?_⟩
  refine ha B ρ σ μ S H _ E _ env ok h hE fun v d μ1 S1 H1 x1 r1 h1 => ?_
  refine hb B ρ σ μ1 S1 H1 _ E _ (env.ext x1) x1.ok h1 (hE.ext x1) fun v2 dd μ2 S2 H2 x2 r2 h2 => ?_
  obtain ⟨i, rfl, h2⟩ := h2
  have r1' := r1.ext x2
  have seq : (∃ xs dd, itemsC d = some xs ∧ atI xs i = some dd ∧ R dd μ2) → rIx F.K v v2 H2 Q := fun q => by
    obtain ⟨xs, d2, e1, e2, hR⟩ := q
    obtain ⟨k, p, vs, rfl, q1, _, q3⟩ := items_seqC x2.ok.sub r1' e1
    obtain ⟨w, e3, rw'⟩ := rdl_atI q3 e2
    have fin := hQ w d2 μ2 S2 H2 (x1.trans x2) rw' hR
    cases k with
    | l => exact .inl ⟨p, vs, i, w, rfl, r2, q1, e3, fin⟩
    | t => exact .inr (.inl ⟨p, vs, i, w, rfl, r2, q1, e3, fin⟩)
  cases d with
  | str z =>
    obtain ⟨hz, c, e1, hR⟩ := h2
    exact .inr (.inr ⟨z, i, c, r1', r2, hz, e1, hQ _ (.str ⟨#[c]⟩) μ2 S2 H2 (x1.trans x2) rfl hR⟩)
  | _ => exact seq h2

/-! ### slices -/
abbrev DTO0 (M : Type) := Rho → M → (Option Int → M → Prop) → (Xc → M → Prop) → Prop
abbrev DTO (Z : Wld) := DTO0 Z.M
def DO (Z : Wld) (F : Fm) (W : WX) (e : Option Expr) (t : DTO Z) : Prop := ∃ te : TO, (∀ i, PO (F.X i) e te) ∧ ∀ (B : Hp) (ρ : Rho) (σ : L2.St) (μ : Z.M) (S H : Hp) (R : Option Int → Z.M → Prop) (E : Xc → Z.M → Prop) (Q : Option Int → Hp → Prop),
  EnvR F.K Z B μ S H ρ σ → Ok Z μ S H → t ρ μ R E → Wish Z F W B μ S H σ E → (∀ (o : Option Int) (μ' : Z.M) (S' H' : Hp), Ext Z μ S H μ' S' H' → R o μ' → Q o H') → te σ H Q
def dNoPart {M : Type} : DTO0 M := fun _ μ R _ => R none μ
def dPart {M : Type} (t : DT0 M) : DTO0 M := fun ρ μ R E => t ρ μ (fun d μ' => ∃ i, d = .int i ∧ R (some i) μ') E
theorem do_none : DO Z F W none dNoPart := ⟨_, fun _ => po_none, fun B ρ σ μ S H R E Q env ok h hE hQ => hQ none μ S H (.refl ok) h⟩
theorem do_some (ha : DE Z F W a ta) : DO Z F W (some a) (dPart ta) := by
  obtain ⟨te, p, h⟩ := ha
  refine ⟨_, fun i => po_some (p i), fun B ρ σ μ S H R E Q env ok ht hE hQ => h B ρ σ μ S H _ E _ env ok ht hE fun v d μ' S' H' x r hd => ?_⟩
  obtain ⟨i, rfl, hd⟩ := hd
  exact ⟨i, r, hQ (some i) μ' S' H' x hd⟩
def smCut (d : D) (lo hi : Option Int) (R : D → Prop) : Prop := match d with
  | .tup xs => R (.tup (cutL xs lo hi))
  | .str z => z.length ≤ sizeLine ∧ R (.str (cutS z lo hi))
  | d => ∃ xs, itemsC d = some xs ∧ R (.lst (cutL xs lo hi))
def dCut {M : Type} (ta : DT0 M) (tl th : DTO0 M) : DT0 M := fun ρ μ R E => ta ρ μ (fun d μ1 => tl ρ μ1 (fun lo μ2 => th ρ μ2 (fun hi μ3 => smCut d lo hi fun y => R y μ3) E) E) E
/-- a new list cut out of one -/
def dCutF {M : Type} (ta : DT0 M) (tl th : DTO0 M) : DTA0 M := fun ρ μ R E => ta ρ μ (fun d μ1 => tl ρ μ1 (fun lo μ2 => th ρ μ2 (fun hi μ3 => (∀ ys, d ≠ .tup ys) ∧ ∃ xs, itemsC d = some xs ∧ R (cutL xs lo hi) μ3) E) E) E
theorem rdl_cut {rg : Addr → Prop} {S H : Hp} {ds : List D} {vs : List V} (r : RdL F.K rg S H ds vs) (lo hi : Option Int) : RdL F.K rg S H (cutL ds lo hi) (cutV vs lo hi) := by
  unfold cutL cutV
  rw [r.length]
  exact (r.drop _).take _
theorem items_list {rg : Addr → Prop} {S H : Hp} {d : D} {ds : List D} {v : V} (sub : Same S H) (r : Rd F.K rg S H d v) (e : itemsC d = some ds) (n : ∀ ys, d ≠ .tup ys) : ∃ a vs, v = .ref a ∧ SqL F.K H a vs ∧ RdL F.K rg S H ds vs := by
  cases d with
  | tup ys => exact absurd rfl (n ys)
  | lst xs => obtain ⟨a, vs, rfl, h1, h2⟩ := r; cases e; exact ⟨a, vs, rfl, SqL.of (sub _ _ h1), h2⟩
  | vw xs => obtain ⟨a, vs, rfl, h0, h1, h2⟩ := r; cases e; exact ⟨a, vs, rfl, SqL.of h1, h2⟩
  | scr ns => obtain ⟨a, rfl, h1⟩ := r; cases e; exact ⟨a, _, rfl, sub.seq h1, rdl_ints ns⟩
  | _ => cases e
theorem dx_cut {lo hi : Option Expr} {tl th : DTO Z} {p2 : Pos} (ha : DE Z F W a ta) (hl : DO Z F W lo tl) (hh : DO Z F W hi th) : DE Z F W (.Subscript a (.Slice lo hi none p2) pos) (dCut ta tl th) := by
  obtain ⟨ta', pa, ha⟩ := ha
  obtain ⟨tl', pl, hl⟩ := hl
  obtain ⟨th', ph, hh⟩ := hh
  refine ⟨tSl (fun x lo hi H Q => rSlT F.K x lo hi H Q ∨ rSlW F.K x lo hi H Q ∨ rSlL F.K x lo hi H Q ∨ rSlS x lo hi H Q) ta' tl' th', fun i => by rw [← F.hK i]; exact pe_slice (sl_tup.or (sl_whole.or (sl_list.or sl_str))) (pa i) (pl i) (ph i), fun B ρ σ μ S H R E Q env ok h hE hQ => ?_⟩
  refine ha B ρ σ μ S H _ E _ env ok h hE fun v d μ1 S1 H1 x1 r1 h1 => ?_
  refine hl B ρ σ μ1 S1 H1 _ E _ (env.ext x1) x1.ok h1 (hE.ext x1) fun o1 μ2 S2 H2 x2 h2 => ?_
  have x12 := x1.trans x2
  refine hh B ρ σ μ2 S2 H2 _ E _ (env.ext x12) x2.ok h2 (hE.ext x12) fun o2 μ3 S3 H3 x3 h3 => ?_
  have x13 := x12.trans x3
  have r3 := r1.ext (x2.trans x3)
  have ok3 := x3.ok
  have lists : (∃ xs, itemsC d = some xs ∧ R (.lst (cutL xs o1 o2)) μ3) → (∀ ys, d ≠ .tup ys) → rSlL F.K v o1 o2 H3 Q := fun q nt => by
    obtain ⟨xs, e1, hR⟩ := q
    obtain ⟨p, vs, rfl, q1, q3⟩ := items_list ok3.sub r3 e1 nt
    exact ⟨p, vs, rfl, q1, fun t ht => hQ _ (.lst (cutL xs o1 o2)) μ3 _ _ (x13.trans (ok3.put ht)) ⟨t, _, rfl, upd_same, (rdl_cut q3 o1 o2).new ok3 ht⟩ hR⟩
  cases d with
  | tup xs =>
    obtain ⟨p, vs, rfl, q1, q2⟩ := id r3
    have q1' := seqT_mono ok3.sub q1
    by_cases hw : HT.sIx vs.length 0 o1 = 0 ∧ HT.sIx vs.length vs.length o2 = vs.length
    · refine .inr (.inl ⟨p, vs, rfl, q1', hw, hQ _ (.tup (cutL xs o1 o2)) μ3 S3 H3 x13 ⟨p, vs, rfl, q1, ?_⟩ h3⟩)
      have e : cutV vs o1 o2 = vs := by
        unfold cutV
        rw [hw.1, hw.2, List.drop_zero, Nat.sub_zero, List.take_length]
      rw [← e]
      exact rdl_cut q2 o1 o2
    · exact .inl ⟨p, vs, rfl, q1', hw, fun t ht => hQ _ (.tup (cutL xs o1 o2)) μ3 _ _ (x13.trans (ok3.put ht)) ⟨t, _, rfl, SqT.of upd_same, (rdl_cut q2 o1 o2).new ok3 ht⟩ h3⟩
  | str z => exact .inr (.inr (.inr ⟨z, r3, h3.1, hQ _ (.str (cutS z o1 o2)) μ3 S3 H3 x13 rfl h3.2⟩))
  | _ => exact .inr (.inr (.inl (lists h3 fun ys q => nomatch q)))
/-- what a new list is to a def: not stable, not elsewhere -/
theorem new_own {B : Hp} {μ μ' : Z.M} {S H S' H' : Hp} {ρ : Rho} {σ : L2.St} (env : EnvR F.K Z B μ S H ρ σ) (x : Ext Z μ S H μ' S' H') {p : Addr} (hp : H' p = none) : Fr H p ∧ S' p = none ∧ ¬ fb Z B μ' p := by
  have h0 : Fr H p := x.there p (.inl hp)
  refine ⟨h0, ?_, fun r => r.elim (fun r => Z.held x.ok.j r hp) fun r => r (env.dom p h0)⟩
  cases q : S' p with
  | none => rfl
  | some o => rw [x.ok.sub p o q] at hp; cases hp
theorem RdL.newOwn {B : Hp} {μ : Z.M} {S H : Hp} {p : Addr} {o : HO} (n : H p = none) {ds : List D} {vs : List V} (r : RdL F.K (fb Z B μ) S H ds vs) : RdL F.K (fb Z B μ) S (upd H p o) ds vs :=
  r.mono (Same.refl S) fun a ws nf e => ⟨nf, by rw [upd_ne (ne_of_none e n)]; exact e⟩
theorem df_cut {lo hi : Option Expr} {tl th : DTO Z} {p2 : Pos} (ha : DE Z F W a ta) (hl : DO Z F W lo tl) (hh : DO Z F W hi th) : DF Z F W (.Subscript a (.Slice lo hi none p2) pos) (dCutF ta tl th) := by
  obtain ⟨ta', pa, ha⟩ := ha
  obtain ⟨tl', pl, hl⟩ := hl
  obtain ⟨th', ph, hh⟩ := hh
  refine ⟨tSl (rSlL F.K) ta' tl' th', fun i => by rw [← F.hK i]; exact pe_slice sl_list (pa i) (pl i) (ph i), fun B ρ σ μ S H R E Q env ok h hE hQ => ?_⟩
  refine ha B ρ σ μ S H _ E _ env ok h hE fun v d μ1 S1 H1 x1 r1 h1 => ?_
  refine hl B ρ σ μ1 S1 H1 _ E _ (env.ext x1) x1.ok h1 (hE.ext x1) fun o1 μ2 S2 H2 x2 h2 => ?_
  have x12 := x1.trans x2
  refine hh B ρ σ μ2 S2 H2 _ E _ (env.ext x12) x2.ok h2 (hE.ext x12) fun o2 μ3 S3 H3 x3 h3 => ?_
  have x13 := x12.trans x3
  obtain ⟨nt, xs, e1, hR⟩ := h3
  obtain ⟨p, vs, rfl, q1, q3⟩ := items_list x3.ok.sub (r1.ext (x2.trans x3)) e1 nt
  refine ⟨p, vs, rfl, q1, fun t ht => ?_⟩
  obtain ⟨n0, n1, n2⟩ := new_own env x13 ht
  exact hQ t _ (cutL xs o1 o2) μ3 S3 _ (x13.trans (x3.ok.putOwn ht)) n0 upd_same n1 n2 ((rdl_cut q3 o1 o2).newOwn ht) hR
/-- x + y, x * k, two lists: a new one -/
def smAddF (a b : D) (R : List D → Prop) : Prop := ∃ xs ys, lstOf a = some xs ∧ lstOf b = some ys ∧ xs.length + ys.length ≤ sizeLine ∧ R (xs ++ ys)
def dAddF {M : Type} (ta tb : DT0 M) : DTA0 M := fun ρ μ R E => ta ρ μ (fun a μ1 => tb ρ μ1 (fun b μ2 => smAddF a b fun ds => R ds μ2) E) E
theorem df_add (ha : DE Z F W a ta) (hb : DE Z F W b tb) : DF Z F W (.BinOp a .Add b pos) (dAddF ta tb) := by
  obtain ⟨ta', pa, ha⟩ := ha
  obtain ⟨tb', pb, hb⟩ := hb
  refine ⟨_, fun i => pe_op op_cat (pa i) (pb i), fun B ρ σ μ S H R E Q env ok h hE hQ => ?_⟩
  refine ha B ρ σ μ S H _ E _ env ok h hE fun v d μ1 S1 H1 x1 r1 h1 => ?_
  refine hb B ρ σ μ1 S1 H1 _ E _ (env.ext x1) x1.ok h1 (hE.ext x1) fun v2 dd μ2 S2 H2 x2 r2 h2 => ?_
  have x12 := x1.trans x2
  obtain ⟨xs, ys, e1, e2, hz, hR⟩ := h2
  obtain ⟨p, vs, rfl, q1, q2⟩ := lstOf_at x2.ok.sub (r1.ext x2) e1
  obtain ⟨p', ws, rfl, q1', q2'⟩ := lstOf_at x2.ok.sub r2 e2
  refine ⟨p, p', vs, ws, rfl, rfl, q1, q1', by rw [q2.length, q2'.length]; exact hz, fun t ht => ?_⟩
  obtain ⟨n0, n1, n2⟩ := new_own env x12 ht
  exact hQ t _ (xs ++ ys) μ2 S2 _ (x12.trans (x2.ok.putOwn ht)) n0 upd_same n1 n2 ((q2.append q2').newOwn ht) hR
end

/-! ### built-in functions -/
def lenD : D → Option Nat
  | .tup xs => some xs.length
  | .lst xs => some xs.length
  | .vw xs => some xs.length
  | .scr ns => some ns.length
  | .str z => if z.length ≤ sizeLine then some z.length else none
  | _ => none
def smLen : SmL := fun as R => ∃ d n, as = [d] ∧ lenD d = some n ∧ R (.int n)
def smAbs : SmL := fun as R => ∃ i, as = [.int i] ∧ R (.int (if i < 0 then -i else i))
def smMax2 : SmL := fun as R => ∃ i j, as = [.int i, .int j] ∧ R (.int (max i j))
def smMin2 : SmL := fun as R => ∃ i j, as = [.int i, .int j] ∧ R (.int (min i j))
def smInt : SmL := fun as R => match as with
  | [.int i] => R (.int i)
  | [.bl b] => R (.int (if b then 1 else 0))
  | _ => False
def smBool : SmL := fun as R => match as with
  | [.int i] => R (.bl (i != 0))
  | [.bl b] => R (.bl b)
  | _ => False
def smTuple : SmL := fun as R => match as with
  | [.tup xs] => R (.tup xs)
  | [d] => ∃ xs, itemsC d = some xs ∧ R (.tup xs)
  | _ => False
def smList : SmL := fun as R => ∃ d xs, as = [d] ∧ itemsC d = some xs ∧ R (.lst xs)
def intsD : List D → Option (List Int)
  | [] => some []
  | .int i :: ds => (intsD ds).map (i :: ·)
  | _ :: _ => none
def blsD : List D → Option (List Bool)
  | [] => some []
  | .bl b :: ds => (blsD ds).map (b :: ·)
  | _ :: _ => none
def smSum : SmL := fun as R => ∃ d xs ns, as = [d] ∧ lstOf d = some xs ∧ intsD xs = some ns ∧ R (.int ns.sum)
def smAny : SmL := fun as R => ∃ d xs bs, as = [d] ∧ lstOf d = some xs ∧ blsD xs = some bs ∧ R (.bl (bs.any id))
def smAll : SmL := fun as R => ∃ d xs bs, as = [d] ∧ lstOf d = some xs ∧ blsD xs = some bs ∧ R (.bl (bs.all id))
def smMaxL : SmL := fun as R => ∃ d xs ns, as = [d] ∧ lstOf d = some xs ∧ intsD xs = some ns ∧ 0 < ns.length ∧ ∀ m, m ∈ ns → (∀ y, y ∈ ns → y ≤ m) → R (.int m)
def smMinL : SmL := fun as R => ∃ d xs ns, as = [d] ∧ lstOf d = some xs ∧ intsD xs = some ns ∧ 0 < ns.length ∧ ∀ m, m ∈ ns → (∀ y, y ∈ ns → m ≤ y) → R (.int m)
def tyD : D → Option String
  | .non => some "NoneType" | .bl _ => some "bool" | .int _ => some "int" | .str _ => some "str"
  | .tup _ => some "tuple" | .lst _ => some "list" | .vw _ => some "list" | .scr _ => some "list" | .dct _ => some "dict"
  | .op _ => none
  | .fn _ => none
def isTy (T C : String) : Bool := T == C || (T == "bool" && C == "int")
def smIsi : SmL := fun as R => ∃ d C T, as = [d, .op (.ty C)] ∧ C ∈ ["int", "bool", "str", "tuple", "list", "dict"] ∧ tyD d = some T ∧ R (.bl (isTy T C))
def smRepr : SmL := fun as R => ∃ d, as = [d] ∧ okD d = true ∧ (pyD d).showable = true ∧ (pyD d).depth ≤ 64 ∧ (pyD d).shown.length ≤ sizeLine ∧ R (.str (pyD d).shown)
section
variable {Z : Wld} {F : Fm} {W : WX}
theorem cd_len : CallD Z F (.builtin "len") smLen := by
  refine ⟨fun xs H Q => ∃ x n, xs = [x] ∧ LenV F.K x H n ∧ Q (.int n) H, fun i => by rw [← F.hK i]; exact call_len, fun rg μ S H as xs R Q ok r hs k => ?_⟩
  obtain ⟨d, n, rfl, e, hR⟩ := hs
  obtain ⟨v, _, rfl, r1, rfl⟩ := r
  refine ⟨v, n, rfl, ?_, k _ (.int n) S H (.refl ok) rfl hR⟩
  cases d with
  | str z =>
    cases r1
    simp only [lenD] at e
    split at e
    · rename_i hz; cases e; exact ⟨hz, rfl⟩
    · cases e
  | tup xs => obtain ⟨a, vs, rfl, h1, h2⟩ := r1; cases e; exact .inr ⟨vs, seqT_mono ok.sub h1, h2.length.symm⟩
  | lst xs => obtain ⟨a, vs, rfl, h1, h2⟩ := r1; cases e; exact .inl ⟨vs, SqL.of (ok.sub _ _ h1), h2.length.symm⟩
  | vw xs => obtain ⟨a, vs, rfl, h0, h1, h2⟩ := r1; cases e; exact .inl ⟨vs, SqL.of h1, h2.length.symm⟩
  | scr ns => obtain ⟨a, rfl, h1⟩ := r1; cases e; exact .inl ⟨_, ok.sub.seq h1, by rw [List.length_map]⟩
  | _ => cases e
theorem cd_abs : CallD Z F (.builtin "abs") smAbs := by
  refine ⟨_, fun _ => call_abs, fun rg μ S H as xs R Q ok r hs k => ?_⟩
  obtain ⟨i, rfl, hR⟩ := hs
  obtain ⟨v, _, rfl, r1, rfl⟩ := r
  cases r1
  exact ⟨i, rfl, k _ (.int _) S H (.refl ok) rfl hR⟩
theorem cd_max2 (hc : ∀ i, (F.X i).calm = true) : CallD Z F (.builtin "max") smMax2 := by
  refine ⟨_, fun i => call_max2 (hc i), fun rg μ S H as xs R Q ok r hs k => ?_⟩
  obtain ⟨i, j, rfl, hR⟩ := hs
  obtain ⟨v, _, rfl, r1, v2, _, rfl, r2, rfl⟩ := r
  cases r1
  cases r2
  refine ⟨i, j, rfl, k _ (.int (max i j)) S H (.refl ok) ?_ hR⟩
  show V.int _ = V.int _
  congr 1
  omega
theorem cd_min2 (hc : ∀ i, (F.X i).calm = true) : CallD Z F (.builtin "min") smMin2 := by
  refine ⟨_, fun i => call_min2 (hc i), fun rg μ S H as xs R Q ok r hs k => ?_⟩
  obtain ⟨i, j, rfl, hR⟩ := hs
  obtain ⟨v, _, rfl, r1, v2, _, rfl, r2, rfl⟩ := r
  cases r1
  cases r2
  refine ⟨i, j, rfl, k _ (.int (min i j)) S H (.refl ok) ?_ hR⟩
  show V.int _ = V.int _
  congr 1
  omega
theorem cd_int : CallD Z F (.type "int") smInt := by
  refine ⟨_, fun _ => call_int1, fun rg μ S H as xs R Q ok r hs k => ?_⟩
  match as, hs with
  | [.int i], hs =>
    obtain ⟨v, _, rfl, r1, rfl⟩ := r
    cases r1
    exact .inl ⟨i, rfl, k _ (.int i) S H (.refl ok) rfl hs⟩
  | [.bl b], hs =>
    obtain ⟨v, _, rfl, r1, rfl⟩ := r
    cases r1
    exact .inr ⟨b, rfl, k _ (.int (if b then 1 else 0)) S H (.refl ok) rfl hs⟩
theorem cd_bool : CallD Z F (.type "bool") smBool := by
  refine ⟨_, fun _ => call_bool1, fun rg μ S H as xs R Q ok r hs k => ?_⟩
  match as, hs with
  | [.int i], hs =>
    obtain ⟨v, _, rfl, r1, rfl⟩ := r
    cases r1
    exact .inl ⟨i, rfl, k _ (.bl (i != 0)) S H (.refl ok) rfl hs⟩
  | [.bl b], hs =>
    obtain ⟨v, _, rfl, r1, rfl⟩ := r
    cases r1
    exact .inr ⟨b, rfl, k _ (.bl b) S H (.refl ok) rfl hs⟩
theorem cd_tuple : CallD Z F (.type "tuple") smTuple := by
  refine ⟨fun xs H Q => ∃ p ys, xs = [.ref p] ∧ ((SqL F.K H p ys ∧ ∀ l, H l = none → Q (.ref l) (upd H l (.tup ys))) ∨ (SqT F.K H p ys ∧ Q (.ref p) H)), fun i => by rw [← F.hK i]; exact call_tuple_of, fun rg μ S H as xs R Q ok r hs k => ?_⟩
  have lists : ∀ {d : D} {v : V}, Rd F.K rg S H d v → (∃ xs, itemsC d = some xs ∧ R (.tup xs)) → (∀ ys, d ≠ .tup ys) → ∃ p ys, [v] = [V.ref p] ∧ ((SqL F.K H p ys ∧ ∀ l, H l = none → Q (.ref l) (upd H l (.tup ys))) ∨ (SqT F.K H p ys ∧ Q (.ref p) H)) := fun {d v} r1 q nt => by
    obtain ⟨ds, e1, hR⟩ := q
    obtain ⟨p, vs, rfl, q1, q3⟩ := items_list ok.sub r1 e1 nt
    exact ⟨p, vs, rfl, .inl ⟨q1, fun t ht => k _ (.tup ds) _ _ (ok.put ht) ⟨t, vs, rfl, SqT.of upd_same, q3.new ok ht⟩ hR⟩⟩
  match as, hs with
  | [.tup ys], hs =>
    obtain ⟨v, _, rfl, r1, rfl⟩ := r
    obtain ⟨a, vs, rfl, h1, h2⟩ := id r1
    exact ⟨a, vs, rfl, .inr ⟨seqT_mono ok.sub h1, k _ (.tup ys) S H (.refl ok) r1 hs⟩⟩
  | [.lst ys], hs => obtain ⟨v, _, rfl, r1, rfl⟩ := r; exact lists r1 hs (fun _ q => nomatch q)
  | [.vw ys], hs => obtain ⟨v, _, rfl, r1, rfl⟩ := r; exact lists r1 hs (fun _ q => nomatch q)
  | [.scr ys], hs => obtain ⟨v, _, rfl, r1, rfl⟩ := r; exact lists r1 hs (fun _ q => nomatch q)
  | [.non], hs => obtain ⟨_, e, _⟩ := hs; cases e
  | [.bl _], hs => obtain ⟨_, e, _⟩ := hs; cases e
  | [.int _], hs => obtain ⟨_, e, _⟩ := hs; cases e
  | [.str _], hs => obtain ⟨_, e, _⟩ := hs; cases e
  | [.dct _], hs => obtain ⟨_, e, _⟩ := hs; cases e
  | [.op _], hs => obtain ⟨_, e, _⟩ := hs; cases e
  | [.fn _], hs => obtain ⟨_, e, _⟩ := hs; cases e
theorem cd_list : CallD Z F (.type "list") smList := by
  refine ⟨fun xs H Q => ∃ p ys, xs = [.ref p] ∧ (SqL F.K H p ys ∨ SqT F.K H p ys) ∧ ∀ l, H l = none → Q (.ref l) (upd H l (.lst ys)), fun i => by rw [← F.hK i]; exact call_list_of, fun rg μ S H as xs R Q ok r hs k => ?_⟩
  obtain ⟨d, ds, rfl, e, hR⟩ := hs
  obtain ⟨v, _, rfl, r1, rfl⟩ := r
  obtain ⟨p, vs, rfl, q1, q2⟩ := items_inH ok.sub r1 e
  exact ⟨p, vs, rfl, q1, fun t ht => k _ (.lst ds) _ _ (ok.put ht) ⟨t, vs, rfl, upd_same, q2.new ok ht⟩ hR⟩
theorem intsD_rd {rg : Addr → Prop} {S H : Hp} : ∀ {ds : List D} {vs : List V} {ns : List Int}, RdL F.K rg S H ds vs → intsD ds = some ns → vs = ns.map V.int
  | [], _, _, h, e => by cases h; cases e; rfl
  | .int i :: ds, _, _, h, e => by
    obtain ⟨v, w, rfl, h1, h2⟩ := h
    simp only [intsD] at e
    cases q : intsD ds with
    | none => rw [q] at e; cases e
    | some ms =>
      rw [q] at e
      cases e
      cases h1
      rw [intsD_rd h2 q]
      rfl
  | .non :: _, _, _, _, e => by cases e
  | .bl _ :: _, _, _, _, e => by cases e
  | .str _ :: _, _, _, _, e => by cases e
  | .tup _ :: _, _, _, _, e => by cases e
  | .lst _ :: _, _, _, _, e => by cases e
  | .vw _ :: _, _, _, _, e => by cases e
  | .scr _ :: _, _, _, _, e => by cases e
  | .dct _ :: _, _, _, _, e => by cases e
  | .op _ :: _, _, _, _, e => by cases e
  | .fn _ :: _, _, _, _, e => by cases e
theorem blsD_rd {rg : Addr → Prop} {S H : Hp} : ∀ {ds : List D} {vs : List V} {ns : List Bool}, RdL F.K rg S H ds vs → blsD ds = some ns → vs = ns.map V.bl
  | [], _, _, h, e => by cases h; cases e; rfl
  | .bl i :: ds, _, _, h, e => by
    obtain ⟨v, w, rfl, h1, h2⟩ := h
    simp only [blsD] at e
    cases q : blsD ds with
    | none => rw [q] at e; cases e
    | some ms =>
      rw [q] at e
      cases e
      cases h1
      rw [blsD_rd h2 q]
      rfl
  | .non :: _, _, _, _, e => by cases e
  | .int _ :: _, _, _, _, e => by cases e
  | .str _ :: _, _, _, _, e => by cases e
  | .tup _ :: _, _, _, _, e => by cases e
  | .lst _ :: _, _, _, _, e => by cases e
  | .vw _ :: _, _, _, _, e => by cases e
  | .scr _ :: _, _, _, _, e => by cases e
  | .dct _ :: _, _, _, _, e => by cases e
  | .op _ :: _, _, _, _, e => by cases e
  | .fn _ :: _, _, _, _, e => by cases e
theorem cd_sum (hc : ∀ i, (F.X i).calm = true) : CallD Z F (.builtin "sum") smSum := by
  refine ⟨rSum F.K, fun i => by rw [← F.hK i]; exact cr_sum (hc i), fun rg μ S H as xs R Q ok r hs k => ?_⟩
  obtain ⟨d, ds, ns, rfl, e, en, hR⟩ := hs
  obtain ⟨v, _, rfl, r1, rfl⟩ := r
  obtain ⟨p, vs, rfl, q1, q2⟩ := lstOf_at ok.sub r1 e
  rw [intsD_rd q2 en] at q1
  exact ⟨p, ns, rfl, SqL.of q1, k _ (.int ns.sum) S H (.refl ok) rfl hR⟩
theorem cd_maxL (hc : ∀ i, (F.X i).calm = true) : CallD Z F (.builtin "max") smMaxL := by
  refine ⟨rMax F.K, fun i => by rw [← F.hK i]; exact cr_max (hc i), fun rg μ S H as xs R Q ok r hs k => ?_⟩
  obtain ⟨d, ds, ns, rfl, e, en, hl, hR⟩ := hs
  obtain ⟨v, _, rfl, r1, rfl⟩ := r
  obtain ⟨p, vs, rfl, q1, q2⟩ := lstOf_at ok.sub r1 e
  rw [intsD_rd q2 en] at q1
  exact ⟨p, ns, rfl, SqL.of q1, hl, fun m h1 h2 => k _ (.int m) S H (.refl ok) rfl (hR m h1 h2)⟩
theorem cd_minL (hc : ∀ i, (F.X i).calm = true) : CallD Z F (.builtin "min") smMinL := by
  refine ⟨rMin F.K, fun i => by rw [← F.hK i]; exact cr_min (hc i), fun rg μ S H as xs R Q ok r hs k => ?_⟩
  obtain ⟨d, ds, ns, rfl, e, en, hl, hR⟩ := hs
  obtain ⟨v, _, rfl, r1, rfl⟩ := r
  obtain ⟨p, vs, rfl, q1, q2⟩ := lstOf_at ok.sub r1 e
  rw [intsD_rd q2 en] at q1
  exact ⟨p, ns, rfl, SqL.of q1, hl, fun m h1 h2 => k _ (.int m) S H (.refl ok) rfl (hR m h1 h2)⟩
theorem cd_any (hc : ∀ i, (F.X i).calm = true) : CallD Z F (.builtin "any") smAny := by
  refine ⟨rAny F.K, fun i => by rw [← F.hK i]; exact cr_any (hc i), fun rg μ S H as xs R Q ok r hs k => ?_⟩
  obtain ⟨d, ds, ns, rfl, e, en, hR⟩ := hs
  obtain ⟨v, _, rfl, r1, rfl⟩ := r
  obtain ⟨p, vs, rfl, q1, q2⟩ := lstOf_at ok.sub r1 e
  rw [blsD_rd q2 en] at q1
  exact ⟨p, ns, rfl, SqL.of q1, k _ (.bl _) S H (.refl ok) rfl hR⟩
theorem cd_all (hc : ∀ i, (F.X i).calm = true) : CallD Z F (.builtin "all") smAll := by
  refine ⟨rAll F.K, fun i => by rw [← F.hK i]; exact cr_all (hc i), fun rg μ S H as xs R Q ok r hs k => ?_⟩
  obtain ⟨d, ds, ns, rfl, e, en, hR⟩ := hs
  obtain ⟨v, _, rfl, r1, rfl⟩ := r
  obtain ⟨p, vs, rfl, q1, q2⟩ := lstOf_at ok.sub r1 e
  rw [blsD_rd q2 en] at q1
  exact ⟨p, ns, rfl, SqL.of q1, k _ (.bl _) S H (.refl ok) rfl hR⟩
theorem kit_all : ∀ T ∈ ["NoneType", "bool", "int", "str", "tuple", "list", "dict"], ∀ C ∈ ["int", "bool", "str", "tuple", "list", "dict"], kitB T C = some (isTy T C) := by decide +kernel
theorem ty_of {rg : Addr → Prop} {S H : Hp} {d : D} {v : V} {T : String} (sub : Same S H) (r : Rd F.K rg S H d v) (e : tyD d = some T) : TyX F.K H v (.type T) ∧ T ∈ ["NoneType", "bool", "int", "str", "tuple", "list", "dict"] := by
  have lists : ∀ {a : Addr} {vs : List V}, SqL F.K H a vs → TyX F.K H (.ref a) (.type "list") := fun {a vs} h => by
    rcases h with (h | ⟨o, h⟩) | ⟨o, its, n, h1, h2, _⟩
    · exact .base (.lst h)
    · exact .base (.frz h)
    · exact .kList h1 h2
  cases d with
  | non => cases r; cases e; exact ⟨.base .non, by simp⟩
  | bl b => cases r; cases e; exact ⟨.base (.bl b), by simp⟩
  | int i => cases r; cases e; exact ⟨.base (.int i), by simp⟩
  | str s => cases r; cases e; exact ⟨.base (.str s), by simp⟩
  | tup xs =>
    obtain ⟨a, vs, rfl, h1, _⟩ := r
    cases e
    refine ⟨?_, by simp⟩
    rcases seqT_mono sub h1 with (h | ⟨o, h⟩) | ⟨o, its, n, h1, h2, _⟩
    · exact .base (.tup h)
    · exact .fTuple h
    · exact .kTuple h1 h2
  | lst xs => obtain ⟨a, vs, rfl, h1, _⟩ := r; cases e; exact ⟨lists (SqL.of (sub _ _ h1)), by simp⟩
  | vw xs => obtain ⟨a, vs, rfl, h0, h1, _⟩ := r; cases e; exact ⟨lists (SqL.of h1), by simp⟩
  | scr ns => obtain ⟨a, rfl, h1⟩ := r; cases e; exact ⟨lists (sub.seq h1), by simp⟩
  | dct kvs => obtain ⟨a, ws, rfl, h1, _⟩ := r; cases e; exact ⟨.base (.dK (sub _ _ h1)), by simp⟩
  | op _ => cases e
  | fn _ => cases e
theorem cd_isi : CallD Z F (.builtin "isinstance") smIsi := by
  refine ⟨rIsi F.K, fun i => by rw [← F.hK i]; exact call_isi, fun rg μ S H as xs R Q ok r hs k => ?_⟩
  obtain ⟨d, C, T, rfl, hC, e, hR⟩ := hs
  obtain ⟨v, _, rfl, r1, v2, _, rfl, r2, rfl⟩ := r
  cases r2
  obtain ⟨t1, t2⟩ := ty_of ok.sub r1 e
  exact ⟨v, .ty C, .type T, .type C, isTy T C, rfl, .ty C, t1, kit_ty (kit_all T t2 C hC), k _ (.bl _) S H (.refl ok) rfl hR⟩
end
end DL
/-! text DLh -/
/-! DL, eighth part: repr of data. -/
namespace DL
open PySem PySem.Spec PyProof.Rows L2
mutual
def shD : D → Bool
  | .non => true | .bl _ => true | .int _ => true | .str _ => true | .scr _ => false
  | .tup xs => shL xs
  | .lst xs => shL xs
  | .vw xs => shL xs
  | .dct kvs => shK kvs
  | .op _ => false
  | .fn _ => false
def shL : List D → Bool
  | [] => true
  | d :: ds => shD d && shL ds
def shK : List (Key × D) → Bool
  | [] => true
  | (_, d) :: ds => shD d && shK ds
end
section
variable {X : Cx} {pins : List (Addr × Obj)} {σ : L2.St} {S H : Hp} {s : Shared} {rg : Addr → Prop}
theorem not_mods (I : Inv X pins σ H s) (sm : ∃ mm, X.base.Ns sysModules mm) {a : Addr} {o : Obj} {vs : Array Value} {n : Nat} (ho : s.heap.get? a = some o) (hd : o.data = .seq vs n) (e : a = sysModules) : False := by
  obtain ⟨mm, od, es, ep, h1, h2, _⟩ := sm
  subst e
  rw [I.bk _ _ h1] at ho
  cases ho
  rw [h2] at hd
  cases hd
mutual
theorem rd_reads (I : Inv X pins σ H s) (sub : Same S H) (sm : ∃ mm, X.base.Ns sysModules mm) : ∀ (d : D) (v : V) (u : Value), shD d = true → Rd X.K rg S H d v → RelV v u → ∃ as, Reads s.heap u (pyD d) as ∧ sysModules ∉ as
  | .non, _, _, _, h, r => by cases h; cases r; exact ⟨_, Reads.none, by simp⟩
  | .bl b, _, _, _, h, r => by cases h; cases r; exact ⟨_, Reads.bool b, by simp⟩
  | .int i, _, _, _, h, r => by cases h; obtain ⟨t, rfl⟩ := r; exact ⟨_, Reads.int i t, by simp⟩
  | .str z, _, _, _, h, r => by cases h; obtain ⟨t, rfl⟩ := r; exact ⟨_, Reads.str z t, by simp⟩
  | .scr _, _, _, t, _, _ => by cases t
  | .op _, _, _, t, _, _ => by cases t
  | .fn _, _, _, t, _, _ => by cases t
  | .tup xs, _, _, t, h, r => by
    obtain ⟨a, vs, rfl, h1, h2⟩ := h
    cases r
    simp only [shD] at t
    obtain ⟨its, rv, ⟨o, ho, hc, n, hd⟩, _⟩ := I.tuple (seqT_mono sub h1)
    obtain ⟨as, q, nn⟩ := rdl_reads I sub sm xs vs its t h2 rv
    exact ⟨_, Reads.tuple ho hc hd q, nn⟩
  | .lst xs, _, _, t, h, r => by
    obtain ⟨a, vs, rfl, h1, h2⟩ := h
    cases r
    simp only [shD] at t
    obtain ⟨its, rv, ⟨o, n, ho, hc, _, hd⟩, _⟩ := I.list (SqL.of (sub _ _ h1))
    obtain ⟨as, q, nn⟩ := rdl_reads I sub sm xs vs its t h2 rv
    refine ⟨_, Reads.list ho hc hd q, fun hm => ?_⟩
    rcases List.mem_cons.mp hm with e | e
    · exact not_mods I sm ho hd e.symm
    · exact nn e
  | .vw xs, _, _, t, h, r => by
    obtain ⟨a, vs, rfl, _, h1, h2⟩ := h
    cases r
    simp only [shD] at t
    obtain ⟨its, rv, ⟨o, n, ho, hc, _, hd⟩, _⟩ := I.list (SqL.of h1)
    obtain ⟨as, q, nn⟩ := rdl_reads I sub sm xs vs its t h2 rv
    refine ⟨_, Reads.list ho hc hd q, fun hm => ?_⟩
    rcases List.mem_cons.mp hm with e | e
    · exact not_mods I sm ho hd e.symm
    · exact nn e
  | .dct kvs, _, _, t, h, r => by
    obtain ⟨a, ws, rfl, h1, h2⟩ := h
    cases r
    simp only [shD] at t
    obtain ⟨_, hs, vs, hk, o, es, ep, ho, hc, hd, _, hp, _⟩ := dk_of I.hok (sub _ _ h1)
    obtain ⟨as, bs, q1, q2, n1, n2⟩ := rdk_reads I sub sm kvs ws vs es.toList t h2 hk hp
    refine ⟨_, Reads.dict ho hc.1 hd q1 q2, fun hm => ?_⟩
    rw [List.mem_append, List.mem_cons] at hm
    rcases hm with (e | e) | e
    · rw [← e] at hs; cases hs
    · exact n1 e
    · exact n2 e
theorem rdl_reads (I : Inv X pins σ H s) (sub : Same S H) (sm : ∃ mm, X.base.Ns sysModules mm) : ∀ (ds : List D) (vs : List V) (us : List Value), shL ds = true → RdL X.K rg S H ds vs → Vals vs us → ∃ as, ReadsAll s.heap us (pyL ds) as ∧ sysModules ∉ as
  | [], _, _, _, h, r => by cases h; cases r; exact ⟨_, ReadsAll.nil, by simp⟩
  | d :: ds, _, _, t, h, r => by
    obtain ⟨v, vs, rfl, h1, h2⟩ := h
    simp only [shL, Bool.and_eq_true] at t
    cases r with
    | cons r1 r2 =>
      obtain ⟨as, q1, n1⟩ := rd_reads I sub sm d v _ t.1 h1 r1
      obtain ⟨bs, q2, n2⟩ := rdl_reads I sub sm ds vs _ t.2 h2 r2
      exact ⟨_, ReadsAll.cons q1 q2, fun hm => (List.mem_append.mp hm).elim n1 n2⟩
theorem rdk_reads (I : Inv X pins σ H s) (sub : Same S H) (sm : ∃ mm, X.base.Ns sysModules mm) : ∀ (ds : List (Key × D)) (ws : List (Key × V)) (vs : List (Key × Value)) (es : List DictEntry), shK ds = true → RdK X.K rg S H ds ws → KV ws vs → PySem.Pairs (mixKind X.prog X.w) es vs →
    ∃ as bs, ReadsAll s.heap (es.map (·.key)) ((pyK ds).map (·.1)) as ∧ ReadsAll s.heap (es.map (·.val)) ((pyK ds).map (·.2)) bs ∧ sysModules ∉ as ∧ sysModules ∉ bs
  | [], _, _, _, _, h, r, p => by cases h; cases r; cases p; exact ⟨_, _, ReadsAll.nil, ReadsAll.nil, by simp, by simp⟩
  | (k, d) :: ds, _, _, _, t, h, r, p => by
    obtain ⟨v, ws, rfl, h1, h2⟩ := h
    simp only [shK, Bool.and_eq_true] at t
    cases r with
    | cons r1 r2 =>
      cases p with
      | cons p1 p2 p3 =>
        rename_i es kv e _
        obtain ⟨as, bs, q1, q2, n1, n2⟩ := rdk_reads I sub sm ds ws _ _ t.2 h2 r2 p3
        obtain ⟨cs, q3, n3⟩ := rd_reads I sub sm d v _ t.1 h1 r1.2
        rw [← p2] at q3
        have hk := r1.1
        simp only at hk
        rw [← hk] at p1
        have hk' : keyIs k e.key = true := p1
        rcases keyIs_shape hk' with ⟨i, u, e1, e2⟩ | ⟨z, u, e1, e2⟩
        · subst e1
          refine ⟨[] ++ as, cs ++ bs, ?_, ?_, by simpa using n1, fun hm => (List.mem_append.mp hm).elim n3 n2⟩
          · simp only [pyK, List.map_cons, e2]
            exact ReadsAll.cons (.int i u) q1
          · simp only [pyK, List.map_cons]
            exact ReadsAll.cons q3 q2
        · subst e1
          refine ⟨[] ++ as, cs ++ bs, ?_, ?_, by simpa using n1, fun hm => (List.mem_append.mp hm).elim n3 n2⟩
          · simp only [pyK, List.map_cons, e2]
            exact ReadsAll.cons (.str z u) q1
          · simp only [pyK, List.map_cons]
            exact ReadsAll.cons q3 q2
end
def rRepr (X : Cx) : List V → Hp → VK → Prop := fun xs H Q => ∃ x d, xs = [x] ∧ (∀ (pins : List (Addr × Obj)) (σ : L2.St) (s : Shared) (u : Value), Inv X pins σ H s → RelV x u → ∃ as, Reads s.heap u d as ∧ sysModules ∉ as) ∧ d.showable = true ∧ d.depth ≤ 64 ∧ d.shown.length ≤ sizeLine ∧ Q (.str d.shown) H
theorem cr_repr (hg : X.A.guards = some []) (hu : X.A.units + 65 < cLine) : CallR X (.builtin "repr") (rRepr X) := by
  intro pins s σ H xs us Q I r h
  obtain ⟨x, d, rfl, hr, hs, hd, hz, q⟩ := h
  obtain ⟨u, rfl, rx⟩ := vals1 r
  obtain ⟨as, q1, nn⟩ := hr pins σ s u I rx
  cases q1 with
  | none => exact PySem.P.repr_of_none ⟨.str _, H, I.tok _, ⟨_, rfl⟩, q⟩
  | bool b => exact PySem.P.repr_of_bool ⟨.str _, H, I.tok _, ⟨_, rfl⟩, q⟩
  | int i t => exact PySem.P.repr_of_int (by simpa [PyData.showable] using hs) ⟨.str _, H, I.tok _, ⟨_, rfl⟩, q⟩
  | str z t => exact PySem.P.repr_of_str (by exact ⟨.str _, H, I.tok _, ⟨_, rfl⟩, q⟩) hz
  | list h1 h2 h3 h4 =>
    exact repr_of_reads' (.list h1 h2 h3 h4) hs (fun _ => nn) hg (by omega) (fun _ _ e => e) (fun h' t tk k => ⟨.str _, H, I.kept k, ⟨_, rfl⟩, q⟩) hz
  | tuple h1 h2 h3 h4 =>
    exact repr_of_reads' (.tuple h1 h2 h3 h4) hs (fun _ => nn) hg (by omega) (fun _ _ e => e) (fun h' t tk k => ⟨.str _, H, I.kept k, ⟨_, rfl⟩, q⟩) hz
  | dict h1 h2 h3 h4 h5 =>
    exact repr_of_reads' (.dict h1 h2 h3 h4 h5) hs (fun _ => nn) hg (by omega) (fun _ _ e => e) (fun h' t tk k => ⟨.str _, H, I.kept k, ⟨_, rfl⟩, q⟩) hz
end
/-- repr's spec -/
def smShow : SmL := fun as R => ∃ d, as = [d] ∧ shD d = true ∧ (pyD d).showable = true ∧ (pyD d).depth ≤ 64 ∧ (pyD d).shown.length ≤ sizeLine ∧ R (.str (pyD d).shown)
section
variable {Z : Wld} {F : Fm} {W : WX}
theorem cd_repr (sb : ∀ i, ∃ mm, (F.X i).base.Ns sysModules mm) (hg : ∀ i, (F.X i).A.guards = some []) (hu : ∀ i, (F.X i).A.units + 65 < cLine) : CallD Z F (.builtin "repr") smShow := by
  refine ⟨fun xs H Q => ∃ x d, xs = [x] ∧ (∀ (i : F.ι) (pins : List (Addr × Obj)) (σ : L2.St) (s : Shared) (u : Value), Inv (F.X i) pins σ H s → RelV x u → ∃ as, Reads s.heap u d as ∧ sysModules ∉ as) ∧ d.showable = true ∧ d.depth ≤ 64 ∧ d.shown.length ≤ sizeLine ∧ Q (.str d.shown) H,
    fun i pins s σ H xs us Q I r h => ?_, fun rg μ S H as xs R Q ok r hs k => ?_⟩
  · obtain ⟨x, d, e, hr, q⟩ := h
    exact cr_repr (hg i) (hu i) pins s σ H xs us Q I r ⟨x, d, e, hr i, q⟩
  · obtain ⟨d, rfl, h1, h2, h3, h4, hR⟩ := hs
    obtain ⟨v, _, rfl, r1, rfl⟩ := r
    refine ⟨v, pyD d, rfl, fun i pins σ s u I ru => rd_reads I ok.sub (sb i) d v u h1 (by rw [F.hK i]; exact r1) ru, h2, h3, h4, k _ (.str _) S H (.refl ok) rfl hR⟩
end
end DL
/-! text DLj -/
/-! DL: slices from behind, names of classes and constants, minus, dict displays, several targets at once. -/
namespace DL
open PySem PySem.Spec PyProof.Rows L2
/-! ### t[::-1] -/
section
variable {prog : Program} {w : World} {A : Around} {E : Value → Shared → Prop} {s : Shared}
theorem applied_back {sl : Addr} {vs : Value} {n : Nat} {Q : Int × Int × Nat → Shared → Prop} (hs : s.heap.IsSliceOf sl .none .none vs) (ps : IsPart vs (some (-1)))
    (h : Q (((n : Int) - 1), -1, n) s) : wpAny (model prog w) A (Builtin.Slice.sliceApplied (.ref sl) (pure (n : Int))) Q E s := by
  obtain ⟨os, hos, hcs, hds⟩ := id hs
  unfold Builtin.Slice.sliceApplied Builtin.Slice.sliceFields
  refine wpAny_bind (wpAny_bind (wpAny_field hos hds (x := .none) rfl (wpAny_bind (wpAny_field hos hds (x := .none) rfl (wpAny_bind (wpAny_field hos hds (x := vs) rfl (wpAny_pure ?_)))))))
  refine wpAny_bind (HT.slicePart_ ps ?_)
  show wpAny _ _ (if ((-1 : Int) == 0) = true then _ else _) _ _ s
  rw [if_neg (by decide)]
  refine wpAny_bind (slicePart_none (wpAny_bind (slicePart_none (wpAny_bind (wpAny_pure ?_)))))
  show wpAny _ _ (pure ((n : Int) - 1, (-1 : Int), Builtin.Slice.slicePlaces ((n : Int) - 1) (-1) (-1))) _ _ s
  have e : Builtin.Slice.slicePlaces ((n : Int) - 1) (-1) (-1) = n := by
    unfold Builtin.Slice.slicePlaces
    rw [if_neg (by decide)]
    split
    · rw [show (- -1 : Int) = 1 by decide, Int.ediv_one]; omega
    · omega
  rw [e]
  exact wpAny_pure h
theorem pick_back (xs : Array Value) : ((List.range xs.size).filterMap fun (m : Nat) => xs[(((xs.size : Int) - 1) + (m : Int) * -1).toNat]?).toArray = xs.toList.reverse.toArray := by
  have h := PySem.W.krv_pick xs
  unfold slicePick at h
  rw [show sliceBounds none none (some (-1)) xs.size = ((xs.size : Int) - 1, -1, -1) by first | rfl | simp [sliceBounds]] at h
  rw [← h]
  show _ = ((sliceRange ((xs.size : Int) - 1) (-1) (-1)).filterMap (xs[·]?)).toArray
  rw [PySem.W.krv_sliceRange, List.filterMap_map]
  congr 1
  have fm : ∀ (f g : Nat → Option Value) (l : List Nat), (∀ m ∈ l, f m = g m) → l.filterMap f = l.filterMap g := fun f g l => by
    induction l with
    | nil => intro _; rfl
    | cons a r ih =>
      intro h
      rw [List.filterMap_cons, List.filterMap_cons, h a (List.mem_cons_self ..), ih fun m hm => h m (List.mem_cons_of_mem _ hm)]
  refine fm _ _ _ fun m hm => ?_
  have := List.mem_range.mp hm
  show xs[(((xs.size : Int) - 1) + (m : Int) * -1).toNat]? = xs[xs.size - 1 - m]?
  congr 1
  omega
theorem back_tup {t sl : Addr} {items : Array Value} {vs : Value} {Q : Value → Shared → Prop} (ht : IsTup s.heap t items) (hs : s.heap.IsSliceOf sl .none .none vs) (ps : IsPart vs (some (-1)))
    (h : Q (.ref s.heap.objs.size) { s with heap := s.heap.push { cls := .type "tuple", data := .seq items.toList.reverse.toArray } })
    (hsz : items.size ≤ sizeLine) : wpAny (model prog w) A (getItem (.ref t) (.ref sl)) Q E s := by
  have htake : sizeOk (.seq items.toList.reverse.toArray) := by
    show items.toList.reverse.toArray.size ≤ sizeLine
    rw [List.size_toArray, List.length_reverse, Array.length_toList]
    exact hsz
  obtain ⟨os, hos, hcs, hds⟩ := id hs
  have hTs : s.TypeIs (.ref sl) "slice" := ⟨os, hos, hcs⟩
  unfold getItem
  try with_reducible refine wpAny_holding ?_
  first | refine wpAny_bind (wpAny_pure ?_) | skip
  refine wpAny_bind (wpAny_sequenceKey ht.typeIs (by decide) ?_)
  refine wpAny_bind (wpAny_callSpecial?_slot (name := Str.ofString "__getitem__") ht.typeIs PyProof.Rows.slot_tuple_getitem
    (wpAny_call_entry PyProof.Rows.slot_tuple_getitem ht.typeIs entry_tuple_getitem ?_ (args_tuple_getitem _ _)))
  show wpAny _ _ (Builtin.Tuple.tupleItemsOf (.ref t) >>= _) _ _ s
  refine wpAny_bind (tupleItemsOf_ ht ?_)
  refine wpAny_bind (wpAny_typeOf hTs ?_)
  rw [if_pos (by decide)]
  refine wpAny_bind (applied_back hs ps ?_)
  have hno : ¬ ((((items.size : Int) - 1) == 0 && (-1 : Int) == 1 && items.size == items.size) = true) := by
    intro q
    rw [Bool.and_eq_true, Bool.and_eq_true] at q
    exact absurd q.1.2 (by decide)
  show wpAny _ _ (if (((items.size : Int) - 1) == 0 && (-1 : Int) == 1 && items.size == items.size) = true then _ else _) _ _ s
  rw [if_neg hno, pick_back]
  first
    | exact wpAny_bind (m := Builtin.Tuple.tupleExact _) (wpAny_newObj_type (wpAny_pure ⟨_, rfl, wpAny_pure h⟩) htake)
    | exact wpAny_bind (m := Builtin.Tuple.tupleExact _) (wpAny_newObj_type (wpAny_bind (wpAny_pure (wpAny_pure ⟨_, rfl, wpAny_pure h⟩))) htake)
    | exact wpAny_bind (wpAny_bind (m := Builtin.Tuple.tupleExact _) (wpAny_newObj_type (wpAny_pure (wpAny_pure ⟨_, rfl, wpAny_pure h⟩)) htake))
    | exact wpAny_bind (wpAny_bind (m := Builtin.Tuple.tupleExact _) (wpAny_newObj_type (wpAny_pure ⟨_, rfl, wpAny_pure h⟩) htake))
end
section
variable {X : Cx} {e : Expr} {te : TE}
def tRev (K : PySem.W.Frag) (te : TE) : TE := fun σ H Q => te σ H fun x H1 => (∃ a xs, x = .ref a ∧ SqL K H1 a xs ∧ ∀ p, H1 p = none → Q (.ref p) (upd H1 p (.lst xs.reverse))) ∨
  ∃ a xs, x = .ref a ∧ SqT K H1 a xs ∧ ∀ p, H1 p = none → Q (.ref p) (upd H1 p (.tup xs.reverse))
theorem pe_rev {k : Nat} {p1 p2 p3 pos : Pos} (he : PE X e te) : PE X (.Subscript e (.Slice none none (some (.UnaryOp .USub (.Constant (.int 1) k p1) p2)) p3) pos) (tRev X.K te) := by
  refine ⟨fun pins s σ H Q I h => ?_⟩
  refine Subscript_ (thn (he.run pins s σ H _ I h) fun v s1 ⟨x, H1, I1, r1, q1⟩ => ?_)
  have hst : PO X (some (.UnaryOp .USub (.Constant (.int 1) k p1) p2)) (tPart (tUn (rU fun i => .int (-i)) (tC (.int 1)))) := po_some (pe_un un_neg pe_int)
  refine wpAny_Slice (thn (po_none.run pins s1 σ H1 (fun o H2 => o = none ∧ H2 = H1) I1 ⟨rfl, rfl⟩) fun vl s2 ⟨l, H2, I2, pl, el, e2⟩ => ?_)
  subst el e2
  refine thn (po_none.run pins s2 σ H2 (fun o H3 => o = none ∧ H3 = H2) I2 ⟨rfl, rfl⟩) fun vu s3 ⟨u, H3, I3, pu, eu, e3⟩ => ?_
  subst eu e3
  refine thn (hst.run pins s3 σ H3 (fun o H4 => o = some (-1) ∧ H4 = H3) I3 ⟨1, rfl, -1, rfl, rfl, rfl⟩) fun vs s4 ⟨o, H4, I4, ps, eo, e4⟩ => ?_
  subst eo e4
  have I5 : Inv X pins σ H4 { s4 with heap := s4.heap.push { cls := .type "slice", data := .fields #[vl, vu, vs] } } := I4.kept (t' := s4.toks) fun b ob q => Heap.get?_push_of_some _ q
  rcases q1 with ⟨a, xs, ex, hx, q⟩ | ⟨a, xs, ex, hx, q⟩
  · subst ex
    cases r1
    obtain ⟨its, r, ht, hz⟩ := I5.list hx
    have hlen := r.length
    show wpAny (model X.prog X.w) X.A (subscriptTail e (.Slice none none (some (.UnaryOp .USub (.Constant (.int 1) k p1) p2)) p3) (.ref a) (.ref s4.heap.objs.size)) (EP X pins σ Q) X.xe { s4 with heap := s4.heap.push { cls := .type "slice", data := .fields #[vl, vu, vs] } }
    refine tail_any (ops := [.ref a, .ref s4.heap.objs.size]) ht.isList.typeIs (PySem.slot_list_getitem.lookup) ?_ (by with_unfolding_all rfl)
    refine wpAny_getItem_list_slice ht.isList (Heap.IsSliceOf.new _ vl vu vs) pl pu ps (by decide) ?_ (by rw [List.size_toArray]; omega)
    rw [PySem.W.krv_pick]
    refine ⟨.ref _, _, I5.laid (t' := s4.toks) (o := .lst xs.reverse) (fun b ob q => Heap.get?_push_of_some _ q) (Nat.le_refl _) ?_, rfl, q _ (I5.hok.fresh (Nat.le_refl _))⟩
    exact ⟨by rw [List.length_reverse]; exact hz, _, 0, r.reverse, Heap.get?_push_size _ rfl⟩
  · subst ex
    cases r1
    obtain ⟨its, r, ht, hz⟩ := I5.tuple hx
    have hlen := r.length
    cases pl
    cases pu
    show wpAny (model X.prog X.w) X.A (subscriptTail e (.Slice none none (some (.UnaryOp .USub (.Constant (.int 1) k p1) p2)) p3) (.ref a) (.ref s4.heap.objs.size)) (EP X pins σ Q) X.xe { s4 with heap := s4.heap.push { cls := .type "slice", data := .fields #[.none, .none, vs] } }
    refine tail_any (ops := [.ref a, .ref s4.heap.objs.size]) ht.typeIs PyProof.Rows.slot_tuple_getitem.lookup ?_ (by with_unfolding_all rfl)
    refine back_tup ht (Heap.IsSliceOf.new _ .none .none vs) ps ?_ (by rw [List.size_toArray]; omega)
    refine ⟨.ref _, _, I5.laid (t' := s4.toks) (o := .tup xs.reverse) (fun b ob q => Heap.get?_push_of_some _ q) (Nat.le_refl _) ?_, rfl, q _ (I5.hok.fresh (Nat.le_refl _))⟩
    exact ⟨by rw [List.length_reverse]; exact hz, _, by simpa using r.reverse, IsTup.new _ _⟩
end
section
variable {Z : Wld} {F : Fm} {W : WX} {e a b c : Expr} {es : List Expr} {ta tb tc te : DT Z} {tA : DTA Z} {pos : Pos}
def smRev (d : D) (R : D → Prop) : Prop := match d with
  | .tup xs => R (.tup xs.reverse)
  | d => ∃ xs, itemsC d = some xs ∧ R (.lst xs.reverse)
def dRev {M : Type} (ta : DT0 M) : DT0 M := fun ρ μ R E => ta ρ μ (fun d μ1 => smRev d fun y => R y μ1) E
theorem dx_rev {k : Nat} {p1 p2 p3 : Pos} (ha : DE Z F W a ta) : DE Z F W (.Subscript a (.Slice none none (some (.UnaryOp .USub (.Constant (.int 1) k p1) p2)) p3) pos) (dRev ta) := by
  obtain ⟨ta', pa, ha⟩ := ha
  refine ⟨tRev F.K ta', fun i => by rw [← F.hK i]; exact pe_rev (pa i), fun B ρ σ μ S H R E Q env ok h hE hQ => ?_⟩
  refine ha B ρ σ μ S H _ E _ env ok h hE fun v d μ1 S1 H1 x1 r1 h1 => ?_
  have ok1 := x1.ok
  have lists : (∃ xs, itemsC d = some xs ∧ R (.lst xs.reverse) μ1) → (∀ ys, d ≠ .tup ys) → ∃ a xs, v = .ref a ∧ SqL F.K H1 a xs ∧ ∀ p, H1 p = none → Q (.ref p) (upd H1 p (.lst xs.reverse)) := fun q nt => by
    obtain ⟨xs, e1, hR⟩ := q
    obtain ⟨p, vs, rfl, q1, q3⟩ := items_list ok1.sub r1 e1 nt
    exact ⟨p, vs, rfl, q1, fun t ht => hQ _ (.lst xs.reverse) μ1 _ _ (x1.trans (ok1.put ht)) ⟨t, _, rfl, upd_same, q3.reverse.new ok1 ht⟩ hR⟩
  cases d with
  | tup xs =>
    obtain ⟨p, vs, rfl, q1, q2⟩ := id r1
    exact .inr ⟨p, vs, rfl, seqT_mono ok1.sub q1, fun t ht => hQ _ (.tup xs.reverse) μ1 _ _ (x1.trans (ok1.put ht)) ⟨t, _, rfl, SqT.of upd_same, q2.reverse.new ok1 ht⟩ h1⟩
  | _ => exact .inl (lists h1 (by simp))
/-! ### names of classes and constants -/
theorem dx_ty {x : Str} {id : String} {p : Pos} (hg : ∀ i, Gl (F.X i) x) (hm : ∀ i, (F.X i).mg x = none) (hv : bootBuiltins x = some (.type id)) (hn : x ≠ "__name__" := by decide) (hdb : (x == ("__debug__" : Str)) = false := by decide) :
    DE Z F W (.Name x p) (dC (.op (.ty id))) := dx_c (fun i => pe_bltn (v := .ty id) (hg i) (hm i) hv rfl hn hdb) fun _ _ _ => rfl
theorem dx_gint {x : Str} {n : Int} {t : Tok} {p : Pos} (hg : ∀ i, Gl (F.X i) x) (hm : ∀ i, (F.X i).mg x = some (.int n t)) (hdb : (x == ("__debug__" : Str)) = false := by decide) :
    DE Z F W (.Name x p) (dC (.int n)) := dx_c (fun i => pe_glob (v := .int n) (hg i) (hm i) ⟨t, rfl⟩ hdb) fun _ _ _ => rfl
theorem dx_gstr {x z : Str} {t : Tok} {p : Pos} (hg : ∀ i, Gl (F.X i) x) (hm : ∀ i, (F.X i).mg x = some (.str z t)) (hdb : (x == ("__debug__" : Str)) = false := by decide) :
    DE Z F W (.Name x p) (dC (.str z)) := dx_c (fun i => pe_glob (v := .str z) (hg i) (hm i) ⟨t, rfl⟩ hdb) fun _ _ _ => rfl
def smNeg : Sm1 := fun a R => ∃ i, a = .int i ∧ R (.int (-i))
theorem ud_neg : UnD Z F (unaryOp .USub) smNeg := by
  refine ⟨_, fun i => un_neg, fun rg μ S H a x R Q ok ra hs k => ?_⟩
  obtain ⟨i, rfl, hR⟩ := hs
  exact ⟨i, ra, k _ (.int (-i)) S H (.refl ok) rfl hR⟩
/-! ### dict displays -/
theorem dx_dct0 : DE Z F W (.Dict [] [] pos) (dC (.dct [])) := by
  refine ⟨_, fun i => pe_dnewK, fun B ρ σ μ S H R E Q env ok h hE hQ => fun t ht => hQ _ (.dct []) μ _ _ (ok.put ht) ⟨t, _, rfl, upd_same, rfl⟩ h⟩
/-- the pairs of a display with written keys -/
def DPs (Z : Wld) (F : Fm) (W : WX) (ks : List (Option Expr)) (vs : List Expr) (kk : List Key) (t : DTA Z) : Prop := ∃ trs : List (TE × TE), (∀ i pos, PPs (F.X i) pos ks vs trs) ∧ ∀ (B : Hp) (ρ : Rho) (σ : L2.St) (μ : Z.M) (S H : Hp) (R : List D → Z.M → Prop) (E : Xc → Z.M → Prop) (Q : List (V × V) → Hp → Prop),
  EnvR F.K Z B μ S H ρ σ → Ok Z μ S H → t ρ μ R E → Wish Z F W B μ S H σ E →
  (∀ (ws : List V) (ds : List D) (μ' : Z.M) (S' H' : Hp), Ext Z μ S H μ' S' H' → RdL F.K (fb Z B μ') S' H' ds ws → ds.length = kk.length → R ds μ' → Q ((kk.map kV).zip ws) H') → tPairs trs σ H Q
theorem dps_nil : DPs Z F W [] [] [] dNil := ⟨_, fun i _ => pps_nil, fun B ρ σ μ S H R E Q env ok h hE hQ => hQ [] [] μ S H (.refl ok) rfl rfl h⟩
theorem dps_str {z : Str} {j : Nat} {p : Pos} {ks : List (Option Expr)} {kk : List Key} {tR : DTA Z} (ha : DE Z F W a ta) (hr : DPs Z F W ks es kk tR) :
    DPs Z F W (some (.Constant (.str z) j p) :: ks) (a :: es) (.inr z :: kk) (dCons ta tR) := by
  obtain ⟨ta', pa, ha⟩ := ha
  obtain ⟨tr', pr, hr⟩ := hr
  refine ⟨_, fun i pos => pps_cons pe_str (pa i) (pr i pos), fun B ρ σ μ S H R E Q env ok h hE hQ => ?_⟩
  refine ha B ρ σ μ S H _ E _ env ok h hE fun v d μ1 S1 H1 x1 r1 h1 => ?_
  refine hr B ρ σ μ1 S1 H1 _ E _ (env.ext x1) x1.ok h1 (hE.ext x1) fun ws ds μ2 S2 H2 x2 r2 l2 h2 => ?_
  exact hQ (v :: ws) (d :: ds) μ2 S2 H2 (x1.trans x2) ⟨v, ws, rfl, r1.ext x2, r2⟩ (by rw [List.length_cons, List.length_cons, l2]) h2
def dDct {M : Type} (kk : List Key) (tA : DTA0 M) : DT0 M := fun ρ μ R E => tA ρ μ (fun ds μ1 => R (.dct (kk.zip ds)) μ1) E
theorem rdk_zip {K : PySem.W.Frag} {rg : Addr → Prop} {S H : Hp} : ∀ {kk : List Key} {ds : List D} {ws : List V}, RdL K rg S H ds ws → ds.length = kk.length → RdK K rg S H (kk.zip ds) (kk.zip ws)
  | [], ds, ws, _, _ => rfl
  | k :: kk, [], ws, _, l => by cases l
  | k :: kk, d :: ds, _, h, l => by
    obtain ⟨v, r, rfl, h1, h2⟩ := h
    exact ⟨v, kk.zip r, rfl, h1, rdk_zip h2 (by simpa using l)⟩
theorem zip_kv : ∀ {kk : List Key} {ws : List V}, (kk.map kV).zip ws = (kk.zip ws).map fun kv => (kV kv.1, kv.2)
  | [], _ => rfl
  | _ :: _, [] => rfl
  | k :: kk, w :: ws => by simp only [List.map_cons, List.zip_cons_cons, zip_kv]
theorem dx_dct {ks : List (Option Expr)} {kk : List Key} (h : DPs Z F W ks es kk tA) (hall : ks.all (·.isSome) = true) (hl : ks.length = es.length) (h0 : ks ≠ []) (h15 : ks.length ≤ 15) (k15 : kk.length ≤ 15)
    (hm : ∀ ws : List V, ws.length = kk.length → mergeK [] (kk.zip ws) = kk.zip ws) : DE Z F W (.Dict ks es pos) (dDct kk tA) := by
  obtain ⟨trs, pp, h⟩ := h
  refine ⟨_, fun i => pe_disp (pp i pos) hall hl h0 h15, fun B ρ σ μ S H R E Q env ok ht hE hQ => fun p hp => ?_⟩
  have x0 := ok.putOwn (o := .dK []) hp
  have nr : ¬ Z.reg μ p := fun q => Z.held ok.j q hp
  refine h B ρ σ μ S (upd H p (.dK [])) _ E _ (env.ext x0) x0.ok ht (hE.ext x0) fun ws ds μ1 S1 H1 x1 r1 l1 h1 => ?_
  have e1 : H1 p = some (.dK []) := x1.keep p _ nr (fun _ h => by cases h) upd_same
  have lw : ws.length = kk.length := by rw [r1.length, l1]
  refine ⟨e1, kk.zip ws, zip_kv, by rw [List.length_zip]; omega, ?_⟩
  rw [hm ws lw]
  have nr1 : ¬ Z.reg μ1 p := fun q => by
    rcases x1.reg p q with q | q
    · exact nr q
    · exact q.nt upd_same
  have sp : S1 p = none := by
    cases q : S1 p with
    | none => rfl
    | some o =>
      rcases x1.new p (by rw [q]; simp) with z | z
      · cases e : S p with
        | none => exact absurd e z
        | some o' => have z2 := ok.sub p _ e; rw [hp] at z2; cases z2
      · exact z.nt upd_same
  have xx := x0.trans x1
  have ok2 : Ok Z μ1 (upd S1 p (.dK (kk.zip ws))) (upd H1 p (.dK (kk.zip ws))) := by
    refine ⟨fun b o e => ?_, Z.loc x1.ok.j (fun b o e => by rw [upd_ne fun z => by rw [z, sp] at e; cases e]; exact e) fun b hb => ?_, fun b hb => ?_, fun b o e => ?_⟩
    rotate_left 3
    · by_cases hbp : b = p
      · rw [hbp, upd_same] at e; cases e; exact fun _ h => by cases h
      · rw [upd_ne hbp] at e; exact x1.ok.nt b o e
    · by_cases hbp : b = p
      · subst hbp; rw [upd_same] at e ⊢; exact e
      · rw [upd_ne hbp] at e ⊢; exact x1.ok.sub b o e
    · exact upd_ne fun z => nr1 (by rw [z] at hb; exact hb)
    · rw [upd_ne fun z => nr1 (by rw [z] at hb; exact hb)]; exact x1.ok.off b hb
  have xf : Ext Z μ S H μ1 (upd S1 p (.dK (kk.zip ws))) (upd H1 p (.dK (kk.zip ws))) := by
    refine ⟨ok2, fun b o nb nt e => ?_, fun b o e => ?_, fun b q => ?_, xx.reg, fun b q => ?_⟩
    · rw [upd_ne fun z => by rw [z, hp] at e; cases e]
      exact xx.keep b o nb nt e
    · have e2 := xx.same b o e
      rw [upd_ne fun z => by rw [z, sp] at e2; cases e2]
      exact e2
    · by_cases hbp : b = p
      · exact .inr (by rw [hbp]; exact .inl hp)
      · rw [upd_ne hbp] at q; exact xx.new b q
    · by_cases hbp : b = p
      · rw [hbp]; exact .inl hp
      · rw [Fr, upd_ne hbp] at q; exact xx.there b q
  refine hQ (.ref p) (.dct (kk.zip ds)) μ1 _ _ xf ⟨p, kk.zip ws, rfl, upd_same, rdk_zip ?_ l1⟩ h1
  refine r1.mono (fun b o e => ?_) fun b vs nf e => ⟨nf, ?_⟩
  · rw [upd_ne fun z => by rw [z, sp] at e; cases e]
    exact e
  · rw [upd_ne fun z => by rw [z, e1] at e; cases e]
    exact e
end
end DL
/-! text DLk -/
/-! DL: several targets at once. -/
namespace DL
open PySem PySem.Spec PyProof.Rows L2
section
variable (Z : Wld) (F : Fm) (W : WX)
abbrev DTP0 (M : Type) := Rho → M → (List Slot → M → Prop) → (Xc → M → Prop) → Prop
abbrev DTP := DTP0 Z.M
/-- values that are to be stored: data, or new lists -/
structure SlR (K : PySem.W.Frag) (B : Hp) (μ : Z.M) (S H H0 : Hp) (sl : List Slot) (vs : List V) : Prop where
  len : vs.length = sl.length
  get : ∀ (i : Nat) (s : Slot), sl[i]? = some s → ∃ v, vs[i]? = some v ∧ SlotR K Z B μ S H s (some v)
  apart : ∀ (i j : Nat) (xs ys : List D) (a : Addr), sl[i]? = some (.own xs) → sl[j]? = some (.own ys) → vs[i]? = some (.ref a) → vs[j]? = some (.ref a) → i = j
  new : ∀ (i : Nat) (xs : List D) (a : Addr), sl[i]? = some (.own xs) → vs[i]? = some (.ref a) → Fr H0 a
def DP (es : List Expr) (t : DTP Z) : Prop := ∃ te : TA, (∀ i, PA (F.X i) es te) ∧ ∀ (B : Hp) (ρ : Rho) (σ : L2.St) (μ : Z.M) (S H : Hp) (R : List Slot → Z.M → Prop) (E : Xc → Z.M → Prop) (Q : List V → Hp → Prop),
  EnvR F.K Z B μ S H ρ σ → Ok Z μ S H → t ρ μ R E → Wish Z F W B μ S H σ E →
  (∀ (v : List V) (sl : List Slot) (μ' : Z.M) (S' H' : Hp), Ext Z μ S H μ' S' H' → SlR Z F.K B μ' S' H' H sl v → sl.length = es.length → R sl μ' → Q v H') → te σ H Q
end
section
variable {Z : Wld}
def dpNil {M : Type} : DTP0 M := fun _ μ R _ => R [] μ
def dpE {M : Type} (ta : DT0 M) (tr : DTP0 M) : DTP0 M := fun ρ μ R E => ta ρ μ (fun a μ1 => sta a = true ∧ tr ρ μ1 (fun as μ2 => R (.val a :: as) μ2) E) E
def dpF {M : Type} (ta : DTA0 M) (tr : DTP0 M) : DTP0 M := fun ρ μ R E => ta ρ μ (fun a μ1 => staL a = true ∧ tr ρ μ1 (fun as μ2 => R (.own a :: as) μ2) E) E
end
section
variable {Z : Wld} {F : Fm} {W : WX} {e a b c : Expr} {es : List Expr} {ta tb tc te : DT Z} {tA : DTA Z} {tP : DTP Z} {pos : Pos}
theorem dp_nil : DP Z F W [] dpNil := ⟨_, fun i => pa_nil, fun B ρ σ μ S H R E Q env ok h hE hQ => hQ [] [] μ S H (.refl ok) ⟨rfl, fun i s e => by simp at e, fun i j xs ys a e => by simp at e, fun i xs a e => by simp at e⟩ rfl h⟩
theorem dp_e (ha : DE Z F W e ta) (hr : DP Z F W es tP) (hs : ∀ i, starEach (e :: es) (F.X i).env = (false, eval e (F.X i).env) :: starEach es (F.X i).env := by intro _; rfl) : DP Z F W (e :: es) (dpE ta tP) := by
  obtain ⟨ta', pa, ha⟩ := ha
  obtain ⟨tr', pr, hr⟩ := hr
  refine ⟨_, fun i => pa_cons (pa i) (pr i) (hs i), fun B ρ σ μ S H R E Q env ok h hE hQ => ?_⟩
  refine ha B ρ σ μ S H _ E _ env ok h hE fun v d μ1 S1 H1 x1 r1 h1 => ?_
  refine hr B ρ σ μ1 S1 H1 _ E _ (env.ext x1) x1.ok h1.2 (hE.ext x1) fun vs sl μ2 S2 H2 x2 r2 l2 h2 => ?_
  refine hQ (v :: vs) (.val d :: sl) μ2 S2 H2 (x1.trans x2) ⟨by rw [List.length_cons, List.length_cons, r2.len], fun i s e => ?_, fun i j xs ys a e1 e2 e3 e4 => ?_, fun i xs a e1 e2 => ?_⟩ (by rw [List.length_cons, List.length_cons, l2]) h2
  · cases i with
    | zero =>
      simp only [List.getElem?_cons_zero, Option.some.injEq] at e
      subst e
      exact ⟨v, rfl, v, rfl, h1.1, r1.ext x2⟩
    | succ i => simpa using r2.get i s (by simpa using e)
  · cases i with
    | zero => simp at e1
    | succ i => cases j with
      | zero => simp at e2
      | succ j => exact congrArg Nat.succ (r2.apart i j xs ys a (by simpa using e1) (by simpa using e2) (by simpa using e3) (by simpa using e4))
  · cases i with
    | zero => simp at e1
    | succ i =>
      exact x1.there a (r2.new i xs a (by simpa using e1) (by simpa using e2))
theorem dp_f (ha : DF Z F W e tA) (hr : DP Z F W es tP) (hs : ∀ i, starEach (e :: es) (F.X i).env = (false, eval e (F.X i).env) :: starEach es (F.X i).env := by intro _; rfl) : DP Z F W (e :: es) (dpF tA tP) := by
  obtain ⟨ta', pa, ha⟩ := ha
  obtain ⟨tr', pr, hr⟩ := hr
  refine ⟨_, fun i => pa_cons (pa i) (pr i) (hs i), fun B ρ σ μ S H R E Q env ok h hE hQ => ?_⟩
  refine ha B ρ σ μ S H _ E _ env ok h hE fun p ws ds μ1 S1 H1 x1 n1 e1 s1 f1 r1 h1 => ?_
  refine hr B ρ σ μ1 S1 H1 _ E _ (env.ext x1) x1.ok h1.2 (hE.ext x1) fun vs sl μ2 S2 H2 x2 r2 l2 h2 => ?_
  have k2 := x2.lst p ws f1 e1
  have s2 : S2 p = none := by
    cases q : S2 p with
    | none => rfl
    | some o =>
      rcases x2.new p (by rw [q]; simp) with z | z
      · exact absurd s1 z
      · exact z.nt e1
  refine hQ (.ref p :: vs) (.own ds :: sl) μ2 S2 H2 (x1.trans x2) ⟨by rw [List.length_cons, List.length_cons, r2.len], fun i s e => ?_, fun i j xs ys a e1' e2 e3 e4 => ?_, fun i xs a e1' e2 => ?_⟩ (by rw [List.length_cons, List.length_cons, l2]) h2
  · cases i with
    | zero =>
      simp only [List.getElem?_cons_zero, Option.some.injEq] at e
      subst e
      exact ⟨.ref p, rfl, p, ws, rfl, k2.2, s2, k2.1, h1.1, r1.ext x2⟩
    | succ i => simpa using r2.get i s (by simpa using e)
  · have ne : ∀ {k : Nat} {zs : List D}, sl[k]? = some (.own zs) → vs[k]? = some (.ref p) → False := fun {k zs} q1 q2 => by
      exact (r2.new k zs p q1 q2).nt e1
    cases i with
    | zero => cases j with
      | zero => rfl
      | succ j =>
        simp only [List.getElem?_cons_zero, Option.some.injEq, V.ref.injEq] at e3
        subst e3
        exact (ne (by simpa using e2) (by simpa using e4)).elim
    | succ i => cases j with
      | zero =>
        simp only [List.getElem?_cons_zero, Option.some.injEq, V.ref.injEq] at e4
        subst e4
        exact (ne (by simpa using e1') (by simpa using e3)).elim
      | succ j => exact congrArg Nat.succ (r2.apart i j xs ys a (by simpa using e1') (by simpa using e2) (by simpa using e3) (by simpa using e4))
  · cases i with
    | zero =>
      simp only [List.getElem?_cons_zero, Option.some.injEq, V.ref.injEq] at e2
      subst e2
      exact n1
    | succ i =>
      exact x1.there a (r2.new i xs a (by simpa using e1') (by simpa using e2))
/-- one store of several -/
theorem EnvR.put1 {K : PySem.W.Frag} {B : Hp} {μ : Z.M} {S H : Hp} {ρ : Rho} {σ : L2.St} (env : EnvR K Z B μ S H ρ σ) {i : Nat} {s : Slot} {v : V} (h : SlotR K Z B μ S H s (some v)) (ns : s ≠ .un)
    (ap : ∀ xs a, s = .own xs → v = .ref a → ∀ (j : Nat) (ys : List D), ρ[j]? = some (.own ys) → σ[j]? ≠ some (some (.ref a))) : EnvR K Z B μ S H (ρ.set i s) (σ.set i (some v)) := by
  cases s with
  | un => exact absurd rfl ns
  | val d =>
    obtain ⟨v', e, t, r⟩ := h
    cases e
    exact env.put t r
  | own xs =>
    obtain ⟨a, vs, e, h1, h2, h3, h4, h5⟩ := h
    cases e
    exact env.putOwn h1 h2 h3 h4 h5 (ap xs a rfl rfl)
  | exc a cls d y => exact env.putExc h
/-- an owner's list stands where no new list does -/
theorem own_old {K : PySem.W.Frag} {B : Hp} {μ : Z.M} {S H : Hp} {ρ : Rho} {σ : L2.St} (env : EnvR K Z B μ S H ρ σ) {a : Addr} (n : Fr H a) (j : Nat) (ys : List D) (e : ρ[j]? = some (.own ys)) : σ[j]? ≠ some (some (.ref a)) := fun q => by
  obtain ⟨o, e1, b, vs, e2, h1, _⟩ := env.get j _ e
  rw [q] at e1
  cases e1
  cases e2
  exact n.nt h1
def dsPar2 {M : Type} (i j : Nat) (t : DTP0 M) : DTS0 M := fun B ρ μ => t ρ μ (fun sl μ' => ∃ u v, sl = [u, v] ∧ u ≠ .un ∧ v ≠ .un ∧ B.nx ((ρ.set i u).set j v) μ') fun x μ' => B.ex x ρ μ'
def dsPar3 {M : Type} (i j l : Nat) (t : DTP0 M) : DTS0 M := fun B ρ μ => t ρ μ (fun sl μ' => ∃ u v w, sl = [u, v, w] ∧ u ≠ .un ∧ v ≠ .un ∧ w ≠ .un ∧ B.nx (((ρ.set i u).set j v).set l w) μ') fun x μ' => B.ex x ρ μ'
theorem set_own {ρ : Rho} {σ : L2.St} {i k : Nat} {u : Slot} {v : V} {ys : List D} {a : Addr} (hl : σ.length = ρ.length) (e : (ρ.set i u)[k]? = some (.own ys)) (q : (σ.set i (some v))[k]? = some (some (.ref a))) : (k = i ∧ u = .own ys ∧ v = .ref a) ∨ (ρ[k]? = some (.own ys) ∧ σ[k]? = some (some (.ref a))) := by
  by_cases h : k = i
  · subst h
    have lt : k < ρ.length := by
      have := (List.getElem?_eq_some_iff.mp e).1
      simpa using this
    rw [List.getElem?_set_self lt] at e
    rw [List.getElem?_set_self (by omega)] at q
    cases e; cases q
    exact .inl ⟨rfl, rfl, rfl⟩
  · rw [List.getElem?_set_ne (Ne.symm h)] at e q
    exact .inr ⟨e, q⟩
theorem ds_par2 {i j : Nat} {x y : Str} {px py pt : Pos} {kt k2 : Nat} {pt2 : Pos} (hc : ∀ k, (F.X k).calm = true) (hN : ∀ k, (F.X k).N.Nodup) (hi : ∀ k, (F.X k).N[i]? = some x) (hj : ∀ k, (F.X k).N[j]? = some y) (hij : i ≠ j)
    (hx : ∀ k, (F.X k).env.scope.names.lookup x = some .local) (hy : ∀ k, (F.X k).env.scope.names.lookup y = some .local) (ha : DP Z F W [a, b] tP)
    (hw : ∀ k, swappedStores [.Tuple [.Name x px, .Name y py] kt pt] (.Tuple [a, b] k2 pt2) (F.X k).env = pure (some [x, y]))
    (hs : ∀ k, swapsWithSole [.Tuple [.Name x px, .Name y py] kt pt] (.Tuple [a, b] k2 pt2) pos.line (F.X k).env = pure false := by intro _; rfl) :
    DS Z F W (.Assign [.Tuple [.Name x px, .Name y py] kt pt] (.Tuple [a, b] k2 pt2) pos) (dsPar2 i j tP) := by
  obtain ⟨tp, pp, ha⟩ := ha
  refine ⟨_, fun k => ps_par (hc k) (hN k) (hi k) (hj k) hij (hx k) (hy k) (pp k) (hw k) (hs k), fun μ0 S0 H0 ρ σ μ S H B L r h k => ?_⟩
  refine ha H0 ρ σ μ S H _ _ _ r.env r.ok h (k.wish r) fun vs sl μ' S' H' x' q l hr => ?_
  obtain ⟨u, v, rfl, nu, nv, hB⟩ := hr
  obtain ⟨v1, e1, s1⟩ := q.get 0 u rfl
  obtain ⟨v2, e2, s2⟩ := q.get 1 v rfl
  have hl2 := q.len
  have ev : vs = [v1, v2] := by
    match vs, hl2 with
    | [p, q'], _ => simp at e1 e2; rw [e1, e2]
  subst ev
  have env' := r.env.ext x'
  refine ⟨v1, v2, rfl, k.nx _ _ μ' S' H' ⟨?_, r.ext.trans x'⟩ x'.same hB⟩
  refine (env'.put1 s1 nu fun xs a eu ea k' ys e => own_old r.env (q.new 0 xs a (by rw [eu]; rfl) (by rw [ea]; rfl)) k' ys e).put1 s2 nv fun xs a eu ea k' ys e qq => ?_
  rcases set_own env'.len e qq with ⟨rfl, z1, z2⟩ | ⟨z1, z2⟩
  · exact absurd (q.apart 0 1 ys xs a (by rw [z1]; rfl) (by rw [eu]; rfl) (by rw [z2]; rfl) (by rw [ea]; rfl)) (by decide)
  · exact own_old r.env (q.new 1 xs a (by rw [eu]; rfl) (by rw [ea]; rfl)) k' ys z1 z2
theorem ds_par3 {i j l : Nat} {x y z : Str} {px py pz pt : Pos} {kt k2 : Nat} {pt2 : Pos} (hc : ∀ k, (F.X k).calm = true) (hN : ∀ k, (F.X k).N.Nodup) (hi : ∀ k, (F.X k).N[i]? = some x) (hj : ∀ k, (F.X k).N[j]? = some y) (hl : ∀ k, (F.X k).N[l]? = some z) (hij : i ≠ j) (hil : i ≠ l) (hjl : j ≠ l)
    (hx : ∀ k, (F.X k).env.scope.names.lookup x = some .local) (hy : ∀ k, (F.X k).env.scope.names.lookup y = some .local) (hz : ∀ k, (F.X k).env.scope.names.lookup z = some .local) (ha : DP Z F W [a, b, c] tP)
    (hw : ∀ k, swappedStores [.Tuple [.Name x px, .Name y py, .Name z pz] kt pt] (.Tuple [a, b, c] k2 pt2) (F.X k).env = pure (some [x, y, z]))
    (hs : ∀ k, swapsWithSole [.Tuple [.Name x px, .Name y py, .Name z pz] kt pt] (.Tuple [a, b, c] k2 pt2) pos.line (F.X k).env = pure false := by intro _; rfl) :
    DS Z F W (.Assign [.Tuple [.Name x px, .Name y py, .Name z pz] kt pt] (.Tuple [a, b, c] k2 pt2) pos) (dsPar3 i j l tP) := by
  obtain ⟨tp, pp, ha⟩ := ha
  refine ⟨_, fun k => ps_par3 (hc k) (hN k) (hi k) (hj k) (hl k) hij hil hjl (hx k) (hy k) (hz k) (pp k) (hw k) (hs k), fun μ0 S0 H0 ρ σ μ S H B L r h k => ?_⟩
  refine ha H0 ρ σ μ S H _ _ _ r.env r.ok h (k.wish r) fun vs sl μ' S' H' x' q l hr => ?_
  obtain ⟨u, v, w, rfl, nu, nv, nw, hB⟩ := hr
  obtain ⟨v1, e1, s1⟩ := q.get 0 u rfl
  obtain ⟨v2, e2, s2⟩ := q.get 1 v rfl
  obtain ⟨v3, e3, s3⟩ := q.get 2 w rfl
  have hl2 := q.len
  have ev : vs = [v1, v2, v3] := by
    match vs, hl2 with
    | [p, q', q''], _ => simp at e1 e2 e3; rw [e1, e2, e3]
  subst ev
  have env' := r.env.ext x'
  refine ⟨v1, v2, v3, rfl, k.nx _ _ μ' S' H' ⟨?_, r.ext.trans x'⟩ x'.same hB⟩
  have old : ∀ {n : Nat} {xs : List D} {a : Addr}, [u, v, w][n]? = some (.own xs) → [v1, v2, v3][n]? = some (.ref a) → ∀ (k' : Nat) (ys : List D), ρ[k']? = some (.own ys) → σ[k']? ≠ some (some (.ref a)) := fun {n xs a} z1 z2 k' ys e => own_old r.env (q.new n xs a z1 z2) k' ys e
  have env1 := env'.put1 (i := i) s1 nu fun xs a eu ea k' ys e => old (n := 0) (by rw [eu]; rfl) (by rw [ea]; rfl) k' ys e
  have env2 := env1.put1 (i := j) s2 nv fun xs a eu ea k' ys e qq => by
    rcases set_own env'.len e qq with ⟨rfl, z1, z2⟩ | ⟨z1, z2⟩
    · exact absurd (q.apart 0 1 ys xs a (by rw [z1]; rfl) (by rw [eu]; rfl) (by rw [z2]; rfl) (by rw [ea]; rfl)) (by decide)
    · exact old (n := 1) (by rw [eu]; rfl) (by rw [ea]; rfl) k' ys z1 z2
  refine env2.put1 s3 nw fun xs a eu ea k' ys e qq => ?_
  rcases set_own env1.len e qq with ⟨rfl, z1, z2⟩ | ⟨z1, z2⟩
  · exact absurd (q.apart 1 2 ys xs a (by rw [z1]; rfl) (by rw [eu]; rfl) (by rw [z2]; rfl) (by rw [ea]; rfl)) (by decide)
  · rcases set_own env'.len z1 z2 with ⟨rfl, z1, z2⟩ | ⟨z1, z2⟩
    · exact absurd (q.apart 0 2 ys xs a (by rw [z1]; rfl) (by rw [eu]; rfl) (by rw [z2]; rfl) (by rw [ea]; rfl)) (by decide)
    · exact old (n := 2) (by rw [eu]; rfl) (by rw [ea]; rfl) k' ys z1 z2
end
end DL
/-! text DLm -/
/-! DL: what a def's proof is handed; the end of a law by data. -/
namespace DL
open PySem PySem.Spec PyProof.Rows L2
theorem itT {c A B : Prop} [Decidable c] (hc : c) (h : A) : if c then A else B := by rw [if_pos hc]; exact h
theorem itF {c A B : Prop} [Decidable c] (hc : ¬ c) (h : B) : if c then A else B := by rw [if_neg hc]; exact h
theorem un_of {k : Nat} {A : Around} (hr : Room k A) : A.units + 64 < cLine := by have := hr.un; omega
theorem un_of1 {k : Nat} {A : Around} (hr : Room k A) : A.units + 1 < cLine := by have := hr.un; omega
theorem un_of65 {k : Nat} {A : Around} (hr : Room k A) : A.units + 65 < cLine := by have := hr.un; omega
/-- a def that stands and keeps its promise -/
structure Kn (P : Program) (w : World) (K : PySem.W.Frag) (mg : Str → Option Value) (base : Heap) (x : Str) (k : Nat) (ps : List Str) (f : Addr) (fd : FuncData) (sp : Sp) : Prop where
  G : FnG P w K mg base k f fd ps sp
  m : mg x = some (.ref f)
  kp : PySem.W.keepIn K (.ref f) = true
  bd : Binds K fd ps []
/-- THE HEAD by data -/
theorem law_callD {Z : Wld} {μ0 : Z.M} (hreg : ∀ a, ¬ Z.reg μ0 a) (hJ : ∀ S H, Z.J μ0 S H) {P : Program} {w : World} {K : PySem.W.Frag} {mg mb : Str → Option Value} {k : Nat} {fa a : Addr} {fd : FuncData} {x : Str} {sp : SpD Z} {s₁ : Shared} {vs : List Value} {ns : List Int}
    (KX : K.In s₁.heap) (hns : s₁.heap.Ns mainGlobals mg) (hb : s₁.heap.Ns builtinsNs mb) (hbb : ∀ x : Str, x ≠ "__name__" → mb x = bootBuiltins x) (hlim : s₁.heap.NoLimit) (hg : s₁.gens = #[]) (hmods : ∃ mm, s₁.heap.Ns sysModules mm)
    (ha : s₁.heap.get? a = some { cls := .type "list", data := .seq vs.toArray }) (hi : IntsAre vs ns) (hl : ns.length ≤ sizeLine) (hr : Room k callerA)
    (G : ∀ base : Heap, K.In base → base.Ns mainGlobals mg → (∃ mm, base.Ns sysModules mm) → FnG P w K mg base k fa fd [x] (spOf K Z 1 sp)) (hbind : ∀ (s : Shared) (u : Value), BindsTo s fd ⟨[u], []⟩ [(x, u)])
    (hsp : sp [.scr ns] μ0 (fun d _ => d = .bl true) fun _ _ => False) :
    codeAny (model P w) callerA (.call (.ref fa) ⟨[.ref a], []⟩) (fun r s' => r = .ok (.ret (.bool true)) ∧ OldK s₁.heap s'.heap ∧ s'.os = s₁.os ∧ AllBare s'.gens) s₁ := by
  have rv := vals_ints hi
  have lenV := hi.length
  have core : ∀ H : Hp, Only H → SqL K H a (ns.map V.int) → HOk P w H s₁.heap → (∀ b, H b ≠ none → b = a) → (H a ≠ none → K.lookup a = none) →
      codeAny (model P w) callerA (.call (.ref fa) ⟨[.ref a], []⟩) (fun r s' => r = .ok (.ret (.bool true)) ∧ OldK s₁.heap s'.heap ∧ s'.os = s₁.os ∧ AllBare s'.gens) s₁ := by
    intro H hO hS hok hA hK
    have base_of : ∀ {b : Addr} {o : Obj}, s₁.heap.get? b = some o → H b = none → (hidT s₁.heap H).get? b = some o := fun e n => hidT_get e n
    have noA : ∀ {b : Addr} {o : Obj} {es : Array DictEntry} {ep : Nat}, s₁.heap.get? b = some o → o.data = .dict es ep → H b = none := fun {b o es ep} e d => by
      cases q : H b with
      | none => rfl
      | some u =>
        have e' : b = a := hA b (by rw [q]; simp)
        subst e'
        rw [ha] at e; cases e
        have d' : Data.seq vs.toArray _ = Data.dict es ep := d
        cases d'
    have nsK : ∀ {b : Addr} {m : Str → Option Value}, s₁.heap.Ns b m → (hidT s₁.heap H).Ns b m := fun {b m} ⟨o, es, ep, e, d, r⟩ => ⟨o, es, ep, base_of e (noA e d), d, r⟩
    have hKb : K.In (hidT s₁.heap H) := fun b o e => base_of (KX b o e) (by
      cases q : H b with
      | none => rfl
      | some u =>
        have e' : b = a := hA b (by rw [q]; simp)
        subst e'
        rw [hK (by rw [q]; simp)] at e; cases e)
    have hM : Mod K mg (hidT s₁.heap H) := ⟨hKb, nsK hns, ⟨mb, nsK hb, hbb⟩, let ⟨mc, h1, h2⟩ := hlim; ⟨mc, nsK h1, h2⟩⟩
    have e0 : Env0 P w K mg (hidT s₁.heap H) callerA [] s₁ H := ⟨rfl, hM, fun b o e => of_hidT e, Nat.le_of_eq (hidT_size _ _), trivial, fun b hb => absurd (show b ∈ ([] : List Addr) from hb) (by simp), hok, .of_eq hg⟩
    obtain ⟨mm, hmm⟩ := hmods
    have ok0 : Ok Z μ0 H H := ⟨Same.refl H, hJ H H, fun b hb => (hreg b hb).elim, fun b o e => by
      rcases hO b with z | ⟨ob, xs, z⟩
      · rw [e] at z; cases z
      · rw [e] at z; cases z; exact fun _ h => by cases h⟩
    refine codeAny_mono ((G _ hKb (nsK hns) ⟨mm, nsK hmm⟩).run callerA [] s₁ H ⟨[.ref a], []⟩ [.ref a] [.ref a] (fun v _ => v = .bl true) (fun _ _ _ => False) hr rfl e0 (hbind s₁ (.ref a)) (.cons rfl .nil) ⟨rfl, [.scr ns], μ0, H, fun d _ => d = .bl true, fun _ _ => False, ok0, ⟨.ref a, [], rfl, ⟨a, rfl, hS⟩, rfl⟩, rfl, hsp, fun v d μ' S' H' _ _ r e => by subst e; exact r, fun _ _ _ _ _ _ _ _ h => h⟩) fun r s' h => ?_
    cases r with
    | error e =>
      obtain ⟨_, _, _, _, _, _, _, _, _, _, _, _, z⟩ := h
      exact z.elim
    | ok fl =>
      cases fl with
      | next => exact False.elim h
      | brk => exact False.elim h
      | cont => exact False.elim h
      | ret u =>
        obtain ⟨v, H', os, bare, un, hok', r', q⟩ := h
        have q' : v = .bl true := q
        subst q'
        obtain rfl : u = Value.bool true := r'
        refine ⟨rfl, OldK.of_keep fun b o e => ?_, os, bare⟩
        cases q : H b with
        | none => exact un.keep b o e q (by intro z; exact absurd (show b ∈ ([] : List Addr) from z) (by simp)) (by simp)
        | some u =>
          rcases hO b with z | ⟨ob, xs, z⟩
          · rw [q] at z; cases z
          · have z2 := un.frzs b ob _ z
            obtain ⟨e1, _⟩ := hok b _ z
            obtain ⟨e2, _⟩ := hok' b _ z2
            rw [e] at e1; cases e1
            exact e2
  cases hk : K.lookup a with
  | some o =>
    have e := KX a o hk
    rw [ha] at e
    cases e
    refine core (fun _ => none) (fun _ => .inl rfl) (.inr ⟨_, vs.toArray, _, hk, rfl, rfl, rfl, by rw [List.size_toArray, lenV]; exact hl, by simpa using rv⟩) (fun b u z => by have z' : (none : Option HO) = some u := z; cases z') (fun b z => absurd rfl z) fun z => absurd rfl z
  | none =>
    refine core (fun b => if b = a then some (.frz { cls := .type "list", data := .seq vs.toArray } (.lst (ns.map V.int))) else none) (fun b => ?_) (.inl (.inr ⟨{ cls := .type "list", data := .seq vs.toArray }, if_pos rfl⟩)) (fun b u z => ?_) (fun b z => ?_) fun _ => hk
    · by_cases hb : b = a
      · exact .inr ⟨_, _, if_pos hb⟩
      · exact .inl (if_neg hb)
    · by_cases hb : b = a
      · have z' := (if_pos hb).symm.trans z
        cases z'
        subst hb
        exact ⟨ha, by rw [List.length_map]; exact hl, vs, _, rv, ha⟩
      · have z' := (if_neg hb).symm.trans z
        cases z'
    · by_cases hb : b = a
      · exact hb
      · exact absurd (if_neg hb) z
theorem walk_D {Z : Wld} {μ0 : Z.M} (hreg : ∀ a, ¬ Z.reg μ0 a) (hJ : ∀ S H, Z.J μ0 S H) {l : PySem.W.OpenLaw} {n k : Nat} {q : Program} {loose : List Str} {XP : (Str → Option Value) → Heap → Prop} {YP : World → Heap → Prop} {d : DefRec} {x : Str}
    (hn : l.most = some n) (hn2 : n ≤ sizeLine) (hdf : d.params.defaults = []) (hr : Room k callerA) (hin : importsNone q = true)
    (F : ∀ (w : World) (mg : Str → Option Value) (fa : Addr) (h : Heap), YP w h → h.Ns mainGlobals mg → mg d.name = some (.ref fa) →
      ∃ (K : PySem.W.Frag) (fd : FuncData) (sp : SpD Z), K.In h ∧ (∀ (s : Shared) (u : Value), BindsTo s fd ⟨[u], []⟩ [(x, u)]) ∧
        (∀ ns : List Int, ns.length ≤ n → (∀ z ∈ ns, Builtin.Int.intBits z ≤ 1048576) → sp [.scr ns] μ0 (fun d _ => d = .bl true) fun _ _ => False) ∧
        ∀ base : Heap, K.In base → base.Ns mainGlobals mg → (∃ mm, base.Ns sysModules mm) → FnG l.prog w K mg base k fa fd [x] (spOf K Z 1 sp)) :
    PySem.W.WalkO q loose XP YP l.row.toRowW d [] (fun f vs => PySem.call f vs) := by
  refine Att.attach_callB hn hdf fun w s₀ s₁ mg mb fa o pm cd doc a vs ns G Y ho hd hcd hmg hobj hints hlen hbits hg => ?_
  obtain ⟨K, fd, sp, KX, hb, hsp, hF⟩ := F w mg fa _ Y G.T.g hmg
  obtain ⟨mm, hmm, _⟩ := (G.T.seer hin).mods
  exact law_callD hreg hJ KX G.T.g G.T.b G.T.builtins G.T.nolimit hg ⟨mm, hmm⟩ hobj hints (Nat.le_trans hlen hn2) hr hF hb (hsp ns hlen hbits)
end DL
/-! text DLpot -/
/-! DL: the world of a pot: a dict of a list of great numbers, a list of all numbers, a count. -/
namespace DL
open PySem PySem.Spec PyProof.Rows L2
def PotAt (q : Addr × Addr × Addr) (H : Hp) : Prop := ∃ (deep all : List Int) (times : Int),
  H q.1 = some (.dK [(.inr "deep", .ref q.2.1), (.inr "all", .ref q.2.2), (.inr "times", .int times)]) ∧ H q.2.1 = some (.lst (deep.map V.int)) ∧ H q.2.2 = some (.lst (all.map V.int)) ∧
  deep.length ≤ 64 ∧ 0 < all.length ∧ all.length ≤ 64 ∧ q.2.1 ≠ q.2.2
def PotW : Wld where
  M := Option (Addr × Addr × Addr)
  reg := fun μ b => match μ with
    | none => False
    | some q => b = q.1 ∨ b = q.2.1 ∨ b = q.2.2
  J := fun μ _ H => match μ with
    | none => True
    | some q => PotAt q H
  held := fun {μ S H a} j r => by
    cases μ with
    | none => exact r.elim
    | some q =>
      obtain ⟨deep, all, times, h1, h2, h3, _⟩ := j
      rcases r with rfl | rfl | rfl
      · rw [h1]; simp
      · rw [h2]; simp
      · rw [h3]; simp
  loc := fun {μ S S' H H'} j _ e => by
    cases μ with
    | none => trivial
    | some q =>
      obtain ⟨deep, all, times, h1, h2, h3, h4⟩ := j
      exact ⟨deep, all, times, (e _ (.inl rfl)).trans h1, (e _ (.inr (.inl rfl))).trans h2, (e _ (.inr (.inr rfl))).trans h3, h4⟩
theorem pot_reg0 : ∀ a, ¬ PotW.reg none a := fun _ h => h
theorem pot_J0 : ∀ S H, PotW.J none S H := fun _ _ => trivial
/-- what a draw does to the heap -/
structure Dr (q : Addr × Addr × Addr) (H H' : Hp) : Prop where
  keep : ∀ a o, ¬ PotW.reg (some q) a → H a = some o → H' a = some o
  there : ∀ a, H a ≠ none → H' a ≠ none
theorem Dr.refl {q : Addr × Addr × Addr} {H : Hp} : Dr q H H := ⟨fun _ _ _ e => e, fun _ h => h⟩
theorem Dr.new {q : Addr × Addr × Addr} {H H' : Hp} {p : Addr} {o : HO} (d : Dr q H H') (n : H' p = none) : Dr q H (upd H' p o) :=
  ⟨fun a u nr e => by rw [upd_ne (ne_of_none (d.keep a u nr e) n)]; exact d.keep a u nr e, fun a h => by
    by_cases e : a = p
    · rw [e, upd_same]; simp
    · rw [upd_ne e]; exact d.there a h⟩
theorem Dr.upd {q : Addr × Addr × Addr} {H H' : Hp} {p : Addr} {o : HO} (d : Dr q H H') (r : PotW.reg (some q) p) : Dr q H (L2.upd H' p o) :=
  ⟨fun a u nr e => by rw [upd_ne (fun z => nr (by rw [z]; exact r))]; exact d.keep a u nr e, fun a h => by
    by_cases e : a = p
    · rw [e, upd_same]; simp
    · rw [upd_ne e]; exact d.there a h⟩
theorem Dr.ext {q : Addr × Addr × Addr} {S H H' : Hp} (d : Dr q H H') (ok : Ok PotW (some q) S H) (j : PotAt q H') : Ext PotW (some q) S H (some q) S H' where
  ok := ⟨fun a u e => d.keep a u (fun r => by rw [ok.off a r] at e; cases e) (ok.sub a u e), j, ok.off, ok.nt⟩
  keep := fun a o n _ e => d.keep a o n e
  same := Same.refl S
  new := fun a h => .inl h
  reg := fun a h => .inl h
  there := fun a f => Fr.of fun o e nt => by
    by_cases r : PotW.reg (some q) a
    · obtain ⟨deep, all, times, h1, h2, h3, _⟩ := j
      have key : ∀ {u : HO}, H' a = some u → NT u → False := fun e nt => f.nt e nt
      rcases r with r | r | r
      · rw [r] at key; exact key h1 (fun _ h => by cases h)
      · rw [r] at key; exact key h2 (fun _ h => by cases h)
      · rw [r] at key; exact key h3 (fun _ h => by cases h)
    · exact f.nt (d.keep a o r e) nt
theorem canLay_ints : ∀ ns : List Int, PyData.canLayAll0 (ns.map PyData.int) = true
  | [] => rfl
  | n :: ns => by simp only [List.map_cons, PyData.canLayAll0, PyData.canLay0, canLay_ints ns, Bool.and_self]
theorem depth_ints : ∀ ns : List Int, PyData.depthAll (ns.map PyData.int) = 0
  | [] => rfl
  | n :: ns => by simp only [List.map_cons, PyData.depthAll, PyData.depth, depth_ints ns, Nat.max_self]
theorem shaped_ints (ns : List Int) : SeqAt.shaped (.list (ns.map PyData.int)) = true := by
  unfold SeqAt.shaped
  simp only [PyData.canLay0, canLay_ints, PyData.depth, depth_ints]
  decide
/-- the pot is drawn from -/
def sp_draw : SpD PotW := fun ds μ R _ => ∃ q many, ds = [.op (.ref q.1), .int many] ∧ μ = some q ∧ 0 < many ∧ many < 2 ^ 64 ∧ ∀ m : Int, 0 ≤ m → m < many → R (.int m) (some q)
/-- the pot is made -/
def sp_opened : SpD PotW := fun ds μ R _ => ∃ ns, ds = [.scr ns] ∧ ns.length ≤ 63 ∧ μ = none ∧ ∀ q : Addr × Addr × Addr, R (.op (.ref q.1)) (some q)
theorem ints_inv {K : PySem.W.Frag} {rg : Addr → Prop} {S H : Hp} : ∀ {ns : List Int} {vs : List V}, RdL K rg S H (ns.map .int) vs → vs = ns.map V.int
  | [], vs, h => h
  | n :: ns, vs, h => by
    obtain ⟨v, r, rfl, h1, h2⟩ := h
    cases h1
    rw [ints_inv h2]
    rfl
def dsRetPot (t1 t2 : DTA PotW) : DTS PotW := fun B ρ μ => t1 ρ μ (fun ds1 μ1 => t2 ρ μ1 (fun ds2 μ2 => μ2 = none ∧ ∃ deep all : List Int, ds1 = deep.map D.int ∧ ds2 = all.map D.int ∧ deep.length ≤ 64 ∧ 0 < all.length ∧ all.length ≤ 64 ∧ ∀ q : Addr × Addr × Addr, B.rt (.op (.ref q.1)) (some q)) fun x μ' => B.ex x ρ μ') fun x μ' => B.ex x ρ μ'
/-- return {'deep': .., 'all': .., 'times': 0} -/
theorem ds_retPot {F : Fm} {W : WX} {e1 e2 : Expr} {t1 t2 : DTA PotW} {j1 j2 j3 j4 : Nat} {p1 p2 p3 p4 pos pos' : Pos} (h1 : DF PotW F W e1 t1) (h2 : DF PotW F W e2 t2) :
    DS PotW F W (.Return (some (.Dict [some (.Constant (.str "deep") j1 p1), some (.Constant (.str "all") j2 p2), some (.Constant (.str "times") j3 p3)] [e1, e2, .Constant (.int 0) j4 p4] pos)) pos') (dsRetPot t1 t2) := by
  obtain ⟨te1, pp1, h1⟩ := h1
  obtain ⟨te2, pp2, h2⟩ := h2
  refine ⟨_, fun i => ps_ret (pe_disp (pps_cons pe_str (pp1 i) (pps_cons pe_str (pp2 i) (pps_cons pe_str pe_int pps_nil))) rfl rfl (by simp) (by show 3 ≤ 15; decide)), fun μ0 S0 H0 ρ σ μ S H B L r ht k => fun p hp => ?_⟩
  have x0 := r.ok.putOwn (o := .dK []) hp
  have nr : ¬ PotW.reg μ p := fun z => PotW.held r.ok.j z hp
  have ek := k.wish r
  refine h1 H0 ρ σ μ S (upd H p (.dK [])) _ _ _ (r.env.ext x0) x0.ok ht (ek.ext x0) fun l vs1 ds1 μ1 S1 H1 x1 n1 l1 s1 f1 r1 ht2 => ?_
  have x01 := x0.trans x1
  refine h2 H0 ρ σ μ1 S1 H1 _ _ _ (r.env.ext x01) x1.ok ht2 (ek.ext x01) fun a vs2 ds2 μ2 S2 H2 x2 n2 l2 s2 f2 r2 ht3 => ?_
  obtain ⟨rfl, deep, all, rfl, rfl, hd, ha0, ha, hR⟩ := ht3
  have x02 := x01.trans x2
  have xx := r.ext.trans x02
  have e1p : (upd H p (.dK [])) p = some (.dK []) := upd_same
  have e2p : H2 p = some (.dK []) := (x1.trans x2).keep p _ nr (fun _ h => by cases h) e1p
  have lk2 := x2.lst l vs1 f1 l1
  have sp : S2 p = none := by
    cases z : S2 p with
    | none => rfl
    | some o =>
      rcases (x1.trans x2).new p (by rw [z]; simp) with y | y
      · cases e : S p with
        | none => exact absurd e y
        | some o' => have z2 := r.ok.sub p _ e; rw [hp] at z2; cases z2
      · exact y.nt e1p
  have sl : S2 l = none := by
    cases z : S2 l with
    | none => rfl
    | some o =>
      rcases x2.new l (by rw [z]; simp) with y | y
      · exact absurd s1 y
      · exact y.nt l1
  have q1 := ints_inv r1
  have q2 := ints_inv r2
  subst q1 q2
  have nl : l ≠ p := fun z => by rw [z, e2p] at lk2; cases lk2.2
  have na : a ≠ p := fun z => by rw [z, e2p] at l2; cases l2
  have nla : l ≠ a := fun z => by rw [z] at l1; exact n2.nt l1
  have b0 : Fr H0 p := r.ext.there p (.inl hp)
  have b1 : Fr H0 l := Classical.byContradiction fun w => f1 (.inr w)
  have b2 : Fr H0 a := Classical.byContradiction fun w => f2 (.inr w)
  refine ⟨e2p, [(.inr "deep", .ref l), (.inr "all", .ref a), (.inr "times", .int 0)], rfl, by show 3 ≤ 15; decide, ?_⟩
  show L.rt (.ref p) (upd H2 p (.dK [(.inr "deep", .ref l), (.inr "all", .ref a), (.inr "times", .int 0)]))
  have J : PotAt (p, l, a) (upd H2 p (.dK [(.inr "deep", .ref l), (.inr "all", .ref a), (.inr "times", .int 0)])) :=
    ⟨deep, all, 0, upd_same, (upd_ne nl).trans lk2.2, (upd_ne na).trans l2, hd, ha0, ha, nla⟩
  have ntS := x2.ok.nt
  have fin : Ext PotW μ0 S0 H0 (some (p, l, a)) S2 (upd H2 p (.dK [(.inr "deep", .ref l), (.inr "all", .ref a), (.inr "times", .int 0)])) := by
    refine ⟨⟨fun b o e => ?_, J, fun b hb => ?_, ntS⟩, fun b o nb nt e => ?_, xx.same, xx.new, fun b hb => ?_, fun b hb => ?_⟩
    · rw [upd_ne (fun z => by rw [z, sp] at e; cases e)]
      exact x2.ok.sub b o e
    · rcases hb with rfl | rfl | rfl
      · exact sp
      · exact sl
      · exact s2
    · rw [upd_ne (fun z => by rw [z] at e; exact b0.nt e nt)]
      exact xx.keep b o nb nt e
    · rcases hb with rfl | rfl | rfl
      · exact .inr b0
      · exact .inr b1
      · exact .inr b2
    · by_cases z : b = p
      · rw [z]; exact b0
      · rw [Fr, upd_ne z] at hb; exact xx.there b hb
  exact k.rt (.ref p) (.op (.ref p)) _ _ _ fin rfl rfl (hR (p, l, a))
end DL
/-! text DLn -/
/-! DL: laws of readings: loops, comprehensions; tame data. -/
namespace DL
open PySem PySem.Spec PyProof.Rows L2
section
variable {Z : Wld} {g : DG} {tb : DTS Z} {B : EndsD Z}
theorem loop_inv (I : List D → Rho → Z.M → Prop) (hs : ∀ d ds ρ μ N, I (d :: ds) ρ μ → (∀ ρ' μ', I ds ρ' μ' → N ρ' μ') → g d ρ fun ρ' => tb { B with nx := N, ct := N, bk := B.nx } ρ' μ) (he : ∀ ρ μ, I [] ρ μ → B.nx ρ μ) :
    ∀ {ds ρ μ}, I ds ρ μ → loopD g tb B ds ρ μ
  | [], ρ, μ, h => he ρ μ h
  | d :: ds, ρ, μ, h => hs d ds ρ μ _ h fun ρ' μ' h' => loop_inv I hs he h'
theorem while_inv {c : DTT Z} (I : Rho → Z.M → Prop) (m : Rho → Z.M → Nat) (hs : ∀ ρ μ N, I ρ μ → (∀ ρ' μ', I ρ' μ' → m ρ' μ' < m ρ μ → N ρ' μ') → c ρ μ (fun b μ' => if b = true then tb { B with nx := N, ct := N, bk := B.nx } ρ μ' else B.nx ρ μ') fun x μ' => B.ex x ρ μ') :
    ∀ {ρ μ}, I ρ μ → dsWhile c tb B ρ μ := by
  have go : ∀ n ρ μ, I ρ μ → m ρ μ < n → whileD c tb B n ρ μ := by
    intro n
    induction n with
    | zero => intro ρ μ _ h; omega
    | succ n ih =>
      intro ρ μ h lt
      exact hs ρ μ _ h fun ρ' μ' h' l' => ih ρ' μ' h' (by omega)
  intro ρ μ h
  exact ⟨m ρ μ + 1, go _ ρ μ h (by omega)⟩
theorem comp_map {tt : DTT Z} {te : DT Z} {R : List D → Z.M → Prop} {E : Xc → Z.M → Prop} {ρ : Rho} {μ : Z.M} (f : D → Option D) : ∀ {ds acc : List D},
    (∀ d ∈ ds, ∀ (k : D → Z.M → Prop) (k' : Z.M → Prop), (match f d with | some y => k y μ | none => k' μ) → g d ρ fun ρ' => tt ρ' μ (fun b μ' => if b = true then te ρ' μ' k (fun _ _ => False) else k' μ') fun _ _ => False) →
    (∀ d ∈ ds, ∀ y, f d = some y → sta y = true) → acc.length + ds.length ≤ sizeLine → R (acc ++ ds.filterMap f) μ → compD g tt te R E ρ ds acc μ
  | [], acc, _, _, _, h => by simpa [compD] using h
  | d :: ds, acc, hs, ht, hl, h => by
    refine hs d (List.mem_cons_self ..) _ _ ?_
    rw [List.length_cons] at hl
    rw [List.filterMap_cons] at h
    have hs' := fun x hx => hs x (List.mem_cons_of_mem _ hx)
    have ht' := fun x hx => ht x (List.mem_cons_of_mem _ hx)
    split
    · rename_i y e
      rw [e] at h
      refine ⟨ht d (List.mem_cons_self ..) y e, by omega, comp_map f hs' ht' (by rw [List.length_append, List.length_singleton]; omega) (by simpa using h)⟩
    · rename_i e
      rw [e] at h
      exact comp_map f hs' ht' (by omega) h
theorem comp_good {tt : DTT Z} {te : DT Z} {R : List D → Z.M → Prop} {E : Xc → Z.M → Prop} {ρ : Rho} {μ : Z.M} (G : D → Prop) (hG : ∀ y, G y → sta y = true) : ∀ {ds acc : List D},
    (∀ d ∈ ds, ∀ (k : D → Z.M → Prop) (k' : Z.M → Prop), (∀ y, G y → k y μ) → k' μ → g d ρ fun ρ' => tt ρ' μ (fun b μ' => if b = true then te ρ' μ' k (fun _ _ => False) else k' μ') fun _ _ => False) →
    acc.length + ds.length ≤ sizeLine → (∀ ys, (∀ y ∈ ys, G y) → ys.length ≤ ds.length → R (acc ++ ys) μ) → compD g tt te R E ρ ds acc μ
  | [], acc, _, _, h => by simpa [compD] using h [] (by simp) (by simp)
  | d :: ds, acc, hs, hl, h => by
    rw [List.length_cons] at hl
    have hs' := fun x hx => hs x (List.mem_cons_of_mem _ hx)
    refine hs d (List.mem_cons_self ..) _ _ (fun y hy => ⟨hG y hy, by omega, comp_good G hG hs' (by rw [List.length_append, List.length_singleton]; omega) fun ys hys hly => ?_⟩) (comp_good G hG hs' (by omega) fun ys hys hly => h ys hys (by simp; omega))
    rw [List.append_assoc]
    exact h ([y] ++ ys) (by simpa using ⟨hy, hys⟩) (by simp; omega)
end
/-! ### tame data: no opaque values, numbers and texts of a bounded length -/
mutual
def tame : D → Bool
  | .non => true | .bl _ => true
  | .int i => decide (i.natAbs < 2 ^ 200)
  | .str s => decide (s.length ≤ 64) && s.cps.toList.all fun c => decide (c < 16 ^ 8)
  | .tup xs => tameL xs
  | .lst xs => tameL xs
  | .dct kvs => tameK kvs
  | .vw _ => false | .op _ => false | .fn _ => false | .scr _ => false
def tameL : List D → Bool
  | [] => true
  | d :: ds => tame d && tameL ds
def tameK : List (Key × D) → Bool
  | [] => true
  | (.inl i, d) :: ds => decide (i.natAbs < 2 ^ 200) && (tame d && tameK ds)
  | (.inr s, d) :: ds => (decide (s.length ≤ 64) && s.cps.toList.all fun c => decide (c < 16 ^ 8)) && (tame d && tameK ds)
end
mutual
def nodes : D → Nat
  | .tup xs => 1 + nodesL xs
  | .lst xs => 1 + nodesL xs
  | .dct kvs => 1 + nodesK kvs
  | .non => 1 | .bl _ => 1 | .int _ => 1 | .str _ => 1 | .vw _ => 1 | .op _ => 1 | .fn _ => 1 | .scr _ => 1
def nodesL : List D → Nat
  | [] => 0
  | d :: ds => nodes d + nodesL ds
def nodesK : List (Key × D) → Nat
  | [] => 0
  | (_, d) :: ds => 1 + nodes d + nodesK ds
end
mutual
def dep : D → Nat
  | .tup xs => depL xs + 1
  | .lst xs => depL xs + 1
  | .dct kvs => depK kvs + 1
  | .non => 0 | .bl _ => 0 | .int _ => 0 | .str _ => 0 | .vw _ => 0 | .op _ => 0 | .fn _ => 0 | .scr _ => 0
def depL : List D → Nat
  | [] => 0
  | d :: ds => max (dep d) (depL ds)
def depK : List (Key × D) → Nat
  | [] => 0
  | (_, d) :: ds => max (dep d) (depK ds)
end
mutual
theorem tame_sta : ∀ d : D, tame d = true → sta d = true
  | .tup xs, h => by simp only [tame] at h; simp only [sta]; exact tameL_sta xs h
  | .lst xs, h => by simp only [tame] at h; simp only [sta]; exact tameL_sta xs h
  | .dct kvs, h => by simp only [tame] at h; simp only [sta]; exact tameK_sta kvs h
  | .non, _ => rfl | .bl _, _ => rfl | .int _, _ => rfl | .str _, _ => rfl
  | .vw _, h => by simp [tame] at h
  | .op _, h => by simp [tame] at h
  | .fn _, h => by simp [tame] at h
  | .scr _, h => by simp [tame] at h
theorem tameL_sta : ∀ ds : List D, tameL ds = true → staL ds = true
  | [], _ => rfl
  | d :: ds, h => by
    simp only [tameL, Bool.and_eq_true] at h
    simp only [staL, tame_sta d h.1, tameL_sta ds h.2, Bool.and_self]
theorem tameK_sta : ∀ ds : List (Key × D), tameK ds = true → staK ds = true
  | [], _ => rfl
  | (.inl i, d) :: ds, h => by
    simp only [tameK, Bool.and_eq_true] at h
    simp only [staK, tame_sta d h.2.1, tameK_sta ds h.2.2, Bool.and_self]
  | (.inr s, d) :: ds, h => by
    simp only [tameK, Bool.and_eq_true] at h
    simp only [staK, tame_sta d h.2.1, tameK_sta ds h.2.2, Bool.and_self]
end
mutual
theorem tame_sh : ∀ d : D, tame d = true → shD d = true
  | .tup xs, h => by simp only [tame] at h; simp only [shD]; exact tameL_sh xs h
  | .lst xs, h => by simp only [tame] at h; simp only [shD]; exact tameL_sh xs h
  | .dct kvs, h => by simp only [tame] at h; simp only [shD]; exact tameK_sh kvs h
  | .non, _ => rfl | .bl _, _ => rfl | .int _, _ => rfl | .str _, _ => rfl
  | .vw _, h => by simp [tame] at h
  | .op _, h => by simp [tame] at h
  | .fn _, h => by simp [tame] at h
  | .scr _, h => by simp [tame] at h
theorem tameL_sh : ∀ ds : List D, tameL ds = true → shL ds = true
  | [], _ => rfl
  | d :: ds, h => by
    simp only [tameL, Bool.and_eq_true] at h
    simp only [shL, tame_sh d h.1, tameL_sh ds h.2, Bool.and_self]
theorem tameK_sh : ∀ ds : List (Key × D), tameK ds = true → shK ds = true
  | [], _ => rfl
  | (.inl i, d) :: ds, h => by
    simp only [tameK, Bool.and_eq_true] at h
    simp only [shK, tame_sh d h.2.1, tameK_sh ds h.2.2, Bool.and_self]
  | (.inr s, d) :: ds, h => by
    simp only [tameK, Bool.and_eq_true] at h
    simp only [shK, tame_sh d h.2.1, tameK_sh ds h.2.2, Bool.and_self]
end
theorem log_lt {i : Int} (h : i.natAbs < 2 ^ 200) : i.natAbs.log2 < 1920 := by
  by_cases h0 : i.natAbs = 0
  · rw [h0]; decide
  · have := (Nat.log2_lt h0).mpr h
    omega
mutual
theorem tame_show : ∀ d : D, tame d = true → (pyD d).showable = true
  | .tup xs, h => by simp only [tame] at h; simp only [pyD, PyData.showable]; exact tameL_show xs h
  | .lst xs, h => by simp only [tame] at h; simp only [pyD, PyData.showable]; exact tameL_show xs h
  | .dct kvs, h => by simp only [tame] at h; simp only [pyD, PyData.showable]; exact tameK_show kvs h
  | .non, _ => rfl | .bl _, _ => rfl | .str _, _ => rfl
  | .int i, h => by
    simp only [tame, decide_eq_true_eq] at h
    simp only [pyD, PyData.showable, decide_eq_true_eq]
    exact log_lt h
  | .vw _, h => by simp [tame] at h
  | .op _, h => by simp [tame] at h
  | .fn _, h => by simp [tame] at h
  | .scr _, h => by simp [tame] at h
theorem tameL_show : ∀ ds : List D, tameL ds = true → PyData.showableAll (pyL ds) = true
  | [], _ => rfl
  | d :: ds, h => by
    simp only [tameL, Bool.and_eq_true] at h
    simp only [pyL, PyData.showableAll, tame_show d h.1, tameL_show ds h.2, Bool.and_self]
theorem tameK_show : ∀ ds : List (Key × D), tameK ds = true → PyData.showableKv (pyK ds) = true
  | [], _ => rfl
  | (.inl i, d) :: ds, h => by
    simp only [tameK, Bool.and_eq_true, decide_eq_true_eq] at h
    simp only [pyK, PyData.showableKv, PyData.showable, tame_show d h.2.1, tameK_show ds h.2.2, Bool.and_true, Bool.true_and, decide_eq_true_eq]
    exact log_lt h.1
  | (.inr s, d) :: ds, h => by
    simp only [tameK, Bool.and_eq_true] at h
    simp only [pyK, PyData.showableKv, PyData.showable, tame_show d h.2.1, tameK_show ds h.2.2, Bool.and_self]
end
mutual
theorem dep_py : ∀ d : D, tame d = true → (pyD d).depth = dep d
  | .tup xs, h => by simp only [tame] at h; simp only [pyD, PyData.depth, dep, depL_py xs h]
  | .lst xs, h => by simp only [tame] at h; simp only [pyD, PyData.depth, dep, depL_py xs h]
  | .dct kvs, h => by simp only [tame] at h; simp only [pyD, PyData.depth, dep, depK_py kvs h]
  | .non, _ => rfl | .bl _, _ => rfl | .int _, _ => rfl | .str _, _ => rfl
  | .vw _, h => by simp [tame] at h
  | .op _, h => by simp [tame] at h
  | .fn _, h => by simp [tame] at h
  | .scr _, h => by simp [tame] at h
theorem depL_py : ∀ ds : List D, tameL ds = true → PyData.depthAll (pyL ds) = depL ds
  | [], _ => rfl
  | d :: ds, h => by
    simp only [tameL, Bool.and_eq_true] at h
    simp only [pyL, PyData.depthAll, depL, dep_py d h.1, depL_py ds h.2]
theorem depK_py : ∀ ds : List (Key × D), tameK ds = true → PyData.depthKv (pyK ds) = depK ds
  | [], _ => rfl
  | (.inl i, d) :: ds, h => by
    simp only [tameK, Bool.and_eq_true] at h
    simp only [pyK, PyData.depthKv, PyData.depth, depK, dep_py d h.2.1, depK_py ds h.2.2, Nat.zero_max]
  | (.inr s, d) :: ds, h => by
    simp only [tameK, Bool.and_eq_true] at h
    simp only [pyK, PyData.depthKv, PyData.depth, depK, dep_py d h.2.1, depK_py ds h.2.2, Nat.zero_max]
end
/-! lengths of what is shown -/
theorem listText_le (ts : List Str) : (listText ts).length ≤ 2 + piled ts := by
  cases ts with
  | nil => rw [listText_nil]; decide
  | cons t r =>
    have h := textFrom_length_pos r 1 (("[" : Str) ++ (if (0 : Nat) > 0 then ", " else "" : String) ++ t) (Nat.succ_pos 0)
    have e : ((("[" : Str) ++ (if (0 : Nat) > 0 then ", " else "" : String) ++ t)).length = 1 + t.length := by
      rw [strLen_append, strLen_append]; rfl
    have hX : (listText (t :: r)).length = (textFrom 0 "[" (t :: r)).length + 1 := by
      show (textFrom 0 "[" (t :: r) ++ "]").length = _
      rw [strLen_append]; rfl
    have hY : (textFrom 0 "[" (t :: r)).length = (textFrom 1 (("[" : Str) ++ (if (0 : Nat) > 0 then ", " else "" : String) ++ t) r).length := rfl
    rw [hX, hY, h, e, piled_cons]; omega
theorem join_le (ts : List Str) : (Str.join ", " ts).length ≤ piled ts := by
  by_cases h : ts = []
  · subst h; exact Nat.le_refl _
  · have := join_length_add ts h; omega
theorem tupleText_le (ts : List Str) : (tupleText ts).length ≤ 3 + piled ts := by
  unfold tupleText
  rw [strLen_append, strLen_append]
  have e1 : ((("(" : String) : Str)).length = 1 := rfl
  have e3 : (((if ts.length == 1 then ",)" else ")" : String) : Str)).length ≤ 2 := by split <;> decide
  have := join_le ts
  omega
theorem dictText_le (ps : List Str) : (dictText ps).length ≤ 2 + piled ps := by
  have e : (dictText ps).length = 1 + (Str.join ", " ps).length + 1 := by
    unfold dictText
    rw [strLen_append, strLen_append]; rfl
  have := join_le ps
  omega
theorem int_shown {i : Int} (h : i.natAbs < 2 ^ 200) : (PyData.int i).shown.length ≤ 201 := by
  have e : (PyData.int i).shown = Str.ofString (toString i) := rfl
  rw [e, PySem.ofString_length]
  refine int_text_length_le (by decide) ?_
  by_cases h0 : i.natAbs = 0
  · rw [h0]; decide
  · exact (Nat.log2_lt h0).mpr h
theorem str_shown {s : Str} (h : (decide (s.length ≤ 64) && s.cps.toList.all fun c => decide (c < 16 ^ 8)) = true) : (PyData.str s).shown.length ≤ 642 := by
  simp only [Bool.and_eq_true, decide_eq_true_eq, List.all_eq_true] at h
  have := StrLaws.reprText_len s h.2
  have e : (PyData.str s).shown = reprText s := rfl
  rw [e]
  omega
mutual
theorem shown_le : ∀ d : D, tame d = true → (pyD d).shown.length + 4 ≤ 2000 * nodes d
  | .tup xs, h => by
    simp only [tame] at h
    have := shownL_le xs h
    have := tupleText_le (PyData.shownAll (pyL xs))
    simp only [pyD, PyData.shown, nodes]
    omega
  | .lst xs, h => by
    simp only [tame] at h
    have := shownL_le xs h
    have := listText_le (PyData.shownAll (pyL xs))
    simp only [pyD, PyData.shown, nodes]
    omega
  | .dct kvs, h => by
    simp only [tame] at h
    have := shownK_le kvs h
    have := dictText_le (PyData.shownKv (pyK kvs))
    simp only [pyD, PyData.shown, nodes]
    omega
  | .non, _ => by decide
  | .bl b, _ => by cases b <;> decide
  | .int i, h => by
    simp only [tame, decide_eq_true_eq] at h
    have := int_shown h
    simp only [pyD, nodes]
    omega
  | .str s, h => by
    simp only [tame] at h
    have := str_shown h
    simp only [pyD, nodes]
    omega
  | .vw _, h => by simp [tame] at h
  | .op _, h => by simp [tame] at h
  | .fn _, h => by simp [tame] at h
  | .scr _, h => by simp [tame] at h
theorem shownL_le : ∀ ds : List D, tameL ds = true → piled (PyData.shownAll (pyL ds)) ≤ 2000 * nodesL ds
  | [], _ => Nat.le_refl _
  | d :: ds, h => by
    simp only [tameL, Bool.and_eq_true] at h
    have := shown_le d h.1
    have := shownL_le ds h.2
    simp only [pyL, PyData.shownAll, piled_cons, nodesL]
    omega
theorem shownK_le : ∀ ds : List (Key × D), tameK ds = true → piled (PyData.shownKv (pyK ds)) ≤ 2000 * nodesK ds
  | [], _ => Nat.le_refl _
  | (.inl i, d) :: ds, h => by
    simp only [tameK, Bool.and_eq_true, decide_eq_true_eq] at h
    have := shown_le d h.2.1
    have := shownK_le ds h.2.2
    have := int_shown h.1
    have e2 : ((": " : String) : Str).length = 2 := rfl
    simp only [pyK, PyData.shownKv, piled_cons, nodesK, strLen_append, e2]
    omega
  | (.inr s, d) :: ds, h => by
    simp only [tameK] at h
    obtain ⟨h1, h2⟩ := Bool.and_eq_true_iff.mp h
    obtain ⟨h3, h4⟩ := Bool.and_eq_true_iff.mp h2
    have := shown_le d h3
    have := shownK_le ds h4
    have := str_shown h1
    have e2 : ((": " : String) : Str).length = 2 := rfl
    simp only [pyK, PyData.shownKv, piled_cons, nodesK, strLen_append, e2]
    omega
end
/-! lists of tame data -/
theorem tameL_append : ∀ {as bs : List D}, tameL (as ++ bs) = (tameL as && tameL bs)
  | [], _ => rfl
  | a :: as, bs => by simp only [List.cons_append, tameL, tameL_append, Bool.and_assoc]
theorem tameL_all : ∀ {as : List D}, tameL as = true ↔ ∀ a ∈ as, tame a = true
  | [] => by simp [tameL]
  | a :: as => by simp [tameL, tameL_all]
theorem tameL_sub {as bs : List D} (h : tameL as = true) (s : ∀ b ∈ bs, b ∈ as) : tameL bs = true := tameL_all.mpr fun b hb => tameL_all.mp h b (s b hb)
theorem nodesL_append : ∀ {as bs : List D}, nodesL (as ++ bs) = nodesL as + nodesL bs
  | [], _ => by simp [nodesL]
  | a :: as, bs => by simp only [List.cons_append, nodesL, nodesL_append, Nat.add_assoc]
theorem nodesL_take : ∀ (n : Nat) (as : List D), nodesL (as.take n) ≤ nodesL as
  | 0, as => by simp [nodesL]
  | n + 1, [] => by simp
  | n + 1, a :: as => by simp only [List.take_succ_cons, nodesL]; have := nodesL_take n as; omega
theorem nodesL_drop : ∀ (n : Nat) (as : List D), nodesL (as.drop n) ≤ nodesL as
  | 0, as => by simp
  | n + 1, [] => by simp
  | n + 1, a :: as => by simp only [List.drop_succ_cons, nodesL]; have := nodesL_drop n as; omega
theorem nodesL_reverse : ∀ (as : List D), nodesL as.reverse = nodesL as
  | [] => rfl
  | a :: as => by rw [List.reverse_cons, nodesL_append, nodesL_reverse as]; simp only [nodesL]; omega
theorem nodesL_mem : ∀ {as : List D} {a : D}, a ∈ as → nodes a ≤ nodesL as
  | b :: as, a, h => by
    simp only [nodesL]
    rcases List.mem_cons.mp h with e | e
    · subst e; omega
    · have := nodesL_mem e; omega
theorem depL_le {n : Nat} : ∀ {as : List D}, depL as ≤ n ↔ ∀ a ∈ as, dep a ≤ n
  | [] => by simp [depL]
  | a :: as => by simp [depL, depL_le, Nat.max_le]
theorem nodesL_le {n : Nat} : ∀ {as : List D}, (∀ a ∈ as, nodes a ≤ n) → nodesL as ≤ as.length * n
  | [], _ => by simp [nodesL]
  | a :: as, h => by
    have h1 := h a (List.mem_cons_self ..)
    have h2 := nodesL_le (as := as) fun b hb => h b (List.mem_cons_of_mem _ hb)
    simp only [nodesL, List.length_cons, Nat.add_mul, Nat.one_mul]
    omega
theorem len_nodes : ∀ (as : List D), as.length ≤ nodesL as
  | [] => Nat.le_refl _
  | a :: as => by
    have := len_nodes as
    have : 1 ≤ nodes a := by cases a <;> simp only [nodes] <;> omega
    simp only [nodesL, List.length_cons]
    omega
/-- tame, of at most n nodes, at most k deep -/
structure Tm (n k : Nat) (d : D) : Prop where
  t : tame d = true
  n : nodes d ≤ n
  k : dep d ≤ k
structure TmL (n k : Nat) (ds : List D) : Prop where
  t : tameL ds = true
  n : nodesL ds ≤ n
  k : depL ds ≤ k
/-- what repr asks -/
theorem show_of {n k : Nat} {d : D} {R : D → Prop} (h : Tm n k d) (hn : n ≤ 8000) (hk : k ≤ 60) (q : R (.str (pyD d).shown)) : smShow [d] R :=
  ⟨d, rfl, tame_sh d h.t, tame_show d h.t, by rw [dep_py d h.t]; have := h.k; omega, by have := shown_le d h.t; have := h.n; have e : sizeLine = 16777216 := rfl; omega, q⟩
theorem TmL.cons {n m k : Nat} {d : D} {ds : List D} (h : Tm n k d) (g : TmL m k ds) : TmL (n + m) k (d :: ds) :=
  ⟨by simp only [tameL, h.t, g.t, Bool.and_self], by simp only [nodesL]; have := h.n; have := g.n; omega, by simp only [depL]; exact Nat.max_le.mpr ⟨h.k, g.k⟩⟩
theorem TmL.nil {n k : Nat} : TmL n k [] := ⟨rfl, by simp [nodesL], by simp [depL]⟩
theorem TmL.append {n m k : Nat} {as bs : List D} (h : TmL n k as) (g : TmL m k bs) : TmL (n + m) k (as ++ bs) :=
  ⟨by rw [tameL_append, h.t, g.t]; rfl, by rw [nodesL_append]; have := h.n; have := g.n; omega, depL_le.mpr fun a ha => (List.mem_append.mp ha).elim (depL_le.mp h.k a) (depL_le.mp g.k a)⟩
theorem TmL.take {n k : Nat} {as : List D} (h : TmL n k as) (i : Nat) : TmL n k (as.take i) :=
  ⟨tameL_sub h.t fun b hb => List.mem_of_mem_take hb, Nat.le_trans (nodesL_take i as) h.n, depL_le.mpr fun a ha => depL_le.mp h.k a (List.mem_of_mem_take ha)⟩
theorem TmL.drop {n k : Nat} {as : List D} (h : TmL n k as) (i : Nat) : TmL n k (as.drop i) :=
  ⟨tameL_sub h.t fun b hb => List.mem_of_mem_drop hb, Nat.le_trans (nodesL_drop i as) h.n, depL_le.mpr fun a ha => depL_le.mp h.k a (List.mem_of_mem_drop ha)⟩
theorem TmL.reverse {n k : Nat} {as : List D} (h : TmL n k as) : TmL n k as.reverse :=
  ⟨tameL_sub h.t fun b hb => List.mem_reverse.mp hb, by rw [nodesL_reverse]; exact h.n, depL_le.mpr fun a ha => depL_le.mp h.k a (List.mem_reverse.mp ha)⟩
theorem TmL.mem {n k : Nat} {as : List D} {a : D} (h : TmL n k as) (m : a ∈ as) : Tm n k a := ⟨tameL_all.mp h.t a m, Nat.le_trans (nodesL_mem m) h.n, depL_le.mp h.k a m⟩
theorem TmL.mono {n k n' k' : Nat} {as : List D} (h : TmL n k as) (hn : n ≤ n') (hk : k ≤ k') : TmL n' k' as := ⟨h.t, Nat.le_trans h.n hn, Nat.le_trans h.k hk⟩
theorem Tm.mono {n k n' k' : Nat} {a : D} (h : Tm n k a) (hn : n ≤ n') (hk : k ≤ k') : Tm n' k' a := ⟨h.t, Nat.le_trans h.n hn, Nat.le_trans h.k hk⟩
theorem TmL.tup {n k : Nat} {as : List D} (h : TmL n k as) : Tm (n + 1) (k + 1) (.tup as) := ⟨h.t, by simp only [nodes]; have := h.n; omega, by simp only [dep]; have := h.k; omega⟩
theorem TmL.lst {n k : Nat} {as : List D} (h : TmL n k as) : Tm (n + 1) (k + 1) (.lst as) := ⟨h.t, by simp only [nodes]; have := h.n; omega, by simp only [dep]; have := h.k; omega⟩
theorem Tm.tupL {n k : Nat} {as : List D} (h : Tm n k (.tup as)) : TmL n k as := ⟨h.t, by have := h.n; simp only [nodes] at this; omega, by have := h.k; simp only [dep] at this; omega⟩
theorem Tm.lstL {n k : Nat} {as : List D} (h : Tm n k (.lst as)) : TmL n k as := ⟨h.t, by have := h.n; simp only [nodes] at this; omega, by have := h.k; simp only [dep] at this; omega⟩
theorem Tm.int {i : Int} (h : i.natAbs < 2 ^ 200) : Tm 1 0 (.int i) := ⟨by simp [tame, h], Nat.le_refl _, Nat.le_refl _⟩
theorem TmL.len {n k : Nat} {as : List D} (h : TmL n k as) : as.length ≤ n := Nat.le_trans (len_nodes as) h.n
end DL
/-! text DLo -/
/-! DL: readings opened. -/
namespace DL
open PySem PySem.Spec PyProof.Rows L2
def dIsI : D → Bool
  | .int _ => true | .bl _ => true | _ => false
def dIsB : D → Bool
  | .bl _ => true | _ => false
def dIsS : D → Bool
  | .str _ => true | _ => false
def dIsT : D → Bool
  | .tup _ => true | _ => false
def dIsL : D → Bool
  | .lst _ => true | .vw _ => true | .scr _ => true | _ => false
def dIsD : D → Bool
  | .dct _ => true | _ => false
def hasTy (d : D) : Bool := (tyD d).isSome
theorem tame_ty {d : D} (h : tame d = true) : hasTy d = true := by cases d <;> first | rfl | simp [tame] at h
section
variable {R : D → Prop}
theorem q_isi {d : D} {C : String} : smIsi [d, .op (.ty C)] R ↔ (C ∈ ["int", "bool", "str", "tuple", "list", "dict"] ∧ ∃ T, tyD d = some T ∧ R (.bl (isTy T C))) := by
  constructor
  · rintro ⟨d', C', T, e, h1, h2, h3⟩
    simp only [List.cons.injEq, D.op.injEq, V.ty.injEq, and_true] at e
    obtain ⟨rfl, rfl⟩ := e
    exact ⟨h1, T, h2, h3⟩
  · rintro ⟨h1, T, h2, h3⟩
    exact ⟨d, C, T, rfl, h1, h2, h3⟩
theorem q_isi_of {d : D} {C : String} {f : D → Bool} (hC : C ∈ ["int", "bool", "str", "tuple", "list", "dict"]) (hf : ∀ d T, tyD d = some T → isTy T C = f d) : smIsi [d, .op (.ty C)] R ↔ (hasTy d = true ∧ R (.bl (f d))) := by
  rw [q_isi]
  constructor
  · rintro ⟨_, T, h1, h2⟩
    rw [hf d T h1] at h2
    exact ⟨by unfold hasTy; rw [h1]; rfl, h2⟩
  · rintro ⟨h1, h2⟩
    unfold hasTy at h1
    cases e : tyD d with
    | none => rw [e] at h1; cases h1
    | some T => exact ⟨hC, T, rfl, by rw [hf d T e]; exact h2⟩
theorem q_isi_int {d : D} : smIsi [d, .op (.ty "int")] R ↔ (hasTy d = true ∧ R (.bl (dIsI d))) := q_isi_of (by simp) fun d T h => by cases d <;> simp [tyD] at h <;> subst h <;> simp [isTy, dIsI]
theorem q_isi_bool {d : D} : smIsi [d, .op (.ty "bool")] R ↔ (hasTy d = true ∧ R (.bl (dIsB d))) := q_isi_of (by simp) fun d T h => by cases d <;> simp [tyD] at h <;> subst h <;> simp [isTy, dIsB]
theorem q_isi_str {d : D} : smIsi [d, .op (.ty "str")] R ↔ (hasTy d = true ∧ R (.bl (dIsS d))) := q_isi_of (by simp) fun d T h => by cases d <;> simp [tyD] at h <;> subst h <;> simp [isTy, dIsS]
theorem q_isi_tuple {d : D} : smIsi [d, .op (.ty "tuple")] R ↔ (hasTy d = true ∧ R (.bl (dIsT d))) := q_isi_of (by simp) fun d T h => by cases d <;> simp [tyD] at h <;> subst h <;> simp [isTy, dIsT]
theorem q_isi_list {d : D} : smIsi [d, .op (.ty "list")] R ↔ (hasTy d = true ∧ R (.bl (dIsL d))) := q_isi_of (by simp) fun d T h => by cases d <;> simp [tyD] at h <;> subst h <;> simp [isTy, dIsL]
theorem q_isi_dict {d : D} : smIsi [d, .op (.ty "dict")] R ↔ (hasTy d = true ∧ R (.bl (dIsD d))) := q_isi_of (by simp) fun d T h => by cases d <;> simp [tyD] at h <;> subst h <;> simp [isTy, dIsD]
theorem q_add_i {i j : Int} : smAdd (.int i) (.int j) R = R (.int (i + j)) := rfl
theorem q_sub {i j : Int} : smSub (.int i) (.int j) R ↔ R (.int (i - j)) := ⟨by rintro ⟨a, b, e1, e2, h⟩; cases e1; cases e2; exact h, fun h => ⟨_, _, rfl, rfl, h⟩⟩
theorem q_mul {i j : Int} : smMul (.int i) (.int j) R = ((CMul i j ∨ CMulW i j) ∧ R (.int (i * j))) := rfl
theorem q_div {i j : Int} : smDiv (.int i) (.int j) R ↔ CDivW i j ∧ R (.int (i / j)) := ⟨by rintro ⟨a, b, e1, e2, h⟩; cases e1; cases e2; exact h, fun h => ⟨_, _, rfl, rfl, h⟩⟩
theorem q_mod {i j : Int} : smMod (.int i) (.int j) R ↔ 0 < j ∧ R (.int (i % j)) := ⟨by rintro ⟨a, b, e1, e2, h⟩; cases e1; cases e2; exact h, fun h => ⟨_, _, rfl, rfl, h⟩⟩
theorem q_pow {i j : Int} : smPow (.int i) (.int j) R ↔ CPow i j ∧ R (.int (i ^ j.toNat)) := ⟨by rintro ⟨a, b, e1, e2, h⟩; cases e1; cases e2; exact h, fun h => ⟨_, _, rfl, rfl, h⟩⟩
theorem q_lt {i j : Int} : smLt (.int i) (.int j) R ↔ R (.bl (decide (i < j))) := ⟨by rintro ⟨a, b, e1, e2, h⟩; cases e1; cases e2; exact h, fun h => ⟨_, _, rfl, rfl, h⟩⟩
theorem q_le {i j : Int} : smLe (.int i) (.int j) R ↔ R (.bl (decide (i ≤ j))) := ⟨by rintro ⟨a, b, e1, e2, h⟩; cases e1; cases e2; exact h, fun h => ⟨_, _, rfl, rfl, h⟩⟩
theorem q_gt {i j : Int} : smGt (.int i) (.int j) R ↔ R (.bl (decide (j < i))) := ⟨by rintro ⟨a, b, e1, e2, h⟩; cases e1; cases e2; exact h, fun h => ⟨_, _, rfl, rfl, h⟩⟩
theorem q_ge {i j : Int} : smGe (.int i) (.int j) R ↔ R (.bl (decide (j ≤ i))) := ⟨by rintro ⟨a, b, e1, e2, h⟩; cases e1; cases e2; exact h, fun h => ⟨_, _, rfl, rfl, h⟩⟩
theorem q_neg {i : Int} : smNeg (.int i) R ↔ R (.int (-i)) := ⟨by rintro ⟨a, e1, h⟩; cases e1; exact h, fun h => ⟨_, rfl, h⟩⟩
theorem q_eq_ii {i j : Int} : smEq (.int i) (.int j) R ↔ R (.bl (i == j)) := ⟨by rintro (⟨k, e, h⟩ | h); cases e; exact h.2, fun h => .inr ⟨⟨rfl, rfl, rfl, rfl⟩, h⟩⟩
theorem q_ne_ii {i j : Int} : smNe (.int i) (.int j) R ↔ R (.bl (!(i == j))) := ⟨by rintro (⟨k, e, h⟩ | h); cases e; exact h.2, fun h => .inr ⟨⟨rfl, rfl, rfl, rfl⟩, h⟩⟩
theorem eqv_nil {xs : List D} : PyData.eqvAll (pyL xs) [] = xs.isEmpty := by cases xs <;> rfl
theorem q_eq_le {xs : List D} : smEq (.lst xs) (.lst []) R ↔ R (.bl xs.isEmpty) := by
  constructor
  · rintro (⟨k, e, h⟩ | h)
    · have e' : (if (xs.isEmpty || true) = true then some (xs.isEmpty && true) else none) = some k := e
      simp at e'
      rw [e']; exact h
    · have e : eqD (.lst xs) (.lst []) = xs.isEmpty := by unfold eqD; simp only [pyD, PyData.eqv, pyL]; exact eqv_nil
      rw [← e]; exact h.2
  · intro h
    exact .inl ⟨xs.isEmpty, by show (if (xs.isEmpty || true) = true then some (xs.isEmpty && true) else none) = _; simp, h⟩
theorem q_ne_le {xs : List D} : smNe (.lst xs) (.lst []) R ↔ R (.bl (!xs.isEmpty)) := by
  constructor
  · rintro (⟨k, e, h⟩ | h)
    · have e' : (if (xs.isEmpty || true) = true then some (xs.isEmpty && true) else none) = some k := e
      simp at e'
      rw [e']; exact h
    · have e : eqD (.lst xs) (.lst []) = xs.isEmpty := by unfold eqD; simp only [pyD, PyData.eqv, pyL]; exact eqv_nil
      rw [← e]; exact h.2
  · intro h
    exact .inl ⟨xs.isEmpty, by show (if (xs.isEmpty || true) = true then some (xs.isEmpty && true) else none) = _; simp, h⟩
theorem q_eq_ve {xs : List D} : smEq (.vw xs) (.lst []) R ↔ R (.bl xs.isEmpty) := by
  constructor
  · rintro (⟨k, e, h⟩ | h)
    · have e' : (if (xs.isEmpty || true) = true then some (xs.isEmpty && true) else none) = some k := e
      simp at e'
      rw [e']; exact h
    · have e : eqD (.vw xs) (.lst []) = xs.isEmpty := by unfold eqD; simp only [pyD, PyData.eqv, pyL]; exact eqv_nil
      rw [← e]; exact h.2
  · intro h
    exact .inl ⟨xs.isEmpty, by show (if (xs.isEmpty || true) = true then some (xs.isEmpty && true) else none) = _; simp, h⟩
theorem q_ne_ve {xs : List D} : smNe (.vw xs) (.lst []) R ↔ R (.bl (!xs.isEmpty)) := by
  constructor
  · rintro (⟨k, e, h⟩ | h)
    · have e' : (if (xs.isEmpty || true) = true then some (xs.isEmpty && true) else none) = some k := e
      simp at e'
      rw [e']; exact h
    · have e : eqD (.vw xs) (.lst []) = xs.isEmpty := by unfold eqD; simp only [pyD, PyData.eqv, pyL]; exact eqv_nil
      rw [← e]; exact h.2
  · intro h
    exact .inl ⟨xs.isEmpty, by show (if (xs.isEmpty || true) = true then some (xs.isEmpty && true) else none) = _; simp, h⟩
theorem q_eq_te {xs : List D} : smEq (.tup xs) (.tup []) R ↔ R (.bl xs.isEmpty) := by
  constructor
  · rintro (⟨k, e, h⟩ | h)
    · have e' : (if (xs.isEmpty || true) = true then some (xs.isEmpty && true) else none) = some k := e
      simp at e'
      rw [e']; exact h
    · have e : eqD (.tup xs) (.tup []) = xs.isEmpty := by unfold eqD; simp only [pyD, PyData.eqv, pyL]; exact eqv_nil
      rw [← e]; exact h.2
  · intro h
    exact .inl ⟨xs.isEmpty, by show (if (xs.isEmpty || true) = true then some (xs.isEmpty && true) else none) = _; simp, h⟩
theorem q_ne_te {xs : List D} : smNe (.tup xs) (.tup []) R ↔ R (.bl (!xs.isEmpty)) := by
  constructor
  · rintro (⟨k, e, h⟩ | h)
    · have e' : (if (xs.isEmpty || true) = true then some (xs.isEmpty && true) else none) = some k := e
      simp at e'
      rw [e']; exact h
    · have e : eqD (.tup xs) (.tup []) = xs.isEmpty := by unfold eqD; simp only [pyD, PyData.eqv, pyL]; exact eqv_nil
      rw [← e]; exact h.2
  · intro h
    exact .inl ⟨xs.isEmpty, by show (if (xs.isEmpty || true) = true then some (xs.isEmpty && true) else none) = _; simp, h⟩
theorem q_eq_ss {i j : Str} : smEq (.str i) (.str j) R = R (.bl (decide (i = j))) := rfl
theorem q_ne_ss {i j : Str} : smNe (.str i) (.str j) R = R (.bl (!decide (i = j))) := rfl
theorem q_is {d : D} (h : ∀ v, d ≠ .op v) : smIs d .non R ↔ R (.bl (isNon d)) := ⟨fun h => h.2.2, fun q => ⟨rfl, h, q⟩⟩
theorem q_isnot {d : D} (h : ∀ v, d ≠ .op v) : smIsNot d .non R ↔ R (.bl (!isNon d)) := ⟨fun h => h.2.2, fun q => ⟨rfl, h, q⟩⟩
theorem q_len {d : D} : smLen [d] R ↔ ∃ n, lenD d = some n ∧ R (.int n) := by
  constructor
  · rintro ⟨d', n, e, h1, h2⟩
    cases e
    exact ⟨n, h1, h2⟩
  · rintro ⟨n, h1, h2⟩
    exact ⟨d, n, rfl, h1, h2⟩
theorem q_bl {b : Bool} {P : Bool → Prop} : (∃ c, D.bl b = .bl c ∧ P c) ↔ P b := ⟨by rintro ⟨c, e, h⟩; cases e; exact h, fun h => ⟨b, rfl, h⟩⟩
theorem q_some {α : Type} {a : α} {P : α → Prop} : (∃ c, some a = some c ∧ P c) ↔ P a := ⟨by rintro ⟨c, e, h⟩; cases e; exact h, fun h => ⟨a, rfl, h⟩⟩
theorem q_ix_t {xs : List D} {i : Int} : smIx (.tup xs) (.int i) R ↔ ∃ d, atI xs i = some d ∧ R d := by
  constructor
  · rintro ⟨j, e, ys, d, e1, e2, h⟩
    cases e; cases e1
    exact ⟨d, e2, h⟩
  · rintro ⟨d, e, h⟩
    exact ⟨i, rfl, xs, d, rfl, e, h⟩
theorem q_ix_l {xs : List D} {i : Int} : smIx (.lst xs) (.int i) R ↔ ∃ d, atI xs i = some d ∧ R d := by
  constructor
  · rintro ⟨j, e, ys, d, e1, e2, h⟩
    cases e; cases e1
    exact ⟨d, e2, h⟩
  · rintro ⟨d, e, h⟩
    exact ⟨i, rfl, xs, d, rfl, e, h⟩
theorem q_ix_v {xs : List D} {i : Int} : smIx (.vw xs) (.int i) R ↔ ∃ d, atI xs i = some d ∧ R d := by
  constructor
  · rintro ⟨j, e, ys, d, e1, e2, h⟩
    cases e; cases e1
    exact ⟨d, e2, h⟩
  · rintro ⟨d, e, h⟩
    exact ⟨i, rfl, xs, d, rfl, e, h⟩
end
theorem q_in_t {R : D → Prop} {x : D} {xs : List D} : smIn x (.tup xs) R ↔ (flatD x = true ∧ xs.all flatD = true ∧ R (.bl (inD x xs))) := ⟨by rintro ⟨ys, e, h⟩; cases e; exact h, fun h => ⟨xs, rfl, h⟩⟩
theorem q_in_l {R : D → Prop} {x : D} {xs : List D} : smIn x (.lst xs) R ↔ (flatD x = true ∧ xs.all flatD = true ∧ R (.bl (inD x xs))) := ⟨by rintro ⟨ys, e, h⟩; cases e; exact h, fun h => ⟨xs, rfl, h⟩⟩
theorem eqD_ss {a b : Str} : eqD (.str a) (.str b) = decide (a = b) := by
  unfold eqD
  simp only [pyD, PyData.eqv]
  rw [Bool.eq_iff_iff]
  simp
theorem eqD_ii {a b : Int} : eqD (.int a) (.int b) = decide (a = b) := by
  unfold eqD
  simp only [pyD, PyData.eqv]
  rw [Bool.eq_iff_iff]
  simp
theorem szl : sizeLine = 16777216 := rfl
section
variable {R : D → Prop} {xs ys : List D}
theorem q_add_tt : smAdd (.tup xs) (.tup ys) R = (xs.length + ys.length ≤ sizeLine ∧ R (.tup (xs ++ ys))) := rfl
theorem q_add_ss {x y : Str} : smAdd (.str x) (.str y) R = (x.length + y.length ≤ sizeLine ∧ R (.str (x ++ y))) := rfl
theorem q_add_ll : smAdd (.lst xs) (.lst ys) R ↔ (xs.length + ys.length ≤ sizeLine ∧ R (.lst (xs ++ ys))) := ⟨by rintro ⟨a, b, e1, e2, h⟩; cases e1; cases e2; exact h, fun h => ⟨xs, ys, rfl, rfl, h⟩⟩
theorem q_add_vl : smAdd (.vw xs) (.lst ys) R ↔ (xs.length + ys.length ≤ sizeLine ∧ R (.lst (xs ++ ys))) := ⟨by rintro ⟨a, b, e1, e2, h⟩; cases e1; cases e2; exact h, fun h => ⟨xs, ys, rfl, rfl, h⟩⟩
theorem q_add_lv : smAdd (.lst xs) (.vw ys) R ↔ (xs.length + ys.length ≤ sizeLine ∧ R (.lst (xs ++ ys))) := ⟨by rintro ⟨a, b, e1, e2, h⟩; cases e1; cases e2; exact h, fun h => ⟨xs, ys, rfl, rfl, h⟩⟩
theorem q_addF_ll {R : List D → Prop} : smAddF (.lst xs) (.lst ys) R ↔ (xs.length + ys.length ≤ sizeLine ∧ R (xs ++ ys)) := ⟨by rintro ⟨a, b, e1, e2, h⟩; cases e1; cases e2; exact h, fun h => ⟨xs, ys, rfl, rfl, h⟩⟩
theorem q_addF_vl {R : List D → Prop} : smAddF (.vw xs) (.lst ys) R ↔ (xs.length + ys.length ≤ sizeLine ∧ R (xs ++ ys)) := ⟨by rintro ⟨a, b, e1, e2, h⟩; cases e1; cases e2; exact h, fun h => ⟨xs, ys, rfl, rfl, h⟩⟩
theorem q_cut_t {lo hi : Option Int} : smCut (.tup xs) lo hi R = R (.tup (cutL xs lo hi)) := rfl
theorem q_cut_l {lo hi : Option Int} : smCut (.lst xs) lo hi R ↔ R (.lst (cutL xs lo hi)) := ⟨by rintro ⟨a, e, h⟩; cases e; exact h, fun h => ⟨xs, rfl, h⟩⟩
theorem q_cut_v {lo hi : Option Int} : smCut (.vw xs) lo hi R ↔ R (.lst (cutL xs lo hi)) := ⟨by rintro ⟨a, e, h⟩; cases e; exact h, fun h => ⟨xs, rfl, h⟩⟩
theorem q_cut_s {ns : List Int} {lo hi : Option Int} : smCut (.scr ns) lo hi R ↔ R (.lst (cutL (ns.map .int) lo hi)) := ⟨by rintro ⟨a, e, h⟩; cases e; exact h, fun h => ⟨_, rfl, h⟩⟩
theorem q_rev_t : smRev (.tup xs) R = R (.tup xs.reverse) := rfl
theorem q_rev_l : smRev (.lst xs) R ↔ R (.lst xs.reverse) := ⟨by rintro ⟨a, e, h⟩; cases e; exact h, fun h => ⟨xs, rfl, h⟩⟩
theorem q_tuple_t : smTuple [.tup xs] R = R (.tup xs) := rfl
theorem q_tuple_l : smTuple [.lst xs] R ↔ R (.tup xs) := ⟨by rintro ⟨a, e, h⟩; cases e; exact h, fun h => ⟨xs, rfl, h⟩⟩
theorem q_tuple_v : smTuple [.vw xs] R ↔ R (.tup xs) := ⟨by rintro ⟨a, e, h⟩; cases e; exact h, fun h => ⟨xs, rfl, h⟩⟩
theorem q_list_t : smList [.tup xs] R ↔ R (.lst xs) := ⟨by rintro ⟨d, a, e, e2, h⟩; cases e; cases e2; exact h, fun h => ⟨_, xs, rfl, rfl, h⟩⟩
theorem q_list_l : smList [.lst xs] R ↔ R (.lst xs) := ⟨by rintro ⟨d, a, e, e2, h⟩; cases e; cases e2; exact h, fun h => ⟨_, xs, rfl, rfl, h⟩⟩
theorem q_list_v : smList [.vw xs] R ↔ R (.lst xs) := ⟨by rintro ⟨d, a, e, e2, h⟩; cases e; cases e2; exact h, fun h => ⟨_, xs, rfl, rfl, h⟩⟩
theorem q_int_i {i : Int} : smInt [.int i] R = R (.int i) := rfl
theorem q_int_b {b : Bool} : smInt [.bl b] R = R (.int (if b then 1 else 0)) := rfl
theorem q_abs {i : Int} : smAbs [.int i] R ↔ R (.int (if i < 0 then -i else i)) := ⟨by rintro ⟨a, e, h⟩; cases e; exact h, fun h => ⟨i, rfl, h⟩⟩
theorem q_max2 {i j : Int} : smMax2 [.int i, .int j] R ↔ R (.int (max i j)) := ⟨by rintro ⟨a, b, e, h⟩; cases e; exact h, fun h => ⟨i, j, rfl, h⟩⟩
theorem q_min2 {i j : Int} : smMin2 [.int i, .int j] R ↔ R (.int (min i j)) := ⟨by rintro ⟨a, b, e, h⟩; cases e; exact h, fun h => ⟨i, j, rfl, h⟩⟩
theorem q_l1 {j : Int} {P : Int → Prop} : (∃ k : Int, [D.int j] = [.int k] ∧ P k) ↔ P j := ⟨by rintro ⟨a, e, h⟩; cases e; exact h, fun h => ⟨j, rfl, h⟩⟩
theorem q_l2 {i j : Int} {P : Int → Int → Prop} : (∃ a b : Int, [D.int i, D.int j] = [.int a, .int b] ∧ P a b) ↔ P i j := ⟨by rintro ⟨a, b, e, h⟩; cases e; exact h, fun h => ⟨i, j, rfl, h⟩⟩
theorem q_int {i : Int} {P : Int → Prop} : (∃ j, D.int i = .int j ∧ P j) ↔ P i := ⟨by rintro ⟨c, e, h⟩; cases e; exact h, fun h => ⟨i, rfl, h⟩⟩
theorem q_own {xs : List D} {P : List D → Prop} : (∃ ys, some (Slot.own xs) = some (.own ys) ∧ P ys) ↔ P xs := ⟨by rintro ⟨c, e, h⟩; cases e; exact h, fun h => ⟨xs, rfl, h⟩⟩
theorem q_val {d : D} {P : D → Prop} : (∃ e, some (Slot.val d) = some (.val e) ∧ P e) ↔ P d := ⟨by rintro ⟨c, e, h⟩; cases e; exact h, fun h => ⟨d, rfl, h⟩⟩
theorem q_own1 {xs : List D} {P : List D → Prop} : (∃ ys, Slot.own xs = .own ys ∧ P ys) ↔ P xs := ⟨by rintro ⟨c, e, h⟩; cases e; exact h, fun h => ⟨xs, rfl, h⟩⟩
theorem q_val1 {d : D} {P : D → Prop} : (∃ e, Slot.val d = .val e ∧ P e) ↔ P d := ⟨by rintro ⟨c, e, h⟩; cases e; exact h, fun h => ⟨d, rfl, h⟩⟩
theorem q_two {a b : Slot} {P : Slot → Slot → Prop} : (∃ u v, [a, b] = [u, v] ∧ P u v) ↔ P a b := ⟨by rintro ⟨u, v, e, h⟩; cases e; exact h, fun h => ⟨a, b, rfl, h⟩⟩
theorem q_three {a b c : Slot} {P : Slot → Slot → Slot → Prop} : (∃ u v w, [a, b, c] = [u, v, w] ∧ P u v w) ↔ P a b c := ⟨by rintro ⟨u, v, w, e, h⟩; cases e; exact h, fun h => ⟨a, b, c, rfl, h⟩⟩
end
theorem g_tup {n : Nat} {v : DGs} {xs : List D} {ρ : Rho} {R : Rho → Prop} : dgTup n v (.tup xs) ρ R ↔ (xs.length = n ∧ v xs ρ R) := ⟨by rintro ⟨ds, e | e, h⟩ <;> cases e; exact h, fun h => ⟨xs, .inl rfl, h⟩⟩
theorem g_lst {n : Nat} {v : DGs} {xs : List D} {ρ : Rho} {R : Rho → Prop} : dgTup n v (.lst xs) ρ R ↔ (xs.length = n ∧ v xs ρ R) := ⟨by rintro ⟨ds, e | e, h⟩ <;> cases e; exact h, fun h => ⟨xs, .inr rfl, h⟩⟩
theorem g_cons {g : DG} {v : DGs} {d : D} {r : List D} {ρ : Rho} {R : Rho → Prop} : dgCons g v (d :: r) ρ R ↔ g d ρ fun ρ' => v r ρ' R := ⟨by rintro ⟨d', r', e, h⟩; cases e; exact h, fun h => ⟨d, r, rfl, h⟩⟩
theorem g_nil {ρ : Rho} {R : Rho → Prop} : dgNil [] ρ R ↔ R ρ := ⟨fun h => h.2, fun h => ⟨rfl, h⟩⟩
theorem c_pow {i j : Int} (h : (decide (0 ≤ j) && (decide (j ≤ 1000000) && (decide (-18446744073709551616 < i) && decide (i < 18446744073709551616)))) = true) : CPow i j = True := by
  simp only [Bool.and_eq_true, decide_eq_true_eq] at h
  exact eq_true ⟨h.1, h.2.1, by omega⟩
theorem c_mul1 {i j : Int} (h : (decide (-18446744073709551616 < i) && decide (i < 18446744073709551616)) = true) : (CMul i j ∨ CMulW i j) = True := by
  simp only [Bool.and_eq_true, decide_eq_true_eq] at h
  exact eq_true (.inl (.inl ⟨h.1, h.2⟩))
theorem c_mul2 {i j : Int} (h : (decide (-18446744073709551616 < j) && decide (j < 18446744073709551616)) = true) : (CMul i j ∨ CMulW i j) = True := by
  simp only [Bool.and_eq_true, decide_eq_true_eq] at h
  exact eq_true (.inl (.inr ⟨h.1, h.2⟩))
theorem tru_bl {b : Bool} : truD (.bl b) = some b := rfl
theorem tru_non : truD .non = some false := rfl
theorem tru_int {i : Int} : truD (.int i) = some (i != 0) := rfl
theorem tru_tup {xs : List D} : truD (.tup xs) = some (!xs.isEmpty) := rfl
theorem tru_lst {xs : List D} : truD (.lst xs) = some (!xs.isEmpty) := rfl
theorem tru_vw {xs : List D} : truD (.vw xs) = some (!xs.isEmpty) := rfl
theorem len_tup {xs : List D} : lenD (.tup xs) = some xs.length := rfl
theorem len_lst {xs : List D} : lenD (.lst xs) = some xs.length := rfl
theorem len_vw {xs : List D} : lenD (.vw xs) = some xs.length := rfl
theorem len_scr {xs : List Int} : lenD (.scr xs) = some xs.length := rfl
theorem it_tup {xs : List D} : itemsD (.tup xs) = some xs := rfl
theorem it_lst {xs : List D} : itemsD (.lst xs) = some xs := rfl
theorem it_scr {xs : List Int} : itemsD (.scr xs) = some (xs.map .int) := rfl
theorem itc_tup {xs : List D} : itemsC (.tup xs) = some xs := rfl
theorem itc_lst {xs : List D} : itemsC (.lst xs) = some xs := rfl
theorem itc_vw {xs : List D} : itemsC (.vw xs) = some xs := rfl
theorem itc_scr {xs : List Int} : itemsC (.scr xs) = some (xs.map .int) := rfl
theorem at0 {α : Type} {a : α} {l : List α} : atI (a :: l) 0 = some a := by
  unfold atI ixN
  rw [if_pos (by decide), if_pos (by simp)]
  rfl
theorem at1 {α : Type} {a b : α} {l : List α} : atI (a :: b :: l) 1 = some b := by
  unfold atI ixN
  rw [if_pos (by decide), if_pos (by simp; omega)]
  rfl
theorem at2 {α : Type} {a b c : α} {l : List α} : atI (a :: b :: c :: l) 2 = some c := by
  unfold atI ixN
  rw [if_pos (by decide), if_pos (by simp; omega)]
  rfl
theorem at_nat {α : Type} {l : List α} {i : Int} (h0 : 0 ≤ i) (h : i < l.length) : ∃ a, atI l i = some a ∧ a ∈ l ∧ l[i.toNat]? = some a := by
  have p : i.toNat < l.length := by omega
  refine ⟨l[i.toNat]'p, ?_, List.getElem_mem p, List.getElem?_eq_getElem p⟩
  unfold atI ixN
  rw [if_pos h0, if_pos (by omega)]
  show l[i.toNat]? = _
  exact List.getElem?_eq_getElem p
end DL
/-! text DLbq -/
/-! rules of the long simp set, bundled -/
namespace DL
open PySem PySem.Spec PyProof.Rows L2
theorem bq0 : type_of% (And.intro @g_tup (And.intro @g_lst (And.intro @g_cons (And.intro @g_nil (And.intro @q_isi_int (And.intro @q_isi_bool (And.intro @q_isi_str (And.intro @q_isi_tuple (And.intro @q_isi_list (And.intro @q_isi_dict (And.intro @q_add_i (And.intro @q_sub (And.intro @q_mul (And.intro @q_div (And.intro @q_mod (And.intro @q_pow (And.intro @q_lt (And.intro @q_le (And.intro @q_gt (And.intro @q_ge (And.intro @q_neg (And.intro @q_eq_ii (And.intro @q_ne_ii (And.intro @q_eq_le (@q_ne_le))))))))))))))))))))))))) := And.intro @g_tup (And.intro @g_lst (And.intro @g_cons (And.intro @g_nil (And.intro @q_isi_int (And.intro @q_isi_bool (And.intro @q_isi_str (And.intro @q_isi_tuple (And.intro @q_isi_list (And.intro @q_isi_dict (And.intro @q_add_i (And.intro @q_sub (And.intro @q_mul (And.intro @q_div (And.intro @q_mod (And.intro @q_pow (And.intro @q_lt (And.intro @q_le (And.intro @q_gt (And.intro @q_ge (And.intro @q_neg (And.intro @q_eq_ii (And.intro @q_ne_ii (And.intro @q_eq_le (@q_ne_le))))))))))))))))))))))))
theorem bq1 : type_of% (And.intro @q_eq_ve (And.intro @q_ne_ve (And.intro @q_eq_te (And.intro @q_ne_te (And.intro @q_eq_ss (And.intro @q_ne_ss (And.intro @q_len (And.intro @q_bl (And.intro @q_some (And.intro @tru_bl (And.intro @tru_non (And.intro @tru_int (And.intro @tru_tup (And.intro @tru_lst (And.intro @tru_vw (And.intro @len_tup (And.intro @len_lst (And.intro @len_vw (And.intro @len_scr (And.intro @it_tup (And.intro @it_lst (And.intro @it_scr (And.intro @itc_tup (And.intro @itc_lst (@itc_vw))))))))))))))))))))))))) := And.intro @q_eq_ve (And.intro @q_ne_ve (And.intro @q_eq_te (And.intro @q_ne_te (And.intro @q_eq_ss (And.intro @q_ne_ss (And.intro @q_len (And.intro @q_bl (And.intro @q_some (And.intro @tru_bl (And.intro @tru_non (And.intro @tru_int (And.intro @tru_tup (And.intro @tru_lst (And.intro @tru_vw (And.intro @len_tup (And.intro @len_lst (And.intro @len_vw (And.intro @len_scr (And.intro @it_tup (And.intro @it_lst (And.intro @it_scr (And.intro @itc_tup (And.intro @itc_lst (@itc_vw))))))))))))))))))))))))
theorem bq2 : type_of% (And.intro @itc_scr (And.intro @q_ix_t (And.intro @q_ix_l (And.intro @q_ix_v (And.intro @at0 (And.intro @at1 (And.intro @at2 (And.intro @c_pow (And.intro @c_mul1 (And.intro @c_mul2 (And.intro @szl (And.intro @q_add_tt (And.intro @q_add_ll (And.intro @q_add_vl (And.intro @q_add_lv (And.intro @q_addF_ll (And.intro @q_addF_vl (And.intro @q_cut_t (And.intro @q_cut_l (And.intro @q_cut_v (And.intro @q_cut_s (And.intro @q_rev_t (And.intro @q_rev_l (And.intro @q_tuple_t (@q_tuple_l))))))))))))))))))))))))) := And.intro @itc_scr (And.intro @q_ix_t (And.intro @q_ix_l (And.intro @q_ix_v (And.intro @at0 (And.intro @at1 (And.intro @at2 (And.intro @c_pow (And.intro @c_mul1 (And.intro @c_mul2 (And.intro @szl (And.intro @q_add_tt (And.intro @q_add_ll (And.intro @q_add_vl (And.intro @q_add_lv (And.intro @q_addF_ll (And.intro @q_addF_vl (And.intro @q_cut_t (And.intro @q_cut_l (And.intro @q_cut_v (And.intro @q_cut_s (And.intro @q_rev_t (And.intro @q_rev_l (And.intro @q_tuple_t (@q_tuple_l))))))))))))))))))))))))
theorem bq3 : type_of% (And.intro @q_tuple_v (And.intro @q_list_t (And.intro @q_list_l (And.intro @q_list_v (And.intro @q_int_i (And.intro @q_int_b (And.intro @q_abs (And.intro @q_max2 (And.intro @q_min2 (And.intro @q_l1 (And.intro @q_l2 (And.intro @q_int (And.intro @q_own (And.intro @q_val (And.intro @q_own1 (And.intro @q_val1 (And.intro @q_two (And.intro @q_three (And.intro @q_in_t (@q_in_l)))))))))))))))))))) := And.intro @q_tuple_v (And.intro @q_list_t (And.intro @q_list_l (And.intro @q_list_v (And.intro @q_int_i (And.intro @q_int_b (And.intro @q_abs (And.intro @q_max2 (And.intro @q_min2 (And.intro @q_l1 (And.intro @q_l2 (And.intro @q_int (And.intro @q_own (And.intro @q_val (And.intro @q_own1 (And.intro @q_val1 (And.intro @q_two (And.intro @q_three (And.intro @q_in_t (@q_in_l)))))))))))))))))))
end DL
/-! text DLq -/
/-! DL: ranges whose list is not written out (the kernel would walk it). -/
namespace DL
open PySem PySem.Spec PyProof.Rows L2
structure IsRg (lo : Int) (n : Nat) (ds : List D) : Prop where
  e : ds = rangeF lo n
theorem IsRg.len {lo : Int} {n : Nat} {ds : List D} (h : IsRg lo n ds) : ds.length = n := by rw [h.e]; exact rangeF_length lo n
theorem IsRg.mem {lo : Int} {n : Nat} {ds : List D} (h : IsRg lo n ds) {d : D} (hd : d ∈ ds) : ∃ i : Int, d = .int i ∧ lo ≤ i ∧ i < lo + n := by
  obtain ⟨j, hj, e⟩ := List.mem_iff_getElem.mp hd
  rw [h.len] at hj
  have e2 := rangeF_get lo n j hj
  rw [← h.e, List.getElem?_eq_getElem (by rw [h.len]; exact hj), e] at e2
  exact ⟨lo + j, Option.some.inj e2, by omega, by omega⟩
section
variable {Z : Wld} {F : Fm} {W : WX} {tg e e2 : Expr} {tA : DTA Z} {pos p : Pos}
def dRg1 {M : Type} (ta : DTA0 M) : DTA0 M := fun ρ μ R E => ta ρ μ (fun as μ' => ∃ j : Int, as = [.int j] ∧ -(2 ^ 62) ≤ j ∧ j < 2 ^ 62 ∧ ∀ ds, IsRg 0 j.toNat ds → R ds μ') E
def dRg2 {M : Type} (ta : DTA0 M) : DTA0 M := fun ρ μ R E => ta ρ μ (fun as μ' => ∃ i j : Int, as = [.int i, .int j] ∧ (-(2 ^ 62) ≤ i ∧ i < 2 ^ 62 ∧ -(2 ^ 62) ≤ j ∧ j < 2 ^ 62) ∧ ∀ ds, IsRg i (j - i).toNat ds → R ds μ') E
theorem di_rg1 (hg : ∀ i, Gl (F.X i) "range") (hm : ∀ i, (F.X i).mg "range" = none) (h : DA Z F W [e] tA) (hs : ∀ i, starEach [e] (F.X i).env = [(false, eval e (F.X i).env)] := by intro _; rfl) :
    DI Z F W tg (.Call (.Name "range" p) [e] [] pos) (dRg1 tA) := by
  obtain ⟨te, pe, h⟩ := h
  refine ⟨_, fun i => pi_range1 (hg i) (hm i) (pe i) (hs i), fun B ρ σ μ S H R E Q env ok ht hE hQ => ?_⟩
  refine h B ρ σ μ S H _ E _ env ok ht hE fun v d μ' S' H' x r _ hd => ?_
  obtain ⟨j, rfl, h1, h2, hd⟩ := hd
  obtain ⟨v1, r0, rfl, r1, rfl⟩ := r
  cases r1
  exact ⟨j, rfl, h1, h2, hQ _ _ μ' S' H' x (fun μ2 S2 H2 ok2 s2 => wk_range ok2) (hd _ ⟨rfl⟩)⟩
theorem di_rg2 (hg : ∀ i, Gl (F.X i) "range") (hm : ∀ i, (F.X i).mg "range" = none) (h : DA Z F W [e, e2] tA) (hs : ∀ i, starEach [e, e2] (F.X i).env = [(false, eval e (F.X i).env), (false, eval e2 (F.X i).env)] := by intro _; rfl)
    (hs2 : ∀ i, starEach [e2] (F.X i).env = [(false, eval e2 (F.X i).env)] := by intro _; rfl) :
    DI Z F W tg (.Call (.Name "range" p) [e, e2] [] pos) (dRg2 tA) := by
  obtain ⟨te, pe, h⟩ := h
  refine ⟨_, fun i => pi_range2 (hg i) (hm i) (pe i) (hs i) (hs2 i), fun B ρ σ μ S H R E Q env ok ht hE hQ => ?_⟩
  refine h B ρ σ μ S H _ E _ env ok ht hE fun v d μ' S' H' x r _ hd => ?_
  obtain ⟨i, j, rfl, h1, hd⟩ := hd
  obtain ⟨v1, r0, rfl, r1, v2, r3, rfl, r2, rfl⟩ := r
  cases r1
  cases r2
  exact ⟨i, j, rfl, h1, hQ _ _ μ' S' H' x (fun μ2 S2 H2 ok2 s2 => wk_range ok2) (hd _ ⟨rfl⟩)⟩
/-! numbers that the text writes by + - * ** -/
theorem dx_kpow {a b : Expr} {i j v : Int} (ha : DE Z F W a (dC (.int i))) (hb : DE Z F W b (dC (.int j))) (hc : CPow i j := by decide) (hv : i ^ j.toNat = v := by decide) : DE Z F W (.BinOp a .Pow b pos) (dC (.int v)) := by
  obtain ⟨te, p, h⟩ := dx_op (pos := pos) (od_pow (Z := Z) (F := F)) ha hb
  exact ⟨te, p, fun B ρ σ μ S H R E Q env ok hR hE hQ => h B ρ σ μ S H R E Q env ok ⟨i, j, rfl, rfl, hc, by rw [hv]; exact hR⟩ hE hQ⟩
theorem dx_kmul {a b : Expr} {i j v : Int} (ha : DE Z F W a (dC (.int i))) (hb : DE Z F W b (dC (.int j))) (hc : CMul i j := by decide) (hv : i * j = v := by decide) : DE Z F W (.BinOp a .Mult b pos) (dC (.int v)) := by
  obtain ⟨te, p, h⟩ := dx_op (pos := pos) (od_mul (Z := Z) (F := F)) ha hb
  exact ⟨te, p, fun B ρ σ μ S H R E Q env ok hR hE hQ => h B ρ σ μ S H R E Q env ok ⟨.inl hc, by rw [hv]; exact hR⟩ hE hQ⟩
theorem dx_kadd {a b : Expr} {i j v : Int} (ha : DE Z F W a (dC (.int i))) (hb : DE Z F W b (dC (.int j))) (hv : i + j = v := by decide) : DE Z F W (.BinOp a .Add b pos) (dC (.int v)) := by
  obtain ⟨te, p, h⟩ := dx_op (pos := pos) (od_add (Z := Z) (F := F)) ha hb
  exact ⟨te, p, fun B ρ σ μ S H R E Q env ok hR hE hQ => h B ρ σ μ S H R E Q env ok (by show R (.int (i + j)) μ; rw [hv]; exact hR) hE hQ⟩
theorem dx_ksub {a b : Expr} {i j v : Int} (ha : DE Z F W a (dC (.int i))) (hb : DE Z F W b (dC (.int j))) (hv : i - j = v := by decide) : DE Z F W (.BinOp a .Sub b pos) (dC (.int v)) := by
  obtain ⟨te, p, h⟩ := dx_op (pos := pos) (od_sub (Z := Z) (F := F)) ha hb
  exact ⟨te, p, fun B ρ σ μ S H R E Q env ok hR hE hQ => h B ρ σ μ S H R E Q env ok ⟨i, j, rfl, rfl, by rw [hv]; exact hR⟩ hE hQ⟩
theorem dx_kneg {a : Expr} {i v : Int} (ha : DE Z F W a (dC (.int i))) (hv : -i = v := by decide) : DE Z F W (.UnaryOp .USub a pos) (dC (.int v)) := by
  obtain ⟨te, p, h⟩ := dx_un (pos := pos) (ud_neg (Z := Z) (F := F)) ha
  exact ⟨te, p, fun B ρ σ μ S H R E Q env ok hR hE hQ => h B ρ σ μ S H R E Q env ok ⟨i, rfl, by rw [hv]; exact hR⟩ hE hQ⟩
end
end DL
/-! text DLr -/
/-! DL: list(x) and [..] * n as lists that a name owns. -/
namespace DL
open PySem PySem.Spec PyProof.Rows L2
section
variable {Z : Wld} {F : Fm} {W : WX} {e a b : Expr} {es : List Expr} {tA : DTA Z} {ta tb : DT Z} {pos : Pos}
def dListF {M : Type} (ta : DTA0 M) : DTA0 M := fun ρ μ R E => ta ρ μ (fun as μ1 => ∃ d xs, as = [d] ∧ itemsC d = some xs ∧ R xs μ1) E
theorem call_listK (i : F.ι) : CallR (F.X i) (.type "list") (fun xs H Q => ∃ p ys, xs = [.ref p] ∧ (SqL F.K H p ys ∨ SqT F.K H p ys) ∧ ∀ l, H l = none → Q (.ref l) (upd H l (.lst ys))) := by
  rw [← F.hK i]
  exact call_list_of
theorem df_list {p : Pos} (hg : ∀ i, Gl (F.X i) "list") (hm : ∀ i, (F.X i).mg "list" = none) (hv : bootBuiltins "list" = some (.type "list")) (ha : DA Z F W (e :: es) tA)
    (he : ∀ i, starEach (e :: es) (F.X i).env = (false, eval e (F.X i).env) :: starEach es (F.X i).env := by intro _; rfl) (hpl : ∀ i, (backTo pos (starEach es (F.X i).env)).any (·.1) = false := by intro _; rfl) : DF Z F W (.Call (.Name "list" p) (e :: es) [] pos) (dListF tA) := by
  obtain ⟨ta', pa, ha⟩ := ha
  refine ⟨_, fun i => pe_callTy (call_listK i) (hg i) (hm i) hv (pa i) (by decide) (by decide) (he i) (hpl i), fun B ρ σ μ S H R E Q env ok h hE hQ => ?_⟩
  refine ha B ρ σ μ S H _ E _ env ok h hE fun vs ds μ1 S1 H1 x1 r1 _ h1 => ?_
  obtain ⟨d, xs, rfl, e1, hR⟩ := h1
  obtain ⟨v, _, rfl, r2, rfl⟩ := r1
  obtain ⟨p, ws, rfl, q1, q2⟩ := items_inH x1.ok.sub r2 e1
  refine ⟨p, ws, rfl, q1, fun t ht => ?_⟩
  obtain ⟨n0, n1, n2⟩ := new_own env x1 ht
  exact hQ t _ xs μ1 S1 _ (x1.trans (x1.ok.putOwn ht)) n0 upd_same n1 n2 (q2.newOwn ht) hR
def dMulF {M : Type} (ta tb : DT0 M) : DTA0 M := fun ρ μ R E => ta ρ μ (fun a μ1 => tb ρ μ1 (fun b μ2 => ∃ (xs : List D) (j : Int), lstOf a = some xs ∧ b = .int j ∧ -(2 ^ 63) ≤ j ∧ j < 2 ^ 63 ∧ xs.length * j.toNat ≤ sizeLine ∧ R (List.replicate j.toNat xs).flatten μ2) E) E
theorem df_mul (ha : DE Z F W a ta) (hb : DE Z F W b tb) : DF Z F W (.BinOp a .Mult b pos) (dMulF ta tb) := by
  obtain ⟨ta', pa, ha⟩ := ha
  obtain ⟨tb', pb, hb⟩ := hb
  refine ⟨_, fun i => pe_op op_rep (pa i) (pb i), fun B ρ σ μ S H R E Q env ok h hE hQ => ?_⟩
  refine ha B ρ σ μ S H _ E _ env ok h hE fun v d μ1 S1 H1 x1 r1 h1 => ?_
  refine hb B ρ σ μ1 S1 H1 _ E _ (env.ext x1) x1.ok h1 (hE.ext x1) fun v2 dd μ2 S2 H2 x2 r2 h2 => ?_
  have x12 := x1.trans x2
  obtain ⟨xs, j, e1, rfl, b1, b2, hz, hR⟩ := h2
  obtain ⟨p, vs, rfl, q1, q2⟩ := lstOf_at x2.ok.sub (r1.ext x2) e1
  refine ⟨p, j, vs, rfl, r2, q1, b1, b2, by rw [q2.length]; exact hz, fun t ht => ?_⟩
  obtain ⟨n0, n1, n2⟩ := new_own env x12 ht
  exact hQ t _ (List.replicate j.toNat xs).flatten μ2 S2 _ (x12.trans (x2.ok.putOwn ht)) n0 upd_same n1 n2 ((q2.rep _).newOwn ht) hR
def dsNever {M : Type} : DTS0 M := fun _ _ _ => False
/-- a statement that is never reached -/
theorem ds_never {st : Stmt} : DS Z F W st dsNever := ⟨_, fun _ => ps_never, fun _ _ _ _ _ _ _ _ _ _ _ h _ => h.elim⟩
end
end DL
/-! text DLx -/
/-! DL: exceptions of own classes whose __init__ keeps one field: made and raised; what the head tells of such classes. -/
namespace DL
open PySem PySem.Spec PyProof.Rows L2
def spIni (C : Addr) (f : Str) : Sp := fun vs H Q _ => ∃ (a : Addr) (v : V), vs = [.ref a, v] ∧ H a = some (exo a C none) ∧ ∀ dx, H dx = none → dx ≠ a → Q .non (upd (upd H dx (exd dx [(f, v)])) a (exo a C (some dx)))
section
variable {P : Program} {w : World} {K : PySem.W.Frag} {mg : Str → Option Value} {base : Heap}
theorem ini_of {qual f : Str} {st : Stmt} {fI C : Addr} {fd : FuncData} (F : L2.Fun K "__init__" qual st fI fd) (S : FnScope ["self", f] ["self", f] (defScope st)) (T : OexC K C) (nof : PySem.W.findIn K (.ref C) f = some none)
    (hb : ∀ (cdv : Value) (A : Around) (outer : List PySem.Env) (s : Shared) (H : Hp) (E : XK), PSs (cxOf (L2.CX P w) P w K mg base ["self", f] qual (defScope st) fI cdv A outer s H E) (defBody st) (tOst K f (tVar 0) (tVar 1))) :
    FnOk P w K mg base (L2.CX P w) 1 fI fd ["self", f] (spIni C f) := by
  refine F.okX S (fun vs H Q E q => by obtain ⟨a, v, rfl, _⟩ := q; rfl) fun cdv A outer s H vs Q E hr h => ⟨_, hb cdv A outer s H E, ?_⟩
  obtain ⟨a, v, rfl, ha, hq⟩ := h
  exact ⟨v, rfl, .ref a, rfl, a, C, rfl, T, nof, .inl ⟨ha, hq⟩⟩
end
/-- a class of exceptions that keep one field -/
structure KEx (P : Program) (w : World) (K : PySem.W.Frag) (mg : Str → Option Value) (base : Heap) (x f : Str) : Prop where
  m : mg x = some (.ref (He.ga K x))
  T : OexC K (He.ga K x)
  ex : ∃ fI fd, PySem.W.findIn K (.ref (He.ga K x)) "__init__" = some (some (.ref fI)) ∧ PySem.W.typeIn K (.ref fI) = some (.type "function") ∧ FnOk P w K mg base (L2.CX P w) 1 fI fd ["self", f] (spIni (He.ga K x) f) ∧ L2.Binds K fd ["self", f] []
section
variable {Z : Wld} {F : Fm} {W : WX} {e : Expr} {te : DT Z}
def dsRaise {M : Type} (x f : Str) (te : DT0 M) : DTS0 M := fun B ρ μ => te ρ μ (fun d μ' => sta d = true ∧ B.ex ⟨x, [(f, d)]⟩ ρ μ') fun y μ' => B.ex y ρ μ'
theorem ds_raise {x f : Str} {p pos pos' : Pos} (kx : ∀ i, KEx (F.X i).prog (F.X i).w (F.X i).K (F.X i).mg (F.X i).base x f) (hr : ∀ i, Room 2 (F.X i).A) (hg : ∀ i, Gl (F.X i) x) (hc : ∀ i, (F.X i).calm = true) (tk : ∀ i, Takes (F.X i) W) (ha : DE Z F W e te)
    (hx : bexc x = none := by decide) (hdb : (x == ("__debug__" : Str)) = false := by decide) (he : ∀ i, starEach [e] (F.X i).env = (false, eval e (F.X i).env) :: starEach [] (F.X i).env := by intro _; rfl) (hpl : ∀ i, (backTo pos (starEach [] (F.X i).env)).any (·.1) = false := by intro _; rfl) :
    DS Z F W (.Raise (some (.Call (.Name x p) [e] [] pos)) none pos') (dsRaise x f te) := by
  obtain ⟨t, pt, ht⟩ := ha
  refine ⟨fun _ σ H => tMkO (He.ga F.K x) (spIni (He.ga F.K x) f) [] (tCons t tNil) σ H fun cls d H' => W cls d σ H', fun i => ?_, fun μ0 S0 H0 ρ σ μ S H B L r h k => ?_⟩
  · obtain ⟨fI, fd, h1, h2, h3, h4⟩ := (kx i).ex
    rw [← F.hK i]
    exact ps_raise (hc i) (tk i) (pmk_oex (kx i).T h1 h2 h3 (hr i) h4 .nil passL (hg i) (kx i).m (pa_cons (pt i) pa_nil (he i)) hdb (he i) (hpl i))
  · refine ht H0 ρ σ μ S H _ _ _ r.env r.ok h (k.wish r) fun v d μ' S' H' x' rd hd => ⟨by show 1 ≤ 1000; decide, fun a ha => ⟨a, v, rfl, upd_same, fun dx nx ne => ⟨rfl, dx, [(f, v)], upd_same, (upd_ne ne).trans upd_same, ?_, ?_⟩⟩⟩
    · rw [upd_ne ne] at nx; exact nx
    · have hdx : H' dx = none := by rw [upd_ne ne] at nx; exact nx
      have eq : upd (del (upd (upd (upd H' a (exo a (He.ga F.K x) none)) dx (exd dx [(f, v)])) a (exo a (He.ga F.K x) (some dx))) a) dx (.xd [(f, v)]) = upd H' dx (.xd [(f, v)]) := by
        funext b
        by_cases hb : b = dx
        · rw [hb, upd_same, upd_same]
        · rw [upd_ne hb, upd_ne hb]
          by_cases hba : b = a
          · rw [hba, del_same, ha]
          · rw [del_ne hba, upd_ne hba, upd_ne hb, upd_ne hba]
      rw [eq]
      have x2 := x'.ok.put (o := .xd [(f, v)]) hdx
      refine k.ex ⟨x, [(f, d)]⟩ ρ σ μ' _ _ _ (some dx) (r.up (x'.trans x2)) (x'.trans x2).same ⟨?_, .inr ⟨dx, [(f, v)], rfl, upd_same, upd_same, v, [], rfl, hd.1, rd.ext x2, rfl⟩⟩ hd.2
      unfold clsV
      rw [hx]
end
/-! ### what the head tells -/
def oexB (K : PySem.W.Frag) (C : Addr) : Bool := match K.lookup C with
  | some ⟨.type "type", _, .cls cd, sl⟩ => (match cd.mro, sl.toList with
    | .ref C' :: bm, [_, _, _, _, some (.builtin n), _] => C' == C && n == "ValueError.__new__" && !cd.hasDel && cd.hasDict && PySem.HandSPX.refsVE bm
    | _, _ => false)
  | _ => false
theorem oexB_ok {K : PySem.W.Frag} {C : Addr} (q : oexB K C = true) : ∃ nm qn N bs bm sn sub ab col dd k0 k1 k2 k3 k5, K.lookup C = some (excClassObj nm qn C N bs bm true sn sub ab col dd k0 k1 k2 k3 k5 "ValueError.__new__") ∧ PySem.HandSPX.refsVE bm = true := by
  unfold oexB at q
  split at q
  · rename_i dd cd sl ho
    split at q
    · rename_i C' bm k0 k1 k2 k3 n k5 hm hs
      simp only [Bool.and_eq_true, beq_iff_eq, Bool.not_eq_true'] at q
      obtain ⟨⟨⟨⟨rfl, rfl⟩, hdel⟩, hd⟩, ht⟩ := q
      obtain ⟨nm, bs, mro, ns, qn, hd', sn, sub, ab, col, del⟩ := cd
      dsimp only at hm hdel hd
      subst hm hdel hd
      have hsl : sl = #[k0, k1, k2, k3, some (.builtin "ValueError.__new__"), k5] := by
        obtain ⟨l⟩ := sl
        simp only at hs
        rw [hs]
      subst hsl
      exact ⟨nm, qn, ns, bs, bm, sn, sub, ab, col, dd, k0, k1, k2, k3, k5, ho, ht⟩
    · cases q
  · cases q
/-- a class x of exceptions with a field f -/
def ExF.ok (K : PySem.W.Frag) (e : Str × Str) : Bool :=
  let C := He.ga K e.1
  (He.Fa.glo e.1).ok K && (oexB K C && (He.eqO (PySem.W.findIn K (.ref C) "__setattr__") (some (some (.builtin "object.__setattr__"))) && (decide (PySem.W.subIn K (.ref C) (.type "BaseException") = some true) && (decide (PySem.W.typeIn K (.ref C) = some (.type "type")) && (PySem.W.keepIn K (.ref C) &&
  (He.eqO (PySem.W.findIn K (.ref C) e.2) (some none) && (He.eqO (PySem.W.findIn K (.ref C) "__init__") (some (some (.ref (He.ma K C "__init__")))) && (decide (PySem.W.typeIn K (.ref (He.ma K C "__init__")) = some (.type "function")) && (xfB K C &&
  (He.eqO (PySem.W.findIn K (.ref C) "__class__") (some (some (.builtin "object.__class__"))) && (decide (PySem.W.specialIn K (.builtin "object.__class__") "__get__" = some (some (.builtin "getset_descriptor.__get__"))) && (decide (PySem.W.takesIn K (.builtin "object.__class__") = some true) && decide (PySem.W.mroIn K C (.type "object") = some true)))))))))))))
structure ExFacts (K : PySem.W.Frag) (x f : Str) : Prop where
  glo : (He.Fa.glo x).ok K = true
  T : OexC K (He.ga K x)
  nof : PySem.W.findIn K (.ref (He.ga K x)) f = some none
  ini : PySem.W.findIn K (.ref (He.ga K x)) "__init__" = some (some (.ref (He.ma K (He.ga K x) "__init__")))
  tyI : PySem.W.typeIn K (.ref (He.ma K (He.ga K x) "__init__")) = some (.type "function")
  xf : XfC K (He.ga K x)
  ec : ExcC K (He.ga K x)
theorem ExF.facts {K : PySem.W.Frag} {x f : Str} (h : ExF.ok K (x, f) = true) : ExFacts K x f := by
  unfold ExF.ok at h
  simp only [Bool.and_eq_true, decide_eq_true_eq] at h
  obtain ⟨h1, h2, h3, h4, h5, h6, h7, h8, h9, h10, h11, h12, h13, h14⟩ := h
  have q := xfB_ok h10
  exact ⟨h1, ⟨by
    obtain ⟨nm, qn, N, bs, bm, sn, sub, ab, col, dd, k0, k1, k2, k3, k5, e, t⟩ := oexB_ok h2
    exact ⟨nm, qn, N, bs, bm, sn, sub, ab, col, dd, k0, k1, k2, k3, k5, e, t⟩, He.eqO_ok h3, h4, h5, h6⟩, He.eqO_ok h7, He.eqO_ok h8, h9, q, ⟨q.ga, q.gg, q.exC, q.hdC, He.eqO_ok h11, h12, h13, h14⟩⟩
/-- whether the class x is one of the class y -/
def RelF.ok (K : PySem.W.Frag) (r : Str × Str × Bool) : Bool := decide (PySem.W.kitOne K (clsV K r.1) (clsV K r.2.1) = some r.2.2) && decide (PySem.W.exmOne K (clsV K r.1) (clsV K r.2.1) = some r.2.2)
section
open He
def obsEG (n : Nat) (fa : List Fa) (fn : List DefD) (ex : List (Str × Str)) (rel : List (Str × Str × Bool)) (g : Addr → Option Obj) : AlD :=
  let K := frG g (asD g n)
  ((obsD fa fn K).1 && (ex.all (ExF.ok K) && rel.all (RelF.ok K)), (obsD fa fn K).2)
def SaysE (fa : List Fa) (fn : List DefD) (ex : List (Str × Str)) (rel : List (Str × Str × Bool)) (K : PySem.W.Frag) : Prop := SaysD fa fn K ∧ (∀ e ∈ ex, ExF.ok K e = true) ∧ ∀ r ∈ rel, RelF.ok K r = true
def hookE (n : Nat) (fa : List Fa) (fn : List DefD) (ex : List (Str × Str)) (rel : List (Str × Str × Bool)) : PySem.W.Hook where
  α := AlD
  obs := fun s => obsEG n fa fn ex rel s.heap.get?
  val := fun _ => valD fn
  says := fun _ h => ∃ K : PySem.W.Frag, K.In h ∧ SaysE fa fn ex rel K
  of := fun _ s e => ⟨_, frG_in, by
    have e1 := congrArg (fun z : AlD => z.1) e
    have e2 := congrArg (fun z : AlD => z.2) e
    have e1' : ((obsD fa fn (frG s.heap.get? (asD s.heap.get? n))).1 && (ex.all (ExF.ok (frG s.heap.get? (asD s.heap.get? n))) && rel.all (RelF.ok (frG s.heap.get? (asD s.heap.get? n))))) = true := e1
    simp only [Bool.and_eq_true] at e1'
    exact ⟨Prod.ext e1'.1 e2, List.all_eq_true.mp e1'.2.1, List.all_eq_true.mp e1'.2.2⟩⟩
  keeps := fun _ _ _ ⟨K, hK, c⟩ k => ⟨K, PySem.W.Frag.In.keeps hK k, c⟩
theorem obsEG_eq {n : Nat} {fa : List Fa} {fn : List DefD} {ex : List (Str × Str)} {rel : List (Str × Str × Bool)} {g : Addr → Option Obj} {s : Shared} (h : ∀ a, g a = s.heap.get? a) : obsEG n fa fn ex rel g = (hookE n fa fn ex rel).obs s := by
  have e : g = s.heap.get? := funext h
  rw [e] <;> rfl
end
section
variable {P : Program} {w : World} {K : PySem.W.Frag} {mg : Str → Option Value} {base h : Heap}
theorem kex_of {x f qual : Str} {st : Stmt} {fd : FuncData} (X : K.In h) (G : h.Ns mainGlobals mg) (E : ExFacts K x f) (F : L2.Fun K "__init__" qual st (He.fAd K (x, some "__init__")) fd) (S : FnScope ["self", f] ["self", f] (defScope st))
    (hb : ∀ (cdv : Value) (A : Around) (outer : List PySem.Env) (s : Shared) (H : Hp) (E : XK), PSs (cxOf (L2.CX P w) P w K mg base ["self", f] qual (defScope st) (He.fAd K (x, some "__init__")) cdv A outer s H E) (defBody st) (tOst K f (tVar 0) (tVar 1)))
    (bd : L2.Binds K fd ["self", f] []) : KEx P w K mg base x f :=
  ⟨He.glo_ok X G E.glo, E.T, _, fd, E.ini, E.tyI, ini_of F S E.T E.nof hb, bd⟩
end
end DL
/-! text DLy -/
/-! DL: try .. except X as e, isinstance of what is caught, its fields. -/
namespace DL
open PySem PySem.Spec PyProof.Rows L2
/-- whether one class of exceptions is another one or beneath it (own classes stand right under LampError) -/
def isSub (x y : Str) : Bool := decide (x = y) || (bexc x).isNone && (decide (y = "LampError") || decide (y = "ValueError"))
theorem relV_cls {K : PySem.W.Frag} {x : Str} : RelV (vCls K x) (clsV K x) := by
  unfold vCls clsV
  cases bexc x <;> rfl
theorem clsV_cls {K : PySem.W.Frag} {x : Str} : ClsV (vCls K x) (clsV K x) := by
  unfold vCls clsV
  cases bexc x with
  | none => exact .own _
  | some t => exact .ty _
abbrev Fm.tr (F : Fm) (W' : WX) : Fm :=
  ⟨(i : F.ι) × { q : List (Addr × Obj) × (Value → Shared → Prop) // Takes ((F.X i).tr q.1 q.2) W' ∧ PassesOwn (model (F.X i).prog (F.X i).w) (F.X i).A (F.X i).env q.2 }, fun j => (F.X j.1).tr j.2.1.1 j.2.1.2, F.K, fun j => F.hK j.1⟩
abbrev Fm.suite (F : Fm) (a : Addr) (cls : Value) (d : Option Addr) : Fm :=
  ⟨F.ι × { q : Obj × List (Addr × Obj) // Zc cls d q.1 ∧ ∃ vs, q.1.data = .fields vs }, fun j => (F.X j.1).suite a ((a, j.2.1.1) :: j.2.1.2), F.K, fun j => F.hK j.1⟩
/-! ### isinstance -/
def rIsX (K : PySem.W.Frag) (D a : Addr) (d : Option Addr) : List V → Hp → VK → Prop := fun xs H Q => ∃ (c : V) (b : Bool), xs = [.ref a, c] ∧ (∀ dd, d = some dd → ∃ fs, H dd = some (.xd fs)) ∧
  ((∃ cv, ClsV c cv ∧ PySem.W.kitOne K (.ref D) cv = some b) ∨ ∃ tp cs us, c = .ref tp ∧ H tp = some (.tup cs) ∧ Paired ClsV cs us ∧ PySem.W.kitAny K (.ref D) us = some b) ∧ Q (.bl b) H
theorem call_isX {X : Cx} {a D : Addr} {d : Option Addr} {oe : Obj} {pn : List (Addr × Obj)} (C : ExcC X.K D) (hz : Zc (.ref D) d oe) (hf : ∃ vs, oe.data = .fields vs) : CallR (X.suite a ((a, oe) :: pn)) (.builtin "isinstance") (rIsX X.K D a d) := by
  intro pins s σ H xs us Q I r h
  obtain ⟨c, b, rfl, hd, hc, q⟩ := h
  obtain ⟨u1, u2, rfl, r1, r2⟩ := vals2 r
  cases r1
  obtain ⟨hget, _⟩ := I.pin (a, oe) (List.mem_append.mpr (.inl List.mem_cons_self))
  obtain ⟨vs, hv⟩ := hf
  have J : ∃ od, PySem.W.InstAt s.heap a oe D od := by
    obtain ⟨oc, odict, oda, osl⟩ := oe
    obtain ⟨h1, h2⟩ := hz
    dsimp only at h1 h2 hv
    subst h1 h2 hv
    cases odict with
    | none => exact ⟨none, hget, rfl, rfl, trivial⟩
    | some dd =>
      obtain ⟨fs, hx⟩ := hd dd rfl
      have ho : ObjOk X.prog X.w H s.heap dd (.xd fs) := I.hok dd _ hx
      obtain ⟨mA, hns, _⟩ := ho
      obtain ⟨od, hod, _⟩ := lookIn_ns hns
      exact ⟨some od, hget, rfl, rfl, hod⟩
  obtain ⟨od, J⟩ := J
  have hcl : (PySem.W.clsIn X.K D).isSome = true := by
    obtain ⟨cd, e, _⟩ := PySem.W.any_some C.hd
    rw [e]; rfl
  have Zk := PySem.W.kitx_exc (x := a) (ox := oe) (od := od) hcl C.hg C.hk C.hs C.ha C.hn C.ht C.hm
  rcases hc with ⟨cv, k, e⟩ | ⟨tp, cs, us, rfl, hT, k, e⟩
  · have e2 := k.eq r2
    subst e2
    exact PySem.W.kia_one Zk I.kIn J e (fun z => nomatch z) fun tk => ⟨.bl b, H, I.kept (t' := tk) fun _ _ z => z, rfl, q⟩
  · cases (show u2 = Value.ref tp from r2)
    obtain ⟨_, its, rv, o, h1, h2, n, h3⟩ := (show ObjOk X.prog X.w H s.heap tp (.tup cs) from I.hok tp _ hT)
    have e3 := ClsV.all k rv
    subst e3
    obtain ⟨oc, odd, dt, sl⟩ := o
    simp only at h2 h3
    subst h2 h3
    exact PySem.W.kia_tup Zk I.kIn J h1 e (fun z => nomatch z) fun tk => ⟨.bl b, H, I.kept (t' := tk) fun _ _ z => z, rfl, q⟩
/-- what the head tells of the classes xs (with a field each), of the relation to the classes ys -/
structure ExAll (K : PySem.W.Frag) (xs ys : List Str) : Prop where
  ec : ∀ x ∈ xs, bexc x = none ∧ ExcC K (He.ga K x)
  rel : ∀ x ∈ xs, ∀ y ∈ ys, PySem.W.kitOne K (clsV K x) (clsV K y) = some (isSub x y) ∧ PySem.W.exmOne K (clsV K x) (clsV K y) = some (isSub x y)
section
variable {Z : Wld} {F : Fm} {W : WX} {a : Addr} {cls : Value} {d : Option Addr}
def dIsE {M : Type} (a : Addr) (cls : Value) (d : Option Addr) (i : Nat) (xs cs : List Str) : DT0 M := fun ρ μ R _ => match ρ[i]? with
  | some (.exc a' cls' d' y) => a' = a ∧ cls' = cls ∧ d' = d ∧ y.cls ∈ xs ∧ R (.bl (cs.any fun c => isSub y.cls c)) μ
  | _ => False
theorem dx_isE {i : Nat} {n c : Str} {p p1 p2 pos : Pos} {xs ys : List Str} (A : ExAll F.K xs ys) (hc : c ∈ ys) (hg : ∀ j, Gl (F.X j) "isinstance") (hm : ∀ j, (F.X j).mg "isinstance" = none)
    (hv : ∀ j, PE ((F.suite a cls d).X j) (.Name n p1) (tVar i)) (hcl : ∀ j, PE ((F.suite a cls d).X j) (.Name c p2) (tC (vCls F.K c))) :
    DE Z (F.suite a cls d) W (.Call (.Name "isinstance" p) [.Name n p1, .Name c p2] [] pos) (dIsE a cls d i xs [c]) := by
  refine ⟨fun σ H Q => ∃ D, cls = .ref D ∧ ExcC F.K D ∧ tCB (rIsX F.K D a d) (tCons (tVar i) (tCons (tC (vCls F.K c)) tNil)) σ H Q, fun j => ⟨fun pins s σ H Q I h => ?_⟩, fun B ρ σ μ S H R E Q env ok h hE hQ => ?_⟩
  · obtain ⟨D, e, C, h⟩ := h
    have hz0 : Zc cls d j.2.1.1 := j.2.2.1
    have hz : Zc (.ref D) d j.2.1.1 := by rw [← e]; exact hz0
    have C' : ExcC (F.X j.1).K D := by rw [F.hK j.1]; exact C
    have h' : tCB (rIsX (F.X j.1).K D a d) (tCons (tVar i) (tCons (tC (vCls F.K c)) tNil)) σ H Q := by rw [F.hK j.1]; exact h
    exact (pe_callB (call_isX C' hz j.2.2.2) (hg j.1) (hm j.1) (by decide +kernel) (pa_cons (hv j) (pa_cons (hcl j) pa_nil))).run pins s σ H Q I h'
  · have h' : (match ρ[i]? with | some (.exc a' cls' d' y) => a' = a ∧ cls' = cls ∧ d' = d ∧ y.cls ∈ xs ∧ R (.bl ([c].any fun c => isSub y.cls c)) μ | _ => False) := h
    cases q : ρ[i]? with
    | none => rw [q] at h'; exact h'.elim
    | some s =>
      rw [q] at h'
      cases s with
      | un => exact h'.elim
      | val _ => exact h'.elim
      | own _ => exact h'.elim
      | exc a' cls' d' y =>
        obtain ⟨rfl, rfl, rfl, hy, hR⟩ := h'
        obtain ⟨o, e1, rfl, hx, hd⟩ := env.get i _ q
        obtain ⟨nb, C⟩ := A.ec _ hy
        have hcv : cls' = .ref (He.ga F.K y.cls) := by rw [hx]; unfold clsV; rw [nb]
        obtain ⟨k1, _⟩ := A.rel _ hy _ hc
        have k2 : PySem.W.kitOne F.K (.ref (He.ga F.K y.cls)) (clsV F.K c) = some (isSub y.cls c) := by
          have : clsV F.K y.cls = .ref (He.ga F.K y.cls) := by unfold clsV; rw [nb]
          rw [← this]; exact k1
        refine ⟨He.ga F.K y.cls, hcv, C, _, e1, _, _, rfl, fun dd e => ?_, .inl ⟨_, clsV_cls, k2⟩, hQ _ (.bl _) μ S H (.refl ok) rfl (by simpa using hR)⟩
        rcases hd with hd | ⟨dd', ws, e', h1, _⟩
        · rw [hd.2] at e; cases e
        · rw [e] at e'; cases e'; exact ⟨ws, h1⟩
theorem paired_cls {K : PySem.W.Frag} : ∀ cs : List Str, Paired ClsV (cs.map (vCls K)) (cs.map (clsV K))
  | [] => .nil
  | c :: cs => .cons clsV_cls (paired_cls cs)
theorem kit_any {K : PySem.W.Frag} {D : Addr} {x : Str} : ∀ {cs : List Str}, (∀ c ∈ cs, PySem.W.kitOne K (.ref D) (clsV K c) = some (isSub x c)) → PySem.W.kitAny K (.ref D) (cs.map (clsV K)) = some (cs.any fun c => isSub x c)
  | [], _ => rfl
  | c :: cs, h => by
    have h1 := h c (List.mem_cons_self ..)
    have ih := kit_any (cs := cs) fun y hy => h y (List.mem_cons_of_mem _ hy)
    refine L2.kitAny_cons h1 (fun e => ?_) fun e => ?_
    · rw [List.any_cons, e, Bool.false_or]; exact ih
    · rw [List.any_cons, e, Bool.true_or]
/-- a tuple of classes -/
def tClss (K : PySem.W.Frag) : List Str → TA
  | [] => tNil
  | c :: cs => tCons (tC (vCls K c)) (tClss K cs)
theorem tClss_run {K : PySem.W.Frag} {σ : L2.St} {H : Hp} {Q : List V → Hp → Prop} : ∀ {cs : List Str}, Q (cs.map (vCls K)) H → tClss K cs σ H Q
  | [], h => h
  | c :: cs, h => tClss_run (Q := fun vs H' => Q (vCls K c :: vs) H') (cs := cs) h
theorem dx_isEs {i k : Nat} {n : Str} {cs : List Str} {es : List Expr} {p p1 p2 pos : Pos} {xs ys : List Str} (A : ExAll F.K xs ys) (hc : ∀ c ∈ cs, c ∈ ys) (hl : cs.length ≤ 100) (hg : ∀ j, Gl (F.X j) "isinstance") (hm : ∀ j, (F.X j).mg "isinstance" = none)
    (hv : ∀ j, PE ((F.suite a cls d).X j) (.Name n p1) (tVar i)) (hcl : ∀ j, PA ((F.suite a cls d).X j) es (tClss F.K cs)) :
    DE Z (F.suite a cls d) W (.Call (.Name "isinstance" p) [.Name n p1, .Tuple es k p2] [] pos) (dIsE a cls d i xs cs) := by
  refine ⟨fun σ H Q => ∃ D, cls = .ref D ∧ ExcC F.K D ∧ tCB (rIsX F.K D a d) (tCons (tVar i) (tCons (tTup (tClss F.K cs)) tNil)) σ H Q, fun j => ⟨fun pins s σ H Q I h => ?_⟩, fun B ρ σ μ S H R E Q env ok h hE hQ => ?_⟩
  · obtain ⟨D, e, C, h⟩ := h
    have hz0 : Zc cls d j.2.1.1 := j.2.2.1
    have hz : Zc (.ref D) d j.2.1.1 := by rw [← e]; exact hz0
    have C' : ExcC (F.X j.1).K D := by rw [F.hK j.1]; exact C
    have h' : tCB (rIsX (F.X j.1).K D a d) (tCons (tVar i) (tCons (tTup (tClss F.K cs)) tNil)) σ H Q := by rw [F.hK j.1]; exact h
    exact (pe_callB (call_isX C' hz j.2.2.2) (hg j.1) (hm j.1) (by decide +kernel) (pa_cons (hv j) (pa_cons (pe_tup (hcl j)) pa_nil))).run pins s σ H Q I h'
  · have h' : (match ρ[i]? with | some (.exc a' cls' d' y) => a' = a ∧ cls' = cls ∧ d' = d ∧ y.cls ∈ xs ∧ R (.bl (cs.any fun c => isSub y.cls c)) μ | _ => False) := h
    cases q : ρ[i]? with
    | none => rw [q] at h'; exact h'.elim
    | some s =>
      rw [q] at h'
      cases s with
      | un => exact h'.elim
      | val _ => exact h'.elim
      | own _ => exact h'.elim
      | exc a' cls' d' y =>
        obtain ⟨rfl, rfl, rfl, hy, hR⟩ := h'
        obtain ⟨o, e1, rfl, hx, hd⟩ := env.get i _ q
        obtain ⟨nb, C⟩ := A.ec _ hy
        have e0 : clsV F.K y.cls = .ref (He.ga F.K y.cls) := by unfold clsV; rw [nb]
        have hcv : cls' = .ref (He.ga F.K y.cls) := by rw [hx, e0]
        refine ⟨He.ga F.K y.cls, hcv, C, _, e1, tClss_run ⟨by rw [List.length_map]; exact Nat.le_trans hl (by decide), fun p hp => ?_⟩⟩
        have x2 := ok.put (o := .tup (cs.map (vCls F.K))) hp
        refine ⟨_, _, rfl, fun dd e => ?_, .inr ⟨p, _, _, rfl, upd_same, paired_cls cs, kit_any fun c hc' => ?_⟩, hQ _ (.bl _) μ _ _ x2 rfl hR⟩
        · rcases hd with hd | ⟨dd', ws, e', h1, _⟩
          · rw [hd.2] at e; cases e
          · rw [e] at e'; cases e'; exact ⟨ws, by rw [upd_ne (ne_of_none h1 hp)]; exact h1⟩
        · rw [← e0]
          exact (A.rel _ hy _ (hc c hc')).1
/-! ### e.f of what is caught -/
def dXf {M : Type} (a : Addr) (cls : Value) (d : Option Addr) (i : Nat) (x f : Str) : DT0 M := fun ρ μ R _ => match ρ[i]? with
  | some (.exc a' cls' d' y) => a' = a ∧ cls' = cls ∧ d' = d ∧ y.cls = x ∧ ∃ v, y.fs = [(f, v)] ∧ R v μ
  | _ => False
theorem dx_xf {i : Nat} {n x f : Str} {p1 pos : Pos} (nb : bexc x = none) (T : XfC F.K (He.ga F.K x)) (hno : PySem.W.findIn F.K (.ref (He.ga F.K x)) f = some none) (hv : ∀ j, PE ((F.suite a cls d).X j) (.Name n p1) (tVar i))
    (hb : ∀ j, attributeBase (.Name n p1) f ((F.suite a cls d).X j).env (eval (.Name n p1) ((F.suite a cls d).X j).env) = eval (.Name n p1) ((F.suite a cls d).X j).env := by intro _; rfl) :
    DE Z (F.suite a cls d) W (.Attribute (.Name n p1) f pos) (dXf a cls d i x f) := by
  refine ⟨tXf a cls d (He.ga F.K x) f (tVar i), fun j => ?_, fun B ρ σ μ S H R E Q env ok h hE hQ => ?_⟩
  · exact pe_xf (by rw [F.hK j.1]; exact T) (by rw [F.hK j.1]; exact hno) j.2.2.1 j.2.2.2 (hv j) (hb j)
  · have h' : (match ρ[i]? with | some (.exc a' cls' d' y) => a' = a ∧ cls' = cls ∧ d' = d ∧ y.cls = x ∧ ∃ v, y.fs = [(f, v)] ∧ R v μ | _ => False) := h
    cases q : ρ[i]? with
    | none => rw [q] at h'; exact h'.elim
    | some s =>
      rw [q] at h'
      cases s with
      | un => exact h'.elim
      | val _ => exact h'.elim
      | own _ => exact h'.elim
      | exc a' cls' d' y =>
        obtain ⟨rfl, rfl, rfl, hy, v, hf, hR⟩ := h'
        obtain ⟨o, e1, rfl, hx, hd⟩ := env.get i _ q
        have e0 : clsV F.K y.cls = .ref (He.ga F.K x) := by unfold clsV; rw [hy, nb]
        refine ⟨_, e1, rfl, by rw [hx, e0], ?_⟩
        rcases hd with hd | ⟨dd, ws, rfl, h1, h2, h3⟩
        · rw [hd.1] at hf; cases hf
        · rw [hf] at h3
          obtain ⟨u, r, rfl, st, rd, _⟩ := h3
          exact ⟨dd, _, u, rfl, h1, by simp, hQ u v μ S H (.refl ok) rd hR⟩
end
/-! ### try -/
section
variable {Z : Wld} {F : Fm} {W : WX}
def dsTryAs {M : Type} (i : Nat) (xs : List Str) (x : Str) (tb : DTS0 M) (ts : Addr → Value → Option Addr → DTS0 M) : DTS0 M := fun B ρ μ =>
  tb { B with ex := fun y ρ' μ' => y.cls ∈ xs ∧ if isSub y.cls x = true then ∀ a cls d, ts a cls d { nx := fun ρ2 μ2 => B.nx (ρ2.set i .un) μ2, rt := B.rt, bk := fun ρ2 μ2 => B.bk (ρ2.set i .un) μ2, ct := fun ρ2 μ2 => B.ct (ρ2.set i .un) μ2 } (ρ'.set i (.exc a cls d y)) μ' else B.ex y ρ' μ' } ρ μ
def dsTryO {M : Type} (xs : List Str) (x : Str) (tb : DTS0 M) (ts : DTS0 M) : DTS0 M := fun B ρ μ =>
  tb { B with ex := fun y ρ' μ' => y.cls ∈ xs ∧ if isSub y.cls x = true then ts { nx := B.nx, rt := B.rt, bk := B.bk, ct := B.ct } ρ' μ' else B.ex y ρ' μ' } ρ μ
theorem ds_tryAs {i : Nat} {x n : Str} {body suite : List Stmt} {b₀ : Stmt} {np pos pos' : Pos} {xs ys : List Str} {tb : DTS Z} {ts : Addr → Value → Option Addr → DTS Z} (A : ExAll F.K xs ys) (hx : x ∈ ys)
    (hs : ∀ j, (F.X j).stack = (F.X j).env :: (F.X j).outer) (hf : ∀ j, (F.X j).env.frame = some (F.X j).env.locals) (hN : ∀ j, (F.X j).N.Nodup) (hi : ∀ j, (F.X j).N[i]? = some n) (hln : ∀ j, (F.X j).env.kindOf n = some .local)
    (hc : ∀ j, Names (F.X j) x (clsV F.K x)) (tk : ∀ j, Takes (F.X j) W) (hb : ∀ W', DSs Z (F.tr W') W' body tb) (hsu : ∀ a cls d, DSs Z (F.suite a cls d) W0 (b₀ :: suite) (ts a cls d)) :
    DS Z F W (.Try body [.ExceptHandler (some (.Name x np)) (some n) (b₀ :: suite) pos'] [] [] pos) (dsTryAs i xs x tb ts) := by
  refine ⟨fun D σ H => (hb (wAs F.K (clsV F.K x) i (fun a cls d => (hsu a cls d).choose) W D)).choose D σ H, fun j => ?_, fun μ0 S0 H0 ρ σ μ S H B L r h k => ?_⟩
  · have q := ps_try_as (X := F.X j) (np := np) (pos := pos) (pos' := pos') (tb := fun W' => (hb W').choose) (ts := fun a cls d => (hsu a cls d).choose) (Wout := W) (hs j) (hf j) (hN j) (hi j) (hln j) (hc j) (tk j)
      (fun W' pn xe t1 t2 => (hb W').choose_spec.1 ⟨j, (pn, xe), t1, t2⟩) fun a oe cls d pn hz hv => (hsu a cls d).choose_spec.1 (j, ⟨(oe, pn), hz, hv⟩)
    rw [← F.hK j]
    rw [← F.hK j] at q
    exact q
  · refine (hb _).choose_spec.2 μ0 S0 H0 ρ σ μ S H _ L ⟨r.env, r.ext⟩ h ⟨fun ρ' σ' μ' S' H' r' => k.nx ρ' σ' μ' S' H' ⟨r'.env, r'.ext⟩, fun ρ' σ' μ' S' H' r' => k.bk ρ' σ' μ' S' H' ⟨r'.env, r'.ext⟩, fun ρ' σ' μ' S' H' r' => k.ct ρ' σ' μ' S' H' ⟨r'.env, r'.ext⟩, k.rt, fun y ρ' σ' μ' S' H' cls dd r' s' hx' hy => ?_⟩
    obtain ⟨hy1, hy2⟩ := hy
    refine ⟨isSub y.cls x, by rw [hx'.1]; exact (A.rel _ hy1 _ hx).2, fun e a ha => ?_, fun e => ?_⟩
    · rw [if_pos e] at hy2
      have env2 : EnvR F.K Z H0 μ' S' H' (ρ'.set i (.exc a cls dd y)) (σ'.set i (some (.ref a))) := EnvR.putExc r'.env ⟨rfl, hx'⟩
      have un : ∀ {ρ2 σ2 μ2 S2 H2}, Run (F.suite a cls dd) Z μ0 S0 H0 ρ2 σ2 μ2 S2 H2 → Run F Z μ0 S0 H0 (ρ2.set i .un) (σ2.set i none) μ2 S2 H2 := fun q => ⟨EnvR.putS q.env trivial (fun xs z => by cases z), q.ext⟩
      exact (hsu a cls dd).choose_spec.2 μ0 S0 H0 _ _ μ' S' H' _ _ ⟨env2, r'.ext⟩ (hy2 a cls dd) ⟨fun ρ2 σ2 μ2 S2 H2 q s2 => k.nx _ _ _ _ _ (un q) (s'.trans s2), fun ρ2 σ2 μ2 S2 H2 q s2 => k.bk _ _ _ _ _ (un q) (s'.trans s2), fun ρ2 σ2 μ2 S2 H2 q s2 => k.ct _ _ _ _ _ (un q) (s'.trans s2), k.rt, fun _ _ _ _ _ _ _ _ _ _ _ z => z.elim⟩
    · rw [if_neg (by rw [e]; decide)] at hy2
      exact k.ex y ρ' σ' μ' S' H' cls dd ⟨r'.env, r'.ext⟩ s' hx' hy2
theorem ds_tryO {x : Str} {body suite : List Stmt} {b₀ : Stmt} {np pos pos' : Pos} {xs ys : List Str} {tb ts : DTS Z} (A : ExAll F.K xs ys) (hx : x ∈ ys)
    (hs : ∀ j, (F.X j).stack = (F.X j).env :: (F.X j).outer) (hf : ∀ j, (F.X j).env.frame = some (F.X j).env.locals)
    (hc : ∀ j, Names (F.X j) x (clsV F.K x)) (tk : ∀ j, Takes (F.X j) W) (hb : ∀ W', DSs Z (F.tr W') W' body tb) (hsu : ∀ a cls d, DSs Z (F.suite a cls d) W0 (b₀ :: suite) ts) :
    DS Z F W (.Try body [.ExceptHandler (some (.Name x np)) none (b₀ :: suite) pos'] [] [] pos) (dsTryO xs x tb ts) := by
  refine ⟨fun D σ H => (hb (wOnly F.K (clsV F.K x) (fun a cls d => (hsu a cls d).choose) W D)).choose D σ H, fun j => ?_, fun μ0 S0 H0 ρ σ μ S H B L r h k => ?_⟩
  · have q := ps_try_only (X := F.X j) (np := np) (pos := pos) (pos' := pos') (tb := fun W' => (hb W').choose) (ts := fun a cls d => (hsu a cls d).choose) (Wout := W) (hs j) (hf j) (hc j) (tk j)
      (fun W' pn xe t1 t2 => (hb W').choose_spec.1 ⟨j, (pn, xe), t1, t2⟩) fun a oe cls d pn hz hv => (hsu a cls d).choose_spec.1 (j, ⟨(oe, pn), hz, hv⟩)
    rw [← F.hK j]
    rw [← F.hK j] at q
    exact q
  · refine (hb _).choose_spec.2 μ0 S0 H0 ρ σ μ S H _ L ⟨r.env, r.ext⟩ h ⟨fun ρ' σ' μ' S' H' r' => k.nx ρ' σ' μ' S' H' ⟨r'.env, r'.ext⟩, fun ρ' σ' μ' S' H' r' => k.bk ρ' σ' μ' S' H' ⟨r'.env, r'.ext⟩, fun ρ' σ' μ' S' H' r' => k.ct ρ' σ' μ' S' H' ⟨r'.env, r'.ext⟩, k.rt, fun y ρ' σ' μ' S' H' cls dd r' s' hx' hy => ?_⟩
    obtain ⟨hy1, hy2⟩ := hy
    refine ⟨isSub y.cls x, by rw [hx'.1]; exact (A.rel _ hy1 _ hx).2, fun e a ha => ?_, fun e => ?_⟩
    · rw [if_pos e] at hy2
      exact (hsu a cls dd).choose_spec.2 μ0 S0 H0 _ _ μ' S' H' _ _ ⟨r'.env, r'.ext⟩ hy2 ⟨fun ρ2 σ2 μ2 S2 H2 q s2 => k.nx _ _ _ _ _ ⟨q.env, q.ext⟩ (s'.trans s2), fun ρ2 σ2 μ2 S2 H2 q s2 => k.bk _ _ _ _ _ ⟨q.env, q.ext⟩ (s'.trans s2), fun ρ2 σ2 μ2 S2 H2 q s2 => k.ct _ _ _ _ _ ⟨q.env, q.ext⟩ (s'.trans s2), k.rt, fun _ _ _ _ _ _ _ _ _ _ _ z => z.elim⟩
    · rw [if_neg (by rw [e]; decide)] at hy2
      exact k.ex y ρ' σ' μ' S' H' cls dd ⟨r'.env, r'.ext⟩ s' hx' hy2
end
end DL
/-! text DLv -/
/-! DL: stars in tuples and lists that are written out. -/
namespace DL
open PySem PySem.Spec PyProof.Rows L2
section
variable (Z : Wld) (F : Fm) (W : WX)
/-- items, some of them under a star -/
def DAs (es : List Expr) (t : DTA Z) : Prop := ∃ te : TA, (∀ i, PA (F.X i) es te) ∧ ∀ (B : Hp) (ρ : Rho) (σ : L2.St) (μ : Z.M) (S H : Hp) (R : List D → Z.M → Prop) (E : Xc → Z.M → Prop) (Q : List V → Hp → Prop),
  EnvR F.K Z B μ S H ρ σ → Ok Z μ S H → t ρ μ R E → Wish Z F W B μ S H σ E →
  (∀ (vs : List V) (ds : List D) (μ' : Z.M) (S' H' : Hp), Ext Z μ S H μ' S' H' → RdL F.K (fb Z B μ') S' H' ds vs → R ds μ' → Q vs H') → te σ H Q
end
section
variable {Z : Wld} {F : Fm} {W : WX} {e : Expr} {es : List Expr} {ta : DT Z} {tR tA : DTA Z} {p pos : Pos}
def dStar {M : Type} (ta : DT0 M) (tR : DTA0 M) : DTA0 M := fun ρ μ R E => ta ρ μ (fun d μ1 => ∃ xs, itemsC d = some xs ∧ tR ρ μ1 (fun ds μ2 => R (xs ++ ds) μ2) E) E
theorem das_nil : DAs Z F W [] dNil := ⟨_, fun _ => pa_nil, fun B ρ σ μ S H R E Q env ok h hE hQ => hQ [] [] μ S H (.refl ok) rfl h⟩
theorem das_cons (ha : DE Z F W e ta) (hr : DAs Z F W es tR) (hs : ∀ i, starEach (e :: es) (F.X i).env = (false, eval e (F.X i).env) :: starEach es (F.X i).env := by intro _; rfl) : DAs Z F W (e :: es) (dCons ta tR) := by
  obtain ⟨ta', pa, ha⟩ := ha
  obtain ⟨tb', pb, hb⟩ := hr
  refine ⟨_, fun i => pa_cons (pa i) (pb i) (hs i), fun B ρ σ μ S H R E Q env ok h hE hQ => ?_⟩
  refine ha B ρ σ μ S H _ E _ env ok h hE fun v d μ1 S1 H1 x1 r1 h1 => ?_
  exact hb B ρ σ μ1 S1 H1 _ E _ (env.ext x1) x1.ok h1 (hE.ext x1) fun vs ds μ2 S2 H2 x2 r2 h2 => hQ (v :: vs) (d :: ds) μ2 S2 H2 (x1.trans x2) ⟨v, vs, rfl, r1.ext x2, r2⟩ h2
theorem das_star (ha : DE Z F W e ta) (hr : DAs Z F W es tR) (hs : ∀ i, starEach (.Starred e p :: es) (F.X i).env = (true, eval e (F.X i).env) :: starEach es (F.X i).env := by intro _; rfl) : DAs Z F W (.Starred e p :: es) (dStar ta tR) := by
  obtain ⟨ta', pa, ha⟩ := ha
  obtain ⟨tb', pb, hb⟩ := hr
  refine ⟨StX.tStar F.K ta' tb', fun i => by rw [← F.hK i]; exact StX.pa_star (pa i) (pb i) (hs i), fun B ρ σ μ S H R E Q env ok h hE hQ => ?_⟩
  refine ha B ρ σ μ S H _ E _ env ok h hE fun v d μ1 S1 H1 x1 r1 h1 => ?_
  obtain ⟨xs, e1, h1⟩ := h1
  obtain ⟨a, vs, rfl, q1, q2⟩ := items_inH x1.ok.sub r1 e1
  refine ⟨a, vs, rfl, q1.symm, ?_⟩
  exact hb B ρ σ μ1 S1 H1 _ E _ (env.ext x1) x1.ok h1 (hE.ext x1) fun ws ds μ2 S2 H2 x2 r2 h2 => hQ (vs ++ ws) (xs ++ ds) μ2 S2 H2 (x1.trans x2) ((q2.ext x2).append r2) h2
theorem dx_tupS {k} (h : DAs Z F W es tA) : DE Z F W (.Tuple es k pos) (dTup tA) := by
  obtain ⟨ta', pa, ha⟩ := h
  refine ⟨_, fun i => pe_tup (pa i), fun B ρ σ μ S H R E Q env ok h hE hQ => ?_⟩
  refine ha B ρ σ μ S H _ E _ env ok h hE fun vs ds μ1 S1 H1 x1 r1 h1 => ⟨by rw [r1.length]; exact h1.1, fun p hp => ?_⟩
  have x2 := x1.ok.put (o := .tup vs) hp
  exact hQ _ (.tup ds) μ1 _ _ (x1.trans x2) ⟨p, vs, rfl, SqT.of upd_same, r1.ext x2⟩ h1.2
theorem df_lstS (h : DAs Z F W es tA) : DF Z F W (.List es pos) (dLst tA) := by
  obtain ⟨ta', pa, ha⟩ := h
  refine ⟨_, fun i => pe_lst (pa i), fun B ρ σ μ S H R E Q env ok h hE hQ => ?_⟩
  refine ha B ρ σ μ S H _ E _ env ok h hE fun vs ds μ1 S1 H1 x1 r1 h1 => ⟨by rw [r1.length]; exact h1.1, fun p hp => ?_⟩
  obtain ⟨n0, n1, n2⟩ := new_own env x1 hp
  exact hQ p vs ds μ1 _ _ (x1.trans (x1.ok.putOwn hp)) n0 upd_same n1 n2 (r1.newOwn hp) h1.2
end
end DL
namespace DL
open PySem PySem.Spec PyProof.Rows L2
theorem mcl {mg : Str → Option Value} {K : PySem.W.Frag} {x : Str} (m : mg x = some (.ref (He.ga K x))) (h : bexc x = none := by decide) : mg x = some (clsV K x) := by
  unfold clsV
  rw [h]
  exact m
theorem pe_clsO {X : Cx} {x : Str} {p : Pos} (hg : Gl X x) (m : X.mg x = some (.ref (He.ga X.K x))) (h : bexc x = none := by decide) (hd : (x == ("__debug__" : Str)) = false := by decide) : PE X (.Name x p) (tC (vCls X.K x)) :=
  pe_glob hg m (by unfold vCls; rw [h]; rfl) hd
theorem pe_clsB {X : Cx} {x : Str} {id : String} {p : Pos} (hg : Gl X x) (m : X.mg x = none) (hv : bootBuiltins x = some (.type id)) (h : bexc x = some id) (hn : x ≠ "__name__" := by decide) (hd : (x == ("__debug__" : Str)) = false := by decide) : PE X (.Name x p) (tC (vCls X.K x)) :=
  pe_bltn hg m hv (by unfold vCls; rw [h]; rfl) hn hd
/-- what the head tells of some classes, put together -/
theorem exAll_of {K : PySem.W.Frag} {ex : List (Str × Str)} {rel : List (Str × Str × Bool)} (he : ∀ e ∈ ex, ExF.ok K e = true) (hr : ∀ r ∈ rel, RelF.ok K r = true) (xs ys : List Str) (h1 : (xs.all fun x => (bexc x).isNone && ex.any fun e => decide (e.1 = x)) = true)
    (h2 : (xs.all fun x => ys.all fun y => decide ((x, y, isSub x y) ∈ rel)) = true) : ExAll K xs ys where
  ec := fun x hx => by
    have h := List.all_eq_true.mp h1 x hx
    rw [Bool.and_eq_true] at h
    obtain ⟨e, he', q⟩ := List.any_eq_true.mp h.2
    obtain ⟨e1, e2⟩ := e
    have q' : e1 = x := of_decide_eq_true q
    subst q'
    exact ⟨Option.isNone_iff_eq_none.mp h.1, (ExF.facts (he _ he')).ec⟩
  rel := fun x hx y hy => by
    have h := hr _ (of_decide_eq_true (List.all_eq_true.mp (List.all_eq_true.mp h2 x hx) y hy))
    unfold RelF.ok at h
    simp only [Bool.and_eq_true, decide_eq_true_eq] at h
    exact h
end DL
/-! text TD -/
/-! DL: typed data (lamps, stretches, logs, runs), loops and comprehensions over typed lists. -/
namespace DL
open PySem PySem.Spec PyProof.Rows L2
section
variable {Z : Wld} {g : DG} {tb : DTS Z} {B : EndsD Z} {α : Type}
theorem loop_t (enc : α → D) (I : List α → Rho → Z.M → Prop) (hs : ∀ x xs ρ μ N, I (x :: xs) ρ μ → (∀ ρ' μ', I xs ρ' μ' → N ρ' μ') → g (enc x) ρ fun ρ' => tb { B with nx := N, ct := N, bk := B.nx } ρ' μ) (he : ∀ ρ μ, I [] ρ μ → B.nx ρ μ) :
    ∀ {xs ρ μ}, I xs ρ μ → loopD g tb B (xs.map enc) ρ μ
  | [], ρ, μ, h => he ρ μ h
  | x :: xs, ρ, μ, h => hs x xs ρ μ _ h fun ρ' μ' h' => loop_t enc I hs he h'
theorem loop_rg {lo : Int} {n : Nat} {ds : List D} (hrs : IsRg lo n ds) (I : Nat → Rho → Z.M → Prop)
    (hs : ∀ i ρ μ N, i < n → I i ρ μ → (∀ ρ' μ', I (i + 1) ρ' μ' → N ρ' μ') → g (.int (lo + (i : Nat))) ρ fun ρ' => tb { B with nx := N, ct := N, bk := B.nx } ρ' μ) (he : ∀ ρ μ, I n ρ μ → B.nx ρ μ) {ρ : Rho} {μ : Z.M} (h0 : I 0 ρ μ) : loopD g tb B ds ρ μ := by
  rw [hrs.e]
  have key : ∀ (m i : Nat) (ρ : Rho) (μ : Z.M), i + m = n → I i ρ μ → loopD g tb B (rangeF (lo + i) m) ρ μ := by
    intro m
    induction m with
    | zero => intro i ρ μ e h; rw [show i = n by omega] at h; exact he ρ μ h
    | succ m ih =>
      intro i ρ μ e h
      show g (.int (lo + i)) ρ _
      refine hs i ρ μ _ (by omega) h fun ρ' μ' h' => ?_
      have q := ih (i + 1) ρ' μ' (by omega) h'
      rw [show (lo + ((i + 1 : Nat) : Int)) = lo + i + 1 by omega] at q
      exact q
  have := key n 0 ρ μ (by omega) h0
  simpa using this
variable {tt : DTT Z} {te : DT Z} {R : List D → Z.M → Prop} {E : Xc → Z.M → Prop} {ρ : Rho}
theorem comp_inv (enc : α → D) (I : List α → List D → Z.M → Prop)
    (hs : ∀ x xs acc μ (N : List D → Z.M → Prop), I (x :: xs) acc μ → (∀ acc' μ', I xs acc' μ' → N acc' μ') → g (enc x) ρ fun ρ' => tt ρ' μ (fun b μ' => if b = true then te ρ' μ' (fun y μ2 => sta y = true ∧ acc.length < sizeLine ∧ N (acc ++ [y]) μ2) (fun _ _ => False) else N acc μ') fun _ _ => False)
    (he : ∀ acc μ, I [] acc μ → R acc μ) : ∀ {xs acc μ}, I xs acc μ → compD g tt te R E ρ (xs.map enc) acc μ
  | [], acc, μ, h => he acc μ h
  | x :: xs, acc, μ, h => hs x xs acc μ _ h fun acc' μ' h' => comp_inv enc I hs he h'
/-- each item gives one value of a function, the state stays -/
theorem comp_fun (enc : α → D) (f : α → D) {μ : Z.M} {xs : List α} (hl : xs.length ≤ sizeLine)
    (hs : ∀ x ∈ xs, ∀ (k : D → Z.M → Prop) (k' : Z.M → Prop), k (f x) μ → g (enc x) ρ fun ρ' => tt ρ' μ (fun b μ' => if b = true then te ρ' μ' k (fun _ _ => False) else k' μ') fun _ _ => False) (hf : ∀ x ∈ xs, sta (f x) = true)
    (h : R (xs.map f) μ) : compD g tt te R E ρ (xs.map enc) [] μ := by
  refine comp_inv enc (fun rem acc μ' => μ' = μ ∧ ∃ pre, xs = pre ++ rem ∧ acc = pre.map f) ?_ ?_ ⟨rfl, [], rfl, rfl⟩
  · rintro x rem acc μ' N ⟨rfl, pre, rfl, rfl⟩ hN
    have hx : x ∈ pre ++ x :: rem := by simp
    refine hs x hx _ _ ⟨hf x hx, by simp at hl ⊢; omega, hN _ _ ⟨rfl, pre ++ [x], by simp, by simp⟩⟩
  · rintro acc μ' ⟨rfl, pre, e, rfl⟩
    rw [List.append_nil] at e
    rw [← e]
    exact h
/-- items that pass a test give values -/
theorem comp_opt (enc : α → D) (f : α → Option D) {μ : Z.M} {xs : List α} (hl : xs.length ≤ sizeLine)
    (hs : ∀ x ∈ xs, ∀ (k : D → Z.M → Prop) (k' : Z.M → Prop), (match f x with | some y => k y μ | none => k' μ) → g (enc x) ρ fun ρ' => tt ρ' μ (fun b μ' => if b = true then te ρ' μ' k (fun _ _ => False) else k' μ') fun _ _ => False) (hf : ∀ x ∈ xs, ∀ y, f x = some y → sta y = true)
    (h : R (xs.filterMap f) μ) : compD g tt te R E ρ (xs.map enc) [] μ := by
  refine comp_inv enc (fun rem acc μ' => μ' = μ ∧ ∃ pre, xs = pre ++ rem ∧ acc = pre.filterMap f) ?_ ?_ ⟨rfl, [], rfl, rfl⟩
  · rintro x rem acc μ' N ⟨rfl, pre, rfl, rfl⟩ hN
    have hx : x ∈ pre ++ x :: rem := by simp
    have hlen : (pre.filterMap f).length < sizeLine := by
      have := List.length_filterMap_le f pre
      simp at hl
      omega
    refine hs x hx _ _ ?_
    cases e : f x with
    | some y => exact ⟨hf x hx y e, hlen, hN _ _ ⟨rfl, pre ++ [x], by simp, by simp [e]⟩⟩
    | none => exact hN _ _ ⟨rfl, pre ++ [x], by simp, by simp [e]⟩
  · rintro acc μ' ⟨rfl, pre, e, rfl⟩
    rw [List.append_nil] at e
    rw [← e]
    exact h
end
/-- items numbered -/
def enI {α : Type} : Int → List α → List (Int × α)
  | _, [] => []
  | i, x :: xs => (i, x) :: enI (i + 1) xs
theorem enumF_map {α : Type} (enc : α → D) : ∀ (i : Nat) (xs : List α), enumF i (xs.map enc) = (enI i xs).map fun p => .tup [.int p.1, enc p.2]
  | _, [] => rfl
  | i, x :: xs => by
    rw [List.map_cons, enumF, enumF_map enc (i + 1) xs, enI, List.map_cons]
    rfl
theorem enI_length {α : Type} : ∀ (i : Int) (xs : List α), (enI i xs).length = xs.length
  | _, [] => rfl
  | i, x :: xs => by rw [enI, List.length_cons, enI_length, List.length_cons]
theorem zipF_map {α β : Type} (f : α → D) (g : β → D) : ∀ (xs : List α) (ys : List β), zipF (xs.map f) (ys.map g) = (xs.zip ys).map fun p => .tup [f p.1, g p.2]
  | [], _ => by simp [zipF]
  | x :: xs, [] => by simp [zipF]
  | x :: xs, y :: ys => by
    rw [List.map_cons, List.map_cons, zipF, zipF_map f g xs ys, List.zip_cons_cons, List.map_cons]
theorem rangeF_map : ∀ (lo : Int) (n : Nat), rangeF lo n = ((List.range n).map fun (i : Nat) => lo + (i : Int)).map D.int := by
  intro lo n
  induction n generalizing lo with
  | zero => rfl
  | succ n ih =>
    rw [rangeF, ih, List.range_succ_eq_map, List.map_cons, List.map_map, List.map_cons, List.map_map, List.map_map]
    congr 1
    · simp
    · apply List.map_congr_left
      intro a _
      simp
      omega
/-! ### lamps, stretches, logs, runs -/
abbrev Lg := List (Int × Int)
abbrev Lamp := Bool × Int
abbrev Rn := Int × Int × Int
def kS (k : Bool) : Str := if k = true then "hold" else "pulse"
def pD (p : Int × Int) : D := .tup [.int p.1, .int p.2]
def logD (g : Lg) : D := .tup (g.map pD)
def lampD (l : Lamp) : D := .tup [.str (kS l.1), .int l.2]
def rnD (r : Rn) : D := .tup [.int r.1, .int r.2.1, .int r.2.2]
def runsD (m : List Rn) : D := .tup (m.map rnD)
def intsT (ns : List Int) : D := .tup (ns.map D.int)
def intsL (ns : List Int) : D := .lst (ns.map D.int)
theorem kS_hold {k : Bool} : decide (kS k = "hold") = k := by cases k <;> decide
theorem kS_pulse {k : Bool} : decide (kS k = "pulse") = !k := by cases k <;> decide
theorem staL_map {α : Type} {f : α → D} (h : ∀ x, sta (f x) = true) (xs : List α) : staL (xs.map f) = true := staL_all.mpr fun d hd => by
  obtain ⟨x, _, rfl⟩ := List.mem_map.mp hd
  exact h x
theorem sta_p (p : Int × Int) : sta (pD p) = true := rfl
theorem sta_rn (p : Rn) : sta (rnD p) = true := rfl
theorem sta_lamp (p : Lamp) : sta (lampD p) = true := rfl
theorem staL_ints (ns : List Int) : staL (ns.map D.int) = true := staL_map (fun _ => rfl) ns
theorem staL_p (g : Lg) : staL (g.map pD) = true := staL_map sta_p g
theorem staL_rn (g : List Rn) : staL (g.map rnD) = true := staL_map sta_rn g
theorem staL_lamp (g : List Lamp) : staL (g.map lampD) = true := staL_map sta_lamp g
theorem sta_ints (ns : List Int) : sta (intsL ns) = true := by unfold intsL; simp only [sta]; exact staL_ints ns
theorem sta_log (g : Lg) : sta (logD g) = true := by unfold logD; simp only [sta]; exact staL_p g
theorem staL_log (g : List Lg) : staL (g.map logD) = true := staL_map sta_log g
theorem sta_runs (g : List Rn) : sta (runsD g) = true := by unfold runsD; simp only [sta]; exact staL_rn g
theorem map_nil_iff {α β : Type} {f : α → β} {xs : List α} : (xs.map f).isEmpty = xs.isEmpty := by cases xs <;> rfl
theorem atI_map {α β : Type} (f : α → β) (xs : List α) (i : Int) : atI (xs.map f) i = (atI xs i).map f := by
  unfold atI
  rw [List.length_map]
  cases ixN xs.length i with
  | none => rfl
  | some j => simp
theorem cutL_map {α β : Type} (f : α → β) (xs : List α) (lo hi : Option Int) : cutL (xs.map f) lo hi = (cutL xs lo hi).map f := by
  unfold cutL
  rw [List.length_map, List.map_take, List.map_drop]
theorem at_last {α : Type} (xs : List α) (x : α) : atI (xs ++ [x]) (-1) = some x := by
  unfold atI ixN
  rw [if_neg (by decide), if_pos (by simp; omega)]
  show (xs ++ [x])[(-1 + ((xs ++ [x]).length : Int)).toNat]? = _
  rw [show (-1 + ((xs ++ [x]).length : Int)).toNat = xs.length by rw [List.length_append, List.length_singleton]; omega]
  simp
theorem ix_last {α : Type} (xs : List α) (x : α) : ixN (xs ++ [x]).length (-1) = some xs.length := by
  unfold ixN
  rw [if_neg (by decide), if_pos (by simp; omega), show (-1 + ((xs ++ [x]).length : Int)).toNat = xs.length by rw [List.length_append, List.length_singleton]; omega]
theorem set_last {α : Type} (xs : List α) (x y : α) : (xs ++ [x]).set xs.length y = xs ++ [y] := by simp
theorem app_ne {α : Type} (xs : List α) (x : α) : (xs ++ [x]).isEmpty = false := by cases xs <;> rfl
theorem at_all {α : Type} {xs : List α} {k : Int} {Q : α → Prop} (h : (xs.length : Int) = k) : (∀ m : Int, 0 ≤ m → m < k → ∃ d, atI xs m = some d ∧ Q d) ↔ ∀ d ∈ xs, Q d := by
  constructor
  · intro q d hd
    obtain ⟨j, hj, e⟩ := List.mem_iff_getElem.mp hd
    obtain ⟨d', e1, q1⟩ := q (j : Int) (by omega) (by omega)
    unfold atI ixN at e1
    rw [if_pos (by omega), if_pos (by omega)] at e1
    have e2 : xs[j]? = some d' := e1
    rw [List.getElem?_eq_getElem hj, e] at e2
    cases e2
    exact q1
  · intro q m h0 h1
    obtain ⟨a, e, hm, _⟩ := at_nat (l := xs) h0 (by omega)
    exact ⟨a, e, q a hm⟩
theorem q_set {i : Int} {m : Nat} {P : Nat → Prop} : (∃ (k : Int) (j : Nat), D.int i = .int k ∧ ixN m k = some j ∧ P j) ↔ ∃ j, ixN m i = some j ∧ P j := ⟨by rintro ⟨k, j, e, h⟩; cases e; exact ⟨j, h⟩, fun ⟨j, h⟩ => ⟨i, j, rfl, h⟩⟩
theorem at3 {α : Type} {a b c d : α} {l : List α} : atI (a :: b :: c :: d :: l) 3 = some d := by
  unfold atI ixN
  rw [if_pos (by decide), if_pos (by simp; omega)]
  rfl
theorem at_two {α : Type} {a b : α} {Q : α → Prop} : (∀ m : Int, 0 ≤ m → m < 2 → ∃ d, atI [a, b] m = some d ∧ Q d) ↔ (Q a ∧ Q b) := (at_all (xs := [a, b]) (Q := Q) rfl).trans (by simp)
theorem at_three {α : Type} {a b c : α} {Q : α → Prop} : (∀ m : Int, 0 ≤ m → m < 3 → ∃ d, atI [a, b, c] m = some d ∧ Q d) ↔ (Q a ∧ Q b ∧ Q c) := (at_all (xs := [a, b, c]) (Q := Q) rfl).trans (by simp)
theorem at_four {α : Type} {a b c d : α} {Q : α → Prop} : (∀ m : Int, 0 ≤ m → m < 4 → ∃ x, atI [a, b, c, d] m = some x ∧ Q x) ↔ (Q a ∧ Q b ∧ Q c ∧ Q d) := (at_all (xs := [a, b, c, d]) (Q := Q) rfl).trans (by simp)
end DL
/-! text FAs -/
/-! facts.py: what fits (specs) -/
namespace LP
open PySem PySem.Spec PyProof.Rows L2 DL
def fitsB (l : Lamp) (s : Int × Int) : Bool := !decide (1000000000 < s.2 - l.2) && (if l.1 = true then decide (l.2 ≤ s.2 - s.1) else ((s.2 - s.1) % l.2 == 0))
def wrongI (l : Lamp) : Int → Lg → List Int
  | _, [] => []
  | i, s :: g => if fitsB l s = true then wrongI l (i + 1) g else i :: wrongI l (i + 1) g
section
variable {Z : Wld}
def sp_does_fit : SpD Z := fun ds μ R _ => ∃ l s, ds = [lampD l, pD s] ∧ 0 < l.2 ∧ R (.bl (fitsB l s)) μ
def sp_wrong_stretches : SpD Z := fun ds μ R _ => ∃ l g, ds = [lampD l, logD g] ∧ 0 < l.2 ∧ g.length ≤ 10000 ∧ R (intsT (wrongI l 0 g)) μ
end
end LP
/-! text DLreel -/
/-! DL: the world of a reel: a list of a list of numbers (changed in place) and a count, which a ghost number bounds. -/
namespace DL
open PySem PySem.Spec PyProof.Rows L2
def ReelAt (p l : Addr) (n : Nat) (H : Hp) : Prop := ∃ (cells : List Int) (turn : Int), H p = some (.lst [.ref l, .int turn]) ∧ H l = some (.lst (cells.map V.int)) ∧ 0 < cells.length ∧ cells.length ≤ 64 ∧ p ≠ l ∧ 0 ≤ turn ∧ turn ≤ n
structure RSt where
  p : Addr
  l : Addr
  n : Nat
def ReelW : Wld where
  M := Option RSt
  reg := fun μ b => match μ with
    | none => False
    | some q => b = q.p ∨ b = q.l
  J := fun μ _ H => match μ with
    | none => True
    | some q => ReelAt q.p q.l q.n H
  held := fun {μ S H a} j r => by
    cases μ with
    | none => exact r.elim
    | some q =>
      obtain ⟨cells, turn, h1, h2, _⟩ := j
      rcases r with rfl | rfl
      · rw [h1]; simp
      · rw [h2]; simp
  loc := fun {μ S S' H H'} j _ e => by
    cases μ with
    | none => trivial
    | some q =>
      obtain ⟨cells, turn, h1, h2, h3⟩ := j
      exact ⟨cells, turn, (e _ (.inl rfl)).trans h1, (e _ (.inr rfl)).trans h2, h3⟩
theorem reel_reg0 : ∀ a, ¬ ReelW.reg none a := fun _ h => h
theorem reel_J0 : ∀ S H, ReelW.J none S H := fun _ _ => trivial
/-- the reel's state: where it stands, and how many draws there were at most -/
abbrev rs (p l : Addr) (n : Nat) : ReelW.M := some (⟨p, l, n⟩ : RSt)
def sp_spin : SpD ReelW := fun ds μ R _ => ∃ p l n many, ds = [.op (.ref p), .int many] ∧ μ = rs p l n ∧ n < 2 ^ 60 ∧ 0 < many ∧ many < 2 ^ 64 ∧ ∀ m : Int, 0 ≤ m → m < many → R (.int m) (rs p l (n + 1))
def sp_reel : SpD ReelW := fun ds μ R _ => ∃ ns, ds = [.scr ns] ∧ ns.length ≤ 63 ∧ μ = none ∧ ∀ p l : Addr, R (.op (.ref p)) (rs p l 0)
/-- what a draw does to the heap -/
structure DrP (p l : Addr) (H H' : Hp) : Prop where
  keep : ∀ a o, a ≠ p → a ≠ l → H a = some o → H' a = some o
  there : ∀ a, H a ≠ none → H' a ≠ none
theorem DrP.refl {p l : Addr} {H : Hp} : DrP p l H H := ⟨fun _ _ _ _ e => e, fun _ h => h⟩
theorem DrP.upd {p l x : Addr} {H H' : Hp} {o : HO} (d : DrP p l H H') (hx : x = p ∨ x = l) : DrP p l H (L2.upd H' x o) :=
  ⟨fun a u n1 n2 e => by rw [upd_ne (fun z => hx.elim (fun q => n1 (z.trans q)) fun q => n2 (z.trans q))]; exact d.keep a u n1 n2 e, fun a h => by
    by_cases e : a = x
    · rw [e, upd_same]; simp
    · rw [upd_ne e]; exact d.there a h⟩
theorem DrP.ext {p l : Addr} {n n' : Nat} {S H H' : Hp} (d : DrP p l H H') (ok : Ok ReelW (rs p l n) S H) (j : ReelAt p l n' H') : Ext ReelW (rs p l n) S H (rs p l n') S H' where
  ok := ⟨fun a u e => d.keep a u (fun z => by rw [z] at e; rw [ok.off p (.inl rfl)] at e; cases e) (fun z => by rw [z] at e; rw [ok.off l (.inr rfl)] at e; cases e) (ok.sub a u e), j, fun a h => ok.off a h, ok.nt⟩
  keep := fun a o h _ e => d.keep a o (fun z => h (.inl z)) (fun z => h (.inr z)) e
  same := Same.refl S
  new := fun a h => .inl h
  reg := fun a h => .inl h
  there := fun a f => Fr.of fun o e nt => by
    obtain ⟨cells, turn, h1, h2, _⟩ := j
    by_cases hp : a = p
    · rw [hp] at f; exact f.nt h1
    · by_cases hl : a = l
      · rw [hl] at f; exact f.nt h2
      · exact f.nt (d.keep a o hp hl e) nt
theorem ints_invR {K : PySem.W.Frag} {rg : Addr → Prop} {S H : Hp} : ∀ {ns : List Int} {vs : List V}, RdL K rg S H (ns.map .int) vs → vs = ns.map V.int
  | [], vs, h => h
  | n :: ns, vs, h => by
    obtain ⟨v, r, rfl, h1, h2⟩ := h
    cases h1
    rw [ints_invR h2]
    rfl
def dsRetReel (t1 : DTA ReelW) : DTS ReelW := fun B ρ μ => t1 ρ μ (fun ds1 μ1 => μ1 = none ∧ ∃ cells : List Int, ds1 = cells.map D.int ∧ 0 < cells.length ∧ cells.length ≤ 64 ∧ ∀ p l : Addr, B.rt (.op (.ref p)) (rs p l 0)) fun x μ' => B.ex x ρ μ'
/-- return [.., 0] -/
theorem ds_retReel {F : Fm} {W : WX} {e1 : Expr} {t1 : DTA ReelW} {j : Nat} {p1 pos pos' : Pos} (h1 : DF ReelW F W e1 t1)
    (hs : ∀ i, starEach (e1 :: [.Constant (.int 0) j p1]) (F.X i).env = (false, eval e1 (F.X i).env) :: starEach [.Constant (.int 0) j p1] (F.X i).env := by intro _; rfl) :
    DS ReelW F W (.Return (some (.List [e1, .Constant (.int 0) j p1] pos)) pos') (dsRetReel t1) := by
  obtain ⟨te1, pp1, h1⟩ := h1
  refine ⟨_, fun i => ps_ret (pe_lst (pa_cons (pp1 i) (pa_cons pe_int pa_nil) (hs i))), fun μ0 S0 H0 ρ σ μ S H B L r ht k => ?_⟩
  refine h1 H0 ρ σ μ S H _ _ _ r.env r.ok ht (k.wish r) fun l vs1 ds1 μ1 S1 H1 x1 n1 l1 s1 f1 r1 ht2 => ?_
  obtain ⟨rfl, cells, rfl, hc0, hc, hR⟩ := ht2
  refine ⟨by show 2 ≤ sizeLine; decide, fun p hp => ?_⟩
  have q1 := ints_invR r1
  subst q1
  have nl : l ≠ p := fun z => by rw [z, hp] at l1; cases l1
  have xx := r.ext.trans x1
  have b0 : Fr H0 p := xx.there p (.inl hp)
  have b1 : Fr H0 l := Classical.byContradiction fun w => f1 (.inr w)
  have sp : S1 p = none := by
    cases z : S1 p with
    | none => rfl
    | some o => have := x1.ok.sub p _ z; rw [hp] at this; cases this
  show L.rt (.ref p) (upd H1 p (.lst [.ref l, .int 0]))
  have J : ReelAt p l 0 (upd H1 p (.lst [.ref l, .int 0])) := ⟨cells, 0, upd_same, (upd_ne nl).trans l1, hc0, hc, Ne.symm nl, Int.le_refl _, Int.le_refl _⟩
  have fin : Ext ReelW μ0 S0 H0 (rs p l 0) S1 (upd H1 p (.lst [.ref l, .int 0])) := by
    refine ⟨⟨fun b o e => ?_, J, fun b hb => ?_, x1.ok.nt⟩, fun b o nb nt e => ?_, xx.same, xx.new, fun b hb => ?_, fun b hb => ?_⟩
    · rw [upd_ne (fun z => by rw [z, sp] at e; cases e)]
      exact x1.ok.sub b o e
    · rcases hb with h | h
      · rw [show b = p from h]; exact sp
      · rw [show b = l from h]; exact s1
    · rw [upd_ne (fun z => by rw [z] at e; exact b0.nt e nt)]
      exact xx.keep b o nb nt e
    · rcases hb with h | h
      · rw [show b = p from h]; exact .inr b0
      · rw [show b = l from h]; exact .inr b1
    · by_cases z : b = p
      · rw [z]; exact b0
      · rw [Fr, upd_ne z] at hb; exact xx.there b hb
  exact k.rt (.ref p) (.op (.ref p)) _ _ _ fin rfl rfl (hR p l)
end DL
/-! text RLs -/
/-! the defs that the laws of a reel (k11 to k24) share: specs -/
namespace RL
open PySem PySem.Spec PyProof.Rows L2 DL LP
def AscP : Int → Lg → Prop
  | _, [] => True
  | last, s :: g => last < s.1 ∧ s.1 < s.2 ∧ AscP s.2 g
structure VLog (b : Int) (g : Lg) : Prop where
  asc : AscP (-1) g
  le : ∀ s ∈ g, s.2 ≤ b
  len : g.length ≤ 60
def AscI : Int → List Int → Prop
  | _, [] => True
  | last, m :: ms => last < m ∧ AscI m ms
/-- a lamp sees one more motion; the log's last stretch stands first -/
def stepR (l : Lamp) (rev : Lg) (m : Int) : Lg := match rev with
  | [] => [(m, m + l.2)]
  | s :: r => if s.2 < m then (m, m + l.2) :: s :: r else if l.1 = true ∨ m = s.2 then (s.1, m + l.2) :: r else s :: r
def playR (l : Lamp) (ms : List Int) : Lg := ms.foldl (stepR l) []
def play (l : Lamp) (ms : List Int) : Lg := (playR l ms).reverse
def LampOk (top : Int) (l : Lamp) : Prop := 1 ≤ l.2 ∧ l.2 ≤ top
def sp__law_spin : SpD ReelW := sp_spin
def sp__law_reel : SpD ReelW := sp_reel
def sp__law_lamps : SpD ReelW := fun ds μ R _ => ∃ (p l : Addr) (n : Nat) (many top : Int), ds = [.op (.ref p), .int many, .int top] ∧ μ = rs p l n ∧ n < 2 ^ 50 ∧ 1 ≤ many ∧ many ≤ 16 ∧ 1 ≤ top ∧ top ≤ 1000000000 ∧
  ∀ (ls : List Lamp) (n' : Nat), ls ≠ [] → ls.length ≤ many → (∀ l ∈ ls, LampOk top l) → n' ≤ n + 200 → R (.tup (ls.map lampD)) (rs p l n')
def sp__law_minutes : SpD ReelW := fun ds μ R _ => ∃ (p l : Addr) (n : Nat) (many gap : Int), ds = [.op (.ref p), .int many, .int gap] ∧ μ = rs p l n ∧ n < 2 ^ 50 ∧ 0 ≤ many ∧ many ≤ 60 ∧ 1 ≤ gap ∧ gap ≤ 1000000 ∧
  ∀ (ms : List Int) (n' : Nat), AscI (-1) ms → ms.length ≤ many → (∀ m ∈ ms, m ≤ 500000000) → n' ≤ n + 1000 → R (intsL ms) (rs p l n')
/-- the minutes may be a list or a tuple -/
def IsMs (d : D) (ms : List Int) : Prop := d = intsL ms ∨ d = .tup (ms.map D.int)
def sp__law_log : SpD ReelW := fun ds μ R _ => ∃ (l : Lamp) (ms : List Int) (md : D), ds = [lampD l, md] ∧ IsMs md ms ∧ ms.length ≤ 10000 ∧ R (logD (play l ms)) μ
def sp__law_logs : SpD ReelW := fun ds μ R _ => ∃ (ls : List Lamp) (ms : List Int) (md : D), ds = [.tup (ls.map lampD), md] ∧ IsMs md ms ∧ ls.length ≤ 10000 ∧ ms.length ≤ 10000 ∧ R (.tup (ls.map fun l => logD (play l ms))) μ
def sp__law_bent : SpD ReelW := fun ds μ R _ => ∃ (p l : Addr) (n : Nat) (b : Int) (g : Lg), ds = [.op (.ref p), logD g] ∧ μ = rs p l n ∧ n < 2 ^ 50 ∧ 10 ≤ b ∧ VLog b g ∧ ∀ (g' : Lg) (n' : Nat), VLog (b + 10) g' → (∀ L : Int, 1 ≤ L → (∀ s ∈ g, s.2 - s.1 ≤ L) → ∀ s ∈ g', s.2 - s.1 ≤ L + 5) → g'.length ≤ g.length + 1 → n' ≤ n + 10 → R (logD g') (rs p l n')
/-- no stretch is long, there are not many -/
def WLog (motions : Int) (x : Lamp) (g : Lg) : Prop := (∀ s ∈ g, s.2 - s.1 ≤ x.2 * motions + 11) ∧ (g.length : Int) ≤ motions + 2
def sp__law_scene : SpD ReelW := fun ds μ R _ => ∃ (p l : Addr) (n : Nat) (many top motions : Int), ds = [.op (.ref p), .int many, .int top, .int motions] ∧ μ = rs p l n ∧ n < 2 ^ 49 ∧ 1 ≤ many ∧ many ≤ 16 ∧ 1 ≤ top ∧ top ≤ 100000 ∧ 0 ≤ motions ∧ motions ≤ 60 ∧
  ∀ (ls : List Lamp) (gs : List Lg) (n' : Nat), ls ≠ [] → ls.length ≤ many → (gs.length = ls.length ∧ ∀ (j : Nat) (x : Lamp) (g : Lg), ls[j]? = some x → gs[j]? = some g → WLog motions x g) → (∀ l ∈ ls, LampOk top l) → (∀ g ∈ gs, VLog 600000000 g) → n' ≤ n + 5000 → R (.lst [.tup (ls.map lampD), .tup (gs.map logD)]) (rs p l n')
def sp__law_fits : SpD ReelW := fun ds μ R _ => ∃ l s, ds = [lampD l, pD s] ∧ 0 < l.2 ∧ s.1 < s.2 ∧ R (.bl (fitsB l s)) μ
end RL
/-! text DLpool -/
/-! DL: the world of a pool: a list of a list of great numbers (replaced, never changed), a count, a number. -/
namespace DL
open PySem PySem.Spec PyProof.Rows L2
def PoolAt (p l : Addr) (H : Hp) : Prop := ∃ (deep : List Int) (times mix : Int), H p = some (.lst [.ref l, .int times, .int mix]) ∧ H l = some (.lst (deep.map V.int)) ∧ deep.length ≤ 64 ∧ p ≠ l ∧ 0 ≤ times
def PoolW : Wld where
  M := Option (Addr × Addr)
  reg := fun μ b => match μ with
    | none => False
    | some q => b = q.1 ∨ b = q.2
  J := fun μ _ H => match μ with
    | none => True
    | some q => PoolAt q.1 q.2 H
  held := fun {μ S H a} j r => by
    cases μ with
    | none => exact r.elim
    | some q =>
      obtain ⟨deep, times, mix, h1, h2, _⟩ := j
      rcases r with rfl | rfl
      · rw [h1]; simp
      · rw [h2]; simp
  loc := fun {μ S S' H H'} j _ e => by
    cases μ with
    | none => trivial
    | some q =>
      obtain ⟨deep, times, mix, h1, h2, h3⟩ := j
      exact ⟨deep, times, mix, (e _ (.inl rfl)).trans h1, (e _ (.inr rfl)).trans h2, h3⟩
theorem pool_reg0 : ∀ a, ¬ PoolW.reg none a := fun _ h => h
theorem pool_J0 : ∀ S H, PoolW.J none S H := fun _ _ => trivial
/-- the pool's state -/
abbrev pst (p l : Addr) : PoolW.M := some ((p, l) : Addr × Addr)
def sp_dip : SpD PoolW := fun ds μ R _ => ∃ p l many, ds = [.op (.ref p), .int many] ∧ μ = pst p l ∧ 0 < many ∧ many < 2 ^ 64 ∧ ∀ (m : Int) (l' : Addr), 0 ≤ m → m < many → R (.int m) (pst p l')
def sp_pool : SpD PoolW := fun ds μ R _ => ∃ ns, ds = [.scr ns] ∧ ns.length ≤ 63 ∧ μ = none ∧ ∀ p l : Addr, R (.op (.ref p)) (pst p l)
/-- what a draw does to the heap -/
structure DrPl (p l : Addr) (H H' : Hp) : Prop where
  keep : ∀ a o, a ≠ p → a ≠ l → H a = some o → H' a = some o
  there : ∀ a, H a ≠ none → H' a ≠ none
theorem DrPl.refl {p l : Addr} {H : Hp} : DrPl p l H H := ⟨fun _ _ _ _ e => e, fun _ h => h⟩
theorem DrPl.new {p l : Addr} {H H' : Hp} {t : Addr} {o : HO} (d : DrPl p l H H') (n : H' t = none) : DrPl p l H (L2.upd H' t o) :=
  ⟨fun a u n1 n2 e => by rw [upd_ne (ne_of_none (d.keep a u n1 n2 e) n)]; exact d.keep a u n1 n2 e, fun a h => by
    by_cases e : a = t
    · rw [e, upd_same]; simp
    · rw [upd_ne e]; exact d.there a h⟩
theorem DrPl.upd {p l : Addr} {H H' : Hp} {o : HO} (d : DrPl p l H H') : DrPl p l H (L2.upd H' p o) :=
  ⟨fun a u n1 n2 e => by rw [upd_ne n1]; exact d.keep a u n1 n2 e, fun a h => by
    by_cases e : a = p
    · rw [e, upd_same]; simp
    · rw [upd_ne e]; exact d.there a h⟩
theorem DrPl.ext {p l l' : Addr} {S H H' : Hp} (d : DrPl p l H H') (ok : Ok PoolW (pst p l) S H) (j : PoolAt p l' H') (n : l' = l ∨ H l' = none) : Ext PoolW (pst p l) S H (pst p l') S H' where
  ok := ⟨fun a u e => d.keep a u (fun z => by rw [z] at e; rw [ok.off p (.inl rfl)] at e; cases e) (fun z => by rw [z] at e; rw [ok.off l (.inr rfl)] at e; cases e) (ok.sub a u e), j, (fun a h => by
    rcases h with h | h
    · rw [show a = p from h]; exact ok.off _ (.inl rfl)
    · rw [show a = l' from h]
      rcases n with n | n
      · rw [n]; exact ok.off _ (.inr rfl)
      · cases e : S l' with
        | none => rfl
        | some o => have := ok.sub _ _ e; rw [n] at this; cases this), ok.nt⟩
  keep := fun a o h _ e => d.keep a o (fun z => h (.inl z)) (fun z => h (.inr z)) e
  same := Same.refl S
  new := fun a h => .inl h
  reg := fun a h => by
    rcases h with h | h
    · exact .inl (.inl h)
    · rw [show a = l' from h]
      rcases n with n | n
      · exact .inl (.inr n)
      · exact .inr (.inl n)
  there := fun a f => Fr.of fun o e nt => by
    have := d.there a (by rw [e]; simp)
    exact this f.no
theorem ints_invP {K : PySem.W.Frag} {rg : Addr → Prop} {S H : Hp} : ∀ {ns : List Int} {vs : List V}, RdL K rg S H (ns.map .int) vs → vs = ns.map V.int
  | [], vs, h => h
  | n :: ns, vs, h => by
    obtain ⟨v, r, rfl, h1, h2⟩ := h
    cases h1
    rw [ints_invP h2]
    rfl
def dsRetPool (t1 t2 : DTA PoolW) : DTS PoolW := fun B ρ μ => t1 ρ μ (fun ds1 μ1 => μ1 = none ∧ ∃ deep : List Int, ds1 = deep.map D.int ∧ deep.length ≤ 64 ∧ t2 ρ μ1 (fun ds2 μ2 => μ2 = none ∧ ∃ z m : Int, ds2 = [.int z, .int m] ∧ 0 ≤ z ∧ ∀ p l : Addr, B.rt (.op (.ref p)) (pst p l)) fun x μ' => B.ex x ρ μ') fun x μ' => B.ex x ρ μ'
/-- return [[..], 0, mix] -/
theorem ds_retPool {F : Fm} {W : WX} {e1 e2 e3 : Expr} {t1 t2 : DTA PoolW} {pos pos' : Pos} (h1 : DF PoolW F W e1 t1) (h2 : DA PoolW F W [e2, e3] t2)
    (hs : ∀ i, starEach (e1 :: [e2, e3]) (F.X i).env = (false, eval e1 (F.X i).env) :: starEach [e2, e3] (F.X i).env := by intro _; rfl) :
    DS PoolW F W (.Return (some (.List [e1, e2, e3] pos)) pos') (dsRetPool t1 t2) := by
  obtain ⟨te1, pp1, h1⟩ := h1
  obtain ⟨te2, pp2, h2⟩ := h2
  refine ⟨_, fun i => ps_ret (pe_lst (pa_cons (pp1 i) (pp2 i) (hs i))), fun μ0 S0 H0 ρ σ μ S H B L r ht k => ?_⟩
  refine h1 H0 ρ σ μ S H _ _ _ r.env r.ok ht (k.wish r) fun l vs1 ds1 μ1 S1 H1 x1 n1 l1 s1 f1 r1 ht2 => ?_
  obtain ⟨rfl, deep, rfl, hc, ht3⟩ := ht2
  refine h2 H0 ρ σ none S1 H1 _ _ _ (r.env.ext x1) x1.ok ht3 ((k.wish r).ext x1) fun vs2 ds2 μ2 S2 H2 x2 r2 hl2 ht4 => ?_
  obtain ⟨rfl, z, m, rfl, hz, hR⟩ := ht4
  obtain ⟨v1, q1, rfl, e1', v2, q2, rfl, e2', rfl⟩ := r2
  cases e1'
  cases e2'
  refine ⟨by show 3 ≤ sizeLine; decide, fun p hp => ?_⟩
  have q1 := ints_invP r1
  subst q1
  have l2 := (x2.lst l _ f1 l1).2
  have f2 := (x2.lst l _ f1 l1).1
  have nl : l ≠ p := fun z => by rw [z, hp] at l2; cases l2
  have xx := (r.ext.trans x1).trans x2
  have b0 : Fr H0 p := xx.there p (.inl hp)
  have b1 : Fr H0 l := Classical.byContradiction fun w => f1 (.inr w)
  have sp : S2 p = none := by
    cases z : S2 p with
    | none => rfl
    | some o => have := x2.ok.sub p _ z; rw [hp] at this; cases this
  have sl : S2 l = none := by
    cases z : S2 l with
    | none => rfl
    | some o =>
      rcases x2.new l (by rw [z]; simp) with w | w
      · exact absurd s1 w
      · exact w.nt l1
  show L.rt (.ref p) (upd H2 p (.lst [.ref l, .int z, .int m]))
  have J : PoolAt p l (upd H2 p (.lst [.ref l, .int z, .int m])) := ⟨deep, z, m, upd_same, (upd_ne nl).trans l2, hc, Ne.symm nl, hz⟩
  have fin : Ext PoolW μ0 S0 H0 (pst p l) S2 (upd H2 p (.lst [.ref l, .int z, .int m])) := by
    refine ⟨⟨fun b o e => ?_, J, fun b hb => ?_, x2.ok.nt⟩, fun b o nb nt e => ?_, xx.same, xx.new, fun b hb => ?_, fun b hb => ?_⟩
    · rw [upd_ne (fun z => by rw [z, sp] at e; cases e)]
      exact x2.ok.sub b o e
    · rcases hb with h | h
      · rw [show b = p from h]; exact sp
      · rw [show b = l from h]; exact sl
    · rw [upd_ne (fun z => by rw [z] at e; exact b0.nt e nt)]
      exact xx.keep b o nb nt e
    · rcases hb with h | h
      · rw [show b = p from h]; exact .inr b0
      · rw [show b = l from h]; exact .inr b1
    · by_cases z : b = p
      · rw [z]; exact b0
      · rw [Fr, upd_ne z] at hb; exact xx.there b hb
  exact k.rt (.ref p) (.op (.ref p)) _ _ _ fin rfl rfl (hR p l)
theorem canLay_intsP : ∀ ns : List Int, PyData.canLayAll0 (ns.map PyData.int) = true
  | [] => rfl
  | n :: ns => by simp only [List.map_cons, PyData.canLayAll0, PyData.canLay0, canLay_intsP ns, Bool.and_self]
theorem depth_intsP : ∀ ns : List Int, PyData.depthAll (ns.map PyData.int) = 0
  | [] => rfl
  | n :: ns => by simp only [List.map_cons, PyData.depthAll, PyData.depth, depth_intsP ns, Nat.max_self]
theorem shaped_intsP (ns : List Int) : SeqAt.shaped (.list (ns.map PyData.int)) = true := by
  unfold SeqAt.shaped
  simp only [PyData.canLay0, canLay_intsP, PyData.depth, depth_intsP]
  decide
end DL
/-! text DLit -/
/-! DL: isinstance(x, (list, tuple)): built-in types in a tuple -/
namespace DL
open PySem PySem.Spec PyProof.Rows L2
theorem paired_ty : ∀ cs : List String, Paired ClsV (cs.map V.ty) (cs.map Value.type)
  | [] => .nil
  | c :: cs => .cons (.ty c) (paired_ty cs)
theorem kit_anyT {K : PySem.W.Frag} {T : String} : ∀ {cs : List String}, (∀ c ∈ cs, PySem.W.kitOne K (.type T) (.type c) = some (isTy T c)) → PySem.W.kitAny K (.type T) (cs.map Value.type) = some (cs.any fun c => isTy T c)
  | [], _ => rfl
  | c :: cs, h => by
    have h1 := h c (List.mem_cons_self ..)
    have ih := kit_anyT (cs := cs) fun y hy => h y (List.mem_cons_of_mem _ hy)
    refine L2.kitAny_cons h1 (fun e => ?_) fun e => ?_
    · rw [List.any_cons, e, Bool.false_or]; exact ih
    · rw [List.any_cons, e, Bool.true_or]
def tTys : List String → TA
  | [] => tNil
  | c :: cs => tCons (tC (.ty c)) (tTys cs)
theorem tTys_run {σ : L2.St} {H : Hp} {Q : List V → Hp → Prop} : ∀ {cs : List String}, Q (cs.map V.ty) H → tTys cs σ H Q
  | [], h => h
  | c :: cs, h => tTys_run (Q := fun vs H' => Q (V.ty c :: vs) H') (cs := cs) h
def dIsTT {M : Type} (cs : List String) (ta : DT0 M) : DT0 M := fun ρ μ R E => ta ρ μ (fun d μ1 => ∃ T, tyD d = some T ∧ R (.bl (cs.any fun c => isTy T c)) μ1) E
section
variable {Z : Wld} {F : Fm} {W : WX} {e : Expr} {ta : DT Z}
theorem dx_isTT {k : Nat} {es : List Expr} {cs : List String} {p p2 pos : Pos} (hcs : ∀ c ∈ cs, c ∈ ["int", "bool", "str", "tuple", "list", "dict"]) (hl : cs.length ≤ 100) (hg : ∀ j, Gl (F.X j) "isinstance") (hm : ∀ j, (F.X j).mg "isinstance" = none)
    (ha : DE Z F W e ta) (hcl : ∀ j, PA (F.X j) es (tTys cs))
    (he : ∀ i, starEach (e :: [.Tuple es k p2]) (F.X i).env = (false, eval e (F.X i).env) :: starEach [.Tuple es k p2] (F.X i).env := by intro _; rfl) :
    DE Z F W (.Call (.Name "isinstance" p) [e, .Tuple es k p2] [] pos) (dIsTT cs ta) := by
  obtain ⟨te, pe, ha⟩ := ha
  refine ⟨tCB (rIsiT F.K) (tCons te (tCons (tTup (tTys cs)) tNil)), fun j => ?_, fun B ρ σ μ S H R E Q env ok h hE hQ => ?_⟩
  · rw [← F.hK j]
    exact pe_callB call_isiT (hg j) (hm j) (by decide +kernel) (pa_cons (pe j) (pa_cons (pe_tup (hcl j)) pa_nil) (he j)) (by decide) (by decide) (he j) (by rfl)
  · refine ha B ρ σ μ S H _ E _ env ok h hE fun v d μ1 S1 H1 x1 r1 h1 => ?_
    obtain ⟨T, hT, hR⟩ := h1
    refine tTys_run ⟨by rw [List.length_map]; exact Nat.le_trans hl (by decide), fun t ht => ?_⟩
    have x2 := x1.ok.put (o := .tup (cs.map V.ty)) ht
    obtain ⟨t1, t2⟩ := ty_of x2.ok.sub (r1.ext x2) hT
    exact ⟨v, t, cs.map V.ty, .type T, cs.map Value.type, _, rfl, upd_same, paired_ty cs, t1, kit_anyT fun c hc => kit_ty (kit_all T t2 c (hcs c hc)), hQ _ (.bl _) μ1 _ _ (x1.trans x2) rfl hR⟩
end
end DL
/-! text POs -/
/-! the defs that the laws of a pool (k25 to k36) share: specs -/
namespace DL
open PySem PySem.Spec PyProof.Rows L2
theorem fn_zero {Z : Wld} {P : Program} {w : World} {K : PySem.W.Frag} {mg : Str → Option Value} {base : Heap} {k : Nat} {f : Addr} {fd : FuncData} {ps : List Str} {sp : SpD Z} (h : ∀ ds μ R E, ¬ sp ds μ R E) : FnG P w K mg base k f fd ps (spOf K Z ps.length sp) :=
  ⟨fun vs H Q E q => q.1, fun A outer s H args us vs Q E _ _ _ _ _ q => by
    obtain ⟨_, ds, μ, S, R, Ed, _, _, _, hsp, _⟩ := q
    exact absurd hsp (h _ _ _ _)⟩
mutual
/-- none, bools, ints, texts, lists and tuples of such -/
def smD : D → Bool
  | .non => true | .bl _ => true | .int _ => true | .str _ => true
  | .tup xs => smDL xs
  | .lst xs => smDL xs
  | _ => false
def smDL : List D → Bool
  | [] => true
  | d :: ds => smD d && smDL ds
end
theorem smDL_all : ∀ {ds : List D}, smDL ds = true ↔ ∀ d ∈ ds, smD d = true
  | [] => by simp [smDL]
  | d :: ds => by simp [smDL, smDL_all]
structure SmP (n : Nat) (d : D) : Prop where
  s : smD d = true
  k : dep d ≤ n
  n : nodes d ≤ 1000000
end DL
namespace PO
open PySem PySem.Spec PyProof.Rows L2 DL LP RL
def sp__law_dip : SpD PoolW := sp_dip
def sp__law_pool : SpD PoolW := sp_pool
def sp__law_lamp : SpD PoolW := fun ds μ R _ => ∃ (p l : Addr) (upto : Int), ds = [.op (.ref p), .int upto] ∧ μ = pst p l ∧ 1 ≤ upto ∧ upto ≤ 1000000000 ∧ ∀ (x : Lamp) (l' : Addr), LampOk upto x → R (lampD x) (pst p l')
def sp__law_minutes : SpD PoolW := fun ds μ R _ => ∃ (p l : Addr) (upto many : Int), ds = [.op (.ref p), .int upto, .int many] ∧ μ = pst p l ∧ 1 ≤ upto ∧ upto ≤ 1000000000 ∧ 0 ≤ many ∧ many ≤ 1000 ∧ ∀ (ms : List Int) (l' : Addr), AscI (-1) ms → (ms.length : Int) ≤ many → (∀ m ∈ ms, m < upto) → R (intsL ms) (pst p l')
def sp__law_play : SpD PoolW := fun ds μ R _ => ∃ (x : Lamp) (ms : List Int) (md : D), ds = [lampD x, md] ∧ IsMs md ms ∧ ms.length ≤ 10000 ∧ R (logD (play x ms)) μ
def sp__law_any_log : SpD PoolW := fun ds μ R _ => ∃ (p l : Addr) (upto : Int), ds = [.op (.ref p), .int upto] ∧ μ = pst p l ∧ ∀ (g : Lg) (l' : Addr), AscP (-1) g → (∀ s ∈ g, s.2 ≤ upto) → g.length ≤ 3 → R (logD g) (pst p l')
def sp__law_fits : SpD PoolW := fun ds μ R _ => ∃ (x : Lamp) (g : Lg), ds = [lampD x, logD g] ∧ 1 ≤ x.2 ∧ (∀ s ∈ g, s.1 < s.2) ∧ g.length ≤ 10000 ∧ R (.bl (g.all (fitsB x))) μ
/-- all ascending lists below a bound, those without the last minute first -/
def setsR : Nat → List (List Int)
  | 0 => [[]]
  | n + 1 => setsR n ++ (setsR n).map fun r => r ++ [(n : Int)]
def sp__law_sets : SpD PoolW := fun ds μ R _ => ∃ n : Nat, ds = [.int n] ∧ n ≤ 12 ∧ R (.lst ((setsR n).map intsL)) μ
/-- two equal values -/
def spN__law_same : Nat → SpD PoolW
  | 0 => fun _ _ _ _ => False
  | n + 1 => fun ds μ R _ => ∃ d, ds = [d, d] ∧ SmP n d ∧ R (.bl true) μ
def sp__law_same : SpD PoolW := spN__law_same 6
end PO
/-! text POt -/
/-! readings of defs that several laws share: printed by gen/mkshared.py -/
namespace PO
open PySem PySem.Spec PyProof.Rows L2 DL LP
def ps__law_dip : List Str := ["pool", "many"]
def N__law_pool : List Str := ["script", "mix", "cell"]
def ps__law_pool : List Str := ["script"]
def s__law_pool_0 : DTS PoolW :=
  (dsAsg (d2 smAdd (dC (.int 9973)) (d2 smMul (dC (.int 31)) (dL smLen (dCons (dVar 0) dNil)))) (dName 1))
def s__law_pool_1f_0 : DTS PoolW :=
  (dsAsg (d2 smMod (d2 smAdd (d2 smAdd (d2 smMul (dVar 1) (dC (.int 48271))) (d2 smMod (dL smAbs (dCons (dVar 2) dNil)) (dC (.int 1000000007)))) (d2 smMul (dC (.int 7)) (dL smInt (dCons (d2 smLt (dVar 2) (dC (.int 0))) dNil)))) (dC (.int 2305843009213693951))) (dName 1))
def l__law_pool_1 : DTS PoolW :=
  s__law_pool_1f_0
def s__law_pool_1 : DTS PoolW :=
  (dsFor (dSeq (dCut (dVar 0) dNoPart (dPart (dC (.int 62))))) (dName 2)
   l__law_pool_1)
def s__law_pool_2 : DTS PoolW :=
  (dsRetPool (dComp (dSeqC (dCut (dVar 0) dNoPart (dPart (dC (.int 62))))) (dName 2) (dB (d2 smGe (dL smAbs (dCons (dVar 2) dNil)) (dC (.int (1000000000000000000))))) (dL smAbs (dCons (dVar 2) dNil)) [2]) (dCons (dC (.int 0)) (dCons (dVar 1) dNil)))
def t__law_pool : DTS PoolW :=
  (dsSeq s__law_pool_0
    (dsSeq s__law_pool_1
    s__law_pool_2))
def N__law_lamp : List Str := ["pool", "upto"]
def ps__law_lamp : List Str := ["pool", "upto"]
def s__law_lamp_0 : DTS PoolW :=
  (dsRet (dTup (dCons (d2 smIx (dFrz (dLst (dCons (dC (.str "hold")) (dCons (dC (.str "pulse")) dNil)))) (dCall sp__law_dip (dCons (dVar 0) (dCons (dC (.int 2)) dNil)))) (dCons (d2 smAdd (dC (.int 1)) (dCall sp__law_dip (dCons (dVar 0) (dCons (dVar 1) dNil)))) dNil))))
def t__law_lamp : DTS PoolW :=
  s__law_lamp_0
def N__law_minutes : List Str := ["pool", "upto", "many", "found", "last", "wide", "k"]
def ps__law_minutes : List Str := ["pool", "upto", "many"]
def s__law_minutes_0 : DTS PoolW :=
  (dsPar3 3 4 5 (dpF (dLst dNil) (dpE (dC (.int (-1))) (dpE (d2 smIx (dFrz (dLst (dCons (dC (.int 2)) (dCons (dC (.int 4)) (dCons (dVar 1) dNil))))) (dCall sp__law_dip (dCons (dVar 0) (dCons (dC (.int 3)) dNil)))) dpNil))))
def s__law_minutes_1f_0 : DTS PoolW :=
  (dsAsg (d2 smAdd (d2 smAdd (dVar 4) (dC (.int 1))) (dCall sp__law_dip (dCons (dVar 0) (dCons (dVar 5) dNil)))) (dName 4))
def s__law_minutes_1f_1a_0 : DTS PoolW :=
  (dsApp 3 (dVar 4))
def s__law_minutes_1f_1 : DTS PoolW :=
  (dsIf (dB (d2 smLt (dVar 4) (dVar 1))) s__law_minutes_1f_1a_0 dsNext)
def l__law_minutes_1 : DTS PoolW :=
  (dsSeq s__law_minutes_1f_0
    s__law_minutes_1f_1)
def s__law_minutes_1 : DTS PoolW :=
  (dsFor (dRg1 (dCons (dCall sp__law_dip (dCons (dVar 0) (dCons (d2 smAdd (dVar 2) (dC (.int 1))) dNil))) dNil)) (dName 6)
   l__law_minutes_1)
def s__law_minutes_2 : DTS PoolW :=
  (dsRetF (dVar 3))
def t__law_minutes : DTS PoolW :=
  (dsSeq s__law_minutes_0
    (dsSeq s__law_minutes_1
    s__law_minutes_2))
def N__law_play : List Str := ["lamp", "minutes", "kind", "stay", "ons", "offs", "minute", "on", "off"]
def ps__law_play : List Str := ["lamp", "minutes"]
def s__law_play_0 : DTS PoolW :=
  (dsAsg (dVar 0) (dgTup 2 (dgCons (dName 2) (dgCons (dName 3) dgNil))))
def s__law_play_1 : DTS PoolW :=
  (dsPar2 4 5 (dpF (dLst dNil) (dpF (dLst dNil) dpNil)))
def s__law_play_2f_0a_0 : DTS PoolW :=
  (dsApp 4 (dVar 6))
def s__law_play_2f_0a_1 : DTS PoolW :=
  (dsApp 5 (d2 smAdd (dVar 6) (dVar 3)))
def s__law_play_2f_0b_0a_0 : DTS PoolW :=
  (dsSet 5 (dC (.int (-1))) (d2 smAdd (dVar 6) (dVar 3)))
def s__law_play_2f_0b_0 : DTS PoolW :=
  (dsIf (dOr (dB (d2 smEq (dVar 2) (dC (.str "hold")))) (dB (d2 smEq (dVar 6) (d2 smIx (dVar 5) (dC (.int (-1))))))) s__law_play_2f_0b_0a_0 dsNext)
def s__law_play_2f_0 : DTS PoolW :=
  (dsIf (dOr (dB (d2 smEq (dVar 5) (dFrz (dLst dNil)))) (dB (d2 smGt (dVar 6) (d2 smIx (dVar 5) (dC (.int (-1))))))) (dsSeq s__law_play_2f_0a_0
    s__law_play_2f_0a_1) s__law_play_2f_0b_0)
def l__law_play_2 : DTS PoolW :=
  s__law_play_2f_0
def s__law_play_2 : DTS PoolW :=
  (dsFor (dSeq (dVar 1)) (dName 6)
   l__law_play_2)
def s__law_play_3 : DTS PoolW :=
  (dsRet (dL smTuple (dCons (dFrz (dComp (dZipC (dCons (dVar 4) (dCons (dVar 5) dNil))) (dgTup 2 (dgCons (dName 7) (dgCons (dName 8) dgNil))) dYes (dTup (dCons (dVar 7) (dCons (dVar 8) dNil))) [7, 8])) dNil)))
def t__law_play : DTS PoolW :=
  (dsSeq s__law_play_0
    (dsSeq s__law_play_1
    (dsSeq s__law_play_2
    s__law_play_3)))
def N__law_any_log : List Str := ["pool", "upto", "found", "last", "k", "on", "off"]
def ps__law_any_log : List Str := ["pool", "upto"]
def s__law_any_log_0 : DTS PoolW :=
  (dsPar2 2 3 (dpF (dLst dNil) (dpE (dC (.int (-1))) dpNil)))
def s__law_any_log_1f_0 : DTS PoolW :=
  (dsAsg (d2 smAdd (d2 smAdd (dVar 3) (dC (.int 1))) (dCall sp__law_dip (dCons (dVar 0) (dCons (dC (.int 3)) dNil)))) (dName 5))
def s__law_any_log_1f_1 : DTS PoolW :=
  (dsAsg (d2 smAdd (d2 smAdd (dVar 5) (dC (.int 1))) (dCall sp__law_dip (dCons (dVar 0) (dCons (d2 smIx (dFrz (dLst (dCons (dC (.int 2)) (dCons (dC (.int 4)) (dCons (dC (.int 8)) dNil))))) (dCall sp__law_dip (dCons (dVar 0) (dCons (dC (.int 3)) dNil)))) dNil)))) (dName 6))
def s__law_any_log_1f_2a_0 : DTS PoolW :=
  (dsApp 2 (dTup (dCons (dVar 5) (dCons (dVar 6) dNil))))
def s__law_any_log_1f_2a_1 : DTS PoolW :=
  (dsAsg (dVar 6) (dName 3))
def s__law_any_log_1f_2 : DTS PoolW :=
  (dsIf (dB (d2 smLe (dVar 6) (dVar 1))) (dsSeq s__law_any_log_1f_2a_0
    s__law_any_log_1f_2a_1) dsNext)
def l__law_any_log_1 : DTS PoolW :=
  (dsSeq s__law_any_log_1f_0
    (dsSeq s__law_any_log_1f_1
    s__law_any_log_1f_2))
def s__law_any_log_1 : DTS PoolW :=
  (dsFor (dRg1 (dCons (dCall sp__law_dip (dCons (dVar 0) (dCons (dC (.int 4)) dNil))) dNil)) (dName 4)
   l__law_any_log_1)
def s__law_any_log_2 : DTS PoolW :=
  (dsRet (dL smTuple (dCons (dVar 2) dNil)))
def t__law_any_log : DTS PoolW :=
  (dsSeq s__law_any_log_0
    (dsSeq s__law_any_log_1
    s__law_any_log_2))
def N__law_fits : List Str := ["lamp", "log", "on", "off"]
def ps__law_fits : List Str := ["lamp", "log"]
def s__law_fits_0f_0 : DTS PoolW :=
  (dsIf (dOr (dB (d2 smGt (d2 smSub (dVar 3) (d2 smIx (dVar 0) (dC (.int 1)))) (dC (.int (1000000000))))) (dB (d2 smLt (d2 smSub (dVar 3) (dVar 2)) (d2 smIx (dVar 0) (dC (.int 1)))))) (dsRet (dC (.bl false))) dsNext)
def s__law_fits_0f_1 : DTS PoolW :=
  (dsIf (dAnd (dB (d2 smEq (d2 smIx (dVar 0) (dC (.int 0))) (dC (.str "pulse")))) (dB (d2 smGt (d2 smMod (d2 smSub (dVar 3) (dVar 2)) (d2 smIx (dVar 0) (dC (.int 1)))) (dC (.int 0))))) (dsRet (dC (.bl false))) dsNext)
def l__law_fits_0 : DTS PoolW :=
  (dsSeq s__law_fits_0f_0
    s__law_fits_0f_1)
def s__law_fits_0 : DTS PoolW :=
  (dsFor (dSeq (dVar 1)) (dgTup 2 (dgCons (dName 2) (dgCons (dName 3) dgNil)))
   l__law_fits_0)
def s__law_fits_1 : DTS PoolW :=
  (dsRet (dC (.bl true)))
def t__law_fits : DTS PoolW :=
  (dsSeq s__law_fits_0
    s__law_fits_1)
def N__law_sets : List Str := ["upto", "rows", "minute", "row"]
def ps__law_sets : List Str := ["upto"]
def s__law_sets_0 : DTS PoolW :=
  (dsAsg (dFrz (dLst (dCons (dFrz (dLst dNil)) dNil))) (dName 1))
def s__law_sets_1f_0 : DTS PoolW :=
  (dsAsg (d2 smAdd (dVar 1) (dFrz (dComp (dSeqC (dVar 1)) (dName 3) dYes (d2 smAdd (dVar 3) (dFrz (dLst (dCons (dVar 2) dNil)))) [3]))) (dName 1))
def l__law_sets_1 : DTS PoolW :=
  s__law_sets_1f_0
def s__law_sets_1 : DTS PoolW :=
  (dsFor (dRg1 (dCons (dVar 0) dNil)) (dName 2)
   l__law_sets_1)
def s__law_sets_2 : DTS PoolW :=
  (dsRet (dVar 1))
def t__law_sets : DTS PoolW :=
  (dsSeq s__law_sets_0
    (dsSeq s__law_sets_1
    s__law_sets_2))
def N__law_same : List Str := ["one", "other", "k"]
def ps__law_same : List Str := ["one", "other"]
def t__law_same (sq : SpD PoolW) : DTS PoolW :=
  (dsSeq (dsIf (dAnd (dTru (dIsTT ["list", "tuple"] (dVar 0))) (dTru (dIsTT ["list", "tuple"] (dVar 1)))) (dsSeq (dsIf (dOr (dB (d2 smNe (dL smIsi (dCons (dVar 0) (dCons (dC (.op (.ty "list"))) dNil))) (dL smIsi (dCons (dVar 1) (dCons (dC (.op (.ty "list"))) dNil))))) (dB (d2 smNe (dL smLen (dCons (dVar 0) dNil)) (dL smLen (dCons (dVar 1) dNil))))) (dsRet (dC (.bl false))) dsNext)
    (dsRet (d2 smEq (dFrz (dComp (dRg1 (dCons (dL smLen (dCons (dVar 0) dNil)) dNil)) (dName 2) (dNot (dTru (dCall sq (dCons (d2 smIx (dVar 0) (dVar 2)) (dCons (d2 smIx (dVar 1) (dVar 2)) dNil))))) (dVar 2) [2])) (dFrz (dLst dNil))))) dsNext)
    (dsSeq (dsIf (dOr (dB (d2 smNe (dL smIsi (dCons (dVar 0) (dCons (dC (.op (.ty "bool"))) dNil))) (dL smIsi (dCons (dVar 1) (dCons (dC (.op (.ty "bool"))) dNil))))) (dB (d2 smNe (dL smIsi (dCons (dVar 0) (dCons (dC (.op (.ty "int"))) dNil))) (dL smIsi (dCons (dVar 1) (dCons (dC (.op (.ty "int"))) dNil)))))) (dsRet (dC (.bl false))) dsNext)
    (dsRet (dAndV (d2 smEq (dL smIsi (dCons (dVar 0) (dCons (dC (.op (.ty "str"))) dNil))) (dL smIsi (dCons (dVar 1) (dCons (dC (.op (.ty "str"))) dNil)))) (dAndV (d2 smEq (d2 smIs (dVar 0) (dC .non)) (d2 smIs (dVar 1) (dC .non))) (d2 smEq (dVar 0) (dVar 1)))))))
end PO
/-! text RLt -/
/-! readings of defs that several laws share: printed by gen/mkshared.py -/
namespace RL
open PySem PySem.Spec PyProof.Rows L2 DL LP
def ps__law_spin : List Str := ["reel", "many"]
def N__law_reel : List Str := ["script", "cells", "cell"]
def ps__law_reel : List Str := ["script"]
def s__law_reel_0 : DTS ReelW :=
  (dsAsg (dFrz (dComp (dSeqC (dCut (dVar 0) dNoPart (dPart (dC (.int 59))))) (dName 2) dYes (dL smAbs (dCons (dVar 2) dNil)) [2])) (dName 1))
def s__law_reel_1 : DTS ReelW :=
  (dsRetReel (dAddF (dVar 1) (d2 smMul (dFrz (dLst (dCons (dC (.int 37)) dNil))) (dL smInt (dCons (d2 smEq (dVar 1) (dFrz (dLst dNil))) dNil)))))
def t__law_reel : DTS ReelW :=
  (dsSeq s__law_reel_0
    s__law_reel_1)
def N__law_lamps : List Str := ["reel", "many", "top", "found", "k", "stay"]
def ps__law_lamps : List Str := ["reel", "many", "top"]
def s__law_lamps_0 : DTS ReelW :=
  (dsOwn 3 (dLst dNil))
def s__law_lamps_1f_0 : DTS ReelW :=
  (dsAsg (d2 smIx (dFrz (dLst (dCons (d2 smAdd (dC (.int 1)) (dCall sp__law_spin (dCons (dVar 0) (dCons (dVar 2) dNil)))) (dCons (d2 smAdd (dC (.int 1)) (dCall sp__law_spin (dCons (dVar 0) (dCons (dL smMin2 (dCons (dVar 2) (dCons (dC (.int 3)) dNil))) dNil)))) dNil)))) (dCall sp__law_spin (dCons (dVar 0) (dCons (dC (.int 2)) dNil)))) (dName 5))
def s__law_lamps_1f_1 : DTS ReelW :=
  (dsApp 3 (dTup (dCons (d2 smIx (dFrz (dLst (dCons (dC (.str "hold")) (dCons (dC (.str "pulse")) dNil)))) (dCall sp__law_spin (dCons (dVar 0) (dCons (dC (.int 2)) dNil)))) (dCons (dVar 5) dNil))))
def l__law_lamps_1 : DTS ReelW :=
  (dsSeq s__law_lamps_1f_0
    s__law_lamps_1f_1)
def s__law_lamps_1 : DTS ReelW :=
  (dsFor (dRg1 (dCons (d2 smAdd (dC (.int 1)) (dCall sp__law_spin (dCons (dVar 0) (dCons (dVar 1) dNil)))) dNil)) (dName 4)
   l__law_lamps_1)
def s__law_lamps_2 : DTS ReelW :=
  (dsRet (dL smTuple (dCons (dVar 3) dNil)))
def t__law_lamps : DTS ReelW :=
  (dsSeq s__law_lamps_0
    (dsSeq s__law_lamps_1
    s__law_lamps_2))
def N__law_minutes : List Str := ["reel", "many", "gap", "here", "found", "way", "step", "k"]
def ps__law_minutes : List Str := ["reel", "many", "gap"]
def s__law_minutes_0 : DTS ReelW :=
  (dsPar3 3 4 5 (dpE (dCall sp__law_spin (dCons (dVar 0) (dCons (d2 smIx (dFrz (dLst (dCons (dC (.int 4)) (dCons (dC (.int (1000000))) dNil)))) (dCall sp__law_spin (dCons (dVar 0) (dCons (dC (.int 2)) dNil)))) dNil))) (dpF (dLst dNil) (dpE (dCall sp__law_spin (dCons (dVar 0) (dCons (dC (.int 4)) dNil))) dpNil))))
def s__law_minutes_1 : DTS ReelW :=
  (dsAsg (d2 smAdd (dC (.int 1)) (dCall sp__law_spin (dCons (dVar 0) (dCons (dVar 2) dNil)))) (dName 6))
def s__law_minutes_2f_0 : DTS ReelW :=
  (dsApp 4 (dVar 3))
def s__law_minutes_2f_1 : DTS ReelW :=
  (dsAsg (d2 smAdd (dVar 3) (d2 smIx (dFrz (dLst (dCons (d2 smAdd (dC (.int 1)) (dCall sp__law_spin (dCons (dVar 0) (dCons (dVar 2) dNil)))) (dCons (dVar 6) (dCons (dC (.int 1)) (dCons (d2 smAdd (dC (.int 1)) (dCall sp__law_spin (dCons (dVar 0) (dCons (d2 smMul (dC (.int 3)) (dVar 2)) dNil)))) dNil)))))) (dVar 5))) (dName 3))
def s__law_minutes_2f_2a_0 : DTS ReelW :=
  (dsAsg (d2 smAdd (dVar 3) (d2 smIx (dFrz (dLst (dCons (dVar 2) (dCons (dC (.int (100000))) dNil)))) (dCall sp__law_spin (dCons (dVar 0) (dCons (dC (.int 2)) dNil))))) (dName 3))
def s__law_minutes_2f_2 : DTS ReelW :=
  (dsIf (dB (d2 smEq (dCall sp__law_spin (dCons (dVar 0) (dCons (dC (.int 9)) dNil))) (dC (.int 0)))) s__law_minutes_2f_2a_0 dsNext)
def l__law_minutes_2 : DTS ReelW :=
  (dsSeq s__law_minutes_2f_0
    (dsSeq s__law_minutes_2f_1
    s__law_minutes_2f_2))
def s__law_minutes_2 : DTS ReelW :=
  (dsFor (dRg1 (dCons (dCall sp__law_spin (dCons (dVar 0) (dCons (d2 smAdd (dVar 1) (dC (.int 1))) dNil))) dNil)) (dName 7)
   l__law_minutes_2)
def s__law_minutes_3 : DTS ReelW :=
  (dsRetF (dVar 4))
def t__law_minutes : DTS ReelW :=
  (dsSeq s__law_minutes_0
    (dsSeq s__law_minutes_1
    (dsSeq s__law_minutes_2
    s__law_minutes_3)))
def N__law_log : List Str := ["lamp", "minutes", "kind", "stay", "found", "minute"]
def ps__law_log : List Str := ["lamp", "minutes"]
def s__law_log_0 : DTS ReelW :=
  (dsAsg (dVar 0) (dgTup 2 (dgCons (dName 2) (dgCons (dName 3) dgNil))))
def s__law_log_1 : DTS ReelW :=
  (dsOwn 4 (dLst dNil))
def s__law_log_2f_0a_0 : DTS ReelW :=
  (dsApp 4 (dTup (dCons (dVar 5) (dCons (d2 smAdd (dVar 5) (dVar 3)) dNil))))
def s__law_log_2f_0b_0a_0 : DTS ReelW :=
  (dsSet 4 (dC (.int (-1))) (dTup (dCons (d2 smIx (d2 smIx (dVar 4) (dC (.int (-1)))) (dC (.int 0))) (dCons (d2 smAdd (dVar 5) (dVar 3)) dNil))))
def s__law_log_2f_0b_0 : DTS ReelW :=
  (dsIf (dOr (dB (d2 smEq (dVar 2) (dC (.str "hold")))) (dB (d2 smEq (dVar 5) (d2 smIx (d2 smIx (dVar 4) (dC (.int (-1)))) (dC (.int 1)))))) s__law_log_2f_0b_0a_0 dsNext)
def s__law_log_2f_0 : DTS ReelW :=
  (dsIf (dOr (dB (d2 smEq (dVar 4) (dFrz (dLst dNil)))) (dB (d2 smGt (dVar 5) (d2 smIx (d2 smIx (dVar 4) (dC (.int (-1)))) (dC (.int 1)))))) s__law_log_2f_0a_0 s__law_log_2f_0b_0)
def l__law_log_2 : DTS ReelW :=
  s__law_log_2f_0
def s__law_log_2 : DTS ReelW :=
  (dsFor (dSeq (dVar 1)) (dName 5)
   l__law_log_2)
def s__law_log_3 : DTS ReelW :=
  (dsRet (dL smTuple (dCons (dVar 4) dNil)))
def t__law_log : DTS ReelW :=
  (dsSeq s__law_log_0
    (dsSeq s__law_log_1
    (dsSeq s__law_log_2
    s__law_log_3)))
def N__law_logs : List Str := ["lamps", "minutes", "lamp"]
def ps__law_logs : List Str := ["lamps", "minutes"]
def s__law_logs_0 : DTS ReelW :=
  (dsRet (dL smTuple (dCons (dFrz (dComp (dSeqC (dVar 0)) (dName 2) dYes (dCall sp__law_log (dCons (dVar 2) (dCons (dVar 1) dNil))) [2])) dNil)))
def t__law_logs : DTS ReelW :=
  s__law_logs_0
def N__law_bent : List Str := ["reel", "log", "at", "by", "on", "off", "some", "way", "parts", "found", "begin", "end"]
def ps__law_bent : List Str := ["reel", "log"]
def s__law_bent_0a_0 : DTS ReelW :=
  (dsRet (dTup (dCons (dTup (dCons (dC (.int 3)) (dCons (d2 smAdd (dC (.int 4)) (dCall sp__law_spin (dCons (dVar 0) (dCons (dC (.int 5)) dNil)))) dNil))) dNil)))
def s__law_bent_0 : DTS ReelW :=
  (dsIf (dB (d2 smEq (dVar 1) (dTup dNil))) s__law_bent_0a_0 dsNext)
def s__law_bent_1 : DTS ReelW :=
  (dsPar2 2 3 (dpE (dCall sp__law_spin (dCons (dVar 0) (dCons (dL smLen (dCons (dVar 1) dNil)) dNil))) (dpE (d2 smAdd (dC (.int 1)) (dCall sp__law_spin (dCons (dVar 0) (dCons (dC (.int 4)) dNil)))) dpNil)))
def s__law_bent_2 : DTS ReelW :=
  (dsAsg (d2 smIx (dVar 1) (dVar 2)) (dgTup 2 (dgCons (dName 4) (dgCons (dName 5) dgNil))))
def s__law_bent_3 : DTS ReelW :=
  (dsAsg (dFrz (dLst (dCons (dTup (dCons (dVar 4) (dCons (d2 smAdd (dVar 5) (dVar 3)) dNil))) (dCons (dTup (dCons (dVar 4) (dCons (dL smMax2 (dCons (d2 smAdd (dVar 4) (dC (.int 1))) (dCons (d2 smSub (dVar 5) (dVar 3)) dNil))) dNil))) (dCons (dTup (dCons (d2 smAdd (dVar 4) (dVar 3)) (dCons (d2 smAdd (dVar 5) (dVar 3)) dNil))) (dCons (dTup (dCons (dL smMax2 (dCons (dC (.int 0)) (dCons (d2 smSub (dVar 4) (dVar 3)) dNil))) (dCons (dVar 5) dNil))) dNil)))))) (dName 6))
def s__law_bent_4 : DTS ReelW :=
  (dsAsg (dCall sp__law_spin (dCons (dVar 0) (dCons (dC (.int 7)) dNil))) (dName 7))
def s__law_bent_5 : DTS ReelW :=
  (dsAsg (dIf (dB (d2 smLt (dVar 7) (dC (.int 4)))) (dFrz (dLst (dCons (d2 smIx (dVar 6) (dVar 7)) dNil))) (dFrz (dLst dNil))) (dName 8))
def s__law_bent_6a_0 : DTS ReelW :=
  (dsAsg (dFrz (dLst (dCons (dTup (dCons (dVar 4) (dCons (d2 smAdd (dVar 4) (d2 smDiv (d2 smSub (dVar 5) (dVar 4)) (dC (.int 2)))) dNil))) (dCons (dTup (dCons (d2 smAdd (d2 smAdd (dVar 4) (d2 smDiv (d2 smSub (dVar 5) (dVar 4)) (dC (.int 2)))) (dC (.int 1))) (dCons (dVar 5) dNil))) dNil)))) (dName 8))
def s__law_bent_6 : DTS ReelW :=
  (dsIf (dAnd (dB (d2 smEq (dVar 7) (dC (.int 4)))) (dB (d2 smGt (d2 smSub (dVar 5) (dVar 4)) (dC (.int 2))))) s__law_bent_6a_0 dsNext)
def s__law_bent_7a_0 : DTS ReelW :=
  (dsAsg (dFrz (dLst (dCons (dTup (dCons (dVar 4) (dCons (dVar 5) dNil))) (dCons (dTup (dCons (d2 smAdd (dVar 5) (dVar 3)) (dCons (d2 smAdd (dVar 5) (d2 smMul (dC (.int 2)) (dVar 3))) dNil))) dNil)))) (dName 8))
def s__law_bent_7 : DTS ReelW :=
  (dsIf (dB (d2 smEq (dVar 7) (dC (.int 5)))) s__law_bent_7a_0 dsNext)
def s__law_bent_8 : DTS ReelW :=
  (dsOwn 9 (dLst dNil))
def s__law_bent_9f_0a_0 : DTS ReelW :=
  (dsApp 9 (dTup (dCons (dVar 10) (dCons (dVar 11) dNil))))
def s__law_bent_9f_0 : DTS ReelW :=
  (dsIf (dOr (dB (d2 smEq (dVar 9) (dFrz (dLst dNil)))) (dB (d2 smGt (dVar 10) (d2 smIx (d2 smIx (dVar 9) (dC (.int (-1)))) (dC (.int 1)))))) s__law_bent_9f_0a_0 dsNext)
def l__law_bent_9 : DTS ReelW :=
  s__law_bent_9f_0
def s__law_bent_9 : DTS ReelW :=
  (dsFor (dSeq (d2 smAdd (d2 smAdd (dL smList (dCons (dCut (dVar 1) dNoPart (dPart (dVar 2))) dNil)) (dVar 8)) (dL smList (dCons (dCut (dVar 1) (dPart (d2 smAdd (dVar 2) (dC (.int 1)))) dNoPart) dNil)))) (dgTup 2 (dgCons (dName 10) (dgCons (dName 11) dgNil)))
   l__law_bent_9)
def s__law_bent_10 : DTS ReelW :=
  (dsRet (dL smTuple (dCons (dCut (dVar 9) dNoPart (dPart (dC (.int 60)))) dNil)))
def t__law_bent : DTS ReelW :=
  (dsSeq s__law_bent_0
    (dsSeq s__law_bent_1
    (dsSeq s__law_bent_2
    (dsSeq s__law_bent_3
    (dsSeq s__law_bent_4
    (dsSeq s__law_bent_5
    (dsSeq s__law_bent_6
    (dsSeq s__law_bent_7
    (dsSeq s__law_bent_8
    (dsSeq s__law_bent_9
    s__law_bent_10))))))))))
def N__law_scene : List Str := ["reel", "many", "top", "motions", "lamps", "logs", "k", "at"]
def ps__law_scene : List Str := ["reel", "many", "top", "motions"]
def s__law_scene_0 : DTS ReelW :=
  (dsAsg (dCall sp__law_lamps (dCons (dVar 0) (dCons (dVar 1) (dCons (dVar 2) dNil)))) (dName 4))
def s__law_scene_1 : DTS ReelW :=
  (dsOwn 5 (dListF (dCons (dCall sp__law_logs (dCons (dVar 4) (dCons (dCall sp__law_minutes (dCons (dVar 0) (dCons (dVar 3) (dCons (d2 smMul (dC (.int 2)) (dVar 2)) dNil)))) dNil))) dNil)))
def s__law_scene_2f_0 : DTS ReelW :=
  (dsAsg (dCall sp__law_spin (dCons (dVar 0) (dCons (dL smLen (dCons (dVar 5) dNil)) dNil))) (dName 7))
def s__law_scene_2f_1a_0 : DTS ReelW :=
  (dsSet 5 (dVar 7) (dCall sp__law_log (dCons (d2 smIx (dVar 4) (dVar 7)) (dCons (dCall sp__law_minutes (dCons (dVar 0) (dCons (dVar 3) (dCons (d2 smMul (dC (.int 2)) (dVar 2)) dNil)))) dNil))))
def s__law_scene_2f_1b_0 : DTS ReelW :=
  (dsSet 5 (dVar 7) (dCall sp__law_bent (dCons (dVar 0) (dCons (d2 smIx (dVar 5) (dVar 7)) dNil))))
def s__law_scene_2f_1 : DTS ReelW :=
  (dsIf (dB (d2 smEq (dCall sp__law_spin (dCons (dVar 0) (dCons (dC (.int 4)) dNil))) (dC (.int 0)))) s__law_scene_2f_1a_0 s__law_scene_2f_1b_0)
def l__law_scene_2 : DTS ReelW :=
  (dsSeq s__law_scene_2f_0
    s__law_scene_2f_1)
def s__law_scene_2 : DTS ReelW :=
  (dsFor (dRg1 (dCons (d2 smIx (dFrz (dLst (dCons (dC (.int 0)) (dCons (dC (.int 0)) (dCons (dC (.int 1)) (dCons (dC (.int 2)) dNil)))))) (dCall sp__law_spin (dCons (dVar 0) (dCons (dC (.int 4)) dNil)))) dNil)) (dName 6)
   l__law_scene_2)
def s__law_scene_3 : DTS ReelW :=
  (dsRet (dFrz (dLst (dCons (dVar 4) (dCons (dL smTuple (dCons (dVar 5) dNil)) dNil)))))
def t__law_scene : DTS ReelW :=
  (dsSeq s__law_scene_0
    (dsSeq s__law_scene_1
    (dsSeq s__law_scene_2
    s__law_scene_3)))
def N__law_fits : List Str := ["lamp", "stretch", "kind", "stay", "on", "off"]
def ps__law_fits : List Str := ["lamp", "stretch"]
def s__law_fits_0 : DTS ReelW :=
  (dsAsg (dVar 0) (dgTup 2 (dgCons (dName 2) (dgCons (dName 3) dgNil))))
def s__law_fits_1 : DTS ReelW :=
  (dsAsg (dVar 1) (dgTup 2 (dgCons (dName 4) (dgCons (dName 5) dgNil))))
def s__law_fits_2 : DTS ReelW :=
  (dsIf (dOr (dB (d2 smGt (d2 smSub (dVar 5) (dVar 3)) (dC (.int (1000000000))))) (dB (d2 smLt (d2 smSub (dVar 5) (dVar 4)) (dVar 3)))) (dsRet (dC (.bl false))) dsNext)
def s__law_fits_3 : DTS ReelW :=
  (dsRet (dOrV (d2 smEq (dVar 2) (dC (.str "hold"))) (d2 smEq (d2 smMod (d2 smSub (dVar 5) (dVar 4)) (dVar 3)) (dC (.int 0)))))
def t__law_fits : DTS ReelW :=
  (dsSeq s__law_fits_0
    (dsSeq s__law_fits_1
    (dsSeq s__law_fits_2
    s__law_fits_3)))
end RL
/-! text FAt -/
/-! readings of defs that several laws share: printed by gen/mkshared.py -/
namespace LP
open PySem PySem.Spec PyProof.Rows L2 DL
def N_does_fit : List Str := ["lamp", "stretch", "kind", "stay", "on", "off"]
def ps_does_fit : List Str := ["lamp", "stretch"]
def s_does_fit_0 {Z : Wld} : DTS Z :=
  (dsAsg (dVar 0) (dgTup 2 (dgCons (dName 2) (dgCons (dName 3) dgNil))))
def s_does_fit_1 {Z : Wld} : DTS Z :=
  (dsAsg (dVar 1) (dgTup 2 (dgCons (dName 4) (dgCons (dName 5) dgNil))))
def s_does_fit_2 {Z : Wld} : DTS Z :=
  (dsIf (dB (d2 smGt (d2 smSub (dVar 5) (dVar 3)) (dC (.int 1000000000)))) (dsRet (dC (.bl false))) dsNext)
def s_does_fit_3 {Z : Wld} : DTS Z :=
  (dsRet (dIf (dB (d2 smEq (dVar 2) (dC (.str "hold")))) (d2 smGe (d2 smSub (dVar 5) (dVar 4)) (dVar 3)) (d2 smEq (d2 smMod (d2 smSub (dVar 5) (dVar 4)) (dVar 3)) (dC (.int 0)))))
def t_does_fit {Z : Wld} : DTS Z :=
  (dsSeq s_does_fit_0
    (dsSeq s_does_fit_1
    (dsSeq s_does_fit_2
    s_does_fit_3)))
def N_wrong_stretches : List Str := ["lamp", "log", "index", "stretch"]
def ps_wrong_stretches : List Str := ["lamp", "log"]
def s_wrong_stretches_0 {Z : Wld} : DTS Z :=
  (dsRet (dL smTuple (dCons (dFrz (dComp (dEnumC (dVar 1)) (dgTup 2 (dgCons (dName 2) (dgCons (dName 3) dgNil))) (dNot (dTru (dCall sp_does_fit (dCons (dVar 0) (dCons (dVar 3) dNil))))) (dVar 2) [2, 3])) dNil)))
def t_wrong_stretches {Z : Wld} : DTS Z :=
  s_wrong_stretches_0
end LP
local macro_rules
  | `(tactic| simp_all!) => `(tactic| try simp only [DL.bq0, DL.bq1, DL.bq2, DL.bq3, DL.dsSeq, DL.dsRaise, DL.dsTryAs, DL.dsTryO, DL.dIsE, DL.dXf, DL.dStar, DL.dsNever, DL.dsDrop, DL.dsRet, DL.dsRetN, DL.dsRetF, DL.dsIf, DL.dsAsg, DL.dsOwn, DL.dsNext, DL.dsBreak, DL.dsCont, DL.dsAug, DL.dsApp, DL.dsExt, DL.dsSet, DL.dsPar2, DL.dsPar3, DL.dName, DL.dsFor, DL.dVar, DL.dC, DL.d2, DL.d1, DL.dL, DL.dNil, DL.dCons, DL.dB, DL.dAnd, DL.dOr, DL.dNot, DL.dAndV, DL.dOrV, DL.dNotV, DL.dIf, DL.dChain, DL.dTup, DL.dLst, DL.dFrz, DL.dTru, DL.dCall, DL.dYes, DL.dSeq, DL.dSeqC, DL.dEnum, DL.dEnumC, DL.dRg1, DL.dRg2, DL.dComp, DL.dCut, DL.dCutF, DL.dAddF, DL.dListF, DL.dMulF, DL.dRev, DL.dPart, DL.dNoPart, DL.dpNil, DL.dpE, DL.dpF, DL.dIsI, DL.dIsB, DL.dIsS, DL.dIsT, DL.dIsL, DL.dIsD, List.getElem?_cons_zero, List.getElem?_cons_succ, List.set_cons_zero, List.set_cons_succ, DL.sta, DL.staL, Bool.and_true, Bool.true_and, Bool.and_eq_true, true_and, and_true, DL.wipeR, if_true, if_false, ite_true, ite_false, Bool.false_eq_true, Bool.not_true, Bool.not_false, Option.some.injEq, exists_eq_left', exists_eq_left, reduceIte, reduceCtorEq, DL.hasTy, DL.tyD, Option.isSome_some, DL.at_two, DL.at_three, DL.at_four, Int.reducePow, Int.reduceToNat, Int.reduceMul, Int.reduceAdd, Int.reduceSub, Int.reduceNeg, Int.reduceLT, Int.reduceLE, Int.reduceBEq, Nat.reduceLT, Nat.reduceLeDiff, Nat.reducePow, decide_true, decide_false, Int.neg_neg, List.length_cons, List.length_nil, Nat.zero_add, Nat.reduceAdd, DL.dDct, List.zip_cons_cons, List.zip_nil_left, List.zip_nil_right, DL.staK, List.cons_append, List.nil_append, List.mem_cons, List.not_mem_nil, or_false, forall_eq_or_imp, forall_eq, ne_eq, not_false_eq_true])
  | `(tactic| simp_all! [$xs,*]) => `(tactic| try simp only [$xs,*, DL.bq0, DL.bq1, DL.bq2, DL.bq3, DL.dsSeq, DL.dsRaise, DL.dsTryAs, DL.dsTryO, DL.dIsE, DL.dXf, DL.dStar, DL.dsNever, DL.dsDrop, DL.dsRet, DL.dsRetN, DL.dsRetF, DL.dsIf, DL.dsAsg, DL.dsOwn, DL.dsNext, DL.dsBreak, DL.dsCont, DL.dsAug, DL.dsApp, DL.dsExt, DL.dsSet, DL.dsPar2, DL.dsPar3, DL.dName, DL.dsFor, DL.dVar, DL.dC, DL.d2, DL.d1, DL.dL, DL.dNil, DL.dCons, DL.dB, DL.dAnd, DL.dOr, DL.dNot, DL.dAndV, DL.dOrV, DL.dNotV, DL.dIf, DL.dChain, DL.dTup, DL.dLst, DL.dFrz, DL.dTru, DL.dCall, DL.dYes, DL.dSeq, DL.dSeqC, DL.dEnum, DL.dEnumC, DL.dRg1, DL.dRg2, DL.dComp, DL.dCut, DL.dCutF, DL.dAddF, DL.dListF, DL.dMulF, DL.dRev, DL.dPart, DL.dNoPart, DL.dpNil, DL.dpE, DL.dpF, DL.dIsI, DL.dIsB, DL.dIsS, DL.dIsT, DL.dIsL, DL.dIsD, List.getElem?_cons_zero, List.getElem?_cons_succ, List.set_cons_zero, List.set_cons_succ, DL.sta, DL.staL, Bool.and_true, Bool.true_and, Bool.and_eq_true, true_and, and_true, DL.wipeR, if_true, if_false, ite_true, ite_false, Bool.false_eq_true, Bool.not_true, Bool.not_false, Option.some.injEq, exists_eq_left', exists_eq_left, reduceIte, reduceCtorEq, DL.hasTy, DL.tyD, Option.isSome_some, DL.at_two, DL.at_three, DL.at_four, Int.reducePow, Int.reduceToNat, Int.reduceMul, Int.reduceAdd, Int.reduceSub, Int.reduceNeg, Int.reduceLT, Int.reduceLE, Int.reduceBEq, Nat.reduceLT, Nat.reduceLeDiff, Nat.reducePow, decide_true, decide_false, Int.neg_neg, List.length_cons, List.length_nil, Nat.zero_add, Nat.reduceAdd, DL.dDct, List.zip_cons_cons, List.zip_nil_left, List.zip_nil_right, DL.staK, List.cons_append, List.nil_append, List.mem_cons, List.not_mem_nil, or_false, forall_eq_or_imp, forall_eq, ne_eq, not_false_eq_true])
/-! text FAp -/
namespace LP
open PySem PySem.Spec PyProof.Rows L2 DL
abbrev fin {Z : Wld} (R : D → Z.M → Prop) (Ed : Xc → Z.M → Prop) : EndsD Z := { nx := fun _ μ' => R .non μ', rt := R, ex := fun x _ μ' => Ed x μ' }
section
variable {Z : Wld} (ds : List D) (μ : Z.M) (R : D → Z.M → Prop) (Ed : Xc → Z.M → Prop)
theorem pure_does_fit (hl : ds.length = ps_does_fit.length) (hs : sp_does_fit ds μ R Ed) (st : staL ds = true) : t_does_fit (fin R Ed) (startD N_does_fit ds) μ := by
  obtain ⟨⟨k, s⟩, ⟨on, off⟩, rfl, hp, h⟩ := hs
  show t_does_fit (fin R Ed) [.val (lampD (k, s)), .val (pD (on, off)), .un, .un, .un, .un] μ
  unfold t_does_fit s_does_fit_0 s_does_fit_1 s_does_fit_2 s_does_fit_3 lampD pD
  simp_all! [kS_hold]
  unfold fitsB at h
  dsimp only at h hp
  by_cases hg : 1000000000 < off - s
  · rw [if_pos (decide_eq_true hg)]
    simpa [hg] using h
  · rw [if_neg (by simpa using hg)]
    cases k
    · simpa [hg, hp] using h
    · simpa [hg] using h
theorem pure_wrong_stretches (hl : ds.length = ps_wrong_stretches.length) (hs : sp_wrong_stretches ds μ R Ed) (st : staL ds = true) : t_wrong_stretches (fin R Ed) (startD N_wrong_stretches ds) μ := by
  obtain ⟨l, g, rfl, hp, hlen, h⟩ := hs
  show t_wrong_stretches (fin R Ed) [.val (lampD l), .val (logD g), .un, .un] μ
  unfold t_wrong_stretches s_wrong_stretches_0 logD
  simp_all!
  rw [enumF_map]
  refine comp_opt (Z := Z) _ (fun p => if fitsB l p.2 = true then none else some (.int p.1)) (by rw [enI_length, szl]; omega) (fun x hx k k' hk => ?_) (fun x _ y hy => ?_) ?_
  · simp_all! [sta_p, sta_lamp]
    refine ⟨l, x.2, rfl, hp, ?_⟩
    simp_all!
    cases hf : fitsB l x.2
    · simpa [hf] using hk
    · simpa [hf] using hk
  · split at hy
    · cases hy
    · cases hy; rfl
  · have e : ∀ (i : Int) (g : Lg), (enI i g).filterMap (fun p => if fitsB l p.2 = true then none else some (D.int p.1)) = (wrongI l i g).map D.int := by
      intro i g
      induction g generalizing i with
      | nil => rfl
      | cons s g ih =>
        rw [enI, List.filterMap_cons, wrongI]
        dsimp only
        split
        · rename_i e0
          split at e0
          · rename_i hf
            rw [if_pos hf]
            exact ih _
          · cases e0
        · rename_i y e0
          split at e0
          · cases e0
          · rename_i hf
            cases e0
            rw [if_neg hf, List.map_cons, ih]
    rw [e]
    simp_all! [staL_ints]
    exact h
end
end LP
/-! text RLp -/
/-! the defs that the laws of a reel share: what they answer -/
namespace RL
open PySem PySem.Spec PyProof.Rows L2 DL LP
section
variable {p l : Addr} {n : Nat} {R : D → ReelW.M → Prop} {E : Xc → ReelW.M → Prop}
theorem q_spin {many : Int} : sp__law_spin [.op (.ref p), .int many] (rs p l n) R E ↔ (n < 2 ^ 60 ∧ 0 < many ∧ many < 2 ^ 64 ∧ ∀ m : Int, 0 ≤ m → m < many → R (.int m) (rs p l (n + 1))) := by
  constructor
  · rintro ⟨p', l', n', many', e, e2, h1, h2, h3, h4⟩
    simp only [List.cons.injEq, D.op.injEq, D.int.injEq, and_true, V.ref.injEq, Option.some.injEq, RSt.mk.injEq] at e e2
    obtain ⟨rfl, rfl⟩ := e
    obtain ⟨_, rfl, rfl⟩ := e2
    exact ⟨h1, h2, h3, h4⟩
  · rintro ⟨h1, h2, h3, h4⟩
    exact ⟨p, l, n, many, rfl, rfl, h1, h2, h3, h4⟩
end
section
variable (ds : List D) (μ : ReelW.M) (R : D → ReelW.M → Prop) (Ed : Xc → ReelW.M → Prop)
theorem pure__law_reel (hl : ds.length = ps__law_reel.length) (hs : sp__law_reel ds μ R Ed) (st : staL ds = true) : t__law_reel (fin R Ed) (startD N__law_reel ds) μ := by
  obtain ⟨ns, rfl, hn, rfl, h⟩ := hs
  show t__law_reel (fin R Ed) [.val (.scr ns), .un, .un] none
  unfold t__law_reel s__law_reel_0
  simp_all!
  rw [cutL_map]
  have hc : (cutL ns none (some 59)).length ≤ 63 := by
    unfold cutL
    rw [List.length_take, List.length_drop]
    omega
  generalize cutL ns none (some 59) = cs at hc ⊢
  refine comp_fun (Z := ReelW) D.int (fun i => .int (if i < 0 then -i else i)) (by rw [szl]; omega) (fun x hx k k' hk => ?_) (fun _ _ => rfl) ?_
  · simp_all!
    exact hk
  rw [show (cs.map fun i => D.int (if i < 0 then -i else i)) = (cs.map fun i => if i < 0 then -i else i).map D.int by rw [List.map_map]; rfl]
  have hc2 : (cs.map fun i => if i < 0 then -i else i).length ≤ 63 := by rw [List.length_map]; exact hc
  generalize (cs.map fun i => if i < 0 then -i else i) = cells at hc2 ⊢
  unfold s__law_reel_1 dsRetReel
  simp_all! [staL_ints]
  cases cells with
  | nil => exact ⟨_, rfl, by decide, by decide, by show (1 : Nat) * 1 ≤ sizeLine; decide, [], [.int 37], rfl, rfl, by decide, rfl, [37], rfl, by decide, by decide, h⟩
  | cons c cells => exact ⟨_, rfl, by show -(2 ^ 63) ≤ (0 : Int); decide, by show (0 : Int) < 2 ^ 63; decide, by show (1 : Nat) * 0 ≤ sizeLine; decide, _, [], rfl, rfl, by rw [szl]; simp at hc2 ⊢; omega, rfl, c :: cells, by simp, by simp, by simp at hc2 ⊢; omega, h⟩
theorem pure__law_lamps (hl : ds.length = ps__law_lamps.length) (hs : sp__law_lamps ds μ R Ed) (st : staL ds = true) : t__law_lamps (fin R Ed) (startD N__law_lamps ds) μ := by
  obtain ⟨p, l, n, many, top, rfl, rfl, hn, m0, m1, t0, t1, h⟩ := hs
  show t__law_lamps (fin R Ed) [.val (.op (.ref p)), .val (.int many), .val (.int top), .un, .un, .un] (rs p l n)
  unfold t__law_lamps s__law_lamps_0 s__law_lamps_1
  simp_all! [q_spin]
  refine ⟨by omega, by omega, by omega, fun m a0 a1 => ⟨by omega, by omega, fun rg hrg => ?_⟩⟩
  refine loop_rg (Z := ReelW) hrg (fun i ρ μ => ∃ (ls : List Lamp) (n' : Nat) (a b : Slot), ρ = [.val (.op (.ref p)), .val (.int many), .val (.int top), .own (ls.map lampD), a, b] ∧ μ = rs p l n' ∧ ls.length = i ∧ n' ≤ n + 1 + 4 * i ∧ ∀ l ∈ ls, LampOk top l) ?_ ?_ ⟨[], n + 1, _, _, rfl, rfl, rfl, by omega, by simp⟩
  · rintro i ρ μ N hi ⟨ls, n', a, b, rfl, rfl, hls, hn', hok⟩ hN
    unfold l__law_lamps_1 s__law_lamps_1f_0
    have two : ∀ (stay : Int) (n2 : Nat), 1 ≤ stay → stay ≤ top → n2 ≤ n' + 3 → s__law_lamps_1f_1 { nx := N, rt := R, ex := fun x _ μ' => Ed x μ', bk := s__law_lamps_2 (fin R Ed), ct := N } [.val (.op (.ref p)), .val (.int many), .val (.int top), .own (ls.map lampD), .val (.int (0 + i)), .val (.int stay)] (rs p l n2) := fun stay n2 s0 s1 h2 => by
      unfold s__law_lamps_1f_1
      simp_all! [q_spin, at_two, List.length_map]
      have fin2 : ∀ k : Bool, N [.val (.op (.ref p)), .val (.int many), .val (.int top), .own (ls.map lampD ++ [lampD (k, stay)]), .val (.int (0 + i)), .val (.int stay)] (rs p l (n2 + 1)) := fun k =>
        hN _ _ ⟨ls ++ [(k, stay)], n2 + 1, _, _, by rw [List.map_append]; rfl, rfl, by simp [hls], by omega, fun x hx => by
          rcases List.mem_append.mp hx with hx | hx
          · exact hok x hx
          · rw [List.mem_singleton.mp hx]; exact ⟨s0, s1⟩⟩
      exact ⟨by omega, ⟨by omega, fin2 true⟩, by omega, fin2 false⟩
    simp_all! [q_spin, at_two]
    exact ⟨by omega, by omega, by omega, fun m b0 b1 => ⟨by omega, by omega, by omega, fun m2 c0 c1 => ⟨by omega, two _ _ (by omega) (by omega) (by omega), two _ _ (by omega) (by omega) (by omega)⟩⟩⟩
  · rintro ρ μ ⟨ls, n', a, b, rfl, rfl, hls, hn', hok⟩
    unfold s__law_lamps_2
    simp_all! [staL_lamp]
    exact h ls n' (fun z => by rw [z] at hls; simp at hls; omega) (by omega) hok (by omega)
theorem ascI_snoc : ∀ {a x : Int} {ms : List Int}, AscI a ms → a < x → (∀ m ∈ ms, m < x) → AscI a (ms ++ [x])
  | _, _, [], _, h, _ => ⟨h, trivial⟩
  | _, _, m :: ms, h, _, k => ⟨h.1, ascI_snoc h.2 (k m (List.mem_cons_self ..)) fun y hy => k y (List.mem_cons_of_mem _ hy)⟩
theorem pure__law_minutes (hl : ds.length = ps__law_minutes.length) (hs : sp__law_minutes ds μ R Ed) (st : staL ds = true) : t__law_minutes (fin R Ed) (startD N__law_minutes ds) μ := by
  obtain ⟨p, l, n, many, gap, rfl, rfl, hn, m0, m1, g0, g1, h⟩ := hs
  show t__law_minutes (fin R Ed) [.val (.op (.ref p)), .val (.int many), .val (.int gap), .un, .un, .un, .un, .un] (rs p l n)
  have rest : ∀ (here way : Int) (n1 : Nat), 0 ≤ here → here ≤ 1000000 → 0 ≤ way → way < 4 → n1 ≤ n + 3 → dsSeq s__law_minutes_1 (dsSeq s__law_minutes_2 s__law_minutes_3) (fin R Ed) [.val (.op (.ref p)), .val (.int many), .val (.int gap), .val (.int here), .own [], .val (.int way), .un, .un] (rs p l n1) := fun here way n1 h0 h1 w0 w1 hn1 => by
    unfold s__law_minutes_1 s__law_minutes_2
    simp_all! [q_spin]
    refine ⟨by omega, by omega, by omega, fun s1 s10 s11 => ⟨by omega, by omega, by omega, fun m a0 a1 => ⟨by omega, by omega, fun rg hrg => ?_⟩⟩⟩
    refine loop_rg (Z := ReelW) hrg (fun i ρ μ => ∃ (ms : List Int) (here : Int) (n' : Nat) (a : Slot), ρ = [.val (.op (.ref p)), .val (.int many), .val (.int gap), .val (.int here), .own (ms.map .int), .val (.int way), .val (.int (1 + s1)), a] ∧ μ = rs p l n' ∧ ms.length = i ∧ n' ≤ n + 5 + 4 * i ∧ AscI (-1) ms ∧ (∀ m ∈ ms, m < here) ∧ 0 ≤ here ∧ here ≤ 1000000 + 4000000 * i) ?_ ?_ ⟨[], here, _, _, rfl, rfl, rfl, by omega, trivial, by simp, h0, by omega⟩
    · rintro i ρ μ N hi ⟨ms, here, n', a, rfl, rfl, hms, hn', hasc, hlt, h0, h1⟩ hN
      unfold l__law_minutes_2 s__law_minutes_2f_0 s__law_minutes_2f_1
      simp_all! [q_spin, List.length_map]
      refine ⟨by omega, by omega, by omega, by omega, fun m1 b0 b1 => ⟨by omega, by omega, by omega, fun m2 c0 c1 => ?_⟩⟩
      have last : ∀ (h2 : Int) (n3 : Nat), here < h2 → h2 ≤ here + 4000000 → n3 ≤ n' + 4 → N [.val (.op (.ref p)), .val (.int many), .val (.int gap), .val (.int h2), .own (ms.map .int ++ [.int here]), .val (.int way), .val (.int (1 + s1)), .val (.int (0 + i))] (rs p l n3) := fun h2 n3 k0 k1 k2 => by
        refine hN _ _ ⟨ms ++ [here], h2, n3, _, by rw [List.map_append]; rfl, rfl, by simp [hms], by omega, ascI_snoc hasc (by omega) hlt, fun x hx => ?_, by omega, by omega⟩
        rcases List.mem_append.mp hx with hx | hx
        · have := hlt x hx; omega
        · rw [List.mem_singleton.mp hx]; exact k0
      have next : ∀ (d : Int), 1 ≤ d → d ≤ 3000000 → s__law_minutes_2f_2 { nx := N, rt := R, ex := fun x _ μ' => Ed x μ', bk := s__law_minutes_3 (fin R Ed), ct := N } [.val (.op (.ref p)), .val (.int many), .val (.int gap), .val (.int (here + d)), .own (ms.map .int ++ [.int here]), .val (.int way), .val (.int (1 + s1)), .val (.int (0 + i))] (rs p l (n' + 1 + 1)) := fun d d0 d1 => by
        unfold s__law_minutes_2f_2 s__law_minutes_2f_2a_0
        simp_all! [q_spin, at_two]
        refine ⟨by omega, fun m3 e0 e1 => ?_⟩
        split
        · exact ⟨by omega, last _ _ (by omega) (by omega) (by omega), last _ _ (by omega) (by omega) (by omega)⟩
        · exact last _ _ (by omega) (by omega) (by omega)
      have : way = 0 ∨ way = 1 ∨ way = 2 ∨ way = 3 := by omega
      rcases this with rfl | rfl | rfl | rfl
      all_goals (simp_all! [at3]; exact next _ (by omega) (by omega))
    · rintro ρ μ ⟨ms, here, n', a, rfl, rfl, hms, hn', hasc, hlt, h0, h1⟩
      unfold s__law_minutes_3
      simp_all!
      show R (.lst (frL (ms.map .int))) _
      rw [frL_sta _ (staL_ints ms)]
      exact h ms n' hasc (by omega) (fun x hx => by have := hlt x hx; omega) (by omega)
  unfold t__law_minutes s__law_minutes_0
  simp_all! [q_spin, at_two]
  exact ⟨by omega, ⟨by omega, fun m a0 a1 => ⟨by omega, fun w w0 w1 => rest _ _ _ (by omega) (by omega) w0 w1 (by omega)⟩⟩, by omega, fun m a0 a1 => ⟨by omega, fun w w0 w1 => rest _ _ _ (by omega) (by omega) w0 w1 (by omega)⟩⟩
/-! what a lamp does -/
theorem isE_map {α β : Type} {f : α → β} {xs : List α} : (xs.map f).isEmpty = xs.isEmpty := by cases xs <;> rfl
theorem log_core1 (k : Bool) (s : Int) (ms : List Int) (hlen : ms.length ≤ 10000) (h : R (logD (play (k, s) ms)) μ) : t__law_log (fin R Ed) (startD N__law_log [lampD (k, s), intsL ms]) μ := by
  show t__law_log (fin R Ed) [.val (lampD (k, s)), .val (intsL ms), .un, .un, .un, .un] μ
  unfold t__law_log s__law_log_0 s__law_log_1 s__law_log_2 lampD intsL
  simp_all! [staL_ints]
  refine loop_t (Z := ReelW) D.int (fun rem ρ μ' => ∃ (rev : Lg) (a : Slot), ρ = [.val (lampD (k, s)), .val (intsL ms), .val (.str (kS k)), .val (.int s), .own (rev.reverse.map pD), a] ∧ μ' = μ ∧ playR (k, s) ms = rem.foldl (stepR (k, s)) rev ∧ rev.length + rem.length ≤ 10000) ?_ ?_ ⟨[], _, rfl, rfl, rfl, by simpa using hlen⟩
  · rintro m rem ρ μ' N ⟨rev, a, rfl, rfl, e, hz⟩ hN
    unfold l__law_log_2 s__law_log_2f_0
    rw [List.foldl_cons] at e
    simp only [List.length_cons] at hz
    cases rev with
    | nil =>
      unfold s__law_log_2f_0a_0
      simp_all! [List.reverse_nil, List.map_nil, List.isEmpty_nil]
      exact hN _ _ ⟨[(m, m + s)], _, rfl, rfl, e, by simp; omega⟩
    | cons y r =>
      obtain ⟨u, v⟩ := y
      simp only [List.length_cons] at hz
      have eb : ((u, v) :: r).reverse.map pD = r.reverse.map pD ++ [.tup [.int u, .int v]] := by rw [List.reverse_cons, List.map_append]; rfl
      unfold s__law_log_2f_0a_0 s__law_log_2f_0b_0 s__law_log_2f_0b_0a_0
      rw [eb]
      simp_all! [app_ne, at_last, ix_last, set_last, kS_hold, q_set]
      have hz2 : (r.reverse.map pD ++ [D.tup [.int u, .int v]]).length < 16777216 := by simp; omega
      by_cases h1 : v < m
      · rw [if_pos (decide_eq_true h1)]
        refine ⟨hz2, hN _ _ ⟨(m, m + s) :: (u, v) :: r, _, by rw [List.reverse_cons, List.map_append, eb]; rfl, rfl, ?_, by simp; omega⟩⟩
        rw [e]
        simp only [stepR, if_pos h1]
      · rw [if_neg (by simpa using h1)]
        by_cases h2 : k = true ∨ m = v
        · have g2 : N [.val (lampD (k, s)), .val (intsL ms), .val (.str (kS k)), .val (.int s), .own (r.reverse.map pD ++ [.tup [.int u, .int (m + s)]]), .val (.int m)] μ' := hN _ _ ⟨(u, m + s) :: r, _, by rw [List.reverse_cons, List.map_append]; rfl, rfl, by rw [e]; simp only [stepR, if_neg h1, if_pos h2], by simp; omega⟩
          rcases h2 with h2 | h2
          · rw [if_pos h2]
            exact g2
          · split
            · exact g2
            · rw [if_pos (by simpa using h2)]
              exact g2
        · have g2 : N [.val (lampD (k, s)), .val (intsL ms), .val (.str (kS k)), .val (.int s), .own (r.reverse.map pD ++ [.tup [.int u, .int v]]), .val (.int m)] μ' := hN _ _ ⟨(u, v) :: r, _, by rw [eb], rfl, by rw [e]; simp only [stepR, if_neg h1, if_neg h2], by simp; omega⟩
          rw [if_neg (fun z => h2 (.inl z)), if_neg (fun z => h2 (.inr (by simpa using z)))]
          exact g2
  · rintro ρ μ' ⟨rev, a, rfl, rfl, e, _⟩
    unfold s__law_log_3
    simp_all! [staL_p]
    have e2 : play (k, s) ms = rev.reverse := by unfold play; rw [e]; rfl
    rw [e2] at h
    exact h
theorem log_core2 (k : Bool) (s : Int) (ms : List Int) (hlen : ms.length ≤ 10000) (h : R (logD (play (k, s) ms)) μ) : t__law_log (fin R Ed) (startD N__law_log [lampD (k, s), (.tup (ms.map .int))]) μ := by
  show t__law_log (fin R Ed) [.val (lampD (k, s)), .val ((.tup (ms.map .int))), .un, .un, .un, .un] μ
  unfold t__law_log s__law_log_0 s__law_log_1 s__law_log_2 lampD
  simp_all! [staL_ints]
  refine loop_t (Z := ReelW) D.int (fun rem ρ μ' => ∃ (rev : Lg) (a : Slot), ρ = [.val (lampD (k, s)), .val ((.tup (ms.map .int))), .val (.str (kS k)), .val (.int s), .own (rev.reverse.map pD), a] ∧ μ' = μ ∧ playR (k, s) ms = rem.foldl (stepR (k, s)) rev ∧ rev.length + rem.length ≤ 10000) ?_ ?_ ⟨[], _, rfl, rfl, rfl, by simpa using hlen⟩
  · rintro m rem ρ μ' N ⟨rev, a, rfl, rfl, e, hz⟩ hN
    unfold l__law_log_2 s__law_log_2f_0
    rw [List.foldl_cons] at e
    simp only [List.length_cons] at hz
    cases rev with
    | nil =>
      unfold s__law_log_2f_0a_0
      simp_all! [List.reverse_nil, List.map_nil, List.isEmpty_nil]
      exact hN _ _ ⟨[(m, m + s)], _, rfl, rfl, e, by simp; omega⟩
    | cons y r =>
      obtain ⟨u, v⟩ := y
      simp only [List.length_cons] at hz
      have eb : ((u, v) :: r).reverse.map pD = r.reverse.map pD ++ [.tup [.int u, .int v]] := by rw [List.reverse_cons, List.map_append]; rfl
      unfold s__law_log_2f_0a_0 s__law_log_2f_0b_0 s__law_log_2f_0b_0a_0
      rw [eb]
      simp_all! [app_ne, at_last, ix_last, set_last, kS_hold, q_set]
      have hz2 : (r.reverse.map pD ++ [D.tup [.int u, .int v]]).length < 16777216 := by simp; omega
      by_cases h1 : v < m
      · rw [if_pos (decide_eq_true h1)]
        refine ⟨hz2, hN _ _ ⟨(m, m + s) :: (u, v) :: r, _, by rw [List.reverse_cons, List.map_append, eb]; rfl, rfl, ?_, by simp; omega⟩⟩
        rw [e]
        simp only [stepR, if_pos h1]
      · rw [if_neg (by simpa using h1)]
        by_cases h2 : k = true ∨ m = v
        · have g2 : N [.val (lampD (k, s)), .val ((.tup (ms.map .int))), .val (.str (kS k)), .val (.int s), .own (r.reverse.map pD ++ [.tup [.int u, .int (m + s)]]), .val (.int m)] μ' := hN _ _ ⟨(u, m + s) :: r, _, by rw [List.reverse_cons, List.map_append]; rfl, rfl, by rw [e]; simp only [stepR, if_neg h1, if_pos h2], by simp; omega⟩
          rcases h2 with h2 | h2
          · rw [if_pos h2]
            exact g2
          · split
            · exact g2
            · rw [if_pos (by simpa using h2)]
              exact g2
        · have g2 : N [.val (lampD (k, s)), .val ((.tup (ms.map .int))), .val (.str (kS k)), .val (.int s), .own (r.reverse.map pD ++ [.tup [.int u, .int v]]), .val (.int m)] μ' := hN _ _ ⟨(u, v) :: r, _, by rw [eb], rfl, by rw [e]; simp only [stepR, if_neg h1, if_neg h2], by simp; omega⟩
          rw [if_neg (fun z => h2 (.inl z)), if_neg (fun z => h2 (.inr (by simpa using z)))]
          exact g2
  · rintro ρ μ' ⟨rev, a, rfl, rfl, e, _⟩
    unfold s__law_log_3
    simp_all! [staL_p]
    have e2 : play (k, s) ms = rev.reverse := by unfold play; rw [e]; rfl
    rw [e2] at h
    exact h
theorem pure__law_log (hl : ds.length = ps__law_log.length) (hs : sp__law_log ds μ R Ed) (st : staL ds = true) : t__law_log (fin R Ed) (startD N__law_log ds) μ := by
  obtain ⟨⟨k, s⟩, ms, md, rfl, rfl | rfl, hlen, h⟩ := hs
  · exact log_core1 μ R Ed k s ms hlen h
  · exact log_core2 μ R Ed k s ms hlen h
theorem pure__law_logs (hl : ds.length = ps__law_logs.length) (hs : sp__law_logs ds μ R Ed) (st : staL ds = true) : t__law_logs (fin R Ed) (startD N__law_logs ds) μ := by
  obtain ⟨ls, ms, md, rfl, hm, h1, h2, h⟩ := hs
  have sm : sta md = true := by
    rcases hm with rfl | rfl
    · exact sta_ints ms
    · simp only [sta]; exact staL_ints ms
  show t__law_logs (fin R Ed) [.val (.tup (ls.map lampD)), .val md, .un] μ
  unfold t__law_logs s__law_logs_0
  simp_all!
  refine comp_fun (Z := ReelW) lampD (fun l => logD (play l ms)) (by rw [szl]; omega) (fun x hx k k' hk => ?_) (fun x _ => sta_log _) ?_
  · simp_all! [sta_lamp]
    exact ⟨sm, x, ms, md, rfl, hm, by omega, hk⟩
  · exact ⟨staL_map (fun _ => sta_log _) ls, h⟩
theorem pure__law_fits (hl : ds.length = ps__law_fits.length) (hs : sp__law_fits ds μ R Ed) (st : staL ds = true) : t__law_fits (fin R Ed) (startD N__law_fits ds) μ := by
  obtain ⟨⟨k, s⟩, ⟨on, off⟩, rfl, hp, ho, h⟩ := hs
  show t__law_fits (fin R Ed) [.val (lampD (k, s)), .val (pD (on, off)), .un, .un, .un, .un] μ
  unfold t__law_fits s__law_fits_0 s__law_fits_1 s__law_fits_2 s__law_fits_3 lampD pD
  simp_all! [kS_hold]
  unfold fitsB at h
  dsimp only at h hp ho
  by_cases hg : 1000000000 < off - s
  · rw [if_pos (decide_eq_true hg)]
    simpa [hg] using h
  · rw [if_neg (by simpa using hg)]
    by_cases hs : off - on < s
    · rw [if_pos (decide_eq_true hs)]
      cases k
      · have : (off - on) % s = off - on := Int.emod_eq_of_lt (by omega) hs
        have ne : ((off - on) % s == 0) = false := by rw [this]; simp; omega
        simpa [hg, ne] using h
      · have : ¬ s ≤ off - on := by omega
        simpa [hg, this] using h
    · rw [if_neg (by simpa using hs)]
      have : s ≤ off - on := by omega
      cases k
      · simpa [hg, hp] using h
      · simpa [hg, this] using h
end
end RL
/-! text TM -/
/-! DL: typed data is tame. -/
namespace DL
open PySem PySem.Spec PyProof.Rows L2
def BI (i : Int) : Prop := i.natAbs < 2 ^ 200
def BP (p : Int × Int) : Prop := BI p.1 ∧ BI p.2
def BR (r : Rn) : Prop := BI r.1 ∧ BI r.2.1 ∧ BI r.2.2
theorem tm_sta {n k : Nat} {d : D} (h : DL.Tm n k d) : sta d = true := tame_sta d h.t
theorem tmL_sta {n k : Nat} {d : List D} (h : DL.TmL n k d) : staL d = true := tameL_sta d h.t
theorem tm_bl {b : Bool} : DL.Tm 1 0 (.bl b) := ⟨rfl, Nat.le_refl _, Nat.le_refl _⟩
theorem tm_non : DL.Tm 1 0 .non := ⟨rfl, Nat.le_refl _, Nat.le_refl _⟩
theorem tm_two {n m k : Nat} {a b : D} (h : DL.Tm n k a) (g : DL.Tm m k b) : DL.TmL (n + m) k [a, b] := TmL.cons h (TmL.cons (m := 0) g TmL.nil)
theorem tm_one {n k : Nat} {a : D} (h : DL.Tm n k a) : DL.TmL n k [a] := TmL.cons (m := 0) h TmL.nil
theorem tmL_of {α : Type} {f : α → D} {n k : Nat} {xs : List α} (h : ∀ x ∈ xs, DL.Tm n k (f x)) : DL.TmL (xs.length * n) k (xs.map f) := by
  have h' : ∀ d ∈ xs.map f, DL.Tm n k d := fun d hd => by
    obtain ⟨x, hx, rfl⟩ := List.mem_map.mp hd
    exact h x hx
  refine ⟨tameL_all.mpr fun x hx => (h' x hx).t, ?_, depL_le.mpr fun x hx => (h' x hx).k⟩
  have := nodesL_le (n := n) fun x hx => (h' x hx).n
  rw [List.length_map] at this
  exact this
theorem tmL_le {α : Type} {f : α → D} {n k N m : Nat} {xs : List α} (h : ∀ x ∈ xs, DL.Tm n k (f x)) (hl : xs.length ≤ m) (hm : m * n ≤ N) : DL.TmL N k (xs.map f) :=
  (tmL_of h).mono (Nat.le_trans (Nat.mul_le_mul_right n hl) hm) (Nat.le_refl k)
theorem tm_p {p : Int × Int} (h : BP p) : DL.Tm 3 1 (pD p) := (tm_two (Tm.int h.1) (Tm.int h.2)).tup
theorem tm_rn {p : Rn} (h : BR p) : DL.Tm 4 1 (rnD p) := (TmL.cons (Tm.int h.1) (tm_two (Tm.int h.2.1) (Tm.int h.2.2))).tup
theorem tm_kS {k : Bool} : DL.Tm 1 0 (.str (kS k)) := ⟨by cases k <;> decide, Nat.le_refl _, Nat.le_refl _⟩
theorem tm_lamp {l : Lamp} (h : BI l.2) : DL.Tm 3 1 (lampD l) := (tm_two tm_kS (Tm.int h)).tup
theorem tm_log {g : Lg} (m : Nat) (h : ∀ s ∈ g, BP s) (hl : g.length ≤ m) : DL.Tm (m * 3 + 1) 2 (logD g) := (tmL_le (fun x hx => tm_p (h x hx)) hl (Nat.le_refl _)).tup
theorem tm_runs {g : List Rn} (m : Nat) (h : ∀ s ∈ g, BR s) (hl : g.length ≤ m) : DL.Tm (m * 4 + 1) 2 (runsD g) := (tmL_le (fun x hx => tm_rn (h x hx)) hl (Nat.le_refl _)).tup
theorem tm_intsT {g : List Int} (m : Nat) (h : ∀ s ∈ g, BI s) (hl : g.length ≤ m) : DL.Tm (m * 1 + 1) 1 (intsT g) := (tmL_le (fun x hx => Tm.int (h x hx)) hl (Nat.le_refl _)).tup
theorem tm_intsL {g : List Int} (m : Nat) (h : ∀ s ∈ g, BI s) (hl : g.length ≤ m) : DL.Tm (m * 1 + 1) 1 (intsL g) := (tmL_le (fun x hx => Tm.int (h x hx)) hl (Nat.le_refl _)).lst
/-! items numbered -/
theorem rangeF_en {α : Type} : ∀ (lo : Int) (g : List α), rangeF lo g.length = (enI lo g).map fun p => D.int p.1
  | _, [] => rfl
  | lo, x :: g => by rw [List.length_cons, rangeF, enI, List.map_cons, rangeF_en (lo + 1) g]
theorem enI_at {α : Type} : ∀ {lo : Int} {g : List α} {p : Int × α}, p ∈ enI lo g → ∃ j : Nat, p.1 = lo + j ∧ g[j]? = some p.2
  | lo, x :: g, p, h => by
    rcases List.mem_cons.mp h with e | e
    · exact ⟨0, by rw [e]; simp, by rw [e]; rfl⟩
    · obtain ⟨j, e1, e2⟩ := enI_at e
      exact ⟨j + 1, by rw [e1]; omega, by simpa using e2⟩
theorem enI_atI {α : Type} {g : List α} {p : Int × α} (h : p ∈ enI 0 g) : atI g p.1 = some p.2 := by
  obtain ⟨j, e1, e2⟩ := enI_at h
  have hj := (List.getElem?_eq_some_iff.mp e2).1
  unfold atI ixN
  rw [if_pos (by omega), if_pos (by omega), e1]
  show g[(0 + (j : Int)).toNat]? = _
  rw [show (0 + (j : Int)).toNat = j by omega]
  exact e2
theorem enI_mem {α : Type} {lo : Int} {g : List α} {p : Int × α} (h : p ∈ enI lo g) : p.2 ∈ g := by
  obtain ⟨j, _, e⟩ := enI_at h
  exact List.mem_of_getElem? e
end DL
/-! text POp -/
/-! the defs that the laws of a pool share: what they answer -/
namespace PO
open PySem PySem.Spec PyProof.Rows L2 DL LP
open RL (AscI AscP LampOk play playR stepR IsMs ascI_snoc)
mutual
theorem sm_sta : ∀ d : D, smD d = true → sta d = true
  | .tup xs, h => by simp only [smD] at h; simp only [sta]; exact sm_staL xs h
  | .lst xs, h => by simp only [smD] at h; simp only [sta]; exact sm_staL xs h
  | .non, _ => rfl | .bl _, _ => rfl | .int _, _ => rfl | .str _, _ => rfl
  | .dct _, h => by simp [smD] at h
  | .vw _, h => by simp [smD] at h
  | .op _, h => by simp [smD] at h
  | .fn _, h => by simp [smD] at h
  | .scr _, h => by simp [smD] at h
theorem sm_staL : ∀ ds : List D, smDL ds = true → staL ds = true
  | [], _ => rfl
  | d :: ds, h => by
    simp only [smDL, Bool.and_eq_true] at h
    simp only [staL, sm_sta d h.1, sm_staL ds h.2, Bool.and_self]
end
theorem ne_bool {b : Bool} {R : D → Prop} (h : R (.bl false)) : smNe (.bl b) (.bl b) R := by cases b <;> exact .inr ⟨⟨rfl, rfl, rfl, rfl⟩, h⟩
theorem eq_bool {b : Bool} {R : D → Prop} (h : R (.bl true)) : smEq (.bl b) (.bl b) R := by cases b <;> exact .inr ⟨⟨rfl, rfl, rfl, rfl⟩, h⟩
theorem eq_non {R : D → Prop} (h : R (.bl true)) : smEq .non .non R := .inr ⟨⟨rfl, rfl, rfl, rfl⟩, h⟩
theorem eq_int {i : Int} {R : D → Prop} (h : R (.bl true)) : smEq (.int i) (.int i) R := q_eq_ii.mpr (by rw [show (i == i) = true by simp]; exact h)
theorem eq_str {i : Str} {R : D → Prop} (h : R (.bl true)) : smEq (.str i) (.str i) R := by show R (.bl (decide (i = i))); rw [decide_eq_true rfl]; exact h
def aI (c : Int) : Int := if c < 0 then -c else c
section
variable {p l : Addr} {R : D → PoolW.M → Prop} {E : Xc → PoolW.M → Prop}
theorem q_dip {many : Int} : sp__law_dip [.op (.ref p), .int many] (pst p l) R E ↔ (0 < many ∧ many < 2 ^ 64 ∧ ∀ (m : Int) (l' : Addr), 0 ≤ m → m < many → R (.int m) (pst p l')) := by
  constructor
  · rintro ⟨p', l', m', e1, e2, h1, h2, h⟩
    cases e1
    cases e2
    exact ⟨h1, h2, h⟩
  · rintro ⟨h1, h2, h⟩
    exact ⟨p, l, many, rfl, rfl, h1, h2, h⟩
end
section
variable (ds : List D) (μ : PoolW.M) (R : D → PoolW.M → Prop) (Ed : Xc → PoolW.M → Prop)
theorem pure__law_pool (hl : ds.length = ps__law_pool.length) (hs : sp__law_pool ds μ R Ed) (st : staL ds = true) : t__law_pool (fin R Ed) (startD N__law_pool ds) μ := by
  obtain ⟨ns, rfl, hn, rfl, h⟩ := hs
  show t__law_pool (fin R Ed) [.val (.scr ns), .un, .un] none
  unfold t__law_pool s__law_pool_0
  simp_all!
  unfold s__law_pool_1
  simp_all! [cutL_map]
  have hcl : (cutL ns none (some 62)).length ≤ 62 := by
    unfold cutL
    rw [List.length_take]
    simp [HT.sIx]
    omega
  generalize cutL ns none (some 62) = cs at hcl
  refine ⟨staL_ints cs, ?_⟩
  refine loop_t (Z := PoolW) D.int (fun rem ρ μ' => ∃ (m : Int) (c : Slot), ρ = [.val (.scr ns), .val (.int m), c] ∧ μ' = none) ?_ ?_ ⟨_, _, rfl, rfl⟩
  · rintro c rem ρ μ' N ⟨m, x, rfl, rfl⟩ hN
    unfold l__law_pool_1 s__law_pool_1f_0
    simp_all!
    exact hN _ _ ⟨_, _, rfl, rfl⟩
  · rintro ρ μ' ⟨m, c, rfl, rfl⟩
    unfold s__law_pool_2 dsRetPool
    simp_all! [cutL_map]
    have hcl2 : (cutL ns none (some 62)).length ≤ 62 := by
      unfold cutL
      rw [List.length_take]
      simp [HT.sIx]
      omega
    generalize cutL ns none (some 62) = cs at hcl2
    refine comp_opt (Z := PoolW) D.int (fun c => if (1000000000000000000 : Int) ≤ aI c then some (.int (aI c)) else none) (by rw [szl]; omega) (fun c _ k k' hk => ?_) (fun c _ y hy => ?_) ?_
    · simp_all!
      rw [show (if c < 0 then -c else c) = aI c from rfl]
      by_cases hc : (1000000000000000000 : Int) ≤ aI c
      · rw [if_pos hc] at hk
        rw [if_pos (by simpa using hc)]
        exact hk
      · rw [if_neg hc] at hk
        rw [if_neg (by simpa using hc)]
        exact hk
    · split at hy
      · cases hy; rfl
      · cases hy
    · refine ⟨rfl, (cs.filterMap fun c => if (1000000000000000000 : Int) ≤ aI c then some (aI c) else none), ?_, ?_, ?_⟩
      · rw [List.map_filterMap]
        congr 1
        funext c
        split <;> rfl
      · have := List.length_filterMap_le (fun c => if (1000000000000000000 : Int) ≤ aI c then some (aI c) else none) cs
        omega
      · exact ⟨rfl, h⟩
theorem pure__law_lamp (hl : ds.length = ps__law_lamp.length) (hs : sp__law_lamp ds μ R Ed) (st : staL ds = true) : t__law_lamp (fin R Ed) (startD N__law_lamp ds) μ := by
  obtain ⟨p, l, upto, rfl, rfl, h1, h2, h⟩ := hs
  show t__law_lamp (fin R Ed) [.val (.op (.ref p)), .val (.int upto)] (pst p l)
  unfold t__law_lamp s__law_lamp_0
  simp_all! [q_dip]
  have fin' : ∀ (k : Bool) (l' : Addr), 0 < upto ∧ upto < 18446744073709551616 ∧ ∀ (m : Int) (l' : Addr), 0 ≤ m → m < upto → R (D.tup [.str (kS k), D.int (1 + m)]) (pst p l') := fun k l' => ⟨by omega, by omega, fun m l2 m0 m1 => h (k, 1 + m) l2 ⟨by dsimp only; omega, by dsimp only; omega⟩⟩
  intro m l' m0 m1
  rcases (show m = 0 ∨ m = 1 by omega) with rfl | rfl
  · obtain ⟨a, b, c⟩ := fin' true l'
    exact ⟨_, rfl, a, b, fun m l2 m0 m1 => ⟨rfl, c m l2 m0 m1⟩⟩
  · obtain ⟨a, b, c⟩ := fin' false l'
    exact ⟨_, rfl, a, b, fun m l2 m0 m1 => ⟨rfl, c m l2 m0 m1⟩⟩
theorem pure__law_minutes (hl : ds.length = ps__law_minutes.length) (hs : sp__law_minutes ds μ R Ed) (st : staL ds = true) : t__law_minutes (fin R Ed) (startD N__law_minutes ds) μ := by
  obtain ⟨p, l, upto, many, rfl, rfl, h1, h2, h3, h4, h⟩ := hs
  show t__law_minutes (fin R Ed) [.val (.op (.ref p)), .val (.int upto), .val (.int many), .un, .un, .un, .un] (pst p l)
  unfold t__law_minutes s__law_minutes_0
  simp_all! [q_dip]
  have go : ∀ (wide : Int) (l1 : Addr), 1 ≤ wide → wide ≤ 1000000000 → s__law_minutes_1 { nx := s__law_minutes_2 (fin R Ed), rt := R, ex := fun x _ μ' => Ed x μ' } [.val (.op (.ref p)), .val (.int upto), .val (.int many), .own [], .val (.int (-1)), .val (.int wide), .un] (pst p l1) := by
    intro wide l1 w0 w1
    unfold s__law_minutes_1
    simp_all! [q_dip]
    refine ⟨by omega, by omega, fun m l2 m0 m1 => ⟨by omega, by omega, fun rg hrg => ?_⟩⟩
    refine loop_rg (Z := PoolW) hrg (fun i ρ μ => ∃ (ms : List Int) (last : Int) (l3 : Addr) (c : Slot), ρ = [.val (.op (.ref p)), .val (.int upto), .val (.int many), .own (ms.map D.int), .val (.int last), .val (.int wide), c] ∧ μ = pst p l3 ∧ AscI (-1) ms ∧ ms.length ≤ i ∧ -1 ≤ last ∧ (∀ m ∈ ms, m ≤ last) ∧ ∀ m ∈ ms, m < upto) ?_ ?_ ⟨[], -1, l2, _, rfl, rfl, trivial, Nat.le_refl _, Int.le_refl _, by simp, by simp⟩
    · rintro i ρ μ N hi ⟨ms, last, l3, c, rfl, rfl, ha, hlen, hla, hml, hmu⟩ hN
      simp_all!
      unfold l__law_minutes_1 s__law_minutes_1f_0
      simp_all! [q_dip]
      refine ⟨by omega, by omega, fun k l4 k0 k1 => ?_⟩
      unfold s__law_minutes_1f_1
      simp_all!
      by_cases hc : last + 1 + k < upto
      · rw [if_pos (decide_eq_true hc)]
        unfold s__law_minutes_1f_1a_0
        simp_all! [List.length_map]
        refine ⟨by omega, hN _ _ ⟨ms ++ [last + 1 + k], last + 1 + k, l4, _, by rw [List.map_append]; rfl, rfl, ascI_snoc ha (by omega) fun m hm => by have := hml m hm; omega, by rw [List.length_append, List.length_singleton]; omega, by omega, fun m hm => ?_, fun m hm => ?_⟩⟩
        · rcases List.mem_append.mp hm with z | z
          · have := hml m z; omega
          · rw [List.mem_singleton.mp z]; exact Int.le_refl _
        · rcases List.mem_append.mp hm with z | z
          · exact hmu m z
          · rw [List.mem_singleton.mp z]; exact hc
      · rw [if_neg (by simpa using hc)]
        exact hN _ _ ⟨ms, last + 1 + k, l4, _, rfl, rfl, ha, by omega, by omega, fun m hm => by have := hml m hm; omega, hmu⟩
    · rintro ρ μ ⟨ms, last, l3, c, rfl, rfl, ha, hlen, hla, hml, hmu⟩
      unfold s__law_minutes_2
      simp_all!
      have q := h ms l3 ha (by omega) hmu
      unfold intsL at q
      unfold fr
      rw [frL_sta _ (staL_ints ms)]
      exact q
  intro m l' m0 m1
  rcases (show m = 0 ∨ m = 1 ∨ m = 2 by omega) with rfl | rfl | rfl
  · exact ⟨_, rfl, rfl, go 2 l' (by omega) (by omega)⟩
  · exact ⟨_, rfl, rfl, go 4 l' (by omega) (by omega)⟩
  · exact ⟨_, rfl, rfl, go upto l' h1 h2⟩
def onD (q : Int × Int) : D := .int q.1
def offD (q : Int × Int) : D := .int q.2
theorem zip_on : ∀ L : Lg, zipF (L.map onD) (L.map offD) = L.map pD
  | [] => rfl
  | q :: L => by rw [List.map_cons, List.map_cons, zipF, zip_on L, List.map_cons]; rfl
theorem stepR_map (x : Lamp) : ∀ (a b m : Int) (r : Lg), stepR x ((a, b) :: r) m = if b < m then (m, m + x.2) :: (a, b) :: r else if x.1 = true ∨ m = b then (a, m + x.2) :: r else (a, b) :: r := fun _ _ _ _ => rfl
theorem play_core (k : Bool) (s : Int) (ms : List Int) (md : D) (hmd : itemsD md = some (ms.map D.int)) (hsd : sta md = true) (hlen : ms.length ≤ 10000) (h : R (logD (play (k, s) ms)) μ) : t__law_play (fin R Ed) (startD N__law_play [lampD (k, s), md]) μ := by
  show t__law_play (fin R Ed) [.val (lampD (k, s)), .val md, .un, .un, .un, .un, .un, .un, .un] μ
  unfold t__law_play s__law_play_0
  rw [show lampD (k, s) = .tup [.str (kS k), .int s] from rfl]
  simp_all!
  unfold s__law_play_1
  simp_all!
  unfold s__law_play_2
  simp_all! [hmd]
  refine ⟨staL_ints ms, ?_⟩
  refine loop_t (Z := PoolW) D.int (fun rem ρ μ' => ∃ (rev : Lg) (a : Slot), ρ = [.val (.tup [.str (kS k), .int s]), .val md, .val (.str (kS k)), .val (.int s), .own (rev.reverse.map onD), .own (rev.reverse.map offD), a, .un, .un] ∧ μ' = μ ∧ playR (k, s) ms = rem.foldl (stepR (k, s)) rev ∧ rev.length + rem.length ≤ 10000) ?_ ?_ ⟨[], _, rfl, rfl, rfl, by simpa using hlen⟩
  · rintro m rem ρ μ' N ⟨rev, a, rfl, rfl, e, hz⟩ hN
    rw [List.foldl_cons] at e
    simp only [List.length_cons] at hz
    simp_all!
    unfold l__law_play_2 s__law_play_2f_0
    cases rev with
    | nil =>
      unfold s__law_play_2f_0a_0 s__law_play_2f_0a_1
      simp_all! [List.reverse_nil, List.map_nil, List.isEmpty_nil]
      exact hN _ _ ⟨[(m, m + s)], _, rfl, rfl, e, by simp; omega⟩
    | cons y r =>
      obtain ⟨u, v⟩ := y
      simp only [List.length_cons] at hz
      have eb : ((u, v) :: r).reverse.map onD = r.reverse.map onD ++ [.int u] := by rw [List.reverse_cons, List.map_append]; rfl
      have ec : ((u, v) :: r).reverse.map offD = r.reverse.map offD ++ [.int v] := by rw [List.reverse_cons, List.map_append]; rfl
      have hz1 : (r.reverse.map onD ++ [D.int u]).length < 16777216 := by simp; omega
      have hz2 : (r.reverse.map offD ++ [D.int v]).length < 16777216 := by simp; omega
      unfold s__law_play_2f_0a_0 s__law_play_2f_0a_1 s__law_play_2f_0b_0 s__law_play_2f_0b_0a_0
      rw [eb, ec]
      simp_all! [app_ne, at_last, ix_last, set_last, kS_hold, q_set]
      by_cases h1 : v < m
      · rw [if_pos (decide_eq_true h1)]
        refine ⟨hz1, hz2, hN _ _ ⟨(m, m + s) :: (u, v) :: r, _, by rw [List.reverse_cons, List.map_append, List.map_append, eb, ec]; rfl, rfl, by rw [e]; simp only [stepR, if_pos h1], by simp; omega⟩⟩
      · rw [if_neg (by simpa using h1)]
        by_cases h2 : k = true ∨ m = v
        · have g2 : N [.val (.tup [.str (kS k), .int s]), .val md, .val (.str (kS k)), .val (.int s), .own (r.reverse.map onD ++ [.int u]), .own (r.reverse.map offD ++ [.int (m + s)]), .val (.int m), .un, .un] μ' := hN _ _ ⟨(u, m + s) :: r, _, by rw [List.reverse_cons, List.map_append, List.map_append]; rfl, rfl, by rw [e]; simp only [stepR, if_neg h1, if_pos h2], by simp; omega⟩
          rcases h2 with h2 | h2
          · rw [if_pos h2]
            exact g2
          · split
            · exact g2
            · rw [if_pos (by simpa using h2)]
              exact g2
        · have g2 : N [.val (.tup [.str (kS k), .int s]), .val md, .val (.str (kS k)), .val (.int s), .own (r.reverse.map onD ++ [.int u]), .own (r.reverse.map offD ++ [.int v]), .val (.int m), .un, .un] μ' := hN _ _ ⟨(u, v) :: r, _, by rw [eb, ec], rfl, by rw [e]; simp only [stepR, if_neg h1, if_neg h2], by simp; omega⟩
          rw [if_neg (fun z => h2 (.inl z)), if_neg (fun z => h2 (.inr (by simpa using z)))]
          exact g2
  · rintro ρ μ' ⟨rev, a, rfl, rfl, e, hz⟩
    have e2 : play (k, s) ms = rev.reverse := by unfold play; rw [e]; rfl
    rw [e2] at h
    unfold s__law_play_3
    simp_all!
    unfold dZipC
    simp_all!
    refine ⟨_, _, _, _, rfl, rfl, rfl, ?_⟩
    rw [zip_on]
    refine comp_fun (Z := PoolW) pD pD (by rw [szl, List.length_reverse]; simpa using Nat.le_trans hz (by decide)) (fun q _ f f' hf => ?_) (fun _ _ => rfl) ?_
    · rw [show pD q = .tup [.int q.1, .int q.2] from rfl] at hf ⊢
      simp_all!
      exact hf
    · simp_all! [staL_p]
      exact h
theorem pure__law_play (hl : ds.length = ps__law_play.length) (hs : sp__law_play ds μ R Ed) (st : staL ds = true) : t__law_play (fin R Ed) (startD N__law_play ds) μ := by
  obtain ⟨⟨k, s⟩, ms, md, rfl, rfl | rfl, hn, h⟩ := hs
  · exact play_core μ R Ed k s ms _ rfl (sta_ints ms) hn h
  · exact play_core μ R Ed k s ms _ rfl (by simp only [sta]; exact staL_ints ms) hn h
theorem pure__law_fits (hl : ds.length = ps__law_fits.length) (hs : sp__law_fits ds μ R Ed) (st : staL ds = true) : t__law_fits (fin R Ed) (startD N__law_fits ds) μ := by
  obtain ⟨⟨k, s⟩, g, rfl, h1, h2, hn, h⟩ := hs
  dsimp only at h1
  show t__law_fits (fin R Ed) [.val (lampD (k, s)), .val (logD g), .un, .un] μ
  unfold t__law_fits s__law_fits_0 logD
  simp_all!
  refine ⟨staL_p g, ?_⟩
  refine loop_t (Z := PoolW) pD (fun rem ρ μ' => (∃ pre, g = pre ++ rem ∧ pre.all (fitsB (k, s)) = true) ∧ ∃ a b : Slot, ρ = [.val (lampD (k, s)), .val (.tup (g.map pD)), a, b] ∧ μ' = μ) ?_ ?_ ⟨⟨[], rfl, rfl⟩, _, _, rfl, rfl⟩
  · rintro ⟨x, y⟩ rem ρ μ' N ⟨⟨pre, eg, hp⟩, a, b, rfl, rfl⟩ hN
    have hxy := h2 (x, y) (by rw [eg]; simp)
    dsimp only at hxy
    have bad : fitsB (k, s) (x, y) = false → R (.bl false) μ' := fun hb => by
      have : g.all (fitsB (k, s)) = false := by rw [eg, List.all_append, List.all_cons, hb]; simp
      rw [this] at h; exact h
    have good : fitsB (k, s) (x, y) = true → N [.val (lampD (k, s)), .val (.tup (g.map pD)), .val (.int x), .val (.int y)] μ' := fun hb => hN _ _ ⟨⟨pre ++ [(x, y)], by rw [eg, List.append_assoc]; rfl, by rw [List.all_append, hp, List.all_cons, hb]; rfl⟩, _, _, rfl, rfl⟩
    rw [show pD (x, y) = .tup [.int x, .int y] from rfl, show lampD (k, s) = .tup [.str (kS k), .int s] from rfl] at *
    simp_all!
    unfold l__law_fits_0 s__law_fits_0f_0
    obtain ⟨u, hu⟩ : ∃ u, u = s__law_fits_0f_1 := ⟨_, rfl⟩
    rw [← hu]
    have a1 : atI [D.str (kS k), D.int s] 1 = some (.int s) := rfl
    have a0 : atI [D.str (kS k), D.int s] 0 = some (.str (kS k)) := rfl
    simp_all! [a1]
    by_cases c1 : 1000000000 < y - s
    · rw [if_pos (decide_eq_true c1)]
      refine bad ?_
      unfold fitsB
      dsimp only
      rw [decide_eq_true c1]
      rfl
    rw [if_neg (by simpa using c1)]
    have f1 : fitsB (k, s) (x, y) = if k = true then decide (s ≤ y - x) else ((y - x) % s == 0) := by
      unfold fitsB
      dsimp only
      rw [decide_eq_false c1]
      rfl
    by_cases c2 : y - x < s
    · rw [if_pos (decide_eq_true c2)]
      refine bad ?_
      rw [f1]
      split
      · exact decide_eq_false (by omega)
      · rw [Int.emod_eq_of_lt (by omega) c2]
        simp
        omega
    rw [if_neg (by simpa using c2), hu]
    unfold s__law_fits_0f_1
    simp_all! [a0, a1, kS_pulse]
    cases k with
    | true =>
      refine good ?_
      rw [f1, if_pos rfl]
      exact decide_eq_true (by omega)
    | false =>
      rw [if_pos (by rfl)]
      have hm := Int.emod_nonneg (y - x) (show s ≠ 0 by omega)
      refine ⟨by omega, ?_⟩
      by_cases c3 : 0 < (y - x) % s
      · rw [if_pos (decide_eq_true c3)]
        refine bad ?_
        rw [f1, if_neg (by decide)]
        simp
        omega
      · rw [if_neg (by simpa using c3)]
        refine good ?_
        rw [f1, if_neg (by decide)]
        simp
        omega
  · rintro ρ μ' ⟨⟨pre, eg, hp⟩, a, b, rfl, rfl⟩
    rw [List.append_nil] at eg
    subst eg
    unfold s__law_fits_1
    simp_all!
    rw [hp] at h
    exact h
theorem ascP_snoc : ∀ {a x y : Int} {g : Lg}, AscP a g → a < x → (∀ s ∈ g, s.2 < x) → x < y → AscP a (g ++ [(x, y)])
  | a, x, y, [], _, h1, _, h2 => ⟨h1, h2, trivial⟩
  | a, x, y, s :: g, h, h1, hs, h2 => ⟨h.1, h.2.1, ascP_snoc h.2.2 (hs s (List.mem_cons_self ..)) (fun t ht => hs t (List.mem_cons_of_mem _ ht)) h2⟩
theorem setsR_len : ∀ n, (setsR n).length = 2 ^ n
  | 0 => rfl
  | n + 1 => by show (setsR n ++ (setsR n).map _).length = _; rw [List.length_append, List.length_map, setsR_len n, Nat.pow_succ]; omega
theorem setsR_row : ∀ n, ∀ r ∈ setsR n, r.length ≤ n
  | 0, r, h => by rw [List.mem_singleton.mp h]; exact Nat.le_refl _
  | n + 1, r, h => by
    have h' : r ∈ setsR n ++ (setsR n).map fun r => r ++ [(n : Int)] := h
    rcases List.mem_append.mp h' with z | z
    · have := setsR_row n r z; omega
    · obtain ⟨q, hq, rfl⟩ := List.mem_map.mp z
      have := setsR_row n q hq
      rw [List.length_append, List.length_singleton]; omega
theorem pure__law_any_log (hl : ds.length = ps__law_any_log.length) (hs : sp__law_any_log ds μ R Ed) (st : staL ds = true) : t__law_any_log (fin R Ed) (startD N__law_any_log ds) μ := by
  obtain ⟨p, l, upto, rfl, rfl, h⟩ := hs
  show t__law_any_log (fin R Ed) [.val (.op (.ref p)), .val (.int upto), .un, .un, .un, .un, .un] (pst p l)
  unfold t__law_any_log s__law_any_log_0
  simp_all!
  unfold s__law_any_log_1
  simp_all! [q_dip]
  refine fun m l2 m0 m1 => ⟨by omega, by omega, fun rg hrg => ?_⟩
  refine loop_rg (Z := PoolW) hrg (fun i ρ μ => ∃ (g : Lg) (last : Int) (l3 : Addr) (a b c : Slot), ρ = [.val (.op (.ref p)), .val (.int upto), .own (g.map pD), .val (.int last), a, b, c] ∧ μ = pst p l3 ∧ AscP (-1) g ∧ g.length ≤ i ∧ -1 ≤ last ∧ (∀ s ∈ g, s.2 ≤ last) ∧ ∀ s ∈ g, s.2 ≤ upto) ?_ ?_ ⟨[], -1, l2, _, _, _, rfl, rfl, trivial, Nat.le_refl _, Int.le_refl _, by simp, by simp⟩
  · rintro i ρ μ N hi ⟨g, last, l3, a, b, c, rfl, rfl, ha, hlen, hla, hml, hmu⟩ hN
    simp_all!
    unfold l__law_any_log_1 s__law_any_log_1f_0
    simp_all! [q_dip]
    intro m2 l4 p0 p1
    unfold s__law_any_log_1f_1
    have go : ∀ (w : Int) (l5 : Addr), 1 ≤ w → w ≤ 8 → 0 < w ∧ w < 18446744073709551616 ∧ ∀ (m : Int) (l' : Addr), 0 ≤ m → m < w → s__law_any_log_1f_2 { nx := N, rt := R, ex := fun x _ μ' => Ed x μ', bk := s__law_any_log_2 (fin R Ed), ct := N } [.val (.op (.ref p)), .val (.int upto), .own (g.map pD), .val (.int last), .val (.int (0 + (i : Int))), .val (.int (last + 1 + m2)), .val (.int (last + 1 + m2 + 1 + m))] (pst p l') := by
      intro w l5 w0 w1
      refine ⟨by omega, by omega, fun m l6 n0 n1 => ?_⟩
      unfold s__law_any_log_1f_2
      simp_all!
      by_cases hc : last + 1 + m2 + 1 + m ≤ upto
      · rw [if_pos (decide_eq_true hc)]
        unfold s__law_any_log_1f_2a_0 s__law_any_log_1f_2a_1
        simp_all! [List.length_map]
        refine ⟨by omega, hN _ _ ⟨g ++ [(last + 1 + m2, last + 1 + m2 + 1 + m)], last + 1 + m2 + 1 + m, l6, _, _, _, by rw [List.map_append]; rfl, rfl, ascP_snoc ha (by omega) (fun s hs => by have := hml s hs; omega) (by omega), by rw [List.length_append, List.length_singleton]; omega, by omega, fun s hs => ?_, fun s hs => ?_⟩⟩
        · rcases List.mem_append.mp hs with z | z
          · have := hml s z; omega
          · rw [List.mem_singleton.mp z]; exact Int.le_refl _
        · rcases List.mem_append.mp hs with z | z
          · exact hmu s z
          · rw [List.mem_singleton.mp z]; exact hc
      · rw [if_neg (by simpa using hc)]
        exact hN _ _ ⟨g, last, l6, _, _, _, rfl, rfl, ha, by omega, hla, hml, hmu⟩
    simp_all! [q_dip]
    intro m3 l5 r0 r1
    rcases (show m3 = 0 ∨ m3 = 1 ∨ m3 = 2 by omega) with rfl | rfl | rfl
    · exact ⟨.int 2, rfl, rfl, q_dip.mpr (let ⟨a1, a2, a3⟩ := go 2 l5 (by omega) (by omega); ⟨a1, a2, fun m l' q0 q1 => ⟨rfl, a3 m l' q0 q1⟩⟩)⟩
    · exact ⟨.int 4, rfl, rfl, q_dip.mpr (let ⟨a1, a2, a3⟩ := go 4 l5 (by omega) (by omega); ⟨a1, a2, fun m l' q0 q1 => ⟨rfl, a3 m l' q0 q1⟩⟩)⟩
    · exact ⟨.int 8, rfl, rfl, q_dip.mpr (let ⟨a1, a2, a3⟩ := go 8 l5 (by omega) (by omega); ⟨a1, a2, fun m l' q0 q1 => ⟨rfl, a3 m l' q0 q1⟩⟩)⟩
  · rintro ρ μ ⟨g, last, l3, a, b, c, rfl, rfl, ha, hlen, hla, hml, hmu⟩
    unfold s__law_any_log_2
    simp_all!
    exact ⟨staL_p _, h g l3 ha hmu (by omega)⟩
theorem pure__law_sets (hl : ds.length = ps__law_sets.length) (hs : sp__law_sets ds μ R Ed) (st : staL ds = true) : t__law_sets (fin R Ed) (startD N__law_sets ds) μ := by
  obtain ⟨n, rfl, hn, h⟩ := hs
  show t__law_sets (fin R Ed) [.val (.int n), .un, .un, .un] μ
  unfold t__law_sets s__law_sets_0
  simp_all!
  unfold s__law_sets_1
  simp_all!
  refine ⟨by omega, by omega, fun rg hrg => ?_⟩
  rw [Int.toNat_natCast] at hrg
  refine loop_rg (Z := PoolW) hrg (fun i ρ μ' => ∃ a b : Slot, ρ = [.val (.int n), .val (.lst ((setsR i).map intsL)), a, b] ∧ μ' = μ) ?_ ?_ ⟨_, _, rfl, rfl⟩
  · rintro i ρ μ' N hi ⟨a, b, rfl, rfl⟩ hN
    have hp : 2 ^ i ≤ 2 ^ 11 := Nat.pow_le_pow_right (by decide) (by omega)
    have hln := setsR_len i
    simp_all!
    unfold l__law_sets_1 s__law_sets_1f_0
    simp_all!
    refine comp_fun (Z := PoolW) intsL (fun r => intsL (r ++ [(i : Int)])) (by rw [szl, hln]; omega) (fun r hr f f' hf => ?_) (fun _ _ => sta_ints _) ?_
    · have := setsR_row i r hr
      rw [show intsL r = .lst (r.map D.int) from rfl]
      simp_all! [List.length_map]
      rw [show intsL (r ++ [(i : Int)]) = .lst (r.map D.int ++ [.int (0 + (i : Int))]) from by unfold intsL; rw [List.map_append, Int.zero_add]; rfl] at hf
      refine ⟨?_, by omega, hf⟩
      exact staL_ints r
    · simp_all! [List.length_map]
      refine ⟨by omega, ?_⟩
      have e : (setsR i).map intsL ++ (setsR i).map (fun r => intsL (r ++ [(i : Int)])) = (setsR (i + 1)).map intsL := by
        show _ = (setsR i ++ (setsR i).map fun r => r ++ [(i : Int)]).map intsL
        rw [List.map_append, List.map_map]
        rfl
      rw [e]
      exact ⟨staL_map sta_ints _, hN _ _ ⟨_, _, rfl, rfl⟩⟩
  · rintro ρ μ' ⟨a, b, rfl, rfl⟩
    unfold s__law_sets_2
    simp_all!
    exact ⟨staL_map sta_ints _, h⟩
theorem same_comp_tup (n : Nat) (xs : List D) (S : SmP n (.tup xs)) (h : R (.bl true) μ) {rg : List D} (hrg : IsRg 0 xs.length rg) :
    compD (dName 2) (dNot (dTru (dCall (spN__law_same n) (dCons (d2 smIx (dVar 0) (dVar 2)) (dCons (d2 smIx (dVar 1) (dVar 2)) dNil))))) (dVar 2) (fun ds μ1 => R (.bl ds.isEmpty) μ1) (fun x μ' => Ed x μ') [.val (.tup xs), .val (.tup xs), .un] rg [] μ := by
  have hn : xs.length ≤ 1000000 := by have := S.n; simp only [nodes] at this; have := len_nodes xs; omega
  have hs := S.s
  simp only [smD] at hs
  have hk := S.k
  simp only [dep] at hk
  rw [hrg.e, rangeF_map]
  refine comp_opt (Z := PoolW) D.int (fun _ => none) (by rw [szl, List.length_map, List.length_range]; omega) (fun k hkm f f' hf => ?_) (fun _ _ y hy => by cases hy) ?_
  · obtain ⟨i, hi, rfl⟩ := List.mem_map.mp hkm
    have hi := List.mem_range.mp hi
    obtain ⟨x, hx, hx1, _⟩ := at_nat (l := xs) (i := 0 + (i : Int)) (by omega) (by omega)
    have sx := smDL_all.mp hs x hx1
    have kx := depL_le.mp (Nat.le_refl (depL xs)) x hx1
    have nx := nodesL_mem hx1
    have hnn := S.n
    simp only [nodes] at hnn
    simp_all! [hx, sm_sta x sx]
    cases n with
    | zero => omega
    | succ n =>
      refine ⟨x, rfl, ⟨sx, by omega, by omega⟩, ?_⟩
      simp_all!
      exact hf
  · rw [show ((List.range xs.length).map fun (i : Nat) => (0 : Int) + (i : Int)).filterMap (fun _ => (none : Option D)) = [] from List.filterMap_eq_nil_iff.mpr fun _ _ => rfl]
    exact h
theorem same_comp_lst (n : Nat) (xs : List D) (S : SmP n (.lst xs)) (h : R (.bl true) μ) {rg : List D} (hrg : IsRg 0 xs.length rg) :
    compD (dName 2) (dNot (dTru (dCall (spN__law_same n) (dCons (d2 smIx (dVar 0) (dVar 2)) (dCons (d2 smIx (dVar 1) (dVar 2)) dNil))))) (dVar 2) (fun ds μ1 => R (.bl ds.isEmpty) μ1) (fun x μ' => Ed x μ') [.val (.lst xs), .val (.lst xs), .un] rg [] μ := by
  have hn : xs.length ≤ 1000000 := by have := S.n; simp only [nodes] at this; have := len_nodes xs; omega
  have hs := S.s
  simp only [smD] at hs
  have hk := S.k
  simp only [dep] at hk
  rw [hrg.e, rangeF_map]
  refine comp_opt (Z := PoolW) D.int (fun _ => none) (by rw [szl, List.length_map, List.length_range]; omega) (fun k hkm f f' hf => ?_) (fun _ _ y hy => by cases hy) ?_
  · obtain ⟨i, hi, rfl⟩ := List.mem_map.mp hkm
    have hi := List.mem_range.mp hi
    obtain ⟨x, hx, hx1, _⟩ := at_nat (l := xs) (i := 0 + (i : Int)) (by omega) (by omega)
    have sx := smDL_all.mp hs x hx1
    have kx := depL_le.mp (Nat.le_refl (depL xs)) x hx1
    have nx := nodesL_mem hx1
    have hnn := S.n
    simp only [nodes] at hnn
    simp_all! [hx, sm_sta x sx]
    cases n with
    | zero => omega
    | succ n =>
      refine ⟨x, rfl, ⟨sx, by omega, by omega⟩, ?_⟩
      simp_all!
      exact hf
  · rw [show ((List.range xs.length).map fun (i : Nat) => (0 : Int) + (i : Int)).filterMap (fun _ => (none : Option D)) = [] from List.filterMap_eq_nil_iff.mpr fun _ _ => rfl]
    exact h
theorem pure__law_same (n : Nat) (hl : ds.length = ps__law_same.length) (hs : spN__law_same (n + 1) ds μ R Ed) (st : staL ds = true) : t__law_same (spN__law_same n) (fin R Ed) (startD N__law_same ds) μ := by
  obtain ⟨d, rfl, S, h⟩ := hs
  show t__law_same (spN__law_same n) (fin R Ed) [.val d, .val d, .un] μ
  have hs := S.s
  cases d with
  | non =>
    unfold t__law_same dIsTT
    simp_all!
    rw [if_neg (by decide)]
    refine ne_bool ⟨false, rfl, ?_⟩
    rw [if_neg (by decide)]
    refine ne_bool ⟨false, rfl, ?_⟩
    rw [if_neg (by decide)]
    refine eq_bool ⟨true, rfl, ?_⟩
    rw [if_pos rfl]
    refine ⟨rfl, (fun v z => by cases z), rfl, (fun v z => by cases z), ?_⟩
    refine eq_bool ⟨true, rfl, ?_⟩
    rw [if_pos rfl]
    refine eq_non ?_
    exact ⟨rfl, h⟩
  | bl b =>
    unfold t__law_same dIsTT
    simp_all!
    rw [if_neg (by decide)]
    refine ne_bool ⟨false, rfl, ?_⟩
    rw [if_neg (by decide)]
    refine ne_bool ⟨false, rfl, ?_⟩
    rw [if_neg (by decide)]
    refine eq_bool ⟨true, rfl, ?_⟩
    rw [if_pos rfl]
    refine ⟨rfl, (fun v z => by cases z), rfl, (fun v z => by cases z), ?_⟩
    refine eq_bool ⟨true, rfl, ?_⟩
    rw [if_pos rfl]
    refine eq_bool ?_
    exact ⟨rfl, h⟩
  | int i =>
    unfold t__law_same dIsTT
    simp_all!
    rw [if_neg (by decide)]
    refine ne_bool ⟨false, rfl, ?_⟩
    rw [if_neg (by decide)]
    refine ne_bool ⟨false, rfl, ?_⟩
    rw [if_neg (by decide)]
    refine eq_bool ⟨true, rfl, ?_⟩
    rw [if_pos rfl]
    refine ⟨rfl, (fun v z => by cases z), rfl, (fun v z => by cases z), ?_⟩
    refine eq_bool ⟨true, rfl, ?_⟩
    rw [if_pos rfl]
    rw [show (i == i) = true by simp]
    exact h
  | str z =>
    unfold t__law_same dIsTT
    simp_all!
    rw [if_neg (by decide)]
    refine ne_bool ⟨false, rfl, ?_⟩
    rw [if_neg (by decide)]
    refine ne_bool ⟨false, rfl, ?_⟩
    rw [if_neg (by decide)]
    refine eq_bool ⟨true, rfl, ?_⟩
    rw [if_pos rfl]
    refine ⟨rfl, (fun v z => by cases z), rfl, (fun v z => by cases z), ?_⟩
    refine eq_bool ⟨true, rfl, ?_⟩
    rw [if_pos rfl]
    exact h
  | tup xs =>
    have hn : xs.length ≤ 1000000 := by have := S.n; simp only [nodes] at this; have := len_nodes xs; omega
    unfold t__law_same dIsTT
    simp_all!
    rw [if_pos (by decide), if_pos (by decide)]
    refine ne_bool ⟨false, rfl, ?_⟩
    rw [if_neg (by decide), if_neg (by simp)]
    refine ⟨by omega, by omega, fun rg hrg => ?_⟩
    exact same_comp_tup μ R Ed n xs S h hrg
  | lst xs =>
    have hn : xs.length ≤ 1000000 := by have := S.n; simp only [nodes] at this; have := len_nodes xs; omega
    unfold t__law_same dIsTT
    simp_all!
    rw [if_pos (by decide), if_pos (by decide)]
    refine ne_bool ⟨false, rfl, ?_⟩
    rw [if_neg (by decide), if_neg (by simp)]
    refine ⟨by omega, by omega, fun rg hrg => ?_⟩
    exact same_comp_lst μ R Ed n xs S h hrg
  | _ => cases hs
end
end PO
/-! text K32a -/
namespace K32
open PySem PySem.Spec PyProof.Rows L2 DL
def top (i : Nat) : Stmt := PySem.Challenge.pw_lampstays_k32_least_examples.main.body.getD i (.Pass ⟨0, 0, 0, 0⟩)
abbrev R : PySem.W.OpenRow := PySem.W.OpenLaw.row PySem.Challenge.rw_lampstays_k32_least_examples
def dd (x : Str) (i : Nat) : He.DefD := ⟨(x, none), x, x, defArgs (top i), defBody (top i), defScope (top i), [], []⟩
def fn : List He.DefD := [dd "least_example" 1, dd "_law_pool" 3, dd "_law_dip" 4, dd "_law_lamp" 5, dd "_law_play" 6, dd "_law_sets" 7, dd "_law_same" 8, dd "_law_tuples" 9, dd "_law_due" 10, dd "law" 11]
def fa : List He.Fa := [.glo "least_example", .glo "_law_pool", .glo "_law_dip", .glo "_law_lamp", .glo "_law_play", .glo "_law_sets", .glo "_law_same", .glo "_law_tuples", .glo "_law_due", .glo "law", .free "abs", .free "bool", .free "int", .free "isinstance", .free "len", .free "list", .free "range", .free "repr", .free "sorted", .free "str", .free "tuple", .free "zip"]
abbrev hk : PySem.W.Hook := He.hookD 4 fa fn
def ob (s : PySem.W.SharedT) : He.AlD := He.obsDG 4 fa fn (HandSHeadRun.getT s)
theorem ob_eq (s : PySem.W.SharedT) : ob s = hk.obs s.abs := He.obsDG_eq (HandSHeadRun.getT_eq s)
def names : List PySem.Str := ["least_example", "_law_pool", "_law_dip", "_law_lamp", "_law_play", "_law_sets", "_law_same", "_law_tuples", "_law_due"]
theorem run (w : World) : HandSHeadRun.RunEq R (PySem.W.view R.prog [11]) hk ob 6000 names w := by
  intro os
  kernel_rfl
end K32
/-! text DLsd -/
/-! DL: sorted of a list of data of any depth -/
namespace DL
open PySem PySem.Spec PyProof.Rows L2
open PySem.W (AllAlike Sortable dataLe EachIs)
theorem each_back {G : V → D → Prop} : ∀ {out : List Value} {ds : List D}, EachIs (fun (u : Value) (d : D) => ∃ v, RelV v u ∧ G v d) out ds → ∃ ys, Vals ys out ∧ EachIs G ys ds
  | _, _, .nil => ⟨[], .nil, .nil⟩
  | _, _, .cons ⟨v, r, g⟩ t => by
    obtain ⟨ys, h1, h2⟩ := each_back t
    exact ⟨v :: ys, .cons r h1, .cons g h2⟩
theorem each_forth {G : V → D → Prop} : ∀ {xs : List V} {us : List Value} {ds : List D}, Vals xs us → EachIs G xs ds → EachIs (fun (u : Value) (d : D) => ∃ v, RelV v u ∧ G v d) us ds
  | _, _, _, .nil, .nil => .nil
  | _, _, _, .cons r t, .cons g e => .cons ⟨_, r, g⟩ (each_forth t e)
theorem each_in {α : Type} {R : α → D → Prop} : ∀ {as : List α} {ds : List D}, EachIs R as ds → EachIs (fun a d => R a d ∧ d ∈ ds) as ds
  | _, _, .nil => .nil
  | _, _, .cons r t => .cons ⟨r, List.mem_cons_self ..⟩ ((each_in t).mono fun _ _ ⟨h1, h2⟩ => ⟨h1, List.mem_cons_of_mem _ h2⟩)
section
variable {K : PySem.W.Frag} {rg : Addr → Prop} {S H : Hp}
theorem each_rd : ∀ {ds : List D} {vs : List V}, RdL K rg S H ds vs → EachIs (fun v d => Rd K rg S H d v) vs ds
  | [], _, h => by cases h; exact .nil
  | d :: ds, _, h => by
    obtain ⟨v, r, rfl, h1, h2⟩ := h
    exact .cons h1 (each_rd h2)
theorem rd_each : ∀ {ds : List D} {vs : List V}, EachIs (fun v d => Rd K rg S H d v) vs ds → RdL K rg S H ds vs
  | _, _, .nil => rfl
  | _, _, .cons h t => ⟨_, _, rfl, h, rd_each t⟩
end
/-- sorted(data) -/
def smSortD : SmL := fun as R => ∃ d ds, as = [d] ∧ lstOf d = some ds ∧ AllAlike (ds.map pyD) ∧ Sortable (ds.map pyD) ∧ ds.length ≤ sizeLine ∧ (∀ x ∈ ds, shD x = true ∧ (pyD x).depth ≤ 60) ∧ R (.lst (ds.mergeSort (dataLe false pyD)))
section
variable {Z : Wld} {F : Fm}
theorem cd_sortD (sb : ∀ i, ∃ mm, (F.X i).base.Ns sysModules mm) (hu : ∀ i, (F.X i).A.units + 65 < cLine) : CallD Z F (.builtin "sorted") smSortD := by
  refine ⟨fun vs H Q => ∃ (a : Addr) (xs : List V) (ds : List D) (G : V → D → Prop), vs = [.ref a] ∧ SqL F.K H a xs ∧ EachIs G xs ds ∧ (∀ (i : F.ι) (pins : List (Addr × Obj)) (σ : L2.St) (s : Shared) (u : Value) (v : V) (d : D), d ∈ ds → G v d → Inv (F.X i) pins σ H s → RelV v u → ∃ as, Reads s.heap u (pyD d) as) ∧
    AllAlike (ds.map pyD) ∧ Sortable (ds.map pyD) ∧ ds.length ≤ sizeLine ∧ (∀ d ∈ ds, (pyD d).depth ≤ 60) ∧ ∀ ys p, EachIs G ys (ds.mergeSort (dataLe false pyD)) → H p = none → Q (.ref p) (upd H p (.lst ys)), fun i pins s σ H vs us Q I r h => ?_, fun rg μ S H as xs R Q ok r hs k => ?_⟩
  · obtain ⟨a, xs, ds, G, rfl, hs, hG, hr, hal, hk, hL, hd, q⟩ := h
    have hs' : SqL (F.X i).K H a xs := by rw [F.hK i]; exact hs
    obtain ⟨its, rv, hl, hz⟩ := I.list hs'
    obtain ⟨u, rfl, ru⟩ := vals1 r
    obtain rfl : u = Value.ref a := ru
    have e := each_forth rv hG
    have er : EachIs (fun (u : Value) (d : D) => ∃ as, Reads s.heap u (pyD d) as) its ds := (each_in e).mono fun u d ⟨⟨v, h1, h2⟩, h3⟩ => hr i pins σ s u v d h3 h2 I h1
    refine PySem.W.sorted_data (R := fun (u : Value) (d : D) => ∃ v, RelV v u ∧ G v d) (enc := pyD) hl.isList e er hal hk hL (fun b hb => by have := hd b hb; have := hu i; omega) fun out ho eo => ?_
    obtain ⟨ys, h1, h2⟩ := each_back eo
    obtain ⟨n, hn⟩ := PyProof.Rows.sortedAll_at s.heap its (List.toArray out)
    refine ⟨.ref (s.heap.objs.size + 1), upd H (s.heap.objs.size + 1) (.lst ys), I.laid (t' := s.toks) (fun b o e => PyProof.Rows.sortedAll_old e) (Nat.le_succ _) ⟨?_, out, n, h1, hn⟩, rfl, q ys _ h2 (I.hok.fresh (Nat.le_succ _))⟩
    rw [h1.length, ho]
    exact hL
  · obtain ⟨d, ds, rfl, e, hal, hk, hL, hd, hR⟩ := hs
    obtain ⟨v, _, rfl, r1, rfl⟩ := r
    obtain ⟨p, vs, rfl, q1, q2⟩ := lstOf_at ok.sub r1 e
    refine ⟨p, vs, ds, fun v d => Rd F.K rg S H d v, rfl, SqL.of q1, each_rd q2, fun i pins σ s u v d hm hg I ru => ?_, hal, hk, hL, fun d hm => (hd d hm).2, fun ys t hy ht => ?_⟩
    · obtain ⟨as, h1, _⟩ := rd_reads I ok.sub (sb i) d v u (hd d hm).1 (by rw [F.hK i]; exact hg) ru
      exact ⟨as, h1⟩
    · exact k _ (.lst _) _ _ (ok.put ht) ⟨t, ys, rfl, upd_same, RdL.new ok ht (rd_each hy)⟩ hR
end
end DL
/-! text DLw -/
/-! DL: defs as values: handed over, called through a local name. -/
namespace DL
open PySem PySem.Spec PyProof.Rows L2
section
variable {Z : Wld} {F : Fm} {W : WX} {e : Expr} {es : List Expr} {tA : DTA Z} {x : Str} {p pos : Pos}
theorem dx_fnv (hg : ∀ i, Gl (F.X i) x) (hm : ∀ i, (F.X i).mg x = some (.ref (He.ga F.K x))) (hdb : (x == ("__debug__" : Str)) = false := by decide) :
    DE Z F W (.Name x p) (dC (.fn x)) := dx_c (fun i => pe_glob (v := .ref (He.ga F.K x)) (hg i) (hm i) rfl hdb) fun _ _ _ => rfl
/-- defs that a local name may hold: their names and what they answer -/
def KnL (P : Program) (w : World) (K : PySem.W.Frag) (mg : Str → Option Value) (base : Heap) (n k : Nat) (l : List (Str × SpD Z)) : Prop :=
  ∀ q ∈ l, ∃ (k' : Nat) (fd : FuncData) (ps : List Str), k' ≤ k ∧ FnG P w K mg base k' (He.ga K q.1) fd ps (spOf K Z n q.2) ∧ PySem.W.keepIn K (.ref (He.ga K q.1)) = true ∧ Binds K fd ps []
def dCallV {M : Type} (i : Nat) (l : List (Str × SpD0 M)) (tA : DTA0 M) : DT0 M := fun ρ μ R E => ∃ x sp, ρ[i]? = some (.val (.fn x)) ∧ (x, sp) ∈ l ∧ dCall sp tA ρ μ R E
theorem dx_callV {i k n : Nat} {l : List (Str × SpD Z)} (A : ∀ j, KnL (F.X j).prog (F.X j).w (F.X j).K (F.X j).mg (F.X j).base n k l) (hr : ∀ j, Room k (F.X j).A) (gu : ∀ j, (F.X j).A.guards = some [])
    (hN : ∀ j, (F.X j).N[i]? = some x) (hv : ∀ j, Vis (F.X j).env.scope x) (tk : ∀ j, Takes (F.X j) W) (ha : DA Z F W (e :: es) tA) (hn : (e :: es).length = n := by rfl)
    (hdb : (x == ("__debug__" : Str)) = false := by decide) (hcd : (x == ("__classdict__" : Str)) = false := by decide) (he : ∀ j, starEach (e :: es) (F.X j).env = (false, eval e (F.X j).env) :: starEach es (F.X j).env := by intro _; rfl) (hpl : ∀ j, (backTo pos (starEach es (F.X j).env)).any (·.1) = false := by intro _; rfl) :
    DE Z F W (.Call (.Name x p) (e :: es) [] pos) (dCallV i l tA) := by
  obtain ⟨ta, pa, ha⟩ := ha
  refine ⟨fun σ H Q => ∃ q ∈ l, σ[i]? = some (some (.ref (He.ga F.K q.1))) ∧ tCallS (spOf F.K Z n q.2) (fun σ cls d H' => W cls d σ H') ta σ H Q, fun j => ⟨fun pins s σ H Q I h => ?_⟩, fun B ρ σ μ S H R E Q env ok h hE hQ => ?_⟩
  · obtain ⟨q, hq, hs, ht⟩ := h
    obtain ⟨k', fd, ps, hk', G, hkp, hb⟩ := A j q hq
    rw [F.hK j] at G hkp hb
    refine wpAny_Call_Name_kw (thn ((pe_var (X := F.X j) (pos := p) (hN j) (hv j) hdb hcd).run pins s σ H (fun v H1 => v = .ref (He.ga F.K q.1) ∧ H1 = H) I ⟨.ref _, hs, rfl, rfl⟩) fun u s1 ⟨v, H1, I1, r1, q1⟩ => ?_)
    obtain ⟨rfl, rfl⟩ := q1
    cases r1
    exact PySem.W.callWith_K (h₀ := (F.X j).base) I.ok.mod.kin (by rw [F.hK j]; exact hkp) (thn ((pa j).run pos pins s1 σ H1 _ I1 ht) fun us s2 ⟨vs, H2, I2, r, q2⟩ => ⟨I2.kIn, run_g (X := F.X j) (by rw [F.hK j]; exact G) ((hr j).mono hk') (gu j) (by rw [F.hK j]; exact hb) (passAt (tk j) σ) I2 r q2⟩) (he j) (hpl j)
  · obtain ⟨y, sp, hy, hl, h⟩ := h
    refine ⟨(y, sp), hl, ?_, ?_⟩
    · obtain ⟨o, e1, v, rfl, _, r⟩ := env.get i _ hy
      rw [e1, show v = .ref (He.ga F.K y) from r]
    · refine ha B ρ σ μ S H _ E _ env ok h hE fun vs ds μ1 S1 H1 x1 r1 l1 h1 => ?_
      refine ⟨by rw [r1.length, l1, hn], ds, μ1, S1, R, E, x1.ok, r1.sta (Same.refl S1) _ _ h1.1, h1.1, h1.2, fun v d μ' S' H' x2 st rd hd => hQ v d μ' S' H' (x1.trans x2) (rd.sta (Same.refl S') _ _ st) hd, fun y μ' S' H' cls dd x2 xr hy => hE y μ' S' H' cls dd (x1.trans x2) xr.sta hy⟩
end
end DL
/-! text DLse -/
/-! DL: sorted(set(xs)) of ints, list(range(a, b, c)). call_set_listR: the kit's call_set_tupI with a list in place of the tuple. -/
namespace L2
open PySem PySem.Spec PyProof.Rows
section
variable {P : Program} {w : World} {A : Around} {E : Value → Shared → Prop} {s : Shared}
theorem call_set_listR {l : Addr} {items : Array Value} (ns : List Int) {Q : Value → Shared → Prop} (hh : A.handled = none) (hl : s.heap.IsList l items) (hi : IntsAre items.toList ns) (hb : ns.length + 1 < scanBound)
    (h : ∀ (h' : Heap) (tk c : Nat), SetR w h' s.heap.objs.size (fun j => decide (j ∈ ns)) c → c ≤ ns.length → (∀ b o, s.heap.get? b = some o → h'.get? b = some o) → Q (.ref s.heap.objs.size) { s with heap := h', toks := tk }) :
    wpAny (model P w) A (call (.type "set") [.ref l]) Q E s := by
  have hisz : items.size = ns.length := by
    have q := IntsAre.length hi
    rw [Array.length_toList] at q
    exact q
  obtain ⟨c, tl, hmro⟩ := F.called_set.mro
  have hmade := F.called_set.made
  have hsub := F.called_set.sub
  refine wpAny_call (codeAny_of_tree ?_)
  show wpAny _ _ (callAny (.type "set") _) _ _ _
  refine wpAny_pure ⟨Code.quiet_builtin _ (by decide +kernel), codeAny_builtin F.entry_type_call ?_⟩
  rw [Around.under_plain (weight_type_call_type "set" [.ref l] []) rfl]
  have h1 := F.called_set.notType
  have h2 := F.called_set.canCreate
  have hct := F.typeCall_set_1 (.ref l)
  repeat (any_goals (first | assumption | wp_step))

  refine codeAny_mono (code_set_led1 (.ref l) (E := E) (Q₁ := fun obj s₁ => obj = .ref s.heap.objs.size ∧ s₁ = { s with heap := s.heap.push { cls := .type "set", dict := none, data := .set #[] 0 (.fresh 0 0 (!w.params.followText "set-order")) } }) ⟨rfl, rfl⟩) fun r s₁ hr => ?_
  cases r with
  | error e => exact hr
  | ok fl =>
    cases fl with
    | ret obj =>
      obtain ⟨rfl, rfl⟩ := hr
      have hS : (s.heap.push { cls := .type "set", dict := none, data := .set #[] 0 (.fresh 0 0 (!w.params.followText "set-order")) }).get? s.heap.objs.size = some { cls := .type "set", dict := none, data := .set #[] 0 (.fresh 0 0 (!w.params.followText "set-order")) } := Heap.get?_push_size _ rfl
      have hT : Shared.TypeIs { s with heap := s.heap.push { cls := .type "set", dict := none, data := .set #[] 0 (.fresh 0 0 (!w.params.followText "set-order")) } } (.ref s.heap.objs.size) "set" := ⟨_, hS, rfl⟩
      have hli := F.called_set.init.lookup
      have hbi := F.called_set.init.bind (.ref s.heap.objs.size)
      repeat (any_goals (first | assumption | wp_step))

      refine codeAny_mono (codeAny_call_builtin (R := wants (fun r s₂ => r = .none ∧ ∃ h' tk c, s₂ = { s with heap := h', toks := tk } ∧ SetR w h' s.heap.objs.size (fun j => decide (j ∈ ns)) c ∧ c ≤ ns.length ∧ (∀ b o, s.heap.get? b = some o → h'.get? b = some o)) E) F.called_set.init.plain F.entry_set_init (check_set_init_1 hT ?_)) fun r₂ s₂ hr₂ => ?_
      · obtain ⟨ol, hol, hcl, nl, hdl⟩ := hl
        obtain ⟨ocls, odict, odata, oslots⟩ := ol
        simp only at hcl hdl
        subst hcl; subst hdl
        have hol' : (s.heap.push { cls := .type "set", dict := none, data := .set #[] 0 (.fresh 0 0 (!w.params.followText "set-order")) }).get? l = some { cls := .type "list", dict := odict, data := .seq items nl, slots := oslots } := Heap.get?_push_of_some _ hol
        have hsls := F.sub_list_set
        have hslf := F.sub_list_frozenset
        have hne : (Value.type "list" == Value.type "dict") = false := by decide
        have hl1 : (s.heap.push { cls := .type "set", dict := none, data := .set #[] 0 (.fresh 0 0 (!w.params.followText "set-order")) }).IsList l items := ⟨_, hol', rfl, nl, rfl⟩
        unfold Builtin.«set.__init__» noKeywords Builtin.Frozenset.updateFrom
        generalize hPI : pyIter = PI
        wp_walk
        subst hPI

        refine wpAny_pyIter_list hl1 ?_
        refine wpAny_bind (wpAny_runValue ?_)
        have hlS : l < s.heap.objs.size := Heap.lt_size hol
        have hh3 : A.in1.in1.in1.handled = none := by simp [hh]
        have hneI : l ≠ (s.heap.push { cls := .type "set", dict := none, data := .set #[] 0 (.fresh 0 0 (!w.params.followText "set-order")) }).objs.size := by
          rw [Heap.size_push]; exact Nat.ne_of_lt (Nat.lt_succ_of_lt hlS)
        have hSf : s.heap.objs.size ∉ [(s.heap.push { cls := .type "set", dict := none, data := .set #[] 0 (.fresh 0 0 (!w.params.followText "set-order")) }).objs.size, l] := by
          rw [Heap.size_push]; simp only [List.mem_cons, List.mem_singleton, List.not_mem_nil, or_false, not_or]
          exact ⟨Nat.ne_of_lt (Nat.lt_succ_self _), Nat.ne_of_gt hlS⟩
        have hval : ∀ (i : Nat) (v : Value), items[i]? = some v → ∃ k t, ns[i]? = some k ∧ v = .int k t := fun i v hv => by
          have hi2 : i < ns.length := by rw [← hisz]; exact (Array.getElem?_eq_some_iff.mp hv).1
          obtain ⟨t, e⟩ := PyProof.Rows.IntsAre.int_at hi i v (by rw [Array.getElem?_toList]; exact hv)
          refine ⟨ns[i], t, List.getElem?_eq_getElem hi2, ?_⟩
          rw [e, List.getD_eq_getElem?_getD, List.getElem?_eq_getElem hi2] <;> rfl
        refine set_update_ints ((Walks.list hh3 _ l hneI items).toS) s.heap.objs.size
          hSf ns hisz hb hval (items.size - 0) 0 _ (by omega) (Nat.zero_le _)
          ⟨⟨_, Heap.get?_push_size _ rfl, rfl, rfl⟩, (hl1.push _)⟩ ?hS0 ?hR
        case hS0 =>
          have hget : ((s.heap.push { cls := .type "set", dict := none, data := .set #[] 0 (.fresh 0 0 (!w.params.followText "set-order")) }).push { cls := .type "list_iterator", data := .fields #[.ref l, .int 0 0] }).get? s.heap.objs.size
              = some { cls := .type "set", dict := none, data := .set #[] 0 (.fresh 0 0 (!w.params.followText "set-order")) } := Heap.get?_push_of_some _ hS
          exact ⟨0, Nat.le_refl 0, setR_new_at hget⟩
        case hR =>
          intro s' c' hm hc' hS'
          obtain ⟨h', g', d', tk', os'⟩ := s'
          have eg : g' = s.gens := hm.gens
          have ed : d' = s.drawn := hm.drawn
          have eo : os' = s.os := hm.os
          subst eg; subst ed; subst eo
          show wpAny _ _ _ _ _ _
          refine wpAny_pure ?_
          show wpAny _ _ (ret Value.none) _ _ _
          rw [hisz] at hc'
          refine wpAny_pure ⟨rfl, h', tk', c', rfl, hS', hc', fun b o e => ?_⟩
          have hb := Heap.lt_size e
          have hb1 : b ≠ s.heap.objs.size := Nat.ne_of_lt hb
          have hb2 : b ≠ (s.heap.push { cls := .type "set", dict := none, data := .set #[] 0 (.fresh 0 0 (!w.params.followText "set-order")) }).objs.size := by
            rw [Heap.size_push]; exact Nat.ne_of_lt (Nat.lt_succ_of_lt hb)
          exact hm.heap b o (by simp only [List.mem_cons, List.mem_singleton, List.not_mem_nil, or_false, not_or]; exact ⟨hb1, hb2⟩) (Heap.get?_push_of_some _ (Heap.get?_push_of_some _ e))

      · cases r₂ with
        | error e => exact hr₂
        | ok fl₂ =>
          cases fl₂ with
          | ret r =>
            obtain ⟨rfl, h', tk, c', rfl, hS', hc', hk'⟩ := hr₂
            repeat (any_goals (first | assumption | wp_step))
            exact h _ _ _ hS' hc' hk'
          | _ => exact hr₂.elim
    | _ => exact hr.elim
theorem sorted_setR {a : Addr} {S : Int → Bool} {n : Nat} {Q : Value → Shared → Prop} (R : SetR w s.heap a S n) (hh : A.handled = none)
    (hQ : ∀ s' p (out : Array Value) (c : Nat) (ns : List Int), (∀ b o, s.heap.get? b = some o → s'.heap.get? b = some o) → s'.gens = s.gens → s'.os = s.os → s.heap.objs.size ≤ p →
      s'.heap.get? p = some (seqObj "list" out c) → IntsAre out.toList ns → ns.Pairwise (· < ·) → (∀ k, k ∈ ns ↔ S k = true) → ns.length = n → Q (.ref p) s') :
    wpAny (model P w) A (call (.builtin "sorted") [.ref a]) Q E s := by
  obtain ⟨o, es, ep, t, ho, hex, hd, g, nd, hm, hb, hf, hn, hr, hl⟩ := R
  have hn' : n ≤ sizeLine := by rw [← hn, sizeLine_eq]; unfold scanBound at hb; omega
  refine Calls.call_function_entry kind_sorted plain_sorted entry_sorted (args_sorted1 _) ?_
  unfold Builtin.«sorted»
  refine wpAny_bind (m := checkCount "sorted" 1 1 _) (wpAny_pure ?_)
  refine wpAny_bind (collect_set (A := A.in1) hh ⟨o, ho, hex.1, hd⟩ hf hb hr hl fun s1 vs k1 hz g1 o1 pm => ?_)
  have hvl : vs.length = n := by rw [pm.length_eq, List.length_map, Array.length_toList]; exact hn
  have hI : IntsAre vs (vs.map SrtO.iv) := SrtO.ints_iv fun v hv => by
    obtain ⟨e, he, q⟩ := List.mem_map.mp (pm.mem_iff.mp hv)
    obtain ⟨k, tk, h1, _⟩ := g e he
    exact ⟨k, tk, by rw [← q]; exact h1⟩
  have pk : (vs.map SrtO.iv).Perm (es.toList.map keyOf) := by
    have q := pm.map SrtO.iv
    rw [List.map_map] at q
    exact q
  refine wpAny_bind (wpAny_newList ?_ (by rw [hvl]; exact hn'))
  have hoL : (s1.heap.push (seqObj "list" vs.toArray 0)).get? s1.heap.objs.size = some (seqObj "list" vs.toArray 0) := Heap.get?_push_size _ rfl
  refine wpAny_bind (wpAny_holding (wpAny_call_entry slot_list_sort ⟨_, hoL, rfl⟩ entry_list_sort (SrtO.list_sort_ord SrtO.swo_int hoL (by rw [hvl]; exact hn') (fun h2 => SrtO.ints_sortable hI h2) fun out a1 a2 => ⟨_, rfl, ?_⟩) (args_list_sort _)))
  obtain ⟨k2, k3, k4⟩ := SrtO.ints_out hI a1 a2
  obtain ⟨c, hc⟩ := sortedHeap_at (vs := vs) (out := out.toArray) hoL
  have pn : (out.map SrtO.iv).Perm (es.toList.map keyOf) := k3.trans pk
  refine wpAny_pure ⟨_, rfl, hQ _ s1.heap.objs.size out.toArray c (out.map SrtO.iv) (fun b u e => ?_) g1 o1 hz hc (by simpa using k2) (lt_of_le_nodup _ k4 (pn.nodup_iff.mpr nd)) (fun k => by rw [pn.mem_iff, ← hm k]) ?_⟩
  · have q := k1 b u e
    have hlt := Heap.lt_size q
    show (sortedHeap (s1.heap.push (seqObj "list" vs.toArray 0)) s1.heap.objs.size vs out.toArray).get? b = some u
    rw [sortedHeap_old (Nat.ne_of_lt hlt) (by rw [size_push']; exact Nat.lt_succ_of_lt hlt)]
    exact Heap.get?_push_of_some _ q
  · rw [pn.length_eq, List.length_map, Array.length_toList]; exact hn
end
end L2
/-! text DLsf -/
/-! DL: sorted(set(xs)), list(range(a, b, c)) by data. -/
namespace DL
open PySem PySem.Spec PyProof.Rows L2
section
variable {Z : Wld} {F : Fm} {W : WX} {e : Expr} {tA : DTA Z}
/-- a rule whose reading may differ from context to context -/
theorem df_each (h : ∀ i, ∃ te : TE, PE (F.X i) e te ∧ ∀ (B : Hp) (ρ : Rho) (σ : L2.St) (μ : Z.M) (S H : Hp) (R : List D → Z.M → Prop) (E : Xc → Z.M → Prop) (Q : VK),
    EnvR F.K Z B μ S H ρ σ → Ok Z μ S H → tA ρ μ R E → Wish Z F W B μ S H σ E →
    (∀ (a : Addr) (vs : List V) (ds : List D) (μ' : Z.M) (S' H' : Hp), Ext Z μ S H μ' S' H' → Fr H a → H' a = some (.lst vs) → S' a = none → ¬ fb Z B μ' a → RdL F.K (fb Z B μ') S' H' ds vs → R ds μ' → Q (.ref a) H') → te σ H Q) : DF Z F W e tA := by
  refine ⟨fun σ H Q => ∃ (B : Hp) (ρ : Rho) (μ : Z.M) (S : Hp) (R : List D → Z.M → Prop) (E : Xc → Z.M → Prop), EnvR F.K Z B μ S H ρ σ ∧ Ok Z μ S H ∧ tA ρ μ R E ∧ Wish Z F W B μ S H σ E ∧
    (∀ (a : Addr) (vs : List V) (ds : List D) (μ' : Z.M) (S' H' : Hp), Ext Z μ S H μ' S' H' → Fr H a → H' a = some (.lst vs) → S' a = none → ¬ fb Z B μ' a → RdL F.K (fb Z B μ') S' H' ds vs → R ds μ' → Q (.ref a) H'),
    fun i => ⟨fun pins s σ H Q I q => ?_⟩, fun B ρ σ μ S H R E Q env ok ht hE hQ => ⟨B, ρ, μ, S, R, E, env, ok, ht, hE, hQ⟩⟩
  obtain ⟨B, ρ, μ, S, R, E, env, ok, ht, hE, hQ⟩ := q
  obtain ⟨te, pe, sem⟩ := h i
  exact pe.run pins s σ H Q I (sem B ρ σ μ S H R E Q env ok ht hE hQ)
end
def SetO (w : World) (p : Addr) (ns : List Int) : HO := .ext fun h => ∃ c, SetR w h p (fun j => decide (j ∈ ns)) c
def RgO (r : Addr) (i j c : Int) : HO := .ext fun h => ∃ t u v, IsRange h r i j c t u v
def rSetL (w : World) (K : PySem.W.Frag) : List V → Hp → VK → Prop := fun vs H Q => ∃ (a : Addr) (ns : List Int), vs = [V.ref a] ∧ SqL K H a (ns.map V.int) ∧ ns.length ≤ 4000 ∧ ∀ p, H p = none → Q (.ref p) (upd H p (SetO w p ns))
def rSortS (w : World) : List V → Hp → VK → Prop := fun vs H Q => ∃ (a : Addr) (ns : List Int), vs = [V.ref a] ∧ H a = some (SetO w a ns) ∧ ∀ (out : List Int) (p : Addr), out.Pairwise (· < ·) → (∀ k, k ∈ out ↔ k ∈ ns) → H p = none → Q (.ref p) (upd H p (.lst (out.map V.int)))
def rRg3 : List V → Hp → VK → Prop := fun vs H Q => ∃ (i j c : Int), vs = [.int i, .int j, .int c] ∧ c ≠ 0 ∧ c.natAbs < 1073741824 ∧ ∀ r, H r = none → Q (.ref r) (upd H r (RgO r i j c))
def rgC (i c : Int) (n : Nat) : List Int := (List.range n).map fun k => i + (k : Nat) * c
def rLstRg3 : List V → Hp → VK → Prop := fun vs H Q => ∃ (r : Addr) (i j c : Int) (n : Nat), vs = [.ref r] ∧ H r = some (RgO r i j c) ∧ RgC i j c n ∧ n ≤ 2 ^ 24 ∧ ∀ q, H q = none → Q (.ref q) (upd H q (.lst ((rgC i c n).map V.int)))
section
variable {X : Cx}
theorem cr_setL (hc : X.calm = true) : CallR X (.type "set") (rSetL X.w X.K) := by
  intro pins s σ H vs us Q I r h
  obtain ⟨a, ns, rfl, hs, hn, q⟩ := h
  obtain ⟨its, rv, hl, hz⟩ := I.list hs
  rw [Vals.ref1 r]
  have hi := rv.ints
  refine call_set_listR (items := its.toArray) ns (I.ok.hd hc) hl.isList (by simpa using hi) (by unfold scanBound; omega) fun h' tk c R _ k => ?_
  exact ⟨.ref _, upd H s.heap.objs.size (SetO X.w s.heap.objs.size ns), I.laid k (Nat.le_refl _) ⟨⟨c, R⟩, (let ⟨o, _, _, _, ho, _⟩ := R; ⟨o, ho⟩), fun h1 h2 ⟨c, R⟩ st => ⟨c, R.at st⟩⟩, rfl, q _ (I.hok.fresh (Nat.le_refl _))⟩
theorem cr_sortS (hc : X.calm = true) : CallR X (.builtin "sorted") (rSortS X.w) := by
  intro pins s σ H vs us Q I r h
  obtain ⟨a, ns, rfl, hs, q⟩ := h
  rw [Vals.ref1 r]
  obtain ⟨⟨c, R⟩, _, _⟩ := I.hok a _ hs
  refine sorted_setR R (I.ok.hd hc) fun s' p out cc ns' k g o hp e hI pw hm hl => ?_
  have hlen : (ns'.map V.int).length ≤ sizeLine := by
    rw [List.length_map, hl, sizeLine_eq]
    obtain ⟨o, es, ep, t, _, _, _, _, _, _, hb, _, hn, _⟩ := R
    unfold scanBound at hb
    omega
  refine ⟨.ref p, upd H p (.lst (ns'.map V.int)), I.call' (ch := []) o (Un.laid k hp (I.hok.fresh hp)) (I.hok.laid k hp ⟨hlen, out.toList, cc, vals_of_ints hI, e⟩) (by rw [g]; exact I.bare) (fun _ z => nomatch z), rfl, q ns' p pw (fun k => by rw [hm k]; simp) (I.hok.fresh hp)⟩
theorem cr_rg3 : CallR X (.type "range") rRg3 := by
  intro pins s σ H vs us Q I r h
  obtain ⟨i, j, c, rfl, c0, c1, q⟩ := h
  cases r with
  | cons r rr =>
    cases rr with
    | cons r' rr =>
      cases rr with
      | cons r'' rr =>
        cases rr
        obtain ⟨t, rfl⟩ := r
        obtain ⟨t', rfl⟩ := r'
        obtain ⟨t'', rfl⟩ := r''
        refine call_range_3 c0 ?_ (.inl (PyProof.noPylong_small c1))
        exact ⟨.ref _, upd H s.heap.objs.size (RgO s.heap.objs.size i j c), I.laid (t' := s.toks) (fun b u e => Heap.get?_push_of_some _ e) (Nat.le_refl _) ⟨⟨_, _, _, IsRange.new ..⟩, ⟨_, Heap.get?_push_size _ rfl⟩, fun h1 h2 ⟨t, u, v, z⟩ st => ⟨t, u, v, st _ z⟩⟩, rfl, q _ (I.hok.fresh (Nat.le_refl _))⟩
theorem vals_rgC {i c : Int} {n : Nat} {acc : Array Value} (h : ItemsOf (fun k v => ∃ t, v = .int (i + k * c) t) acc n) : Vals ((rgC i c n).map V.int) acc.toList := by
  have e : acc.toList.length = n := by rw [Array.length_toList]; exact h.1
  unfold rgC
  rw [List.map_map, ← e]
  refine vals_of_get acc.toList (V.int ∘ fun k : Nat => i + (k : Nat) * c) fun j u hj => ?_
  obtain ⟨t, rfl⟩ := h.2 j u (by rw [← hj, Array.getElem?_toList])
  exact ⟨t, rfl⟩
theorem rgC_length (i c : Int) (n : Nat) : (rgC i c n).length = n := by unfold rgC; rw [List.length_map, List.length_range]
theorem cr_lstRg3 (hc : X.calm = true) : CallR X (.type "list") rLstRg3 := by
  intro pins s σ H vs us Q I r h
  obtain ⟨r0, i, j, c, n, rfl, hs, ⟨c0, c1, c2, c3⟩, hn, q⟩ := h
  rw [Vals.ref1 r]
  obtain ⟨⟨t, u, v, hr⟩, _, _⟩ := I.hok r0 _ hs
  refine call_list_range (n := n) (I.ok.hd hc) hr c2 c3 hn fun h' tk acc c' hk e' hi => ?_
  refine ⟨.ref _, upd H s.heap.objs.size (.lst ((rgC i c n).map V.int)), I.laid hk (Nat.le_refl _) ⟨?_, acc.toList, c', vals_rgC hi, ?_⟩, rfl, q _ (I.hok.fresh (Nat.le_refl _))⟩
  · rw [List.length_map, rgC_length, sizeLine_eq]; omega
  · rw [Array.toArray_toList]; exact e'
theorem RgC.pos {i j c : Int} (h : 1 ≤ c) (h1 : c < 1073741824) (hi : -(2 ^ 61) ≤ i) (hi' : i < 2 ^ 61) (hj : -(2 ^ 61) ≤ j) (hj' : j < 2 ^ 61) (hij : i < j) : RgC i j c (((j - i - 1) / c).toNat + 1) := by
  have e0 : 0 ≤ (j - i - 1) / c := Int.ediv_nonneg (by omega) (by omega)
  have e1 : (j - i - 1) / c ≤ j - i - 1 := Int.ediv_le_self _ (by omega)
  have e : Builtin.Range.rangeSize i j c = (j - i - 1) / c + 1 := by unfold Builtin.Range.rangeSize; rw [if_pos (by omega), if_pos hij]
  refine ⟨by omega, by omega, ?_, by rw [e]; omega⟩
  unfold Builtin.Range.small
  rw [e]
  simp only [Builtin.Range.rangeFitsLong, Bool.and_eq_true, Bool.or_eq_true, decide_eq_true_eq, beq_iff_eq]
  rw [if_pos (by omega)]
  simp only [Bool.and_eq_true, decide_eq_true_eq]
  omega
end
/-! ### by data -/
def dSortSet {M : Type} (ta : DTA0 M) : DTA0 M := fun ρ μ R E => ta ρ μ (fun as μ' => ∃ (d : D) (ns : List Int), as = [d] ∧ lstOf d = some (ns.map D.int) ∧ ns.length ≤ 4000 ∧ ∀ out : List Int, out.Pairwise (· < ·) → (∀ k, k ∈ out ↔ k ∈ ns) → R (out.map D.int) μ') E
def dLstRg3 {M : Type} (ta : DTA0 M) : DTA0 M := fun ρ μ R E => ta ρ μ (fun as μ' => ∃ (i j c : Int) (n : Nat), as = [.int i, .int j, .int c] ∧ RgC i j c n ∧ n ≤ 2 ^ 24 ∧ R ((rgC i c n).map D.int) μ') E
theorem ints_invS {K : PySem.W.Frag} {rg : Addr → Prop} {S H : Hp} : ∀ {ns : List Int} {vs : List V}, RdL K rg S H (ns.map .int) vs → vs = ns.map V.int
  | [], vs, h => h
  | n :: ns, vs, h => by
    obtain ⟨v, r, rfl, h1, h2⟩ := h
    cases h1
    rw [ints_invS h2]
    rfl
theorem ints_rdS {K : PySem.W.Frag} {rg : Addr → Prop} {S H : Hp} : ∀ {ns : List Int}, RdL K rg S H (ns.map .int) (ns.map V.int)
  | [] => rfl
  | n :: ns => ⟨_, _, rfl, rfl, ints_rdS⟩
section
variable {Z : Wld} {F : Fm} {W : WX} {e a b c : Expr} {tA : DTA Z} {p p2 pos pos2 : Pos}
theorem df_sortSet (hc : ∀ i, (F.X i).calm = true) (hg : ∀ i, Gl (F.X i) "sorted") (hm : ∀ i, (F.X i).mg "sorted" = none) (hg2 : ∀ i, Gl (F.X i) "set") (hm2 : ∀ i, (F.X i).mg "set" = none) (ha : DA Z F W [e] tA)
    (he : ∀ i, starEach [e] (F.X i).env = (false, eval e (F.X i).env) :: starEach [] (F.X i).env := by intro _; rfl) : DF Z F W (.Call (.Name "sorted" p) [.Call (.Name "set" p2) [e] [] pos2] [] pos) (dSortSet tA) := by
  obtain ⟨ta', pa, ha⟩ := ha
  refine df_each fun i => ⟨_, pe_callB (cr_sortS (hc i)) (hg i) (hm i) (by decide +kernel) (pa_cons (pe_callTy (cr_setL (hc i)) (hg2 i) (hm2 i) (by decide +kernel) (pa i) (by decide) (by decide) (he i)) pa_nil), fun B ρ σ μ S H R E Q env ok h hE hQ => ?_⟩
  refine ha B ρ σ μ S H _ E _ env ok h hE fun vs ds μ1 S1 H1 x1 r1 _ h1 => ?_
  obtain ⟨d, ns, rfl, e1, hl, hR⟩ := h1
  obtain ⟨v, _, rfl, r2, rfl⟩ := r1
  obtain ⟨q, ws, rfl, q1, q2⟩ := lstOf_at x1.ok.sub r2 e1
  have ew := ints_invS q2
  subst ew
  refine ⟨q, ns, rfl, (by rw [F.hK i]; exact SqL.of q1), hl, fun t ht => ⟨t, ns, rfl, upd_same, fun out t2 pw hm ht2 => ?_⟩⟩
  have x2 := x1.trans (x1.ok.putOwn (o := SetO (F.X i).w t ns) ht)
  obtain ⟨n0, n1, n2⟩ := new_own env x2 ht2
  exact hQ t2 _ (out.map .int) μ1 S1 _ (x2.trans (x2.ok.putOwn ht2)) n0 upd_same n1 n2 ints_rdS (hR out pw hm)
theorem df_lstRg3 (hc : ∀ i, (F.X i).calm = true) (hg : ∀ i, Gl (F.X i) "list") (hm : ∀ i, (F.X i).mg "list" = none) (hg2 : ∀ i, Gl (F.X i) "range") (hm2 : ∀ i, (F.X i).mg "range" = none) (ha : DA Z F W [a, b, c] tA)
    (he : ∀ i, starEach [a, b, c] (F.X i).env = (false, eval a (F.X i).env) :: starEach [b, c] (F.X i).env := by intro _; rfl) (hpl : ∀ i, (backTo pos2 (starEach [b, c] (F.X i).env)).any (·.1) = false := by intro _; rfl) :
    DF Z F W (.Call (.Name "list" p) [.Call (.Name "range" p2) [a, b, c] [] pos2] [] pos) (dLstRg3 tA) := by
  obtain ⟨ta', pa, ha⟩ := ha
  refine df_each fun i => ⟨_, pe_callTy (cr_lstRg3 (hc i)) (hg i) (hm i) (by decide +kernel) (pa_cons (pe_callTy cr_rg3 (hg2 i) (hm2 i) (by decide +kernel) (pa i) (by decide) (by decide) (he i) (hpl i)) pa_nil), fun B ρ σ μ S H R E Q env ok h hE hQ => ?_⟩
  refine ha B ρ σ μ S H _ E _ env ok h hE fun vs ds μ1 S1 H1 x1 r1 _ h1 => ?_
  obtain ⟨i0, j, k, n, rfl, hr, hl, hR⟩ := h1
  obtain ⟨v1, _, rfl, r2, v2, _, rfl, r3, v3, _, rfl, r4, rfl⟩ := r1
  cases r2
  cases r3
  cases r4
  refine ⟨i0, j, k, rfl, hr.1, hr.2.1, fun t ht => ⟨t, i0, j, k, n, rfl, upd_same, hr, hl, fun t2 ht2 => ?_⟩⟩
  have x2 := x1.trans (x1.ok.putOwn (o := RgO t i0 j k) ht)
  obtain ⟨n0, n1, n2⟩ := new_own env x2 ht2
  exact hQ t2 _ ((rgC i0 k n).map .int) μ1 S1 _ (x2.trans (x2.ok.putOwn ht2)) n0 upd_same n1 n2 ints_rdS hR
end
end DL
/-! text DLsg -/
/-! DL: a, b = e1, e2 with a captured name among the targets. -/
namespace DL
open PySem PySem.Spec PyProof.Rows L2
section
variable {Z : Wld} {F : Fm} {W : WX} {a b : Expr} {tP : DTP Z} {pos : Pos}
theorem ds_parG2 {i j : Nat} {x y : Str} {px py pt : Pos} {kt k2 : Nat} {pt2 : Pos} (hc : ∀ k, (F.X k).calm = true) (hN : ∀ k, (F.X k).N.Nodup) (hi : ∀ k, (F.X k).N[i]? = some x) (hj : ∀ k, (F.X k).N[j]? = some y) (hij : i ≠ j)
    (hx : ∀ k, Loc (F.X k).env.scope x) (hy : ∀ k, Loc (F.X k).env.scope y) (ha : DP Z F W [a, b] tP)
    (hfx : ∀ k, (F.X k).fn x = true ∨ (F.X k).env.scope.names.lookup x = some .local := by first | exact fun _ => .inl rfl | exact fun _ => .inr rfl)
    (hfy : ∀ k, (F.X k).fn y = true ∨ (F.X k).env.scope.names.lookup y = some .local := by first | exact fun _ => .inl rfl | exact fun _ => .inr rfl)
    (hs : ∀ k, swapsWithSole [.Tuple [.Name x px, .Name y py] kt pt] (.Tuple [a, b] k2 pt2) pos.line (F.X k).env = pure false := by intro _; rfl)
    (hw : ∀ k, swappedStores [.Tuple [.Name x px, .Name y py] kt pt] (.Tuple [a, b] k2 pt2) (F.X k).env = pure none := by intro _; rfl)
    (h1 : ∀ k, (assignEach [.Tuple [.Name x px, .Name y py] kt pt] (F.X k).env).map (·.2) = [assign (.Tuple [.Name x px, .Name y py] kt pt) (F.X k).env] := by intro _; rfl)
    (hn : ∀ k, (assignEach [.Name x px, .Name y py] (F.X k).env).length = 2 := by intro _; rfl) (hst : ∀ k, (assignEach [.Name x px, .Name y py] (F.X k).env).findIdx? (·.1) = none := by intro _; rfl)
    (he : ∀ k, (assignEach [.Name x px, .Name y py] (F.X k).env).map (·.2) = assign (.Name x px) (F.X k).env :: (assignEach [.Name y py] (F.X k).env).map (·.2) := by intro _; rfl)
    (he2 : ∀ k, (assignEach [.Name y py] (F.X k).env).map (·.2) = assign (.Name y py) (F.X k).env :: (assignEach [] (F.X k).env).map (·.2) := by intro _; rfl) :
    DS Z F W (.Assign [.Tuple [.Name x px, .Name y py] kt pt] (.Tuple [a, b] k2 pt2) pos) (dsPar2 i j tP) := by
  obtain ⟨tp, pp, ha⟩ := ha
  refine ⟨tAsg (tTup tp) (gTup F.K 2 (gCons (gName i) (gCons (gName j) gNil))), fun k => ps_asg (pe_tup (pp k)) (by rw [← F.hK k]; exact pg_tup (hc k) (pgs_cons (pg_name (hN k) (hi k) (hx k) (hfx k)) (pgs_cons (pg_name (hN k) (hj k) (hy k) (hfy k)) pgs_nil (he2 k)) (he k)) (hn k) (hst k)) (hs k) (hw k) (h1 k), fun μ0 S0 H0 ρ σ μ S H B L r h k => ?_⟩
  refine ha H0 ρ σ μ S H _ _ _ r.env r.ok h (k.wish r) fun vs sl μ' S' H' x' q l hr => ?_
  obtain ⟨u, v, rfl, nu, nv, hB⟩ := hr
  obtain ⟨v1, e1, s1⟩ := q.get 0 u rfl
  obtain ⟨v2, e2, s2⟩ := q.get 1 v rfl
  have hl2 := q.len
  have ev : vs = [v1, v2] := by
    match vs, hl2 with
    | [p, q'], _ => simp at e1 e2; rw [e1, e2]
  subst ev
  refine ⟨by show 2 ≤ sizeLine; decide, fun t ht => ?_⟩
  have xt := x'.ok.putOwn (o := .tup [v1, v2]) ht
  have x2 := x'.trans xt
  refine ⟨t, [v1, v2], rfl, .inl (.inl upd_same), rfl, v1, [v2], rfl, v2, [], rfl, rfl, k.nx _ _ μ' S' _ ⟨?_, r.ext.trans x2⟩ x2.same hB⟩
  have env' := r.env.ext x2
  have s1 := s1.ext xt
  have s2 := s2.ext xt
  refine (env'.put1 s1 nu fun xs a eu ea k' ys e => own_old r.env (q.new 0 xs a (by rw [eu]; rfl) (by rw [ea]; rfl)) k' ys e).put1 s2 nv fun xs a eu ea k' ys e qq => ?_
  rcases set_own env'.len e qq with ⟨rfl, z1, z2⟩ | ⟨z1, z2⟩
  · exact absurd (q.apart 0 1 ys xs a (by rw [z1]; rfl) (by rw [eu]; rfl) (by rw [z2]; rfl) (by rw [ea]; rfl)) (by decide)
  · exact own_old r.env (q.new 1 xs a (by rw [eu]; rfl) (by rw [ea]; rfl)) k' ys z1 z2
end
end DL
/-! text DLt -/
/-! DL: sorted of pairs of ints. -/
namespace DL
open PySem PySem.Spec PyProof.Rows L2
def LeP (p q : Int × Int) : Prop := p.1 < q.1 ∨ (p.1 = q.1 ∧ p.2 ≤ q.2)
def PairF (K : PySem.W.Frag) (H : Hp) : List V → Lg → Prop
  | [], ps => ps = []
  | x :: xs, ps => ∃ p r, ps = p :: r ∧ (∃ t, x = .ref t ∧ SqT K H t [.int p.1, .int p.2]) ∧ PairF K H xs r
theorem PairF.mem {K : PySem.W.Frag} {H : Hp} : ∀ {xs : List V} {ps : Lg}, PairF K H xs ps → ∀ x ∈ xs, ∃ p : Int × Int, ∃ t, x = .ref t ∧ SqT K H t [.int p.1, .int p.2]
  | x :: xs, _, ⟨p, r, rfl, h, hr⟩, y, hy => by
    rcases List.mem_cons.mp hy with e | e
    · rw [e]; exact ⟨p, h⟩
    · exact hr.mem y e
theorem PairF.map {K : PySem.W.Frag} {H : Hp} {k : V → Int × Int} (hk : ∀ (x : V) (p : Int × Int), (∃ t, x = .ref t ∧ SqT K H t [.int p.1, .int p.2]) → k x = p) : ∀ {xs : List V} {ps : Lg}, PairF K H xs ps → xs.map k = ps
  | [], _, h => h.symm
  | x :: xs, _, ⟨p, r, rfl, h, hr⟩ => by rw [List.map_cons, hk x p h, hr.map hk]
def rSortSP (K : PySem.W.Frag) : List V → Hp → VK → Prop := fun vs H Q => ∃ (a : Addr) (xs : List V) (ps : Lg), vs = [V.ref a] ∧ SqL K H a xs ∧ PairF K H xs ps ∧
  ∀ (k : V → Int × Int) (ys : List V) (p : Addr), xs.map k = ps → ys.Perm xs → (ys.map k).Pairwise LeP → H p = none → Q (.ref p) (upd H p (.lst ys))
section
variable {X : Cx}
theorem cr_sortedSP : CallR X (.builtin "sorted") (rSortSP X.K) := by
  intro pins s σ H vs us Q I r h
  obtain ⟨a, xs, ps, rfl, hs, hp, q⟩ := h
  obtain ⟨its, rv, hl, hz⟩ := I.list hs
  obtain ⟨u, rfl, ru⟩ := vals1 r
  obtain rfl : u = Value.ref a := ru
  classical
  let k : V → Int × Int := fun x => if h : ∃ p : Int × Int, ∃ t, x = .ref t ∧ SqT X.K H t [.int p.1, .int p.2] then h.choose else (0, 0)
  have hk : ∀ (x : V) (p : Int × Int), (∃ t, x = .ref t ∧ SqT X.K H t [.int p.1, .int p.2]) → k x = p := fun x p h => by
    have hx : ∃ p : Int × Int, ∃ t, x = .ref t ∧ SqT X.K H t [.int p.1, .int p.2] := ⟨p, h⟩
    have e : k x = hx.choose := dif_pos hx
    obtain ⟨t, e1, h1⟩ := hx.choose_spec
    obtain ⟨t', e2, h2⟩ := h
    rw [e1] at e2
    cases e2
    have := I.tuple_inj h1 h2
    simp only [List.cons.injEq, V.int.injEq, and_true] at this
    rw [e]
    exact Prod.ext this.1 this.2
  have hmap := hp.map hk
  obtain ⟨e1, e2⟩ := refs_back rv fun x m => by
    obtain ⟨p, t, e, _⟩ := hp.mem x m
    exact ⟨t, e⟩
  refine SrtO.sorted_pairsO (k := fun u => k (backV u)) hl.isList (by rw [← rv.length]; exact hz) (fun v hv => ?_) fun h' d out h1 h2 kp hd hn => ?_
  · obtain ⟨t, rfl⟩ := e2 v hv
    have hm : V.ref t ∈ xs := by rw [e1]; exact List.mem_map.mpr ⟨_, hv, rfl⟩
    obtain ⟨p, t', e, ht⟩ := hp.mem _ hm
    cases e
    have ek : k (V.ref t) = p := hk _ p ⟨t, rfl, ht⟩
    obtain ⟨its2, r2, ⟨o, ho, hc, n, hd⟩, _⟩ := I.tuple ht
    obtain ⟨u1, u2, rfl, ri, rj⟩ := vals2 r2
    obtain ⟨t1, rfl⟩ := ri
    obtain ⟨t2, rfl⟩ := rj
    refine ⟨t, o, t1, t2, n, rfl, ho, hc, ?_⟩
    rw [show backV (Value.ref t) = V.ref t from rfl, ek]
    exact hd
  · have h3 : ∀ u ∈ out, ∃ a, u = Value.ref a := fun u hu => e2 u (h2.perm.mem_iff.mp hu)
    obtain ⟨n, hn⟩ := hn
    have hb : SrtO.Stb (ltP k) (out.map backV) xs := by
      rw [e1]
      exact SrtO.Stb.map (ltP_swo k) backV h2
    refine ⟨.ref d, upd H d (.lst (out.map backV)), I.laid (t' := s.toks) kp hd ⟨?_, out, n, vals_back h3, hn⟩, rfl, q k _ d hmap hb.perm ?_ (I.hok.fresh hd)⟩
    · rw [hb.len]
      exact hz
    · have := SrtO.srtd_map (lt := ltP k) (f := backV) h1
      refine List.pairwise_map.mpr (List.Pairwise.imp ?_ this)
      intro x y hxy
      have := SrtO.lexB_no.mp hxy
      unfold LeP
      omega
end
section
variable {K : PySem.W.Frag} {rg : Addr → Prop} {S H : Hp}
theorem pairF_of (sub : Same S H) : ∀ {ps : Lg} {vs : List V}, RdL K rg S H (ps.map pD) vs → PairF K H vs ps
  | [], _, h => by cases h; rfl
  | p :: ps, _, h => by
    obtain ⟨v, r, rfl, h1, h2⟩ := h
    obtain ⟨t, ws, rfl, q1, q2⟩ := h1
    obtain ⟨u1, r1, rfl, e1, u2, r2, rfl, e2, rfl⟩ := q2
    cases e1
    cases e2
    exact ⟨p, ps, rfl, ⟨t, rfl, q1.elim (fun h => .inl (h.elim (fun h => .inl (sub _ _ h)) fun ⟨o, h⟩ => .inr ⟨o, sub _ _ h⟩)) fun h => .inr h⟩, pairF_of sub h2⟩
theorem rd_pairs {k : V → Int × Int} : ∀ {vs : List V}, RdL K rg S H ((vs.map k).map pD) vs → ∀ y ∈ vs, Rd K rg S H (pD (k y)) y
  | [], _, y, hy => by cases hy
  | x :: xs, h, y, hy => by
    obtain ⟨v, r, e, h1, h2⟩ := h
    cases e
    rcases List.mem_cons.mp hy with rfl | hy
    · exact h1
    · exact rd_pairs h2 y hy
theorem rdL_pairs {k : V → Int × Int} : ∀ {ys : List V}, (∀ y ∈ ys, Rd K rg S H (pD (k y)) y) → RdL K rg S H ((ys.map k).map pD) ys
  | [], _ => rfl
  | y :: ys, h => ⟨y, ys, rfl, h y (List.mem_cons_self ..), rdL_pairs fun z hz => h z (List.mem_cons_of_mem _ hz)⟩
end
/-- sorted(pairs) -/
def smSortP : SmL := fun as R => ∃ d ps, as = [d] ∧ lstOf d = some (ps.map pD) ∧ ∀ qs : Lg, qs.Perm ps → qs.Pairwise LeP → R (.lst (qs.map pD))
section
variable {Z : Wld} {F : Fm}
theorem cd_sortP : CallD Z F (.builtin "sorted") smSortP := by
  refine ⟨rSortSP F.K, fun i => by rw [← F.hK i]; exact cr_sortedSP, fun rg μ S H as xs R Q ok r hs k => ?_⟩
  obtain ⟨d, ps, rfl, e, hR⟩ := hs
  obtain ⟨v, _, rfl, r1, rfl⟩ := r
  obtain ⟨p, vs, rfl, q1, q2⟩ := lstOf_at ok.sub r1 e
  refine ⟨p, vs, ps, rfl, SqL.of q1, pairF_of ok.sub q2, fun kk ys t hm hp hw ht => ?_⟩
  subst hm
  refine k _ (.lst ((ys.map kk).map pD)) _ _ (ok.put ht) ⟨t, ys, rfl, upd_same, ?_⟩ (hR _ (hp.map kk) hw)
  exact RdL.new ok ht (rdL_pairs fun y hy => rd_pairs q2 y (hp.mem_iff.mp hy))
end
end DL
/-! text DLu -/
/-! DL: min of a list of pairs of ints. -/
namespace DL
open PySem PySem.Spec PyProof.Rows L2
open PySem.W (dataLt minD min_list_data AlikeAll alike alikeAll)
def tpD (p : Int × Int) : PyData := .tuple [.int p.1, .int p.2]
def ltPB (p q : Int × Int) : Bool := decide (p.1 < q.1) || (decide (p.1 = q.1) && decide (p.2 < q.2))
theorem lt_tp (p q : Int × Int) : dataLt (tpD p) (tpD q) = ltPB p q := by
  obtain ⟨a, b⟩ := p
  obtain ⟨c, d⟩ := q
  show lexLt itemOrd [.inl 1, .inl a, .inl 1, .inl b, .inl 0] [.inl 1, .inl c, .inl 1, .inl d, .inl 0] = _
  unfold ltPB
  rw [lex_self]
  by_cases h : a = c
  · subst h
    rw [lex_self, lex_self]
    by_cases h2 : b = d
    · subst h2
      rw [lex_self, lex_self]
      simp [PyProof.Rows.lexLt]
    · rw [lex_diff (O := itemOrd) (by intro z; cases z; exact h2 rfl)]
      simp
      rfl
  · rw [lex_diff (O := itemOrd) (by intro z; cases z; exact h rfl)]
    simp [h]
    rfl
def minP (p q : Int × Int) : Int × Int := if ltPB q p = true then q else p
theorem min_tp : ∀ (ps : Lg) (p : Int × Int), minD (tpD p) (ps.map tpD) = tpD (ps.foldl minP p)
  | [], _ => rfl
  | q :: ps, p => by
    show minD (if dataLt (tpD q) (tpD p) then tpD q else tpD p) (ps.map tpD) = tpD (ps.foldl minP (minP p q))
    rw [lt_tp, ← min_tp ps]
    unfold minP
    split <;> rfl
theorem le_minP (p q : Int × Int) : LeP (minP p q) p ∧ LeP (minP p q) q ∧ (minP p q = p ∨ minP p q = q) := by
  unfold minP ltPB LeP
  split
  · rename_i h
    simp at h
    exact ⟨by omega, by omega, .inr rfl⟩
  · rename_i h
    simp at h
    refine ⟨by omega, ?_, .inl rfl⟩
    by_cases h1 : p.1 = q.1
    · have := h.2 h1.symm; omega
    · omega
theorem LeP.trans {a b c : Int × Int} (h : LeP a b) (k : LeP b c) : LeP a c := by unfold LeP at *; omega
theorem fold_minP : ∀ (ps : Lg) (p : Int × Int), ps.foldl minP p ∈ p :: ps ∧ ∀ r ∈ p :: ps, LeP (ps.foldl minP p) r
  | [], p => ⟨by simp, fun r hr => by rw [List.mem_singleton.mp hr]; exact .inr ⟨rfl, Int.le_refl _⟩⟩
  | q :: ps, p => by
    obtain ⟨h1, h2⟩ := fold_minP ps (minP p q)
    obtain ⟨l1, l2, l3⟩ := le_minP p q
    rw [List.foldl_cons]
    refine ⟨?_, fun r hr => ?_⟩
    · rcases List.mem_cons.mp h1 with e | e
      · rw [e]; rcases l3 with e | e <;> rw [e] <;> simp
      · exact List.mem_cons_of_mem _ (List.mem_cons_of_mem _ e)
    · rcases List.mem_cons.mp hr with rfl | hr
      · exact (h2 _ (List.mem_cons_self ..)).trans l1
      · rcases List.mem_cons.mp hr with rfl | hr
        · exact (h2 _ (List.mem_cons_self ..)).trans l2
        · exact h2 r (List.mem_cons_of_mem _ hr)
def rMinSP (K : PySem.W.Frag) : List V → Hp → VK → Prop := fun vs H Q => ∃ (a : Addr) (xs : List V) (p : Int × Int) (ps : Lg), vs = [V.ref a] ∧ SqL K H a xs ∧ PairF K H xs (p :: ps) ∧
  ∀ (i : Nat) (y : V) (q : Int × Int), xs[i]? = some y → (p :: ps)[i]? = some q → (∀ r ∈ p :: ps, LeP q r) → Q y H
section
variable {X : Cx} {pins : List (Addr × Obj)} {σ : L2.St} {H : Hp} {s : Shared}
theorem pairF_reads (I : Inv X pins σ H s) : ∀ {xs : List V} {ps : Lg} {its : List Value}, PairF X.K H xs ps → Vals xs its → ∃ as, ReadsAll s.heap its (ps.map tpD) as
  | [], _, its, h, rv => by
    cases h
    cases rv
    exact ⟨[], .nil⟩
  | x :: xs, _, its, ⟨p, r, rfl, ⟨t, ex, h⟩, hr⟩, rv => by
    subst ex
    cases rv with
    | cons r1 r2 =>
      obtain ⟨as, ha⟩ := pairF_reads I hr r2
      cases (show _ = Value.ref t from r1)
      obtain ⟨its2, rv2, ⟨o, ho, hc, n, hd⟩, _⟩ := I.tuple h
      obtain ⟨u1, u2, rfl, ri, rj⟩ := vals2 rv2
      obtain ⟨t1, rfl⟩ := ri
      obtain ⟨t2, rfl⟩ := rj
      have h1 : Reads s.heap (.ref t) (tpD p) ([] ++ ([] ++ [])) := .tuple ho hc hd (.cons (.int _ _) (.cons (.int _ _) .nil))
      exact ⟨_, .cons h1 ha⟩
theorem alike_pairs (ps : Lg) : AlikeAll (ps.map tpD) := by
  refine ⟨fun x hx y hy => ?_, fun x hx => ?_⟩
  · obtain ⟨p, _, rfl⟩ := List.mem_map.mp hx
    obtain ⟨q, _, rfl⟩ := List.mem_map.mp hy
    rfl
  · obtain ⟨p, _, rfl⟩ := List.mem_map.mp hx
    intro z
    cases z
theorem depth_pairs : ∀ ps : Lg, PyData.depthAll (ps.map tpD) ≤ 1
  | [] => Nat.zero_le _
  | p :: ps => by
    rw [List.map_cons, PyData.depthAll]
    exact Nat.max_le.mpr ⟨Nat.le_refl _, depth_pairs ps⟩
theorem vals_at : ∀ {xs : List V} {its : List Value}, Vals xs its → ∀ (i : Nat) (v : Value), its[i]? = some v → ∃ y, xs[i]? = some y ∧ RelV y v
  | _, _, .nil, i, v, h => by simp at h
  | x :: xs, _, .cons r1 r2, 0, v, h => by cases h; exact ⟨x, rfl, r1⟩
  | x :: xs, _, .cons r1 r2, i + 1, v, h => vals_at r2 i v h
theorem pairF_at {K : PySem.W.Frag} : ∀ {xs : List V} {ps : Lg}, PairF K H xs ps → ∀ (i : Nat) (y : V), xs[i]? = some y → ∃ q, ps[i]? = some q ∧ ∃ t, y = .ref t ∧ SqT K H t [.int q.1, .int q.2]
  | [], _, _, i, y, h => by simp at h
  | x :: xs, _, ⟨p, r, rfl, h1, hr⟩, 0, y, h => by cases h; exact ⟨p, rfl, h1⟩
  | x :: xs, _, ⟨p, r, rfl, h1, hr⟩, i + 1, y, h => pairF_at hr i y h
theorem cr_minSP (hc : X.calm = true) (hu : X.A.units + 64 < cLine) : CallR X (.builtin "min") (rMinSP X.K) := by
  intro pins s σ H vs us Q I r h
  obtain ⟨a, xs, p, ps, rfl, hs, hp, q⟩ := h
  obtain ⟨its, rv, hl, _⟩ := I.list hs
  rw [Vals.ref1 r]
  obtain ⟨as, hr⟩ := pairF_reads I hp rv
  refine min_list_data (x := tpD p) (xs := ps.map tpD) (I.ok.hd hc) hl.isList (by simpa using hr) (by have := alike_pairs (p :: ps); simpa using this) (by have := depth_pairs (p :: ps); rw [List.map_cons] at this; omega) fun i v h' tk bs hv hrd hk => ?_
  have hv' : its[i]? = some v := by simpa using hv
  obtain ⟨y, hy, ry⟩ := vals_at rv i v hv'
  obtain ⟨qq, hq, t, rfl, ht⟩ := pairF_at hp i y hy
  rw [min_tp] at hrd
  obtain ⟨f1, f2⟩ := fold_minP ps p
  have e : ps.foldl minP p = qq := by
    cases (show v = Value.ref t from ry)
    obtain ⟨its2, rv2, ⟨o, ho, hc2, n, hd⟩, _⟩ := I.tuple ht
    obtain ⟨u1, u2, rfl, ri, rj⟩ := vals2 rv2
    obtain ⟨t1, rfl⟩ := ri
    obtain ⟨t2, rfl⟩ := rj
    generalize hg : ps.foldl minP p = g at hrd
    obtain ⟨g1, g2⟩ := g
    cases hrd with
    | tuple e1 e2 e3 e4 =>
      rw [hk _ _ ho] at e1
      cases e1
      rw [hd] at e3
      cases e3
      cases e4 with
      | cons a1 a2 =>
        cases a1
        cases a2 with
        | cons b1 b2 =>
          cases b1
          rfl
  rw [e] at f2
  exact ⟨V.ref t, H, I.kept hk, ry, q i _ qq hy hq f2⟩
end
/-- min(pairs) -/
def smMinP : SmL := fun as R => ∃ d p ps, as = [d] ∧ lstOf d = some ((p :: ps : Lg).map pD) ∧ ∀ q ∈ p :: ps, (∀ r ∈ p :: ps, LeP q r) → R (pD q)
theorem rdL_at {K : PySem.W.Frag} {rg : Addr → Prop} {S H : Hp} : ∀ {ps : Lg} {vs : List V}, RdL K rg S H (ps.map pD) vs → ∀ (i : Nat) (y : V) (q : Int × Int), vs[i]? = some y → ps[i]? = some q → Rd K rg S H (pD q) y
  | [], _, _, i, y, q, _, h => by simp at h
  | p :: ps, _, ⟨v, r, e, h1, h2⟩, 0, y, q, hy, hq => by subst e; cases hy; cases hq; exact h1
  | p :: ps, _, ⟨v, r, e, h1, h2⟩, i + 1, y, q, hy, hq => by subst e; exact rdL_at h2 i y q hy hq
section
variable {Z : Wld} {F : Fm}
theorem cd_minP (hc : ∀ i, (F.X i).calm = true) (hu : ∀ i, (F.X i).A.units + 64 < cLine) : CallD Z F (.builtin "min") smMinP := by
  refine ⟨rMinSP F.K, fun i => by rw [← F.hK i]; exact cr_minSP (hc i) (hu i), fun rg μ S H as xs R Q ok r hs k => ?_⟩
  obtain ⟨d, p, ps, rfl, e, hR⟩ := hs
  obtain ⟨v, _, rfl, r1, rfl⟩ := r
  obtain ⟨a, vs, rfl, q1, q2⟩ := lstOf_at ok.sub r1 e
  refine ⟨a, vs, p, ps, rfl, SqL.of q1, pairF_of ok.sub q2, fun i y q hy hq hle => ?_⟩
  exact k _ (pD q) S H (.refl ok) (rdL_at q2 i y q hy hq) (hR q (List.mem_of_getElem? hq) hle)
end
end DL
/-! text DLsh -/
/-! DL: min of a list of tuples (w, a, b, c), w one and the same text. -/
namespace DL
open PySem PySem.Spec PyProof.Rows L2
open PySem.W (dataLt minD min_list_data AlikeAll alike alikeAll)
abbrev I3 := Int × Int × Int
def LeT (p q : I3) : Prop := p.1 < q.1 ∨ (p.1 = q.1 ∧ LeP p.2 q.2)
def q4D (w : Str) (p : I3) : D := .tup [.str w, .int p.1, .int p.2.1, .int p.2.2]
def q4P (w : Str) (p : I3) : PyData := .tuple [.str w, .int p.1, .int p.2.1, .int p.2.2]
def ltTB (p q : I3) : Bool := decide (p.1 < q.1) || (decide (p.1 = q.1) && ltPB p.2 q.2)
theorem lt_q4 (w : Str) (p q : I3) : dataLt (q4P w p) (q4P w q) = ltTB p q := by
  obtain ⟨a, b, c⟩ := p
  obtain ⟨a', b', c'⟩ := q
  have e := lt_tp (b, c) (b', c')
  unfold ltTB
  dsimp only
  rw [← e]
  show lexLt itemOrd (.inl 1 :: .inr w.cps.toList :: .inl 1 :: .inl a :: [.inl 1, .inl b, .inl 1, .inl c, .inl 0]) (.inl 1 :: .inr w.cps.toList :: .inl 1 :: .inl a' :: [.inl 1, .inl b', .inl 1, .inl c', .inl 0]) = _
  rw [lex_self, lex_self, lex_self]
  by_cases h : a = a'
  · subst h
    rw [lex_self]
    simp
    rfl
  · rw [lex_diff (O := itemOrd) (by intro z; cases z; exact h rfl)]
    simp [h]
    rfl
def minT (p q : I3) : I3 := if ltTB q p = true then q else p
theorem min_q4 (w : Str) : ∀ (ps : List I3) (p : I3), minD (q4P w p) (ps.map (q4P w)) = q4P w (ps.foldl minT p)
  | [], _ => rfl
  | q :: ps, p => by
    show minD (if dataLt (q4P w q) (q4P w p) then q4P w q else q4P w p) (ps.map (q4P w)) = q4P w (ps.foldl minT (minT p q))
    rw [lt_q4, ← min_q4 w ps]
    unfold minT
    split <;> rfl
theorem ltPB_iff {p q : Int × Int} : ltPB p q = true ↔ p.1 < q.1 ∨ (p.1 = q.1 ∧ p.2 < q.2) := by unfold ltPB; simp
theorem ltTB_iff {p q : I3} : ltTB p q = true ↔ p.1 < q.1 ∨ (p.1 = q.1 ∧ (p.2.1 < q.2.1 ∨ (p.2.1 = q.2.1 ∧ p.2.2 < q.2.2))) := by unfold ltTB; simp [ltPB_iff]
theorem le_minT (p q : I3) : LeT (minT p q) p ∧ LeT (minT p q) q ∧ (minT p q = p ∨ minT p q = q) := by
  unfold minT LeT LeP
  by_cases h : ltTB q p = true
  · rw [if_pos h]
    have := ltTB_iff.mp h
    exact ⟨by omega, by omega, .inr rfl⟩
  · rw [if_neg h]
    have : ¬ (q.1 < p.1 ∨ (q.1 = p.1 ∧ (q.2.1 < p.2.1 ∨ (q.2.1 = p.2.1 ∧ q.2.2 < p.2.2)))) := fun z => h (ltTB_iff.mpr z)
    exact ⟨by omega, by omega, .inl rfl⟩
theorem LeT.trans {a b c : I3} (h : LeT a b) (k : LeT b c) : LeT a c := by unfold LeT LeP at *; omega
theorem fold_minT : ∀ (ps : List I3) (p : I3), ps.foldl minT p ∈ p :: ps ∧ ∀ r ∈ p :: ps, LeT (ps.foldl minT p) r
  | [], p => ⟨by simp, fun r hr => by rw [List.mem_singleton.mp hr]; exact .inr ⟨rfl, .inr ⟨rfl, Int.le_refl _⟩⟩⟩
  | q :: ps, p => by
    obtain ⟨h1, h2⟩ := fold_minT ps (minT p q)
    obtain ⟨l1, l2, l3⟩ := le_minT p q
    rw [List.foldl_cons]
    refine ⟨?_, fun r hr => ?_⟩
    · rcases List.mem_cons.mp h1 with e | e
      · rw [e]; rcases l3 with e | e <;> rw [e] <;> simp
      · exact List.mem_cons_of_mem _ (List.mem_cons_of_mem _ e)
    · rcases List.mem_cons.mp hr with rfl | hr
      · exact (h2 _ (List.mem_cons_self ..)).trans l1
      · rcases List.mem_cons.mp hr with rfl | hr
        · exact (h2 _ (List.mem_cons_self ..)).trans l2
        · exact h2 r (List.mem_cons_of_mem _ hr)
def rMinQ (F : Fm) : List V → Hp → VK → Prop := fun vs H Q => ∃ (a : Addr) (xs : List V) (w : Str) (p : I3) (ps : List I3), vs = [V.ref a] ∧ SqL F.K H a xs ∧
  (∀ (i : F.ι) (pins : List (Addr × Obj)) (σ : L2.St) (s : Shared) (its : List Value), Inv (F.X i) pins σ H s → Vals xs its → ∃ as, ReadsAll s.heap its ((p :: ps).map (q4P w)) as) ∧
  ∀ (i : Nat) (y : V) (q : I3), xs[i]? = some y → (p :: ps)[i]? = some q → (∀ r ∈ p :: ps, LeT q r) → Q y H
theorem readsAll_get {h : Heap} : ∀ {its : List Value} {ds : List PyData} {as : List Addr}, ReadsAll h its ds as → ∀ (i : Nat) (v : Value), its[i]? = some v → ∃ d bs, ds[i]? = some d ∧ Reads h v d bs
  | _, _, _, .nil, i, v, e => by simp at e
  | _, _, _, .cons r rs, 0, v, e => by cases e; exact ⟨_, _, rfl, r⟩
  | _, _, _, .cons r rs, i + 1, v, e => readsAll_get rs i v e
theorem q4P_inj {w : Str} {p q : I3} (h : q4P w p = q4P w q) : p = q := by
  obtain ⟨a, b, c⟩ := p
  obtain ⟨a', b', c'⟩ := q
  unfold q4P at h
  simp only [PyData.tuple.injEq, List.cons.injEq, PyData.int.injEq, and_true, true_and] at h
  obtain ⟨rfl, rfl, rfl⟩ := h
  rfl
theorem alike_q4 (w : Str) (ps : List I3) : AlikeAll (ps.map (q4P w)) := by
  refine ⟨fun x hx y hy => ?_, fun x hx => ?_⟩
  · obtain ⟨p, _, rfl⟩ := List.mem_map.mp hx
    obtain ⟨q, _, rfl⟩ := List.mem_map.mp hy
    rfl
  · obtain ⟨p, _, rfl⟩ := List.mem_map.mp hx
    intro z
    cases z
theorem depth_q4 (w : Str) : ∀ ps : List I3, PyData.depthAll (ps.map (q4P w)) ≤ 1
  | [] => Nat.zero_le _
  | p :: ps => by
    rw [List.map_cons, PyData.depthAll]
    exact Nat.max_le.mpr ⟨Nat.le_refl _, depth_q4 w ps⟩
theorem cr_minQ {F : Fm} (i : F.ι) (hc : (F.X i).calm = true) (hu : (F.X i).A.units + 64 < cLine) : CallR (F.X i) (.builtin "min") (rMinQ F) := by
  intro pins s σ H vs us Q I r h
  obtain ⟨a, xs, w, p, ps, rfl, hs, hp, q⟩ := h
  rw [← F.hK i] at hs
  obtain ⟨its, rv, hl, _⟩ := I.list hs
  rw [Vals.ref1 r]
  obtain ⟨as, hr⟩ := hp i pins σ s its I rv
  refine min_list_data (x := q4P w p) (xs := ps.map (q4P w)) (I.ok.hd hc) hl.isList (by simpa using hr) (by have := alike_q4 w (p :: ps); simpa using this) (by have := depth_q4 w (p :: ps); rw [List.map_cons] at this; omega) fun j v h' tk bs hv hrd hk => ?_
  have hv' : its[j]? = some v := by simpa using hv
  obtain ⟨y, hy, ry⟩ := vals_at rv j v hv'
  obtain ⟨d, cs, hd, hrd2⟩ := readsAll_get hr j v hv'
  rw [List.getElem?_map] at hd
  cases e : (p :: ps)[j]? with
  | none => rw [e] at hd; cases hd
  | some qq =>
    rw [e] at hd
    cases hd
    rw [min_q4] at hrd
    have u := (Reads.unique (PySem.W.reads_keeps hk hrd2) _ _ hrd).1
    obtain ⟨f1, f2⟩ := fold_minT ps p
    rw [← q4P_inj u] at f2
    exact ⟨y, H, I.kept hk, ry, q j y qq hy e f2⟩
/-- min of tuples (w, a, b, c) -/
def smMin4 : SmL := fun as R => ∃ (d : D) (w : Str) (p : I3) (ps : List I3), as = [d] ∧ lstOf d = some ((p :: ps).map (q4D w)) ∧ ∀ q ∈ p :: ps, (∀ r ∈ p :: ps, LeT q r) → R (q4D w q)
theorem shL_q4 (w : Str) : ∀ ps : List I3, shL (ps.map (q4D w)) = true
  | [] => rfl
  | p :: ps => by rw [List.map_cons, shL, shL_q4 w ps]; rfl
theorem pyL_q4 (w : Str) : ∀ ps : List I3, pyL (ps.map (q4D w)) = ps.map (q4P w)
  | [] => rfl
  | p :: ps => by rw [List.map_cons, List.map_cons, pyL, pyL_q4 w ps]; rfl
theorem rdL_at4 {K : PySem.W.Frag} {rg : Addr → Prop} {S H : Hp} {w : Str} : ∀ {ps : List I3} {vs : List V}, RdL K rg S H (ps.map (q4D w)) vs → ∀ (i : Nat) (y : V) (q : I3), vs[i]? = some y → ps[i]? = some q → Rd K rg S H (q4D w q) y
  | [], _, _, i, y, q, _, h => by simp at h
  | p :: ps, _, ⟨v, r, e, h1, h2⟩, 0, y, q, hy, hq => by subst e; cases hy; cases hq; exact h1
  | p :: ps, _, ⟨v, r, e, h1, h2⟩, i + 1, y, q, hy, hq => by subst e; exact rdL_at4 h2 i y q hy hq
section
variable {Z : Wld} {F : Fm}
theorem cd_min4 (sb : ∀ i, ∃ mm, (F.X i).base.Ns sysModules mm) (hc : ∀ i, (F.X i).calm = true) (hu : ∀ i, (F.X i).A.units + 64 < cLine) : CallD Z F (.builtin "min") smMin4 := by
  refine ⟨rMinQ F, fun i => cr_minQ i (hc i) (hu i), fun rg μ S H as xs R Q ok r hs k => ?_⟩
  obtain ⟨d, w, p, ps, rfl, e, hR⟩ := hs
  obtain ⟨v, _, rfl, r1, rfl⟩ := r
  obtain ⟨a, vs, rfl, q1, q2⟩ := lstOf_at ok.sub r1 e
  refine ⟨a, vs, w, p, ps, rfl, SqL.of q1, fun i pins σ s its I rv => ?_, fun i y q hy hq hle => ?_⟩
  · obtain ⟨as, h, _⟩ := rdl_reads I ok.sub (sb i) _ vs its (shL_q4 w (p :: ps)) (by rw [F.hK i]; exact q2) rv
    rw [pyL_q4] at h
    exact ⟨as, h⟩
  · exact k _ (q4D w q) S H (.refl ok) (rdL_at4 q2 i y q hy hq) (hR q (List.mem_of_getElem? hq) hle)
end
/-! ### is True, is False, of a bool -/
section
variable {X : Cx}
theorem op_isB : OpR X (compareOp .Is) (fun x y H Q => ∃ i j, x = .bl i ∧ y = .bl j ∧ Q (.bl (i == j)) H) := by
  intro pins s σ H x y v u Q I rx ry h
  obtain ⟨i, j, rfl, rfl, q⟩ := h
  cases rx
  cases ry
  exact is_bool ⟨.bl _, H, I, rfl, q⟩
theorem op_isnotB : OpR X (compareOp .IsNot) (fun x y H Q => ∃ i j, x = .bl i ∧ y = .bl j ∧ Q (.bl (i != j)) H) := by
  intro pins s σ H x y v u Q I rx ry h
  obtain ⟨i, j, rfl, rfl, q⟩ := h
  cases rx
  cases ry
  exact isnot_bool ⟨.bl _, H, I, rfl, q⟩
end
def smIsB : Sm2 := fun a b R => ∃ i j, a = .bl i ∧ b = .bl j ∧ R (.bl (i == j))
def smIsNotB : Sm2 := fun a b R => ∃ i j, a = .bl i ∧ b = .bl j ∧ R (.bl (i != j))
section
variable {Z : Wld} {F : Fm}
theorem od_isB : OpD Z F (compareOp .Is) smIsB := by
  refine ⟨_, fun _ => op_isB, fun rg μ S H a b x y R Q ok ra rb hs k => ?_⟩
  obtain ⟨i, j, rfl, rfl, hs⟩ := hs
  exact ⟨i, j, ra, rb, k _ (.bl _) S H (.refl ok) rfl hs⟩
theorem od_isnotB : OpD Z F (compareOp .IsNot) smIsNotB := by
  refine ⟨_, fun _ => op_isnotB, fun rg μ S H a b x y R Q ok ra rb hs k => ?_⟩
  obtain ⟨i, j, rfl, rfl, hs⟩ := hs
  exact ⟨i, j, ra, rb, k _ (.bl _) S H (.refl ok) rfl hs⟩
end
end DL
/-! text DLsi -/
/-! DL: x in a list of tuples (data of any depth). -/
namespace DL
open PySem PySem.Spec PyProof.Rows L2
def inP (x : D) (xs : List D) : Bool := xs.any fun y => eqD y x
def smInP : Sm2 := fun a b R => ∃ xs, b = .lst xs ∧ cmpOk a (.lst xs) ∧ R (.bl (inP a xs))
def smNotInP : Sm2 := fun a b R => ∃ xs, b = .lst xs ∧ cmpOk a (.lst xs) ∧ R (.bl (!inP a xs))
theorem any_py (x : D) : ∀ xs : List D, ((pyL xs).any fun z => PyData.eqv z (pyD x)) = inP x xs
  | [] => rfl
  | y :: ys => by
    simp only [pyL]
    unfold inP
    rw [List.any_cons, List.any_cons, any_py x ys]
    rfl
section
variable {Z : Wld} {F : Fm}
theorem od_inP (hu : ∀ i, (F.X i).A.units + 65 < cLine) : OpD Z F (compareOp .In) smInP := by
  refine ⟨rInD F.K, fun i => by rw [← F.hK i]; exact op_inD (hu i), fun rg μ S H a b x y R Q ok ra rb hs k => ?_⟩
  obtain ⟨xs, rfl, ⟨o1, o2, s1, s2⟩, hs⟩ := hs
  have e : pyD (.lst xs) = .list (pyL xs) := by rw [pyD]
  have d2 := rd_dp ok.sub (.lst xs) y o2 (SeqAt.canLay_of_shaped s2) rb
  rw [e] at d2 s2
  refine ⟨pyD a, pyL xs, rd_dp ok.sub a x o1 (SeqAt.canLay_of_shaped s1) ra, d2, s1, s2, ?_⟩
  rw [any_py]
  exact k _ (.bl (inP a xs)) S H (.refl ok) rfl hs
theorem od_notinP (hu : ∀ i, (F.X i).A.units + 65 < cLine) : OpD Z F (compareOp .NotIn) smNotInP := by
  refine ⟨rNotInD F.K, fun i => by rw [← F.hK i]; exact op_notInD (hu i), fun rg μ S H a b x y R Q ok ra rb hs k => ?_⟩
  obtain ⟨xs, rfl, ⟨o1, o2, s1, s2⟩, hs⟩ := hs
  have e : pyD (.lst xs) = .list (pyL xs) := by rw [pyD]
  have d2 := rd_dp ok.sub (.lst xs) y o2 (SeqAt.canLay_of_shaped s2) rb
  rw [e] at d2 s2
  refine ⟨pyD a, pyL xs, rd_dp ok.sub a x o1 (SeqAt.canLay_of_shaped s1) ra, d2, s1, s2, ?_⟩
  rw [any_py]
  exact k _ (.bl (!inP a xs)) S H (.refl ok) rfl hs
end
end DL
/-! text DLsj -/
/-! DL: a tuple times a number (1 .. 1000). -/
namespace DL
open PySem PySem.Spec PyProof.Rows L2
theorem tuple_mul1 (l : Addr) (items : Array Value) (n : Nat) (dd : Option Addr) (sl : Array (Option Value)) (u : Tok) :
    Meets (Builtin.«tuple.__mul__» ⟨[.ref l, .int 1 u], []⟩) (fun _ R s => s.heap.get? l = some { cls := .type "tuple", dict := dd, data := .seq items n, slots := sl } ∧
      R (.ok (.ret (Value.ref l))) s) :=
  .of_wp fun prog w A R s h => by
    obtain ⟨hp, g, d, tk, os⟩ := s
    obtain ⟨hl, h⟩ := h
    have f1 := AutoSeq1.idx_int
    wp_walk using wpAny_loadPart' hl
    repeat (first
      | (refine wpAny_ite_false (decide_eq_false (by decide)) ?_; wp_walk using wpAny_loadPart' hl)
      | (refine wpAny_ite_true (decide_eq_true (by simp)) ?_; wp_walk using wpAny_loadPart' hl))
    exact ⟨_, rfl, h⟩
def rRepT1 (K : PySem.W.Frag) : R2 := fun x y H Q => ∃ l xs, x = V.ref l ∧ y = .int 1 ∧ SqT K H l xs ∧ Q (.ref l) H
section
variable {X : Cx}
theorem op_repT1 : OpR X (binaryOp .Mult) (rRepT1 X.K) := by
  intro pins s σ H x y v u Q I rx ry h
  obtain ⟨l, xs, rfl, rfl, hT, q⟩ := h
  cases rx
  obtain ⟨t, rfl⟩ := ry
  obtain ⟨its, r, ⟨⟨cls, dd, data, sl⟩, ho, hc, n, hd⟩, hs⟩ := I.tuple hT
  simp only at hc hd
  subst hc hd
  refine wpAny_binaryOp_repeat_ref (T := "tuple") (U := "int") (by decide) ⟨_, ho, rfl⟩ (fun s' => typeIs_int s' 1 t) noFill_tuple_mul F.fills_int_mul F.slot_int_rmul repeat_tuple F.slot_int_index.lookup
    (call_meets F.slot_int_rmul (typeIs_int s 1 t) F.entry_int_rmul (F.args_int_rmul_2 _ _) (int_rmul_tuple 1 t l its.toArray n dd sl)
      ⟨ho, rfl, ⟨_, ho, rfl⟩, call_meets F.slot_tuple_mul ⟨_, ho, rfl⟩ F.entry_tuple_mul (F.args_tuple_mul_2 _ _) (tuple_mul1 l its.toArray n dd sl t) ⟨ho, ?_⟩⟩)
  exact ⟨.ref l, H, I, rfl, q⟩
end
def smMulT : Sm2 := fun a b R => ∃ xs k, a = .tup xs ∧ b = .int k ∧ ((k = 1 ∧ R (.tup xs)) ∨ (xs ≠ [] ∧ 2 ≤ k ∧ k ≤ 1000 ∧ xs.length ≤ 1000 ∧ R (.tup (List.replicate k.toNat xs).flatten)))
section
variable {Z : Wld} {F : Fm}
theorem od_mulT : OpD Z F (binaryOp .Mult) smMulT := by
  refine ⟨fun x y H Q => rRepT1 F.K x y H Q ∨ rRepT F.K x y H Q, fun i => by rw [← F.hK i]; exact op_repT1.or op_repT, fun rg μ S H a b x y R Q ok ra rb hs k => ?_⟩
  obtain ⟨xs, j, rfl, rfl, hs⟩ := hs
  obtain ⟨p, vs, rfl, q1, q2⟩ := ra
  have q3 := seqT_mono ok.sub q1
  cases rb
  rcases hs with ⟨rfl, hR⟩ | ⟨h1, h2, h3, h4, hR⟩
  · exact .inl ⟨p, vs, rfl, rfl, q3, k _ (.tup xs) S H (.refl ok) ⟨p, vs, rfl, q1, q2⟩ hR⟩
  · refine .inr ⟨p, j, vs, rfl, rfl, q3, fun z => ?_, h2, h3, by rw [q2.length]; exact h4, fun t ht => k _ (.tup _) _ _ (ok.put ht) ⟨t, _, rfl, SqT.of upd_same, (q2.rep _).new ok ht⟩ hR⟩
    have := q2.length
    rw [z] at this
    cases xs with
    | nil => exact h1 rfl
    | cons a b => cases this
end
end DL
/-! text DLsk -/
/-! DL: small readings added later -/
namespace DL
open PySem PySem.Spec PyProof.Rows L2
theorem q_isNotB {a b : Bool} {R : D → Prop} : smIsNotB (.bl a) (.bl b) R = R (.bl (a != b)) :=
  propext ⟨fun ⟨i, j, e1, e2, h⟩ => by cases e1; cases e2; exact h, fun h => ⟨a, b, rfl, rfl, h⟩⟩
theorem q_isB {a b : Bool} {R : D → Prop} : smIsB (.bl a) (.bl b) R = R (.bl (a == b)) :=
  propext ⟨fun ⟨i, j, e1, e2, h⟩ => by cases e1; cases e2; exact h, fun h => ⟨a, b, rfl, rfl, h⟩⟩
theorem b_ff : (false != false) = false := rfl
theorem b_tt : (true != true) = false := rfl
theorem b_ft : (false != true) = true := rfl
theorem b_tf : (true != false) = true := rfl
end DL
/-! text RLq -/
/-! the defs that the laws of a reel share: logs bent, scenes -/
namespace RL
open PySem PySem.Spec PyProof.Rows L2 DL LP
theorem ascP_snoc : ∀ {a : Int} {g : Lg} {y x : Int × Int}, AscP a (g ++ [y]) → y.2 < x.1 → x.1 < x.2 → AscP a (g ++ [y] ++ [x])
  | _, [], _, _, h, h1, h2 => ⟨h.1, h.2.1, h1, h2, trivial⟩
  | _, _ :: g, _, _, h, h1, h2 => ⟨h.1, h.2.1, ascP_snoc (g := g) h.2.2 h1 h2⟩
theorem ascP_take : ∀ {a : Int} {g : Lg} (n : Nat), AscP a g → AscP a (g.take n)
  | _, _, 0, _ => trivial
  | _, [], _ + 1, h => h
  | _, _ :: g, n + 1, h => ⟨h.1, h.2.1, ascP_take n h.2.2⟩
theorem ascP_mono : ∀ {a b : Int} {g : Lg}, b ≤ a → AscP a g → AscP b g
  | _, _, [], _, _ => trivial
  | _, _, _ :: _, h, k => ⟨by have := k.1; omega, k.2⟩
theorem ascP_mem : ∀ {a : Int} {g : Lg}, AscP a g → ∀ s ∈ g, a < s.1 ∧ s.1 < s.2
  | _, s :: g, h, x, hx => by
    rcases List.mem_cons.mp hx with e | e
    · rw [e]; exact ⟨h.1, h.2.1⟩
    · have := ascP_mem h.2.2 x e
      have h1 := h.1
      have h2 := h.2.1
      exact ⟨by omega, this.2⟩
theorem VLog.mem {b : Int} {g : Lg} (h : VLog b g) {s : Int × Int} (hs : s ∈ g) : 0 ≤ s.1 ∧ s.1 < s.2 ∧ s.2 ≤ b := by
  have := ascP_mem h.asc s hs
  exact ⟨by omega, this.2, h.le s hs⟩
theorem VLog.mono {b c : Int} {g : Lg} (h : VLog b g) (l : b ≤ c) : VLog c g := ⟨h.asc, fun s hs => Int.le_trans (h.le s hs) l, h.len⟩
section
variable (ds : List D) (μ : ReelW.M) (R : D → ReelW.M → Prop) (Ed : Xc → ReelW.M → Prop)
theorem pure__law_bent (hl : ds.length = ps__law_bent.length) (hs : sp__law_bent ds μ R Ed) (st : staL ds = true) : t__law_bent (fin R Ed) (startD N__law_bent ds) μ := by
  obtain ⟨p, l, n, b, g, rfl, rfl, hn, hb, hg, h⟩ := hs
  show t__law_bent (fin R Ed) [.val (.op (.ref p)), .val (logD g), .un, .un, .un, .un, .un, .un, .un, .un, .un, .un] (rs p l n)
  unfold t__law_bent s__law_bent_0 s__law_bent_0a_0 logD
  simp_all! [map_nil_iff, q_spin]
  by_cases h0 : g = []
  · subst h0
    refine itT rfl ⟨by omega, fun m a0 a1 => h [(3, 4 + m)] _ ⟨⟨by omega, by show (3 : Int) < 4 + m; omega, trivial⟩, fun s hs => ?_, by simp⟩ (fun L hL _ s hs => by rw [List.mem_singleton.mp hs]; dsimp only; omega) (by simp) (by omega)⟩
    rw [List.mem_singleton.mp hs]
    show 4 + m ≤ _
    omega
  refine itF (by simpa using h0) ?_
  have p0 : 0 < g.length := List.length_pos_iff.mpr h0
  have p1 := hg.len
  unfold s__law_bent_1
  simp_all! [q_spin, List.length_map]
  refine ⟨by omega, by omega, by omega, fun at' a0 a1 => ⟨by omega, fun by' b0 b1 => ?_⟩⟩
  obtain ⟨⟨on, off⟩, e, hm, _⟩ := at_nat (l := g) a0 (by omega)
  obtain ⟨k0, k1, k2⟩ := hg.mem hm
  dsimp only at k0 k1 k2
  unfold s__law_bent_2 s__law_bent_3
  simp_all! [atI_map, e, Option.map_some, pD]
  -- whatever stands in the place of the stretch
  have rest : ∀ (parts : Lg) (way : Int) (sm : Slot) (n1 : Nat), n1 ≤ n + 5 → parts.length ≤ 2 → (∀ s ∈ parts, 0 ≤ s.1 ∧ s.1 < s.2 ∧ s.2 ≤ b + 10 ∧ s.2 - s.1 ≤ off - on + 5) → dsSeq s__law_bent_8 (dsSeq s__law_bent_9 s__law_bent_10) (fin R Ed) [.val (.op (.ref p)), .val (.tup (g.map pD)), .val (.int at'), .val (.int (1 + by')), .val (.int on), .val (.int off), sm, .val (.int way), .val (.lst (parts.map pD)), .un, .un, .un] (rs p l n1) := fun parts way sm n1 h1 hp hparts => by
    unfold s__law_bent_8 s__law_bent_9
    simp_all! [staL_p, cutL_map]
    have c1 : (cutL g none (some at')).length ≤ 60 := by unfold cutL; rw [List.length_take, List.length_drop]; omega
    have c2 : (cutL g (some (at' + 1)) none).length ≤ 60 := by unfold cutL; rw [List.length_take, List.length_drop]; omega
    have c3 : (cutL g none (some at')).length + (cutL g (some (at' + 1)) none).length + 1 ≤ g.length := by
      obtain ⟨kk, rfl⟩ : ∃ kk : Nat, at' = (kk : Int) := ⟨at'.toNat, by omega⟩
      have e2 : ((kk : Int) + 1) = ((kk + 1 : Nat) : Int) := by omega
      rw [e2]
      unfold cutL
      rw [HT.sIx_none, HT.sIx_none, HT.sIx_nat, HT.sIx_nat, List.length_take, List.length_drop, List.length_take, List.length_drop]
      omega
    have m1 : ∀ s ∈ cutL g none (some at'), s ∈ g := fun s hs => List.mem_of_mem_drop (List.mem_of_mem_take hs)
    have m2 : ∀ s ∈ cutL g (some (at' + 1)) none, s ∈ g := fun s hs => List.mem_of_mem_drop (List.mem_of_mem_take hs)
    generalize cutL g none (some at') = A at c1 c3 m1 ⊢
    generalize cutL g (some (at' + 1)) none = C at c2 c3 m2 ⊢
    refine ⟨by simp; omega, by simp; omega, ?_, ?_⟩
    · exact staL_append (staL_append (staL_p _) (staL_p _)) (staL_p _)
    rw [show A.map pD ++ parts.map pD ++ C.map pD = (A ++ parts ++ C).map pD by simp]
    have hall : ∀ s ∈ A ++ parts ++ C, 0 ≤ s.1 ∧ s.1 < s.2 ∧ s.2 ≤ b + 10 := fun s hs => by
      rcases List.mem_append.mp hs with hs | hs
      · rcases List.mem_append.mp hs with hs | hs
        · have := hg.mem (m1 s hs); omega
        · have := hparts s hs; omega
      · have := hg.mem (m2 s hs); omega
    have hQ : ∀ s ∈ A ++ parts ++ C, s ∈ g ∨ s.2 - s.1 ≤ off - on + 5 := fun s hs => by
      rcases List.mem_append.mp hs with hs | hs
      · rcases List.mem_append.mp hs with hs | hs
        · exact .inl (m1 s hs)
        · exact .inr (hparts s hs).2.2.2
      · exact .inl (m2 s hs)
    have hlen : (A ++ parts ++ C).length ≤ g.length + 1 := by simp; omega
    generalize A ++ parts ++ C = all at hall hlen hQ ⊢
    refine loop_t (Z := ReelW) pD (fun rem ρ μ' => ∃ (rev : Lg) (u v : Slot), ρ = [.val (.op (.ref p)), .val (.tup (g.map pD)), .val (.int at'), .val (.int (1 + by')), .val (.int on), .val (.int off), sm, .val (.int way), .val (.lst (parts.map pD)), .own (rev.reverse.map pD), u, v] ∧ μ' = rs p l n1 ∧ AscP (-1) rev.reverse ∧ (∀ s ∈ rev, s.2 ≤ b + 10) ∧ (∀ s ∈ rem, 0 ≤ s.1 ∧ s.1 < s.2 ∧ s.2 ≤ b + 10) ∧ rev.length + rem.length ≤ g.length + 1 ∧ (∀ s ∈ rem, s ∈ g ∨ s.2 - s.1 ≤ off - on + 5) ∧ ∀ s ∈ rev, s ∈ g ∨ s.2 - s.1 ≤ off - on + 5) ?_ ?_ ⟨[], _, _, rfl, rfl, trivial, by simp, hall, by simpa using hlen, hQ, by simp⟩
    · rintro ⟨x, y⟩ rem ρ μ' N ⟨rev, u, v, rfl, rfl, hasc, hle, hrem, hz, hq1, hq2⟩ hN
      have hx := hrem _ (List.mem_cons_self ..)
      dsimp only at hx
      simp only [List.length_cons] at hz
      have hq3 : ∀ s ∈ rem, s ∈ g ∨ s.2 - s.1 ≤ off - on + 5 := fun s hs => hq1 s (List.mem_cons_of_mem _ hs)
      have hq4 := hq1 _ (List.mem_cons_self ..)
      have hr2 : ∀ s ∈ rem, 0 ≤ s.1 ∧ s.1 < s.2 ∧ s.2 ≤ b + 10 := fun s hs => hrem s (List.mem_cons_of_mem _ hs)
      unfold l__law_bent_9 s__law_bent_9f_0 s__law_bent_9f_0a_0
      cases rev with
      | nil =>
        simp_all! [pD, List.reverse_nil, List.map_nil, List.isEmpty_nil]
        exact hN _ _ ⟨[(x, y)], _, _, rfl, rfl, ⟨by show (-1 : Int) < x; omega, hx.2.1, trivial⟩, by simp; omega, hr2, by simp at hz ⊢; omega, hq3, fun s hs => by rw [List.mem_singleton.mp hs]; exact hq4⟩
      | cons q r =>
        obtain ⟨c, d⟩ := q
        simp only [List.length_cons] at hz
        have eb : ((c, d) :: r).reverse.map pD = r.reverse.map pD ++ [.tup [.int c, .int d]] := by rw [List.reverse_cons, List.map_append]; rfl
        rw [eb]
        simp_all! [pD, app_ne, at_last]
        by_cases h1 : d < x
        · rw [if_pos (decide_eq_true h1)]
          refine ⟨by simp; omega, hN _ _ ⟨(x, y) :: (c, d) :: r, _, _, by rw [List.reverse_cons, List.map_append, eb]; rfl, rfl, ?_, ?_, hr2, by simp; omega, hq3, fun s hs => by
            rcases List.mem_cons.mp hs with e | e
            · rw [e]; exact hq4
            · exact hq2 s e⟩⟩
          · rw [List.reverse_cons, List.reverse_cons]
            rw [List.reverse_cons] at hasc
            exact ascP_snoc hasc h1 hx.2.1
          · intro s hs
            rcases List.mem_cons.mp hs with e | e
            · rw [e]; exact hx.2.2
            · exact hle s e
        · rw [if_neg (by simpa using h1)]
          exact hN _ _ ⟨(c, d) :: r, _, _, by rw [eb], rfl, hasc, hle, hr2, by simp; omega, hq3, hq2⟩
    · rintro ρ μ' ⟨rev, u, v, rfl, rfl, hasc, hle, _, hz, _, hq2⟩
      unfold s__law_bent_10
      simp_all! [cutL_map, staL_p]
      refine h _ n1 ⟨?_, fun s hs => hle s (List.mem_reverse.mp (List.mem_of_mem_drop (List.mem_of_mem_take hs))), ?_⟩ (fun L hL hgL s hs => by
        have hoo := hgL _ hm
        dsimp only at hoo
        rcases hq2 s (List.mem_reverse.mp (List.mem_of_mem_drop (List.mem_of_mem_take hs))) with z | z
        · have := hgL s z; omega
        · omega) (by unfold cutL; rw [List.length_take, List.length_drop, List.length_reverse]; simp at hz; omega) (by omega)
      · have e0 : cutL rev.reverse none (some 60) = rev.reverse.take 60 := by
          unfold cutL
          simp [HT.sIx]
        rw [e0]
        exact ascP_take _ hasc
      · unfold cutL
        rw [List.length_take]
        simp [HT.sIx]
        omega
  unfold s__law_bent_4
  simp_all! [q_spin]
  refine ⟨by omega, fun way w0 w1 => ?_⟩
  have : way = 0 ∨ way = 1 ∨ way = 2 ∨ way = 3 ∨ way = 4 ∨ way = 5 ∨ way = 6 := by omega
  unfold s__law_bent_5 s__law_bent_6 s__law_bent_7 s__law_bent_6a_0 s__law_bent_7a_0
  rcases this with rfl | rfl | rfl | rfl | rfl | rfl | rfl
  all_goals simp_all! [at3, staL_p, q_eq_ii]
  · exact rest [(on, off + (1 + by'))] 0 _ _ (by omega) (by simp) (by simp; omega)
  · exact rest [(on, max (on + 1) (off - (1 + by')))] 1 _ _ (by omega) (by simp) (by simp; omega)
  · exact rest [(on + (1 + by'), off + (1 + by'))] 2 _ _ (by omega) (by simp) (by simp; omega)
  · exact rest [(max 0 (on - (1 + by')), off)] 3 _ _ (by omega) (by simp) (by simp; omega)
  · have hc : CDivW (off - on) 2 := ⟨by decide, by decide⟩
    by_cases h3 : 2 < off - on
    · rw [if_pos (decide_eq_true h3)]
      exact ⟨hc, hc, rest [(on, on + (off - on) / 2), (on + (off - on) / 2 + 1, off)] 4 _ _ (by omega) (by simp) (by simp; omega)⟩
    · rw [if_neg (by simpa using h3)]
      exact rest [] 4 _ _ (by omega) (by simp) (by simp)
  · exact rest [(on, off), (off + (1 + by'), off + 2 * (1 + by'))] 5 _ _ (by omega) (by simp) (by simp; omega)
  · exact rest [] 6 _ _ (by omega) (by simp) (by simp)
end
end RL
/-! text RLr -/
/-! the defs that the laws of a reel share: what is played is a log; scenes -/
namespace RL
open PySem PySem.Spec PyProof.Rows L2 DL LP
theorem ascP_lastset : ∀ {a : Int} {g : Lg} {y : Int × Int} {e : Int}, AscP a (g ++ [y]) → y.1 < e → AscP a (g ++ [(y.1, e)])
  | _, [], _, _, h, h1 => ⟨h.1, h1, trivial⟩
  | _, _ :: g, _, _, h, h1 => ⟨h.1, h.2.1, ascP_lastset (g := g) h.2.2 h1⟩
structure PInv (l : Lamp) (rev : Lg) (prev : Int) : Prop where
  asc : AscP (-1) rev.reverse
  le : ∀ s ∈ rev, s.1 ≤ prev ∧ s.2 ≤ prev + l.2
theorem PInv.step {l : Lamp} {rev : Lg} {prev m : Int} (hl : 1 ≤ l.2) (h : PInv l rev prev) (h0 : 0 ≤ m) (hm : prev < m) : PInv l (stepR l rev m) m := by
  cases rev with
  | nil => exact ⟨⟨by show (-1 : Int) < m; omega, by show m < m + l.2; omega, trivial⟩, fun s hs => by rw [List.mem_singleton.mp hs]; show m ≤ m ∧ m + l.2 ≤ m + l.2; omega⟩
  | cons s r =>
    have hs := h.le s (List.mem_cons_self ..)
    have ha := h.asc
    rw [List.reverse_cons] at ha
    have hr : ∀ x ∈ s :: r, x.1 ≤ m ∧ x.2 ≤ m + l.2 := fun x hx => by have := h.le x hx; omega
    unfold stepR
    dsimp only
    split
    · rename_i h1
      refine ⟨?_, fun x hx => ?_⟩
      · rw [List.reverse_cons, List.reverse_cons]
        exact ascP_snoc ha h1 (by show m < m + l.2; omega)
      · rcases List.mem_cons.mp hx with e | e
        · rw [e]; show m ≤ m ∧ m + l.2 ≤ m + l.2; omega
        · exact hr x e
    · split
      · refine ⟨?_, fun x hx => ?_⟩
        · rw [List.reverse_cons]
          exact ascP_lastset ha (by omega)
        · rcases List.mem_cons.mp hx with e | e
          · rw [e]; show s.1 ≤ m ∧ m + l.2 ≤ m + l.2; omega
          · exact hr x (List.mem_cons_of_mem _ e)
      · exact ⟨h.asc, hr⟩
theorem stepR_length (l : Lamp) (rev : Lg) (m : Int) : (stepR l rev m).length ≤ rev.length + 1 := by
  unfold stepR
  split
  · simp
  · split
    · simp
    · split <;> simp
theorem pinv_all {l : Lamp} (hl : 1 ≤ l.2) : ∀ {ms : List Int} {rev : Lg} {prev M : Int}, -1 ≤ prev → prev ≤ M → PInv l rev prev → AscI prev ms → (∀ m ∈ ms, m ≤ M) → ∃ q, q ≤ M ∧ PInv l (ms.foldl (stepR l) rev) q ∧ (ms.foldl (stepR l) rev).length ≤ rev.length + ms.length
  | [], rev, prev, M, _, hM, h, _, _ => ⟨prev, hM, h, by simp⟩
  | m :: ms, rev, prev, M, h0, hM, h, ha, hm => by
    have hm0 := hm m (List.mem_cons_self ..)
    have h1 := ha.1
    obtain ⟨q, q1, q2, q3⟩ := pinv_all hl (ms := ms) (rev := stepR l rev m) (by omega) hm0 (h.step hl (by omega) h1) ha.2 fun x hx => hm x (List.mem_cons_of_mem _ hx)
    refine ⟨q, q1, q2, ?_⟩
    have := stepR_length l rev m
    rw [List.foldl_cons, List.length_cons]
    omega
theorem play_ok {l : Lamp} (hl : 1 ≤ l.2) {ms : List Int} {M : Int} (hM : -1 ≤ M) (ha : AscI (-1) ms) (hm : ∀ m ∈ ms, m ≤ M) : AscP (-1) (play l ms) ∧ (∀ s ∈ play l ms, s.2 ≤ M + l.2) ∧ (play l ms).length ≤ ms.length := by
  obtain ⟨q, q1, q2, q3⟩ := pinv_all hl (rev := []) (by omega) hM ⟨trivial, by simp⟩ ha hm
  exact ⟨q2.asc, fun s hs => by have := q2.le s (List.mem_reverse.mp hs); omega, by unfold play playR; rw [List.length_reverse]; simpa using q3⟩
theorem stepR_len {l : Lamp} {rev : Lg} {m L : Int} (hl : 1 ≤ l.2) (hL : 0 ≤ L) (h : ∀ s ∈ rev, s.2 - s.1 ≤ L) : ∀ s ∈ stepR l rev m, s.2 - s.1 ≤ L + l.2 := by
  unfold stepR
  cases rev with
  | nil => intro s hs; rw [List.mem_singleton.mp hs]; dsimp only; omega
  | cons x r =>
    have hx := h x (List.mem_cons_self ..)
    have hr : ∀ s ∈ r, s.2 - s.1 ≤ L + l.2 := fun s hs => by have := h s (List.mem_cons_of_mem _ hs); omega
    dsimp only
    intro s hs
    split at hs
    · rcases List.mem_cons.mp hs with e | e
      · rw [e]; dsimp only; omega
      · rcases List.mem_cons.mp e with e | e
        · rw [e]; omega
        · exact hr s e
    · split at hs
      · rcases List.mem_cons.mp hs with e | e
        · rw [e]; dsimp only; omega
        · exact hr s e
      · rcases List.mem_cons.mp hs with e | e
        · rw [e]; omega
        · exact hr s e
theorem foldR_len {l : Lamp} (hl : 1 ≤ l.2) : ∀ {ms : List Int} {rev : Lg} {L : Int}, 0 ≤ L → (∀ s ∈ rev, s.2 - s.1 ≤ L) → ∀ s ∈ ms.foldl (stepR l) rev, s.2 - s.1 ≤ L + l.2 * ms.length
  | [], rev, L, _, h, s, hs => by have := h s hs; simp; omega
  | m :: ms, rev, L, hL, h, s, hs => by
    have := foldR_len hl (ms := ms) (rev := stepR l rev m) (L := L + l.2) (by omega) (stepR_len hl hL h) s hs
    rw [List.length_cons, Int.natCast_add, Int.mul_add]
    simp
    omega
theorem play_len {l : Lamp} (hl : 1 ≤ l.2) {ms : List Int} {M : Int} (hM : (ms.length : Int) ≤ M) : ∀ s ∈ play l ms, s.2 - s.1 ≤ l.2 * M := fun s hs => by
  have := foldR_len hl (ms := ms) (rev := []) (L := 0) (Int.le_refl _) (by simp) s (List.mem_reverse.mp hs)
  have := Int.mul_le_mul_of_nonneg_left hM (show 0 ≤ l.2 by omega)
  omega
section
variable (ds : List D) (μ : ReelW.M) (R : D → ReelW.M → Prop) (Ed : Xc → ReelW.M → Prop)
theorem at_natZ {α : Type} {xs : List α} {i : Int} (h0 : 0 ≤ i) (h : i < xs.length) : ∃ a, atI xs i = some a ∧ a ∈ xs ∧ ixN xs.length i = some i.toNat ∧ i.toNat < xs.length := by
  obtain ⟨a, e, m, _⟩ := at_nat h0 h
  refine ⟨a, e, m, ?_, by omega⟩
  unfold ixN
  rw [if_pos h0, if_pos h]
theorem pure__law_scene (hl : ds.length = ps__law_scene.length) (hs : sp__law_scene ds μ R Ed) (st : staL ds = true) : t__law_scene (fin R Ed) (startD N__law_scene ds) μ := by
  obtain ⟨p, l, n, many, top, motions, rfl, rfl, hn, m0, m1, t0, t1, o0, o1, h⟩ := hs
  show t__law_scene (fin R Ed) [.val (.op (.ref p)), .val (.int many), .val (.int top), .val (.int motions), .un, .un, .un, .un] (rs p l n)
  unfold t__law_scene s__law_scene_0
  simp_all!
  refine ⟨p, l, n, many, top, rfl, rfl, by omega, m0, m1, t0, by omega, fun ls n1 hls hlen hok hn1 => ?_⟩
  have minutes : ∀ (n2 : Nat) (k : D → ReelW.M → Prop), n2 < 2 ^ 50 → (∀ (ms : List Int) (n3 : Nat), AscI (-1) ms → (ms.length : Int) ≤ motions → (∀ m ∈ ms, m ≤ 500000000) → n3 ≤ n2 + 1000 → k (intsL ms) (rs p l n3)) → sp__law_minutes [.op (.ref p), .int motions, .int (2 * top)] (rs p l n2) k fun x μ' => Ed x μ' := fun n2 k h2 hk =>
    ⟨p, l, n2, motions, 2 * top, rfl, rfl, h2, o0, by omega, by omega, by omega, fun ms n3 ha hl hm h3 => hk ms n3 ha hl hm h3⟩
  have good : ∀ {x : Lamp} {ms : List Int}, LampOk top x → AscI (-1) ms → (ms.length : Int) ≤ motions → (∀ m ∈ ms, m ≤ 500000000) → VLog 599999900 (play x ms) := fun hx ha hl hm => by
    obtain ⟨q1, q2, q3⟩ := play_ok hx.1 (by decide) ha hm
    exact ⟨q1, fun s hs => by have := q2 s hs; have := hx.2; omega, by omega⟩
  unfold s__law_scene_1
  simp_all! [staL_lamp]
  refine minutes _ _ (by omega) fun ms n2 ha hml hmm hn2 => ?_
  refine ⟨sta_ints ms, ls, ms, _, rfl, .inl rfl, by omega, by omega, ?_⟩
  refine ⟨_, _, rfl, rfl, staL_map (fun _ => sta_log _) ls, ?_⟩
  have p0 : 0 < ls.length := List.length_pos_iff.mpr hls
  have loop : ∀ (tot : Nat) (rg : List D) (n0 : Nat), tot ≤ 2 → n0 ≤ n2 + 1 → IsRg 0 tot rg → loopD (dName 6) l__law_scene_2 { nx := s__law_scene_3 (fin R Ed), rt := R, ex := fun x x_1 μ' => Ed x μ' } rg [.val (.op (.ref p)), .val (.int many), .val (.int top), .val (.int motions), .val (.tup (ls.map lampD)), .own (ls.map fun x => logD (play x ms)), .un, .un] (rs p l n0) := fun tot rg n0 h2 h3 hrg => by
    refine loop_rg (Z := ReelW) hrg (fun i ρ μ => ∃ (gs : List Lg) (n' : Nat) (a b : Slot), ρ = [.val (.op (.ref p)), .val (.int many), .val (.int top), .val (.int motions), .val (.tup (ls.map lampD)), .own (gs.map logD), a, b] ∧ μ = rs p l n' ∧ gs.length = ls.length ∧ n' ≤ n0 + 1050 * i ∧ (∀ g ∈ gs, VLog (599999900 + 10 * i) g) ∧ ∀ (j : Nat) (x : Lamp) (g : Lg), ls[j]? = some x → gs[j]? = some g → (∀ s ∈ g, s.2 - s.1 ≤ x.2 * motions + 1 + 5 * i) ∧ (g.length : Int) ≤ motions + i) ?_ ?_ ⟨ls.map fun x => play x ms, n0, _, _, by rw [List.map_map]; rfl, rfl, by simp, by omega, fun g hg => ?_, fun j x g e1 e2 => ?_⟩
    · rintro i ρ μ N hi ⟨gs, n', a, b, rfl, rfl, hgs, hn', hv, hw⟩ hN
      have hi2 : i < 2 := by omega
      unfold l__law_scene_2 s__law_scene_2f_0
      simp_all! [q_spin, List.length_map]
      refine ⟨by omega, by omega, by omega, fun at' a0 a1 => ?_⟩
      obtain ⟨g, eg, mg', ig, ltg⟩ := at_natZ (xs := gs) a0 (by omega)
      obtain ⟨x, ex, mx, ix', _⟩ := at_natZ (xs := ls) a0 (by omega)
      have jx : ls[at'.toNat]? = some x := by
        unfold atI at ex
        rw [ix'] at ex
        exact ex
      have jg : gs[at'.toNat]? = some g := by
        unfold atI at eg
        rw [ig] at eg
        exact eg
      obtain ⟨hw0, hw1⟩ := hw _ _ _ jx jg
      have put : ∀ (g' : Lg) (n3 : Nat), VLog (599999900 + 10 * (i + 1 : Nat)) g' → (∀ s ∈ g', s.2 - s.1 ≤ x.2 * motions + 1 + 5 * (i + 1 : Nat)) → (g'.length : Int) ≤ motions + (i + 1 : Nat) → n3 ≤ n' + 1040 → N [.val (.op (.ref p)), .val (.int many), .val (.int top), .val (.int motions), .val (.tup (ls.map lampD)), .own ((gs.map logD).set at'.toNat (logD g')), .val (.int (0 + i)), .val (.int at')] (rs p l n3) := fun g' n3 hg' hw1 hw2 h3 => by
        refine hN _ _ ⟨gs.set at'.toNat g', n3, _, _, by rw [List.map_set], rfl, by simp [hgs], by omega, fun y hy => ?_, fun j y g2 e1 e2 => ?_⟩
        · rcases List.mem_or_eq_of_mem_set hy with z | z
          · exact (hv y z).mono (by omega)
          · rw [z]; exact hg'
        · by_cases hj : at'.toNat = j
          · subst hj
            rw [List.getElem?_set_self (by omega)] at e2
            cases e2
            rw [jx] at e1
            cases e1
            exact ⟨hw1, hw2⟩
          · rw [List.getElem?_set_ne hj] at e2
            obtain ⟨z1, z2⟩ := hw j y g2 e1 e2
            exact ⟨fun s hs => by have := z1 s hs; omega, by omega⟩
      unfold s__law_scene_2f_1 s__law_scene_2f_1a_0 s__law_scene_2f_1b_0
      simp_all! [q_spin, atI_map, ex, eg, Option.map_some, List.length_map, ig, q_set]
      refine ⟨by omega, fun m2 b0 b1 => ?_⟩
      split
      · refine minutes _ _ (by omega) fun ms2 n3 ha2 hml2 hmm2 hn3 => ?_
        refine ⟨⟨sta_lamp x, sta_ints ms2⟩, x, ms2, _, rfl, .inl rfl, by omega, sta_log _, put _ _ ((good (hok x mx) ha2 hml2 hmm2).mono (by omega)) (fun s hs => by have := play_len (hok x mx).1 hml2 s hs; omega) (by have := (play_ok (hok x mx).1 (M := 500000000) (by decide) ha2 hmm2).2.2; omega) (by omega)⟩
      · refine ⟨sta_log _, p, l, _, _, g, rfl, rfl, by omega, by omega, hv g mg', fun g' n3 hg' hg2 hg3 hn3 => ⟨sta_log _, put g' n3 (hg'.mono (by omega)) (fun s hs => by have := hg2 (x.2 * motions + 1 + 5 * i) (by have := (hok x mx).1; have := Int.mul_nonneg (show 0 ≤ x.2 by omega) o0; omega) hw0 s hs; omega) (by omega) (by omega)⟩⟩
    · rintro ρ μ ⟨gs, n', a, b, rfl, rfl, hgs, hn', hv, hw⟩
      unfold s__law_scene_3
      simp_all! [staL_lamp, staL_log]
      exact h ls gs n' hls hlen ⟨hgs, fun j x g e1 e2 => by obtain ⟨z1, z2⟩ := hw j x g e1 e2; exact ⟨fun s hs => by have := z1 s hs; omega, by omega⟩⟩ hok (fun g hg => (hv g hg).mono (by omega)) (by omega)
    · obtain ⟨x, hx, rfl⟩ := List.mem_map.mp hg
      exact (good (hok x hx) ha hml hmm).mono (by omega)
    · rw [List.getElem?_map, e1] at e2
      cases e2
      have hx := hok x (List.mem_of_getElem? e1)
      exact ⟨fun s hs => by have := play_len hx.1 hml s hs; omega, by
        show (((play x ms).length : Nat) : Int) ≤ motions + ((0 : Nat) : Int)
        have := (play_ok hx.1 (M := 500000000) (by decide) ha hmm).2.2; omega⟩
  unfold s__law_scene_2
  simp_all! [q_spin]
  exact ⟨by omega, fun rg hrg => loop 0 rg _ (by omega) (by omega) hrg, fun rg hrg => loop 0 rg _ (by omega) (by omega) hrg, fun rg hrg => loop 1 rg _ (by omega) (by omega) hrg, fun rg hrg => loop 2 rg _ (by omega) (by omega) hrg⟩
end
end RL
/-! text WR -/
/-! the indexes of the stretches that do not fit, as a law finds them -/
namespace RL
open PySem PySem.Spec PyProof.Rows L2 DL LP
theorem wrong_filter (l : Lamp) : ∀ (i : Int) (g : Lg), (enI i g).filterMap (fun p => if fitsB l p.2 = true then none else some (D.int p.1)) = (wrongI l i g).map D.int
  | _, [] => rfl
  | i, s :: g => by
    rw [enI, List.filterMap_cons, wrongI]
    have ih := wrong_filter l (i + 1) g
    by_cases hf : fitsB l s = true
    · simp only [hf, if_true]
      exact ih
    · have hf' : fitsB l s = false := by simpa using hf
      simp only [hf', Bool.false_eq_true, if_false, List.map_cons]
      rw [← ih]
theorem wrongI_mem {l : Lamp} : ∀ {i : Int} {g : Lg} {k : Int}, k ∈ wrongI l i g → i ≤ k ∧ k < i + g.length
  | i, s :: g, k, h => by
    unfold wrongI at h
    rw [List.length_cons]
    split at h
    · have := wrongI_mem h; omega
    · rcases List.mem_cons.mp h with e | e
      · omega
      · have := wrongI_mem e; omega
theorem wrongI_len {l : Lamp} : ∀ (i : Int) (g : Lg), (wrongI l i g).length ≤ g.length
  | _, [] => Nat.le_refl _
  | i, s :: g => by
    unfold wrongI
    rw [List.length_cons]
    have := wrongI_len (l := l) (i + 1) g
    split
    · omega
    · rw [List.length_cons]; omega
/-- a log that a law of the reel asks about -/
structure LogOk (g : Lg) : Prop where
  len : g.length ≤ 100
  ok : ∀ s ∈ g, s.1 < s.2 ∧ -10000000000 ≤ s.1 ∧ s.2 ≤ 10000000000
theorem LogOk.bp {g : Lg} (h : LogOk g) : ∀ s ∈ g, BP s := fun s hs => by
  have := h.ok s hs
  exact ⟨by unfold BI; omega, by unfold BI; omega⟩
theorem VLog.ok {b : Int} {g : Lg} (h : VLog b g) (hb : b ≤ 10000000000) : LogOk g := ⟨by have := h.len; omega, fun s hs => by have := h.mem hs; omega⟩
theorem tm_wrong {l : Lamp} {g : Lg} (h : LogOk g) : DL.Tm 101 1 (intsT (wrongI l 0 g)) :=
  (tm_intsT 100 (fun k hk => by have := wrongI_mem hk; have := h.len; unfold BI; omega) (by have := wrongI_len (l := l) 0 g; have := h.len; omega)).mono (by omega) (by omega)
end RL
/-! text LX -/
/-! small things about numbers and lists -/
namespace LP
open PySem PySem.Spec PyProof.Rows L2 DL
section
variable {Z : Wld} {R : D → Z.M → Prop} {E : Xc → Z.M → Prop} {μ : Z.M}
theorem sm60 {i j : Int} (h : -(2 ^ 64) < i) (h2 : i < 2 ^ 64) : CMul i j ∨ CMulW i j := .inl (.inl ⟨h, h2⟩)
theorem sm61 {i j : Int} (h : -(2 ^ 64) < j) (h2 : j < 2 ^ 64) : CMul i j ∨ CMulW i j := .inl (.inr ⟨h, h2⟩)
theorem dv60 {i j : Int} (h : 0 < j) (h2 : j < 2 ^ 64) : CDivW i j := wide_div (b := 64) h (by omega) (by decide) (by decide)
theorem mul_bit {xs : List D} {b : Bool} {R : D → Prop} (h : xs.length ≤ sizeLine) (q : R (.lst (if b = true then xs else []))) : smMul (.lst xs) (.int (if b = true then 1 else 0)) R := by
  have szz : sizeLine = 16777216 := rfl
  cases b with
  | true => exact ⟨xs, rfl, by decide, by decide, by simpa using h, by simpa using q⟩
  | false => exact ⟨xs, rfl, by decide, by decide, by simp, by simpa using q⟩
theorem cut_last {α : Type} (xs : List α) (x : α) : cutL (xs ++ [x]) none (some (-1)) = xs := by
  unfold cutL HT.sIx
  simp
  rw [show (-1 + ((xs.length : Int) + 1)).toNat = xs.length by omega, List.take_left]
theorem rev_len (g : Lg) : (g.reverse.map pD).length = g.length := by simp
end
end LP
/-! text SAs -/
/-! facts.py: sure minutes, quiet spans, calls (specs) -/
namespace LP
open PySem PySem.Spec PyProof.Rows L2 DL
def unexX (r : D) : Xc := ⟨"Unexplained", [("reason", r)]⟩
/-- a log of which each stretch fits answers; otherwise its first wrong stretch is told -/
def fitOr {Z : Wld} (l : Lamp) (g : Lg) (ok : Prop) (Ed : Xc → Z.M → Prop) (μ : Z.M) : Prop := match wrongI l 0 g with
  | [] => ok
  | w :: _ => Ed (unexX (.tup [.str "stretch", .int 0, .int w])) μ
def LampP (l : Lamp) : Prop := 0 < l.2 ∧ l.2 < 2 ^ 60
def runI (l : Lamp) (s : Int × Int) : Rn := if s.2 - l.2 = s.1 then (s.1, 1, 1) else if l.1 = true then (s.1, s.2 - l.2 - s.1, 2) else (s.1, l.2, (s.2 - s.1) / l.2)
def lastI (l : Lamp) (s : Int × Int) : Int := if l.1 = true then s.2 - l.2 else min (s.2 - 1) 1000000000
def quietI (l : Lamp) : Int → Lg → Lg
  | first, [] => if first ≤ 1000000000 then [(first, 1000000000)] else []
  | first, s :: g => (if first < s.1 then [(first, s.1 - 1)] else []) ++ quietI l (lastI l s + 1) g
def callsI (l : Lamp) (g : Lg) : Lg := if l.1 = true then (g.map fun s => (s.1, s.2 - l.2)).filter fun p => decide (l.2 ≤ p.2 - p.1 + 1) else []
section
variable {Z : Wld}
def sp_require_fit : SpD Z := fun ds μ R Ed => ∃ l g, ds = [lampD l, logD g] ∧ LampP l ∧ g.length ≤ 10000 ∧ fitOr l g (R .non μ) Ed μ
def sp_run_of : SpD Z := fun ds μ R _ => ∃ l s, ds = [lampD l, pD s] ∧ LampP l ∧ R (rnD (runI l s)) μ
def sp_sure_runs : SpD Z := fun ds μ R Ed => ∃ l g, ds = [lampD l, logD g] ∧ LampP l ∧ g.length ≤ 10000 ∧ fitOr l g (R (runsD (g.map (runI l))) μ) Ed μ
def sp_last_possible : SpD Z := fun ds μ R _ => ∃ l s, ds = [lampD l, pD s] ∧ R (.int (lastI l s)) μ
def sp_quiet_spans : SpD Z := fun ds μ R Ed => ∃ l g, ds = [lampD l, logD g] ∧ LampP l ∧ g.length ≤ 10000 ∧ fitOr l g (R (logD (quietI l 0 g)) μ) Ed μ
def sp_call_spans : SpD Z := fun ds μ R Ed => ∃ l g, ds = [lampD l, logD g] ∧ LampP l ∧ g.length ≤ 10000 ∧ fitOr l g (R (logD (callsI l g)) μ) Ed μ
end
end LP
/-! text SAt -/
/-! readings of defs that several laws share: printed by gen/mkshared.py -/
namespace LP
open PySem PySem.Spec PyProof.Rows L2 DL LP
def N_require_fit : List Str := ["lamp", "log", "wrong"]
def ps_require_fit : List Str := ["lamp", "log"]
def s_require_fit_0 {Z : Wld} : DTS Z :=
  (dsAsg (dCall sp_wrong_stretches (dCons (dVar 0) (dCons (dVar 1) dNil))) (dName 2))
def s_require_fit_1a_0 {Z : Wld} : DTS Z :=
  (dsRaise "Unexplained" "reason" (dTup (dCons (dC (.str "stretch")) (dCons (dC (.int 0)) (dCons (d2 smIx (dVar 2) (dC (.int 0))) dNil)))))
def s_require_fit_1 {Z : Wld} : DTS Z :=
  (dsIf (dB (d2 smNe (dVar 2) (dTup dNil))) s_require_fit_1a_0 dsNext)
def t_require_fit {Z : Wld} : DTS Z :=
  (dsSeq s_require_fit_0
    s_require_fit_1)
def N_run_of : List Str := ["lamp", "stretch", "kind", "stay", "on", "off"]
def ps_run_of : List Str := ["lamp", "stretch"]
def s_run_of_0 {Z : Wld} : DTS Z :=
  (dsAsg (dVar 0) (dgTup 2 (dgCons (dName 2) (dgCons (dName 3) dgNil))))
def s_run_of_1 {Z : Wld} : DTS Z :=
  (dsAsg (dVar 1) (dgTup 2 (dgCons (dName 4) (dgCons (dName 5) dgNil))))
def s_run_of_2a_0 {Z : Wld} : DTS Z :=
  (dsRet (dTup (dCons (dVar 4) (dCons (dC (.int 1)) (dCons (dC (.int 1)) dNil)))))
def s_run_of_2 {Z : Wld} : DTS Z :=
  (dsIf (dB (d2 smEq (d2 smSub (dVar 5) (dVar 3)) (dVar 4))) s_run_of_2a_0 dsNext)
def s_run_of_3 {Z : Wld} : DTS Z :=
  (dsRet (dIf (dB (d2 smEq (dVar 2) (dC (.str "hold")))) (dTup (dCons (dVar 4) (dCons (d2 smSub (d2 smSub (dVar 5) (dVar 3)) (dVar 4)) (dCons (dC (.int 2)) dNil)))) (dTup (dCons (dVar 4) (dCons (dVar 3) (dCons (d2 smDiv (d2 smSub (dVar 5) (dVar 4)) (dVar 3)) dNil))))))
def t_run_of {Z : Wld} : DTS Z :=
  (dsSeq s_run_of_0
    (dsSeq s_run_of_1
    (dsSeq s_run_of_2
    s_run_of_3)))
def N_sure_runs : List Str := ["lamp", "log", "stretch"]
def ps_sure_runs : List Str := ["lamp", "log"]
def s_sure_runs_0 {Z : Wld} : DTS Z :=
  (dsDrop (dCall sp_require_fit (dCons (dVar 0) (dCons (dVar 1) dNil))))
def s_sure_runs_1 {Z : Wld} : DTS Z :=
  (dsRet (dL smTuple (dCons (dFrz (dComp (dSeqC (dVar 1)) (dName 2) dYes (dCall sp_run_of (dCons (dVar 0) (dCons (dVar 2) dNil))) [2])) dNil)))
def t_sure_runs {Z : Wld} : DTS Z :=
  (dsSeq s_sure_runs_0
    s_sure_runs_1)
def N_last_possible : List Str := ["lamp", "stretch", "kind", "stay"]
def ps_last_possible : List Str := ["lamp", "stretch"]
def s_last_possible_0 {Z : Wld} : DTS Z :=
  (dsAsg (dVar 0) (dgTup 2 (dgCons (dName 2) (dgCons (dName 3) dgNil))))
def s_last_possible_1 {Z : Wld} : DTS Z :=
  (dsRet (dIf (dB (d2 smEq (dVar 2) (dC (.str "hold")))) (d2 smSub (d2 smIx (dVar 1) (dC (.int 1))) (dVar 3)) (dL smMin2 (dCons (d2 smSub (d2 smIx (dVar 1) (dC (.int 1))) (dC (.int 1))) (dCons (dC (.int 1000000000)) dNil)))))
def t_last_possible {Z : Wld} : DTS Z :=
  (dsSeq s_last_possible_0
    s_last_possible_1)
def N_quiet_spans : List Str := ["lamp", "log", "found", "first", "stretch"]
def ps_quiet_spans : List Str := ["lamp", "log"]
def s_quiet_spans_0 {Z : Wld} : DTS Z :=
  (dsDrop (dCall sp_require_fit (dCons (dVar 0) (dCons (dVar 1) dNil))))
def s_quiet_spans_1 {Z : Wld} : DTS Z :=
  (dsPar2 2 3 (dpF (dLst dNil) (dpE (dC (.int 0)) dpNil)))
def s_quiet_spans_2f_0a_0 {Z : Wld} : DTS Z :=
  (dsApp 2 (dTup (dCons (dVar 3) (dCons (d2 smSub (d2 smIx (dVar 4) (dC (.int 0))) (dC (.int 1))) dNil))))
def s_quiet_spans_2f_0 {Z : Wld} : DTS Z :=
  (dsIf (dB (d2 smLt (dVar 3) (d2 smIx (dVar 4) (dC (.int 0))))) s_quiet_spans_2f_0a_0 dsNext)
def s_quiet_spans_2f_1 {Z : Wld} : DTS Z :=
  (dsAsg (d2 smAdd (dCall sp_last_possible (dCons (dVar 0) (dCons (dVar 4) dNil))) (dC (.int 1))) (dName 3))
def l_quiet_spans_2 {Z : Wld} : DTS Z :=
  (dsSeq s_quiet_spans_2f_0
    s_quiet_spans_2f_1)
def s_quiet_spans_2 {Z : Wld} : DTS Z :=
  (dsFor (dSeq (dVar 1)) (dName 4)
   l_quiet_spans_2)
def s_quiet_spans_3a_0 {Z : Wld} : DTS Z :=
  (dsApp 2 (dTup (dCons (dVar 3) (dCons (dC (.int 1000000000)) dNil))))
def s_quiet_spans_3 {Z : Wld} : DTS Z :=
  (dsIf (dB (d2 smLe (dVar 3) (dC (.int 1000000000)))) s_quiet_spans_3a_0 dsNext)
def s_quiet_spans_4 {Z : Wld} : DTS Z :=
  (dsRet (dL smTuple (dCons (dVar 2) dNil)))
def t_quiet_spans {Z : Wld} : DTS Z :=
  (dsSeq s_quiet_spans_0
    (dsSeq s_quiet_spans_1
    (dsSeq s_quiet_spans_2
    (dsSeq s_quiet_spans_3
    s_quiet_spans_4))))
def N_call_spans : List Str := ["lamp", "log", "kind", "stay", "spans", "on", "off", "first", "last"]
def ps_call_spans : List Str := ["lamp", "log"]
def s_call_spans_0 {Z : Wld} : DTS Z :=
  (dsDrop (dCall sp_require_fit (dCons (dVar 0) (dCons (dVar 1) dNil))))
def s_call_spans_1 {Z : Wld} : DTS Z :=
  (dsAsg (dVar 0) (dgTup 2 (dgCons (dName 2) (dgCons (dName 3) dgNil))))
def s_call_spans_2 {Z : Wld} : DTS Z :=
  (dsAsg (dFrz (dComp (dSeqC (dVar 1)) (dgTup 2 (dgCons (dName 5) (dgCons (dName 6) dgNil))) (dB (d2 smEq (dVar 2) (dC (.str "hold")))) (dTup (dCons (dVar 5) (dCons (d2 smSub (dVar 6) (dVar 3)) dNil))) [5, 6])) (dName 4))
def s_call_spans_3 {Z : Wld} : DTS Z :=
  (dsRet (dL smTuple (dCons (dFrz (dComp (dSeqC (dVar 4)) (dgTup 2 (dgCons (dName 7) (dgCons (dName 8) dgNil))) (dB (d2 smGe (d2 smAdd (d2 smSub (dVar 8) (dVar 7)) (dC (.int 1))) (dVar 3))) (dTup (dCons (dVar 7) (dCons (dVar 8) dNil))) [7, 8])) dNil)))
def t_call_spans {Z : Wld} : DTS Z :=
  (dsSeq s_call_spans_0
    (dsSeq s_call_spans_1
    (dsSeq s_call_spans_2
    s_call_spans_3)))
end LP
/-! text SAp -/
namespace LP
open PySem PySem.Spec PyProof.Rows L2 DL
section
variable {Z : Wld} (ds : List D) (μ : Z.M) (R : D → Z.M → Prop) (Ed : Xc → Z.M → Prop)
theorem fitOr_mono {l : Lamp} {g : Lg} {p q : Prop} (h : fitOr (Z := Z) l g p Ed μ) (k : p → q) : fitOr (Z := Z) l g q Ed μ := by
  unfold fitOr at h ⊢
  split at h
  · exact k h
  · exact h
theorem wrongI_nil {l : Lamp} : ∀ {i : Int} {g : Lg}, wrongI l i g = [] → ∀ s ∈ g, fitsB l s = true
  | i, x :: g, h, s, hs => by
    rw [wrongI] at h
    split at h
    · rename_i hf
      rcases List.mem_cons.mp hs with e | e
      · rw [e]; exact hf
      · exact wrongI_nil h s e
    · cases h
theorem pure_require_fit (hl : ds.length = ps_require_fit.length) (hs : sp_require_fit ds μ R Ed) (st : staL ds = true) : t_require_fit (fin R Ed) (startD N_require_fit ds) μ := by
  obtain ⟨l, g, rfl, hp, hn, h⟩ := hs
  show t_require_fit (fin R Ed) [.val (lampD l), .val (logD g), .un] μ
  unfold t_require_fit s_require_fit_0
  simp_all! [sta_lamp, sta_log]
  refine ⟨l, g, rfl, hp.1, hn, ?_⟩
  unfold s_require_fit_1 s_require_fit_1a_0 intsT
  simp_all! [staL_ints]
  unfold fitOr at h
  cases e : wrongI l 0 g with
  | nil =>
    rw [e] at h
    simp_all! [List.map_nil, List.isEmpty_nil]
    exact h
  | cons w ws =>
    rw [e] at h
    simp_all! [List.map_cons, List.isEmpty_cons]
    exact h
theorem pure_run_of (hl : ds.length = ps_run_of.length) (hs : sp_run_of ds μ R Ed) (st : staL ds = true) : t_run_of (fin R Ed) (startD N_run_of ds) μ := by
  obtain ⟨⟨k, stay⟩, ⟨on, off⟩, rfl, hp, h⟩ := hs
  show t_run_of (fin R Ed) [.val (lampD (k, stay)), .val (pD (on, off)), .un, .un, .un, .un] μ
  unfold t_run_of s_run_of_0 s_run_of_1 s_run_of_2 s_run_of_2a_0 s_run_of_3 lampD pD
  simp_all! [kS_hold]
  unfold runI at h
  unfold LampP at hp
  dsimp only at h hp
  by_cases h1 : off - stay = on
  · rw [if_pos h1] at h
    rw [if_pos (by simpa using h1)]
    exact h
  · rw [if_neg h1] at h
    rw [if_neg (by simpa using h1)]
    cases k with
    | true => exact h
    | false => exact ⟨dv60 (by omega) (by omega), h⟩
theorem pure_sure_runs (hl : ds.length = ps_sure_runs.length) (hs : sp_sure_runs ds μ R Ed) (st : staL ds = true) : t_sure_runs (fin R Ed) (startD N_sure_runs ds) μ := by
  obtain ⟨l, g, rfl, hp, hn, h⟩ := hs
  show t_sure_runs (fin R Ed) [.val (lampD l), .val (logD g), .un] μ
  unfold t_sure_runs s_sure_runs_0
  simp_all! [sta_lamp, sta_log]
  refine ⟨l, g, rfl, hp, hn, fitOr_mono _ Ed h fun h => ?_⟩
  unfold s_sure_runs_1 logD
  simp_all! [staL_p, sta_lamp]
  refine comp_fun (Z := Z) pD (fun s => rnD (runI l s)) (by rw [szl]; omega) (fun s _ k k' hk => ?_) (fun _ _ => rfl) ?_
  · simp_all! [sta_p, sta_lamp]
    exact ⟨l, s, rfl, hp, hk⟩
  · have e : g.map (fun s => rnD (runI l s)) = (g.map (runI l)).map rnD := by rw [List.map_map]; rfl
    rw [e]
    simp_all! [staL_rn]
    exact h
theorem pure_last_possible (hl : ds.length = ps_last_possible.length) (hs : sp_last_possible ds μ R Ed) (st : staL ds = true) : t_last_possible (fin R Ed) (startD N_last_possible ds) μ := by
  obtain ⟨⟨k, stay⟩, ⟨on, off⟩, rfl, h⟩ := hs
  show t_last_possible (fin R Ed) [.val (lampD (k, stay)), .val (pD (on, off)), .un, .un] μ
  unfold t_last_possible s_last_possible_0 s_last_possible_1 lampD pD
  simp_all! [kS_hold]
  unfold lastI at h
  dsimp only at h
  cases k with
  | true => exact h
  | false => exact h
theorem quietI_len (l : Lamp) : ∀ (g : Lg) (first : Int), (quietI l first g).length ≤ g.length + 1
  | [], first => by unfold quietI; split <;> simp
  | s :: g, first => by
    have := quietI_len l g (lastI l s + 1)
    rw [quietI, List.length_append, List.length_cons]
    split <;> simp <;> omega
theorem pure_quiet_spans (hl : ds.length = ps_quiet_spans.length) (hs : sp_quiet_spans ds μ R Ed) (st : staL ds = true) : t_quiet_spans (fin R Ed) (startD N_quiet_spans ds) μ := by
  obtain ⟨l, g, rfl, hp, hn, h⟩ := hs
  show t_quiet_spans (fin R Ed) [.val (lampD l), .val (logD g), .un, .un, .un] μ
  unfold t_quiet_spans s_quiet_spans_0
  simp_all! [sta_lamp, sta_log]
  refine ⟨l, g, rfl, hp, hn, fitOr_mono _ Ed h fun h => ?_⟩
  unfold s_quiet_spans_1 s_quiet_spans_2 logD
  simp_all! [staL_p]
  refine loop_t (Z := Z) pD (fun rem ρ μ' => ∃ (found : Lg) (first : Int) (a : Slot), ρ = [.val (lampD l), .val (logD g), .own (found.map pD), .val (.int first), a] ∧ μ' = μ ∧ found ++ quietI l first rem = quietI l 0 g ∧ found.length + rem.length ≤ 10000) ?_ ?_ ⟨[], 0, _, rfl, rfl, rfl, by simpa using hn⟩
  · rintro ⟨on, off⟩ rem ρ μ' N ⟨found, first, a, rfl, rfl, e, hz⟩ hN
    simp only [List.length_cons] at hz
    unfold l_quiet_spans_2 s_quiet_spans_2f_0 s_quiet_spans_2f_0a_0 s_quiet_spans_2f_1 pD
    simp_all! [sta_lamp, List.length_map]
    rw [quietI] at e
    dsimp only at e
    by_cases h1 : first < on
    · rw [if_pos (decide_eq_true h1)]
      rw [if_pos h1] at e
      refine ⟨by omega, l, (on, off), rfl, ?_⟩
      simp_all!
      exact hN _ _ ⟨found ++ [(first, on - 1)], _, _, by rw [List.map_append]; rfl, rfl, by rw [List.append_assoc]; exact e, by simp; omega⟩
    · rw [if_neg (by simpa using h1)]
      rw [if_neg h1] at e
      refine ⟨l, (on, off), rfl, ?_⟩
      simp_all!
      exact hN _ _ ⟨found, _, _, rfl, rfl, e, by omega⟩
  · rintro ρ μ' ⟨found, first, a, rfl, rfl, e, hz⟩
    unfold s_quiet_spans_3 s_quiet_spans_3a_0 s_quiet_spans_4
    simp_all! [List.length_map, staL_p]
    rw [quietI] at e
    by_cases h1 : first ≤ 1000000000
    · rw [if_pos (decide_eq_true h1)]
      rw [if_pos h1] at e
      have e2 : found.map pD ++ [D.tup [.int first, .int 1000000000]] = (quietI l 0 g).map pD := by rw [← e, List.map_append]; rfl
      rw [e2]
      exact ⟨by simp at hz; omega, staL_p _, h⟩
    · rw [if_neg (by simpa using h1)]
      rw [if_neg h1, List.append_nil] at e
      rw [e]
      exact h
theorem callsI_len (l : Lamp) (g : Lg) : (callsI l g).length ≤ g.length := by
  unfold callsI
  split
  · exact Nat.le_trans (List.length_filter_le ..) (by simp)
  · simp
theorem pure_call_spans (hl : ds.length = ps_call_spans.length) (hs : sp_call_spans ds μ R Ed) (st : staL ds = true) : t_call_spans (fin R Ed) (startD N_call_spans ds) μ := by
  obtain ⟨⟨k, stay⟩, g, rfl, hp, hn, h⟩ := hs
  show t_call_spans (fin R Ed) [.val (lampD (k, stay)), .val (logD g), .un, .un, .un, .un, .un, .un, .un] μ
  unfold t_call_spans s_call_spans_0
  simp_all! [sta_lamp, sta_log]
  refine ⟨(k, stay), g, rfl, hp, hn, fitOr_mono _ Ed h fun h => ?_⟩
  unfold s_call_spans_1 s_call_spans_2 lampD logD
  simp_all!
  refine comp_opt (Z := Z) pD (fun s => if k = true then some (pD (s.1, s.2 - stay)) else none) (by rw [szl]; omega) (fun s _ kk kk' hk => ?_) (fun s _ y hy => ?_) ?_
  · unfold pD
    simp_all! [kS_hold]
    split
    · rename_i h1; rw [if_pos h1] at hk; exact hk
    · rename_i h1; rw [if_neg h1] at hk; exact hk
  · split at hy
    · cases hy; rfl
    · cases hy
  have e : g.filterMap (fun s => if k = true then some (pD (s.1, s.2 - stay)) else none) = (if k = true then g.map fun s => (s.1, s.2 - stay) else []).map pD := by
    cases k with
    | true => simp
    | false => simp
  rw [e]
  unfold s_call_spans_3
  simp_all! [staL_p]
  refine comp_opt (Z := Z) pD (fun p => if stay ≤ p.2 - p.1 + 1 then some (pD p) else none) (by rw [szl]; split <;> simp; omega) (fun p _ kk kk' hk => ?_) (fun p _ y hy => ?_) ?_
  · unfold pD
    simp_all!
    split
    · rename_i h1; rw [if_pos (by simpa using h1)] at hk; exact hk
    · rename_i h1; rw [if_neg (by simpa using h1)] at hk; exact hk
  · split at hy
    · cases hy; rfl
    · cases hy
  have e2 : (if k = true then g.map fun s => (s.1, s.2 - stay) else []).filterMap (fun p => if stay ≤ p.2 - p.1 + 1 then some (pD p) else none) = (callsI (k, stay) g).map pD := by
    unfold callsI
    cases k with
    | false => simp
    | true =>
      simp only [if_true, ite_true]
      generalize g.map (fun s => (s.1, s.2 - stay)) = ps
      induction ps with
      | nil => rfl
      | cons p ps ih =>
        rw [List.filterMap_cons, List.filter_cons]
        by_cases h1 : stay ≤ p.2 - p.1 + 1
        · simp only [if_pos h1, decide_eq_true h1, if_true, List.map_cons]
          rw [ih]
        · simp only [if_neg h1, decide_eq_false h1, Bool.false_eq_true, if_false]
          exact ih
  rw [e2]
  simp_all! [staL_p]
  exact h
end
end LP
/-! text LAs -/
/-! lamps.py: logs of motions (specs); a log is kept with its last stretch ahead -/
namespace LP
open PySem PySem.Spec PyProof.Rows L2 DL
def putU (rev : Lg) (on off : Int) : Lg := match rev with
  | [] => [(on, off)]
  | (a, b) :: t => if on ≤ b then (a, max b off) :: t else (on, off) :: (a, b) :: t
def endOf (r : Rn) : Int := r.1 + r.2.1 * (r.2.2 - 1)
/-- one motion more -/
def stepU (k : Bool) (stay : Int) (rev : Lg) (m : Int) : Lg := if k = true then putU rev m (m + stay) else match rev with
  | [] => [(m, m + stay)]
  | (a, b) :: t => if m < b then (a, b) :: t else putU ((a, b) :: t) m (m + stay)
def stepsU (k : Bool) (stay first step : Int) : Nat → Lg → Lg
  | 0, rev => rev
  | n + 1, rev => stepU k stay (stepsU k stay first step n rev) (first + step * n)
def runU (k : Bool) (stay : Int) (rev : Lg) (r : Rn) : Lg := stepsU k stay r.1 r.2.1 r.2.2.toNat rev
def logU (k : Bool) (stay : Int) (rs : List Rn) : Lg := rs.foldl (runU k stay) []
/-- the last stretch ends at b at the latest -/
def offLe (rev : Lg) (b : Int) : Prop := ∀ s, rev.head? = some s → s.2 ≤ b
structure GoodR (r : Rn) : Prop where
  lo : -(2 ^ 60) < r.1
  hi : r.1 < 2 ^ 60
  s1 : 1 ≤ r.2.1
  s2 : r.2.1 < 2 ^ 60
  c1 : 1 ≤ r.2.2
  c2 : r.2.2 < 2 ^ 60
def AscN : Int → List Rn → Prop
  | _, [] => True
  | last, r :: rs => last < r.1 ∧ AscN (endOf r) rs
def tooL : Xc := ⟨"TooLarge", [("limit", .int 60)]⟩
section
variable {Z : Wld}
def ansL (o : Lg) (R : D → Z.M → Prop) (Ed : Xc → Z.M → Prop) (μ : Z.M) : Prop := if o.length ≤ 60 then R (logD o.reverse) μ else Ed tooL μ
def sp_end_of : SpD Z := fun ds μ R _ => ∃ r, ds = [rnD r] ∧ GoodR r ∧ R (.int (endOf r)) μ
def sp_lengthened : SpD Z := fun ds μ R Ed => ∃ rev on off, ds = [logD rev.reverse, .int on, .int off] ∧ rev.length ≤ 60 ∧ ansL (Z := Z) (putU rev on off) R Ed μ
def sp_after_hold : SpD Z := fun ds μ R Ed => ∃ rev r stay, ds = [logD rev.reverse, rnD r, .int stay] ∧ rev.length ≤ 60 ∧ GoodR r ∧ 1 ≤ stay ∧ stay < 2 ^ 60 ∧ offLe rev (r.1 + stay) ∧ ansL (Z := Z) (runU true stay rev r) R Ed μ
def sp_after_pulse : SpD Z := fun ds μ R Ed => ∃ rev r stay, ds = [logD rev.reverse, rnD r, .int stay] ∧ rev.length ≤ 60 ∧ GoodR r ∧ 1 ≤ stay ∧ stay < 2 ^ 60 ∧ offLe rev (r.1 + stay) ∧ ansL (Z := Z) (runU false stay rev r) R Ed μ
def sp_log_of : SpD Z := fun ds μ R Ed => ∃ (l : Lamp) (rs : List Rn), ds = [lampD l, runsD rs] ∧ 1 ≤ l.2 ∧ l.2 < 2 ^ 60 ∧ (∀ r ∈ rs, GoodR r) ∧ (∃ a, AscN a rs) ∧ ansL (Z := Z) (logU l.1 l.2 rs) R Ed μ
end
end LP
/-! text LAq -/
/-! logs of motions: plain laws -/
namespace LP
open PySem DL
theorem putU_ge (rev : Lg) (on off : Int) : rev.length ≤ (putU rev on off).length := by
  unfold putU
  split
  · simp
  · split <;> simp
theorem putU_le (rev : Lg) (on off : Int) : (putU rev on off).length ≤ rev.length + 1 := by
  unfold putU
  split
  · simp
  · split <;> simp
theorem stepU_true (stay : Int) (rev : Lg) (m : Int) : stepU true stay rev m = putU rev m (m + stay) := by simp [stepU]
theorem stepU_ge (k : Bool) (stay : Int) (rev : Lg) (m : Int) : rev.length ≤ (stepU k stay rev m).length := by
  unfold stepU
  split
  · exact putU_ge ..
  · split
    · simp
    · split
      · exact Nat.le_refl _
      · exact putU_ge ..
theorem stepsU_ge (k : Bool) (stay first step : Int) (rev : Lg) : ∀ n, rev.length ≤ (stepsU k stay first step n rev).length
  | 0 => Nat.le_refl _
  | n + 1 => Nat.le_trans (stepsU_ge k stay first step rev n) (stepU_ge ..)
theorem stepsU_mono (k : Bool) (stay first step : Int) (rev : Lg) (n : Nat) : ∀ m, (stepsU k stay first step n rev).length ≤ (stepsU k stay first step (n + m) rev).length
  | 0 => Nat.le_refl _
  | m + 1 => Nat.le_trans (stepsU_mono k stay first step rev n m) (stepU_ge ..)
theorem runU_ge (k : Bool) (stay : Int) (rev : Lg) (r : Rn) : rev.length ≤ (runU k stay rev r).length := stepsU_ge ..
theorem runsU_ge (k : Bool) (stay : Int) : ∀ (rs : List Rn) (rev : Lg), rev.length ≤ (rs.foldl (runU k stay) rev).length
  | [], _ => Nat.le_refl _
  | r :: rs, rev => Nat.le_trans (runU_ge k stay rev r) (runsU_ge k stay rs _)
theorem stepsU_add (k : Bool) (stay first step : Int) (a : Nat) (rev : Lg) : ∀ b : Nat, stepsU k stay first step (a + b) rev = stepsU k stay (first + step * a) step b (stepsU k stay first step a rev)
  | 0 => rfl
  | b + 1 => by
    show stepU k stay (stepsU k stay first step (a + b) rev) (first + step * ((a + b : Nat) : Int)) = stepU k stay (stepsU k stay (first + step * a) step b (stepsU k stay first step a rev)) (first + step * a + step * b)
    rw [stepsU_add k stay first step a rev b, Int.natCast_add, Int.mul_add, Int.add_assoc]
theorem putU_putU {rev : Lg} {on off on' off' : Int} (h : on' ≤ off) (h2 : off ≤ off') : putU (putU rev on off) on' off' = putU rev on off' := by
  cases rev with
  | nil => simp only [putU, if_pos h]; rw [Int.max_eq_right h2]
  | cons s t =>
    obtain ⟨a, b⟩ := s
    by_cases h1 : on ≤ b
    · simp only [putU, if_pos h1]
      rw [if_pos (by omega)]
      congr 2
      omega
    · simp only [putU, if_neg h1, if_pos h]
      rw [Int.max_eq_right h2]
/-- close motions make one stretch -/
theorem steps_close {stay first step : Int} {rev : Lg} (h : step ≤ stay) (h0 : 0 ≤ step) : ∀ n : Nat, stepsU true stay first step (n + 1) rev = putU rev first (first + step * n + stay)
  | 0 => by simp [stepsU, stepU_true]
  | n + 1 => by
    show stepU true stay (stepsU true stay first step (n + 1) rev) (first + step * ((n + 1 : Nat) : Int)) = _
    rw [steps_close h h0 n, stepU_true]
    have e : step * ((n + 1 : Nat) : Int) = step * n + step := by rw [Int.natCast_add, Int.mul_add]; simp
    rw [e]
    exact putU_putU (by omega) (by omega)
theorem off_put {rev : Lg} {on off : Int} (h : offLe rev off) : ∃ a t, putU rev on off = (a, off) :: t := by
  cases rev with
  | nil => exact ⟨_, _, rfl⟩
  | cons s t =>
    obtain ⟨a, b⟩ := s
    have hb : b ≤ off := h _ rfl
    by_cases h1 : on ≤ b
    · exact ⟨a, t, by simp only [putU, if_pos h1]; rw [Int.max_eq_right hb]⟩
    · exact ⟨on, (a, b) :: t, by simp only [putU, if_neg h1]⟩
/-- motions far from one another make a stretch each -/
theorem steps_far {stay first step : Int} {rev : Lg} (h : stay < step) (hr : offLe rev (first + stay)) : ∀ n : Nat, n + 1 ≤ (stepsU true stay first step (n + 1) rev).length ∧ ∃ a t, stepsU true stay first step (n + 1) rev = (a, first + step * n + stay) :: t
  | 0 => by
    obtain ⟨a, t, e⟩ := off_put (on := first) hr
    have e2 : stepsU true stay first step 1 rev = (a, first + stay) :: t := by simp [stepsU, stepU_true, e]
    rw [e2]
    exact ⟨by simp, a, t, by simp⟩
  | n + 1 => by
    obtain ⟨h1, a, t, e⟩ := steps_far (first := first) (rev := rev) h hr n
    have e3 : stepsU true stay first step (n + 1 + 1) rev = stepU true stay (stepsU true stay first step (n + 1) rev) (first + step * ((n + 1 : Nat) : Int)) := rfl
    have em : step * ((n + 1 : Nat) : Int) = step * n + step := by rw [Int.natCast_add, Int.mul_add]; simp
    rw [e3, stepU_true, em]
    rw [e] at h1 ⊢
    have : ¬ first + (step * n + step) ≤ first + step * n + stay := by omega
    simp only [putU, if_neg this]
    exact ⟨by simp at h1 ⊢; omega, _, _, rfl⟩
/-- sixty-two turns are enough -/
theorem steps_62 {stay first step : Int} {rev : Lg} (h : stay < step) (hr : offLe rev (first + stay)) (n : Nat) (hn : 62 ≤ n) : 60 < (stepsU true stay first step 62 rev).length ∧ 60 < (stepsU true stay first step n rev).length := by
  have h1 : 62 ≤ (stepsU true stay first step 62 rev).length := (steps_far (first := first) (rev := rev) h hr 61).1
  have h2 := stepsU_mono true stay first step rev 62 (n - 62)
  rw [show 62 + (n - 62) = n by omega] at h2
  exact ⟨by omega, by omega⟩
/-- a lit pulse lamp is not touched -/
theorem steps_skip {stay first step a b : Int} {t : Lg} : ∀ n : Nat, (∀ i : Nat, i < n → first + step * i < b) → stepsU false stay first step n ((a, b) :: t) = (a, b) :: t
  | 0, _ => rfl
  | n + 1, h => by
    show stepU false stay (stepsU false stay first step n ((a, b) :: t)) (first + step * n) = _
    rw [steps_skip n fun i hi => h i (by omega)]
    simp [stepU, h n (by omega)]
theorem stepU_false {stay m : Int} {rev : Lg} (h : offLe rev m) : stepU false stay rev m = putU rev m (m + stay) := by
  cases rev with
  | nil => rfl
  | cons s t =>
    obtain ⟨a, b⟩ := s
    have hb : b ≤ m := h _ rfl
    simp [stepU, show ¬ m < b by omega]
/-- pulses are motions of a hold lamp at a wider step -/
theorem pulse_hold {stay step : Int} {e : Nat} (hs : 1 ≤ stay) (h0 : 1 ≤ step) (he : 1 ≤ e) (h1 : step * ((e : Int) - 1) < stay) (h2 : stay ≤ step * e) : ∀ (N c : Nat) (first : Int) (rev : Lg), c ≤ N → offLe rev first → stepsU false stay first step c rev = stepsU true stay first (step * e) ((c + e - 1) / e) rev := by
  intro N
  induction N with
  | zero =>
    intro c first rev hc _
    have : c = 0 := by omega
    subst this
    rw [show (0 + e - 1) / e = 0 from Nat.div_eq_of_lt (by omega)]
    rfl
  | succ N ih =>
    intro c first rev hc ho
    by_cases hz : c = 0
    · subst hz
      rw [show (0 + e - 1) / e = 0 from Nat.div_eq_of_lt (by omega)]
      rfl
    · obtain ⟨a, t, ep⟩ := off_put (rev := rev) (on := first) (off := first + stay) fun s hs' => by have := ho s hs'; omega
      have es1 : stepsU false stay first step 1 rev = (a, first + stay) :: t := by
        show stepU false stay rev (first + step * ((0 : Nat) : Int)) = _
        rw [show first + step * ((0 : Nat) : Int) = first by simp, stepU_false ho, ep]
      have et1 : stepsU true stay first (step * e) 1 rev = (a, first + stay) :: t := by
        show stepU true stay rev (first + (step * e) * ((0 : Nat) : Int)) = _
        rw [show first + (step * e) * ((0 : Nat) : Int) = first by simp, stepU_true, ep]
      have sk : ∀ n : Nat, n ≤ e - 1 → stepsU false stay first step (1 + n) rev = (a, first + stay) :: t := fun n hn => by
        rw [stepsU_add, es1]
        refine steps_skip n fun i hi => ?_
        have k1 : step * ((i : Int) + 1) ≤ step * ((e : Int) - 1) := Int.mul_le_mul_of_nonneg_left (by omega) (by omega)
        rw [Int.mul_add] at k1
        simp at k1 ⊢
        omega
      by_cases hce : c ≤ e
      · have ec : c = 1 + (c - 1) := by omega
        rw [ec, sk (c - 1) (by omega), show (1 + (c - 1) + e - 1) / e = 1 from Nat.div_eq_of_lt_le (by omega) (by omega), et1]
      · have ec : c = e + (c - e) := by omega
        have ee : e = 1 + (e - 1) := by omega
        have e1 : stepsU false stay first step e rev = (a, first + stay) :: t := by
          have := sk (e - 1) (Nat.le_refl _)
          rwa [← ee] at this
        have em : (c + e - 1) / e = 1 + (c - e + e - 1) / e := by
          rw [show c + e - 1 = (c - e + e - 1) + e by omega, Nat.add_div_right _ (by omega), Nat.add_comm]
        rw [em, stepsU_add, et1]
        conv => lhs; rw [ec]
        rw [stepsU_add, e1]
        have := ih (c - e) (first + step * e) ((a, first + stay) :: t) (by omega) fun s hs' => by cases hs'; show first + stay ≤ _; omega
        rw [this]
        congr 1
        simp
theorem offLe_put {rev : Lg} {on off b : Int} (h : offLe rev b) (h2 : off ≤ b) : offLe (putU rev on off) b := by
  intro s hs
  cases rev with
  | nil => cases hs; exact h2
  | cons x t =>
    obtain ⟨u, v⟩ := x
    have hv : v ≤ b := h _ rfl
    unfold putU at hs
    dsimp only at hs
    split at hs
    · cases hs
      show max v off ≤ b
      omega
    · cases hs
      exact h2
theorem offLe_step {k : Bool} {stay m b : Int} {rev : Lg} (h : offLe rev b) (h2 : m + stay ≤ b) : offLe (stepU k stay rev m) b := by
  unfold stepU
  split
  · exact offLe_put h h2
  · split
    · intro s hs; cases hs; exact h2
    · split
      · exact h
      · exact offLe_put h h2
theorem offLe_steps {k : Bool} {stay first step b : Int} {rev : Lg} (h : offLe rev b) : ∀ n : Nat, (∀ i : Nat, i < n → first + step * i + stay ≤ b) → offLe (stepsU k stay first step n rev) b
  | 0, _ => h
  | n + 1, h2 => offLe_step (offLe_steps h n fun i hi => h2 i (by omega)) (h2 n (by omega))
theorem offLe_run {k : Bool} {stay : Int} {r : Rn} {rev : Lg} (g : GoodR r) (h : offLe rev (r.1 + stay)) : offLe (runU k stay rev r) (endOf r + stay) := by
  have hc := g.c1
  have hs := g.s1
  refine offLe_steps (fun s hs' => ?_) _ fun i hi => ?_
  · have := h s hs'
    have : 0 ≤ r.2.1 * (r.2.2 - 1) := Int.mul_nonneg (by omega) (by omega)
    unfold endOf
    omega
  · have : r.2.1 * (i : Int) ≤ r.2.1 * (r.2.2 - 1) := Int.mul_le_mul_of_nonneg_left (by omega) (by omega)
    unfold endOf
    omega
end LP
namespace LP
open PySem PySem.Spec PyProof.Rows L2 DL
/-- the minutes of a run -/
def motF (f s : Int) : Nat → List Int
  | 0 => []
  | n + 1 => f :: motF (f + s) s n
def mot (r : Rn) : List Int := motF r.1 r.2.1 r.2.2.toNat
def AscM : Int → List Int → Prop
  | _, [] => True
  | a, m :: ms => a < m ∧ AscM m ms
def playM (k : Bool) (stay : Int) (ms : List Int) : Lg := ms.foldl (stepU k stay) []
theorem motF_length (f s : Int) : ∀ n, (motF f s n).length = n
  | 0 => rfl
  | n + 1 => by rw [motF, List.length_cons, motF_length]
theorem motF_get (f s : Int) : ∀ (n i : Nat), i < n → (motF f s n)[i]? = some (f + s * i)
  | n + 1, 0, _ => by simp [motF]
  | n + 1, i + 1, h => by
    rw [motF, List.getElem?_cons_succ, motF_get (f + s) s n i (by omega), Int.natCast_add, Int.mul_add]
    congr 1
    simp
    omega
theorem motF_eq {f s : Int} {n : Nat} {xs : List Int} (hl : xs.length = n) (h : ∀ i : Nat, i < n → xs[i]? = some (f + s * i)) : xs = motF f s n := by
  apply List.ext_getElem?
  intro i
  by_cases hi : i < n
  · rw [h i hi, motF_get f s n i hi]
  · rw [List.getElem?_eq_none (by omega), List.getElem?_eq_none (by rw [motF_length]; omega)]
theorem steps_mot (k : Bool) (stay s : Int) : ∀ (n : Nat) (f : Int) (rev : Lg), stepsU k stay f s n rev = (motF f s n).foldl (stepU k stay) rev
  | 0, _, _ => rfl
  | n + 1, f, rev => by
    rw [motF, List.foldl_cons, ← steps_mot k stay s n, Nat.add_comm, stepsU_add]
    congr 1
    · simp
    · simp [stepsU]
theorem logU_mot (k : Bool) (stay : Int) (rs : List Rn) : logU k stay rs = playM k stay (rs.flatMap mot) := by
  unfold logU playM
  suffices h : ∀ rev, rs.foldl (runU k stay) rev = (rs.flatMap mot).foldl (stepU k stay) rev from h []
  induction rs with
  | nil => intro rev; rfl
  | cons r rs ih =>
    intro rev
    rw [List.foldl_cons, List.flatMap_cons, List.foldl_append, ih]
    unfold runU mot
    rw [steps_mot]
theorem ascM_mot {s : Int} {ys : List Int} : ∀ (n : Nat) (f a : Int), AscM a (motF f s (n + 1) ++ ys) → a < f ∧ AscM (f + s * n) ys
  | 0, f, a, h => ⟨h.1, by simpa [motF] using h.2⟩
  | n + 1, f, a, h => by
    have h2 : a < f ∧ AscM f (motF (f + s) s (n + 1) ++ ys) := h
    have := ascM_mot n (f + s) f h2.2
    refine ⟨h2.1, ?_⟩
    rw [Int.natCast_add, Int.mul_add]
    have e : f + s + s * (n : Int) = f + (s * (n : Int) + s * ((1 : Nat) : Int)) := by simp; omega
    rw [← e]
    exact this.2
theorem ascN_mot : ∀ {a : Int} {rs : List Rn}, (∀ r ∈ rs, 1 ≤ r.2.2) → AscM a (rs.flatMap mot) → AscN a rs
  | _, [], _, _ => trivial
  | a, r :: rs, hc, h => by
    have c1 := hc r (List.mem_cons_self ..)
    rw [List.flatMap_cons] at h
    unfold mot at h
    rw [show r.2.2.toNat = (r.2.2 - 1).toNat + 1 by omega] at h
    obtain ⟨h1, h2⟩ := ascM_mot _ _ _ h
    refine ⟨h1, ascN_mot (fun x hx => hc x (List.mem_cons_of_mem _ hx)) ?_⟩
    unfold endOf
    rw [show ((r.2.2 - 1).toNat : Int) = r.2.2 - 1 by omega] at h2
    exact h2
theorem ascM_snoc : ∀ {a x : Int} {ms : List Int}, AscM a ms → a < x → (∀ m ∈ ms, m < x) → AscM a (ms ++ [x])
  | _, _, [], _, h, _ => ⟨h, trivial⟩
  | _, _, m :: ms, h, _, k => ⟨h.1, ascM_snoc h.2 (k m (List.mem_cons_self ..)) fun y hy => k y (List.mem_cons_of_mem _ hy)⟩
theorem ascM_drop : ∀ {a : Int} {ms : List Int} (n : Nat), AscM a ms → ∃ b, a ≤ b ∧ AscM b (ms.drop n)
  | a, ms, 0, h => ⟨a, Int.le_refl _, h⟩
  | a, [], _ + 1, _ => ⟨a, Int.le_refl _, trivial⟩
  | a, m :: ms, n + 1, h => by
    obtain ⟨b, h1, h2⟩ := ascM_drop n h.2
    have := h.1
    exact ⟨b, by omega, h2⟩
theorem at_get {α : Type} {xs : List α} {j : Nat} {x : α} (h : xs[j]? = some x) : atI xs (j : Int) = some x := by
  have hj := (List.getElem?_eq_some_iff.mp h).1
  unfold atI ixN
  rw [if_pos (by omega), if_pos (by omega)]
  exact h
theorem cut_from {α : Type} (xs : List α) (j : Nat) : cutL xs (some (j : Int)) none = xs.drop j := by
  unfold cutL
  rw [HT.sIx_none, HT.sIx_nat]
  by_cases h : j ≤ xs.length
  · rw [Nat.min_eq_left h, List.take_of_length_le (by simp)]
  · rw [Nat.min_eq_right (by omega), List.drop_of_length_le (Nat.le_refl _), List.drop_of_length_le (by omega), List.take_nil]
theorem at_last2 {α : Type} (xs : List α) (a b : α) : atI (xs ++ [a, b]) (-2) = some a := by
  unfold atI ixN
  rw [if_neg (by decide), if_pos (by simp; omega)]
  show (xs ++ [a, b])[(-2 + ((xs ++ [a, b]).length : Int)).toNat]? = _
  rw [show (-2 + ((xs ++ [a, b]).length : Int)).toNat = xs.length by simp; omega]
  simp
end LP
/-! text QB -/
/-! possible minutes give each lamp its log: plain laws -/
namespace RL
open PySem DL LP
def Win (l : Lamp) (s : Int × Int) (m : Int) : Prop := s.1 ≤ m ∧ if l.1 = true then m ≤ s.2 - l.2 else m < s.2
def SureS (l : Lamp) (s : Int × Int) (m : Int) : Prop := if l.1 = true then m = s.1 ∨ m = s.2 - l.2 else ∃ i : Int, 0 ≤ i ∧ m = s.1 + i * l.2 ∧ m < s.2
def InS (qs : Lg) (m : Int) : Prop := ∃ q ∈ qs, q.1 ≤ m ∧ m ≤ q.2
theorem quiet_win (l : Lamp) : ∀ (g : Lg) (f m : Int), f ≤ m → m ≤ 1000000000 → ¬ InS (quietI l f g) m → ∃ s ∈ g, Win l s m
  | [], f, m, h1, h2, h => by
    refine absurd ⟨(f, 1000000000), ?_, h1, h2⟩ h
    rw [quietI, if_pos (by omega)]
    exact List.mem_singleton.mpr rfl
  | s :: g, f, m, h1, h2, h => by
    rw [quietI] at h
    by_cases h3 : m < s.1
    · refine absurd ⟨(f, s.1 - 1), List.mem_append_left _ ?_, h1, by show m ≤ s.1 - 1; omega⟩ h
      rw [if_pos (by omega)]
      exact List.mem_singleton.mpr rfl
    · by_cases h4 : m ≤ lastI l s
      · refine ⟨s, List.mem_cons_self .., by omega, ?_⟩
        unfold lastI at h4
        split at h4
        · rename_i hk; rw [if_pos hk]; exact h4
        · rename_i hk; rw [if_neg hk]; omega
      · obtain ⟨t, ht, hw⟩ := quiet_win l g (lastI l s + 1) m (by omega) h2 fun ⟨q, hq, z⟩ => h ⟨q, List.mem_append_right _ hq, z⟩
        exact ⟨t, List.mem_cons_of_mem _ ht, hw⟩
theorem quiet_end (l : Lamp) : ∀ (g : Lg) (f : Int) (q : Int × Int), q ∈ quietI l f g → q.2 = 1000000000 ∨ ∃ s ∈ g, q.2 = s.1 - 1
  | [], f, q, h => by
    rw [quietI] at h
    split at h
    · rw [List.mem_singleton.mp h]; exact .inl rfl
    · cases h
  | s :: g, f, q, h => by
    rw [quietI] at h
    rcases List.mem_append.mp h with h | h
    · split at h
      · rw [List.mem_singleton.mp h]; exact .inr ⟨s, List.mem_cons_self .., rfl⟩
      · cases h
    · rcases quiet_end l g _ q h with e | ⟨t, ht, e⟩
      · exact .inl e
      · exact .inr ⟨t, List.mem_cons_of_mem _ ht, e⟩
/-- each lamp fits its log; no reason -/
structure Calm (qs : List (Lamp × Lg)) : Prop where
  stay : ∀ x ∈ qs, 1 ≤ x.1.2
  asc : ∀ x ∈ qs, AscP (-1) x.2
  fit : ∀ x ∈ qs, ∀ s ∈ x.2, fitsB x.1 s = true
  sure : ∀ x ∈ qs, ∀ s ∈ x.2, ∀ m, SureS x.1 s m → ∀ y ∈ qs, ¬ InS (quietI y.1 0 y.2) m
  call : ∀ x ∈ qs, x.1.1 = true → ∀ s ∈ x.2, ∀ y ∈ qs, ∀ q ∈ quietI y.1 0 y.2, ¬ x.1.2 ≤ min (s.2 - x.1.2) q.2 - max s.1 q.1 + 1
def Poss (qs : List (Lamp × Lg)) (m : Int) : Prop := 0 ≤ m ∧ m ≤ 1000000000 ∧ ∀ x ∈ qs, ¬ InS (quietI x.1 0 x.2) m
theorem fits_of {l : Lamp} {s : Int × Int} (h0 : 1 ≤ l.2) (h1 : s.1 < s.2) (h : fitsB l s = true) : s.2 - l.2 ≤ 1000000000 ∧ l.2 ≤ s.2 - s.1 ∧ (l.1 = false → ∃ c : Int, 1 ≤ c ∧ s.2 = s.1 + c * l.2) := by
  unfold fitsB at h
  simp only [Bool.and_eq_true, Bool.not_eq_true', decide_eq_false_iff_not] at h
  obtain ⟨ha, hb⟩ := h
  split at hb
  · rename_i hk
    have hb := of_decide_eq_true hb
    exact ⟨by omega, by omega, fun e => by rw [hk] at e; cases e⟩
  · have hb := eq_of_beq hb
    have := Int.emod_add_mul_ediv (s.2 - s.1) l.2
    rw [hb, Int.zero_add] at this
    have q0 : 0 ≤ (s.2 - s.1) / l.2 := Int.ediv_nonneg (by omega) (by omega)
    generalize (s.2 - s.1) / l.2 = c at this q0
    have c1 : 1 ≤ c := by
      by_cases q1 : c = 0
      · rw [q1, Int.mul_zero] at this; omega
      · omega
    have := Int.mul_le_mul (Int.le_refl l.2) c1 (by omega) (by omega)
    exact ⟨by omega, by omega, fun _ => ⟨c, c1, by rw [Int.mul_comm]; omega⟩⟩
section
variable {qs : List (Lamp × Lg)}
theorem Calm.bounds (C : Calm qs) {x : Lamp × Lg} (hx : x ∈ qs) {s : Int × Int} (hs : s ∈ x.2) : 0 ≤ s.1 ∧ s.1 < s.2 ∧ s.2 - x.1.2 ≤ 1000000000 ∧ x.1.2 ≤ s.2 - s.1 ∧ (x.1.1 = false → ∃ c : Int, 1 ≤ c ∧ s.2 = s.1 + c * x.1.2) := by
  have h1 := ascP_mem (C.asc x hx) s hs
  obtain ⟨h2, h3, h4⟩ := fits_of (C.stay x hx) h1.2 (C.fit x hx s hs)
  exact ⟨by omega, h1.2, h2, h3, h4⟩
theorem SureS.bounds {l : Lamp} {s : Int × Int} {m : Int} (h0 : 1 ≤ l.2) (h1 : l.2 ≤ s.2 - s.1) (hp : l.1 = false → ∃ c : Int, 1 ≤ c ∧ s.2 = s.1 + c * l.2) (h : SureS l s m) : s.1 ≤ m ∧ m ≤ s.2 - l.2 := by
  unfold SureS at h
  split at h
  · omega
  · rename_i hk
    obtain ⟨i, i0, e, hlt⟩ := h
    obtain ⟨c, c1, ec⟩ := hp (by simpa using hk)
    have i1 : 0 ≤ i * l.2 := Int.mul_nonneg i0 (by omega)
    have ic : i ≤ c - 1 := by
      rcases Int.lt_or_le (c - 1) i with z | z
      · have := Int.mul_le_mul (show c ≤ i by omega) (Int.le_refl l.2) (by omega) i0
        omega
      · exact z
    have := Int.mul_le_mul ic (Int.le_refl l.2) (by omega) (by omega)
    rw [Int.sub_mul] at this
    omega
theorem Calm.poss (C : Calm qs) {x : Lamp × Lg} (hx : x ∈ qs) {s : Int × Int} (hs : s ∈ x.2) {m : Int} (h : SureS x.1 s m) : Poss qs m := by
  obtain ⟨b1, b2, b3, b4, b5⟩ := C.bounds hx hs
  have := h.bounds (C.stay x hx) b4 b5
  exact ⟨by omega, by omega, fun y hy => C.sure x hx s hs m h y hy⟩
theorem sure_on {l : Lamp} {s : Int × Int} (h0 : s.1 < s.2) : SureS l s s.1 := by
  unfold SureS
  split
  · exact .inl rfl
  · exact ⟨0, Int.le_refl _, by simp, h0⟩
/-- a gap of possible minutes within a stretch of a hold lamp is no longer than its stay -/
theorem Calm.gap (C : Calm qs) {x : Lamp × Lg} (hx : x ∈ qs) (hk : x.1.1 = true) {s : Int × Int} (hs : s ∈ x.2) {a b : Int} (ha : s.1 ≤ a) (hb : b ≤ s.2 - x.1.2) (hab : a < b) (hn : ∀ t, a < t → t < b → ¬ Poss qs t) : b - a ≤ x.1.2 := by
  refine Classical.byContradiction fun hlt => ?_
  obtain ⟨b1, b2, b3, b4, b5⟩ := C.bounds hx hs
  have st := C.stay x hx
  have h1 := hn (a + 1) (by omega) (by omega)
  have h2 : ∃ y ∈ qs, InS (quietI y.1 0 y.2) (a + 1) := by
    refine Classical.byContradiction fun z => h1 ⟨by omega, by omega, fun y hy hq => z ⟨y, hy, hq⟩⟩
  obtain ⟨y, hy, q, hq, q1, q2⟩ := h2
  have h3 : b - 1 ≤ q.2 := by
    refine Classical.byContradiction fun z => ?_
    rcases quiet_end y.1 y.2 0 q hq with e | ⟨t, ht, e⟩
    · omega
    · obtain ⟨d1, d2, _⟩ := C.bounds hy ht
      exact hn t.1 (by omega) (by omega) (C.poss hy ht (sure_on d2))
  exact C.call x hx hk s hs y hy q hq (by omega)
end
theorem ascP_mid : ∀ {a : Int} {gd : Lg} {s : Int × Int} {gr : Lg}, AscP a (gd ++ s :: gr) → (∀ t ∈ gd, t.2 < s.1) ∧ AscP s.2 gr
  | _, [], _, _, h => ⟨by simp, h.2.2⟩
  | _, x :: gd, s, gr, h => by
    obtain ⟨h1, h2⟩ := ascP_mid (gd := gd) h.2.2
    refine ⟨fun t ht => ?_, h2⟩
    rcases List.mem_cons.mp ht with e | e
    · rw [e]; exact (ascP_mem h.2.2 s (by simp)).1
    · exact h1 t e
theorem ascM_mem : ∀ {a : Int} {ms : List Int}, AscM a ms → ∀ m ∈ ms, a < m
  | _, x :: ms, h, m, hm => by
    rcases List.mem_cons.mp hm with e | e
    · rw [e]; exact h.1
    · have := ascM_mem h.2 m e; have := h.1; omega
theorem sure_pulse {stay : Int} {s : Int × Int} {e i : Int} (h0 : 0 ≤ i) (h1 : e = s.1 + i * stay) (h2 : e < s.2) : SureS (false, stay) s e := ⟨i, h0, h1, h2⟩
theorem sure_hold {stay : Int} {s : Int × Int} : SureS (true, stay) s (s.2 - stay) := .inr rfl
/-- what stands of the log behind the minute p -/
def At (l : Lamp) (g : Lg) (p : Int) (rev : Lg) : Prop := (p = -1 ∧ rev = []) ∨ ∃ (gd : Lg) (s : Int × Int) (gr : Lg) (e : Int), g = gd ++ s :: gr ∧ rev = (s.1, e) :: gd.reverse ∧ s.1 ≤ p ∧
  if l.1 = true then e = p + l.2 ∧ p ≤ s.2 - l.2 else p < e ∧ e ≤ s.2 ∧ ∃ i : Int, 1 ≤ i ∧ e = s.1 + i * l.2
theorem play_poss {qs : List (Lamp × Lg)} (C : Calm qs) {x : Lamp × Lg} (hx : x ∈ qs) : ∀ (ms : List Int) (p : Int) (rev : Lg), AscM p ms → (∀ m ∈ ms, Poss qs m) → (∀ t, p < t → Poss qs t → t ∈ ms) → At x.1 x.2 p rev →
    ms.foldl (stepU x.1.1 x.1.2) rev = x.2.reverse := by
  obtain ⟨⟨k, stay⟩, g⟩ := x
  have st : 1 ≤ stay := C.stay _ hx
  have asc : AscP (-1) g := C.asc _ hx
  have bd : ∀ s ∈ g, 0 ≤ s.1 ∧ s.1 < s.2 ∧ s.2 - stay ≤ 1000000000 ∧ stay ≤ s.2 - s.1 ∧ (k = false → ∃ c : Int, 1 ≤ c ∧ s.2 = s.1 + c * stay) := fun s hs => C.bounds hx hs
  have ps : ∀ s ∈ g, ∀ m, SureS (k, stay) s m → Poss qs m := fun s hs m h => C.poss hx hs h
  have pon : ∀ s ∈ g, Poss qs s.1 := fun s hs => ps s hs _ (sure_on (bd s hs).2.1)
  -- a stretch of which all minutes have been is complete
  have full : ∀ (s : Int × Int) (p e : Int), s ∈ g → (if k = true then e = p + stay ∧ p ≤ s.2 - stay else p < e ∧ e ≤ s.2 ∧ ∃ i : Int, 1 ≤ i ∧ e = s.1 + i * stay) → (∀ t, p < t → t < s.2 → ¬ Poss qs t) → e = s.2 := fun s p e hs h hn => by
    have b := bd s hs
    cases k with
    | true =>
      rw [if_pos rfl] at h
      by_cases hp : p = s.2 - stay
      · omega
      · exact absurd (ps s hs (s.2 - stay) sure_hold) (hn _ (by omega) (by omega))
    | false =>
      rw [if_neg (by decide)] at h
      obtain ⟨h1, h2, i, i1, ei⟩ := h
      by_cases he : e = s.2
      · exact he
      · exact absurd (ps s hs e (sure_pulse (i := i) (by omega) ei (by omega))) (hn _ (by omega) (by omega))
  intro ms
  induction ms with
  | nil =>
    intro p rev _ _ hall hat
    rw [List.foldl_nil]
    change At (k, stay) g p rev at hat
    show rev = g.reverse
    rcases hat with ⟨rfl, rfl⟩ | ⟨gd, s, gr, e, eg, rfl, hp, h⟩
    · cases hg : g with
      | nil => rfl
      | cons s gr =>
        have hs : s ∈ g := by rw [hg]; simp
        have := hall s.1 (by have := bd s hs; omega) (pon s hs)
        cases this
    · have hs : s ∈ g := by rw [eg]; simp
      dsimp only at h
      obtain ⟨a1, a2⟩ := ascP_mid (by rw [← eg]; exact asc)
      have hgr : gr = [] := by
        cases hg : gr with
        | nil => rfl
        | cons t gr' =>
          rw [hg] at a2
          have ht : t ∈ g := by rw [eg, hg]; simp
          have hp2 : p ≤ s.2 := by
            have b := bd s hs
            split at h
            · omega
            · omega
          have := hall t.1 (by have := a2.1; omega) (pon t ht)
          cases this
      have he := full s p e hs h fun t h1 _ h3 => by have := hall t h1 h3; cases this
      rw [eg, hgr, he, List.reverse_append]
      rfl
  | cons m r ih =>
    intro p rev hasc hposs hall hat
    change At (k, stay) g p rev at hat
    obtain ⟨hm, hr⟩ := hasc
    rw [List.foldl_cons]
    have after : ∀ t, p < t → Poss qs t → m ≤ t := fun t h1 h2 => by
      rcases List.mem_cons.mp (hall t h1 h2) with z | z
      · omega
      · have := ascM_mem hr t z; omega
    refine ih m _ hr (fun t ht => hposs t (List.mem_cons_of_mem _ ht)) (fun t h1 h2 => ?_) ?_
    · rcases List.mem_cons.mp (hall t (by omega) h2) with z | z
      · omega
      · exact z
    have hpm := hposs m (List.mem_cons_self ..)
    obtain ⟨s', hs', hw1, hw2⟩ := quiet_win (k, stay) g 0 m hpm.1 hpm.2.1 (hpm.2.2 _ hx)
    dsimp only at hw2
    have hb' := bd s' hs'
    -- a new stretch
    have newS : ∀ (gd : Lg) (h : Int × Int) (gr : Lg), g = gd ++ h :: gr → m = h.1 → At (k, stay) g m ((m, m + stay) :: gd.reverse) := fun gd h gr eg em => by
      have hh : h ∈ g := by rw [eg]; simp
      have b := bd h hh
      refine .inr ⟨gd, h, gr, m + stay, eg, by rw [em], by omega, ?_⟩
      cases k with
      | true => exact ⟨rfl, by dsimp only; omega⟩
      | false => exact ⟨by omega, by omega, 1, Int.le_refl _, by dsimp only; omega⟩
    rcases hat with ⟨rfl, rfl⟩ | ⟨gd, s, gr, e, eg, rfl, hp, h⟩
    · have est : stepU k stay [] m = [(m, m + stay)] := by unfold stepU; cases k <;> rfl
      show At (k, stay) g m (stepU k stay [] m)
      rw [est]
      cases hg : g with
      | nil => rw [hg] at hs'; cases hs'
      | cons h0 gr =>
        have hh : h0 ∈ g := by rw [hg]; simp
        have h1 := after h0.1 (by have := bd h0 hh; omega) (pon h0 hh)
        rw [hg] at hs' asc
        rcases List.mem_cons.mp hs' with z | z
        · have := newS [] h0 gr hg (by rw [z] at hw1; omega)
          rw [hg] at this
          exact this
        · have := ascP_mem asc.2.2 s' z
          have := asc.2.1
          omega
    · have hs : s ∈ g := by rw [eg]; simp
      have b := bd s hs
      dsimp only at h
      obtain ⟨a1, a2⟩ := ascP_mid (by rw [← eg]; exact asc)
      show At (k, stay) g m (stepU k stay ((s.1, e) :: gd.reverse) m)
      have hin : s' ∈ gd ∨ s' = s ∨ s' ∈ gr := by rw [eg] at hs'; simpa using hs'
      rcases hin with z | z | z
      · have := a1 s' z
        split at hw2 <;> omega
      · subst z
        cases k with
        | true =>
          rw [if_pos rfl] at hw2 h
          have gp := C.gap hx rfl hs hp hw2 hm fun t h1 h2 h3 => by have := after t h1 h3; omega
          dsimp only at gp
          have est : stepU true stay ((s'.1, e) :: gd.reverse) m = (s'.1, m + stay) :: gd.reverse := by
            rw [stepU_true]
            unfold putU
            dsimp only
            rw [if_pos (by omega), Int.max_eq_right (by omega)]
          rw [est]
          exact .inr ⟨gd, s', gr, m + stay, eg, rfl, hw1, ⟨rfl, hw2⟩⟩
        | false =>
          rw [if_neg (by decide)] at hw2 h
          obtain ⟨h1, h2, i, i1, ei⟩ := h
          by_cases c1 : m < e
          · have est : stepU false stay ((s'.1, e) :: gd.reverse) m = (s'.1, e) :: gd.reverse := by simp [stepU, c1]
            rw [est]
            exact .inr ⟨gd, s', gr, e, eg, rfl, hw1, ⟨c1, h2, i, i1, ei⟩⟩
          · have c2 : m = e := by
              by_cases c3 : e < m
              · have := after e h1 (ps s' hs e (sure_pulse (i := i) (by omega) ei (by omega)))
                omega
              · omega
            have est : stepU false stay ((s'.1, e) :: gd.reverse) m = (s'.1, m + stay) :: gd.reverse := by
              simp only [stepU, if_neg c1, Bool.false_eq_true, if_false]
              unfold putU
              dsimp only
              rw [if_pos (by omega), Int.max_eq_right (by omega)]
            rw [est]
            obtain ⟨c, c1', ec⟩ := b.2.2.2.2 rfl
            have ic : i + 1 ≤ c := by
              rcases Int.lt_or_le i c with z | z
              · omega
              · have := Int.mul_le_mul z (Int.le_refl stay) (by omega) (by omega)
                omega
            have icm := Int.mul_le_mul ic (Int.le_refl stay) (by omega) (by omega)
            rw [Int.add_mul, Int.one_mul] at icm
            exact .inr ⟨gd, s', gr, m + stay, eg, rfl, hw1, ⟨by omega, by omega, i + 1, by omega, by dsimp only; rw [Int.add_mul, Int.one_mul]; omega⟩⟩
      · cases hg : gr with
        | nil => rw [hg] at z; cases z
        | cons h0 gr' =>
          rw [hg] at a2 z
          have hh : h0 ∈ g := by rw [eg, hg]; simp
          have hp2 : p ≤ s.2 := by
            split at h
            · omega
            · omega
          have h1 := after h0.1 (by have := a2.1; omega) (pon h0 hh)
          have em : m = h0.1 := by
            rcases List.mem_cons.mp z with z | z
            · rw [z] at hw1; omega
            · have := ascP_mem a2.2.2 s' z
              have := a2.2.1
              omega
          have he := full s p e hs h fun t h1 h2 h3 => by have := after t h1 h3; have := a2.1; omega
          have est : stepU k stay ((s.1, e) :: gd.reverse) m = (m, m + stay) :: (s.1, e) :: gd.reverse := by
            have h2 : ¬ m ≤ e := by have := a2.1; omega
            have h3 : ¬ m < e := by omega
            cases k with
            | true => rw [stepU_true]; unfold putU; dsimp only; rw [if_neg h2]
            | false => simp only [stepU, if_neg h3, Bool.false_eq_true, if_false]; unfold putU; dsimp only; rw [if_neg h2]
          rw [est, he]
          have := newS (gd ++ [s]) h0 gr' (by rw [eg, hg]; simp) em
          rw [List.reverse_append] at this
          exact this
end RL
/-! text VAs -/
/-! facts.py: reasons and verdicts (specs) -/
namespace LP
open PySem PySem.Spec PyProof.Rows L2 DL
/-- a part: from, to, more -/
abbrev Pt := Int × Int × List Int
def ptD (p : Pt) : D := .tup (.int p.1 :: .int p.2.1 :: p.2.2.map D.int)
def pqD (q : Pt × (Int × Int)) : D := .tup [ptD q.1, pD q.2]
def meetI : List Pt → Lg → List (Pt × (Int × Int))
  | [], _ => []
  | p :: ps, rs => ((rs.dropWhile fun s => decide (s.2 < p.1)).takeWhile fun s => decide (s.1 ≤ p.2.1)).map (fun s => (p, s)) ++ meetI ps (rs.dropWhile fun s => decide (s.2 < p.1))
def optD : Option Int → D
  | none => .non
  | some m => .int m
def BpP (s : Int × Int) : Prop := -(2 ^ 60) < s.1 ∧ s.1 < 2 ^ 60 ∧ -(2 ^ 60) < s.2 ∧ s.2 < 2 ^ 60
structure FitL (l : Lamp) (g : Lg) : Prop where
  lp : LampP l
  len : g.length ≤ 4000
  fit : wrongI l 0 g = []
  bp : ∀ s ∈ g, BpP s
/-- the run of a stretch as a part -/
def runP (r : Rn) : Pt := (r.1, r.1 + r.2.1 * (r.2.2 - 1), [r.2.1])
def sureM (first step : Int) (s : Int × Int) : Int := first + max 0 (s.1 - first + step - 1) / step * step
def stepOf (p : Pt) : Int := match p.2.2 with | [s] => s | _ => 1
def sureT (q : Pt × (Int × Int)) : Option Int := if sureM q.1.1 (stepOf q.1) q.2 ≤ min q.1.2.1 q.2.2 then some (sureM q.1.1 (stepOf q.1) q.2) else none
def sureQ (l : Lamp) (g spans : Lg) : Option Int := (meetI (g.map fun s => runP (runI l s)) spans).findSome? sureT
def callT (stay : Int) (q : Pt × (Int × Int)) : Option Int := if stay ≤ min q.1.2.1 q.2.2 - max q.1.1 q.2.1 + 1 then some (max q.1.1 q.2.1) else none
def callQ (l : Lamp) (g spans : Lg) : Option Int := (meetI ((callsI l g).map fun s => ((s.1, s.2, []) : Pt)) spans).findSome? (callT l.2)
section
variable {Z : Wld}
def sp_meeting : SpD Z := fun ds μ R _ => ∃ (d : D) (ps : List Pt) (spans : Lg), ds = [d, logD spans] ∧ itemsD d = some (ps.map ptD) ∧ ps.length ≤ 4000 ∧ spans.length ≤ 4001 ∧ R (.lst ((meetI ps spans).map pqD)) μ
def sp_sure_in_quiet : SpD Z := fun ds μ R _ => ∃ l g spans, ds = [lampD l, logD g, logD spans] ∧ FitL l g ∧ spans.length ≤ 4001 ∧ R (optD (sureQ l g spans)) μ
def sp_call_in_quiet : SpD Z := fun ds μ R _ => ∃ l g spans, ds = [lampD l, logD g, logD spans] ∧ FitL l g ∧ spans.length ≤ 4001 ∧ R (optD (callQ l g spans)) μ
end
end LP
/-! text VAt -/
/-! readings of defs that several laws share: printed by gen/mkshared.py -/
namespace LP
open PySem PySem.Spec PyProof.Rows L2 DL LP
def N_meeting : List Str := ["parts", "spans", "found", "begin", "part", "at"]
def ps_meeting : List Str := ["parts", "spans"]
def s_meeting_0 {Z : Wld} : DTS Z :=
  (dsPar2 2 3 (dpF (dLst dNil) (dpE (dC (.int 0)) dpNil)))
def s_meeting_1f_0w_0 {Z : Wld} : DTS Z :=
  (dsAug 3 (dC (.int 1)) smAddI)
def l_meeting_1f_0 {Z : Wld} : DTS Z :=
  s_meeting_1f_0w_0
def s_meeting_1f_0 {Z : Wld} : DTS Z :=
  (dsWhile (dAnd (dB (d2 smLt (dVar 3) (dL smLen (dCons (dVar 1) dNil)))) (dB (d2 smLt (d2 smIx (d2 smIx (dVar 1) (dVar 3)) (dC (.int 1))) (d2 smIx (dVar 4) (dC (.int 0))))))
   l_meeting_1f_0)
def s_meeting_1f_1 {Z : Wld} : DTS Z :=
  (dsAsg (dVar 3) (dName 5))
def s_meeting_1f_2w_0 {Z : Wld} : DTS Z :=
  (dsApp 2 (dTup (dCons (dVar 4) (dCons (d2 smIx (dVar 1) (dVar 5)) dNil))))
def s_meeting_1f_2w_1 {Z : Wld} : DTS Z :=
  (dsAug 5 (dC (.int 1)) smAddI)
def l_meeting_1f_2 {Z : Wld} : DTS Z :=
  (dsSeq s_meeting_1f_2w_0
    s_meeting_1f_2w_1)
def s_meeting_1f_2 {Z : Wld} : DTS Z :=
  (dsWhile (dAnd (dB (d2 smLt (dVar 5) (dL smLen (dCons (dVar 1) dNil)))) (dB (d2 smLe (d2 smIx (d2 smIx (dVar 1) (dVar 5)) (dC (.int 0))) (d2 smIx (dVar 4) (dC (.int 1))))))
   l_meeting_1f_2)
def l_meeting_1 {Z : Wld} : DTS Z :=
  (dsSeq s_meeting_1f_0
    (dsSeq s_meeting_1f_1
    s_meeting_1f_2))
def s_meeting_1 {Z : Wld} : DTS Z :=
  (dsFor (dSeq (dVar 0)) (dName 4)
   l_meeting_1)
def s_meeting_2 {Z : Wld} : DTS Z :=
  (dsRetF (dVar 2))
def t_meeting {Z : Wld} : DTS Z :=
  (dsSeq s_meeting_0
    (dsSeq s_meeting_1
    s_meeting_2))
def N_sure_in_quiet : List Str := ["lamp", "log", "spans", "first", "step", "runs", "last", "span", "minute", "count"]
def ps_sure_in_quiet : List Str := ["lamp", "log", "spans"]
def s_sure_in_quiet_0 {Z : Wld} : DTS Z :=
  (dsAsg (dFrz (dComp (dSeqC (dCall sp_sure_runs (dCons (dVar 0) (dCons (dVar 1) dNil)))) (dgTup 3 (dgCons (dName 3) (dgCons (dName 4) (dgCons (dName 9) dgNil)))) dYes (dTup (dCons (dVar 3) (dCons (d2 smAdd (dVar 3) (d2 smMul (dVar 4) (d2 smSub (dVar 9) (dC (.int 1))))) (dCons (dVar 4) dNil)))) [3, 4, 9])) (dName 5))
def s_sure_in_quiet_1f_0 {Z : Wld} : DTS Z :=
  (dsAsg (d2 smAdd (dVar 3) (d2 smMul (d2 smDiv (dL smMax2 (dCons (dC (.int 0)) (dCons (d2 smSub (d2 smAdd (d2 smSub (d2 smIx (dVar 7) (dC (.int 0))) (dVar 3)) (dVar 4)) (dC (.int 1))) dNil))) (dVar 4)) (dVar 4))) (dName 8))
def s_sure_in_quiet_1f_1 {Z : Wld} : DTS Z :=
  (dsIf (dB (d2 smLe (dVar 8) (dL smMin2 (dCons (dVar 6) (dCons (d2 smIx (dVar 7) (dC (.int 1))) dNil))))) (dsRet (dVar 8)) dsNext)
def l_sure_in_quiet_1 {Z : Wld} : DTS Z :=
  (dsSeq s_sure_in_quiet_1f_0
    s_sure_in_quiet_1f_1)
def s_sure_in_quiet_1 {Z : Wld} : DTS Z :=
  (dsFor (dSeq (dCall sp_meeting (dCons (dVar 5) (dCons (dVar 2) dNil)))) (dgTup 2 (dgCons (dgTup 3 (dgCons (dName 3) (dgCons (dName 6) (dgCons (dName 4) dgNil)))) (dgCons (dName 7) dgNil)))
   l_sure_in_quiet_1)
def s_sure_in_quiet_2 {Z : Wld} : DTS Z :=
  (dsRet (dC .non))
def t_sure_in_quiet {Z : Wld} : DTS Z :=
  (dsSeq s_sure_in_quiet_0
    (dsSeq s_sure_in_quiet_1
    s_sure_in_quiet_2))
def N_call_in_quiet : List Str := ["lamp", "log", "spans", "first", "last", "span", "begin"]
def ps_call_in_quiet : List Str := ["lamp", "log", "spans"]
def s_call_in_quiet_0f_0 {Z : Wld} : DTS Z :=
  (dsAsg (dL smMax2 (dCons (dVar 3) (dCons (d2 smIx (dVar 5) (dC (.int 0))) dNil))) (dName 6))
def s_call_in_quiet_0f_1 {Z : Wld} : DTS Z :=
  (dsIf (dB (d2 smGe (d2 smAdd (d2 smSub (dL smMin2 (dCons (dVar 4) (dCons (d2 smIx (dVar 5) (dC (.int 1))) dNil))) (dVar 6)) (dC (.int 1))) (d2 smIx (dVar 0) (dC (.int 1))))) (dsRet (dVar 6)) dsNext)
def l_call_in_quiet_0 {Z : Wld} : DTS Z :=
  (dsSeq s_call_in_quiet_0f_0
    s_call_in_quiet_0f_1)
def s_call_in_quiet_0 {Z : Wld} : DTS Z :=
  (dsFor (dSeq (dCall sp_meeting (dCons (dCall sp_call_spans (dCons (dVar 0) (dCons (dVar 1) dNil))) (dCons (dVar 2) dNil)))) (dgTup 2 (dgCons (dgTup 2 (dgCons (dName 3) (dgCons (dName 4) dgNil))) (dgCons (dName 5) dgNil)))
   l_call_in_quiet_0)
def s_call_in_quiet_1 {Z : Wld} : DTS Z :=
  (dsRet (dC .non))
def t_call_in_quiet {Z : Wld} : DTS Z :=
  (dsSeq s_call_in_quiet_0
    s_call_in_quiet_1)
end LP
/-! text VAp -/
namespace LP
open PySem PySem.Spec PyProof.Rows L2 DL
def kAt (i : Nat) (ρ : Rho) : Int := match (ρ[i]? : Option Slot) with
  | some (Slot.val (D.int k)) => k
  | _ => 0
theorem q_addI {i j : Int} {R : D → Prop} : smAddI (.int i) (.int j) R ↔ R (.int (i + j)) := by
  constructor
  · rintro ⟨a, b, e1, e2, h⟩
    cases e1; cases e2; exact h
  · exact fun h => ⟨i, j, rfl, rfl, h⟩
theorem drop_cons {α : Type} {xs : List α} {n : Nat} {x : α} (h : xs[n]? = some x) : xs.drop n = x :: xs.drop (n + 1) := by
  obtain ⟨hn, e⟩ := List.getElem?_eq_some_iff.mp h
  rw [← e]
  exact List.drop_eq_getElem_cons hn
theorem dropWhile_len {α : Type} (p : α → Bool) : ∀ xs : List α, (xs.dropWhile p).length ≤ xs.length
  | [] => Nat.le_refl _
  | x :: xs => by
    rw [List.dropWhile_cons]
    split
    · exact Nat.le_trans (dropWhile_len p xs) (Nat.le_succ _)
    · exact Nat.le_refl _
theorem takeWhile_len {α : Type} (p : α → Bool) : ∀ xs : List α, (xs.takeWhile p).length ≤ xs.length
  | [] => Nat.le_refl _
  | x :: xs => by
    rw [List.takeWhile_cons]
    split
    · exact Nat.succ_le_succ (takeWhile_len p xs)
    · exact Nat.zero_le _
theorem meetI_len : ∀ (ps : List Pt) (rs : Lg), (meetI ps rs).length ≤ ps.length * rs.length
  | [], _ => Nat.zero_le _
  | p :: ps, rs => by
    have h1 := dropWhile_len (fun s : Int × Int => decide (s.2 < p.1)) rs
    have h2 := takeWhile_len (fun s : Int × Int => decide (s.1 ≤ p.2.1)) (rs.dropWhile fun s => decide (s.2 < p.1))
    have h3 := meetI_len ps (rs.dropWhile fun s => decide (s.2 < p.1))
    have h4 := Nat.mul_le_mul_left ps.length h1
    rw [meetI, List.length_append, List.length_map, List.length_cons, Nat.add_mul, Nat.one_mul]
    omega
section
variable {Z : Wld} (ds : List D) (μ : Z.M) (R : D → Z.M → Prop) (Ed : Xc → Z.M → Prop)
theorem pure_meeting (hl : ds.length = ps_meeting.length) (hs : sp_meeting ds μ R Ed) (st : staL ds = true) : t_meeting (fin R Ed) (startD N_meeting ds) μ := by
  obtain ⟨d, ps, spans, rfl, hd, hpl, hsl, h⟩ := hs
  show t_meeting (fin R Ed) [.val d, .val (logD spans), .un, .un, .un, .un] μ
  unfold t_meeting s_meeting_0 s_meeting_1
  have sps : staL (ps.map ptD) = true := staL_map (fun p => by unfold ptD; simp only [sta, staL, Bool.true_and]; exact staL_ints _) ps
  simp_all! [hd]
  refine ⟨sps, ?_⟩
  have hbig : (meetI ps spans).length ≤ 16004000 := Nat.le_trans (meetI_len ps spans) (Nat.mul_le_mul hpl hsl)
  refine loop_t (Z := Z) ptD (fun rem ρ μ' => ∃ (fs : List (Pt × (Int × Int))) (b : Nat) (x y : Slot), ρ = [.val d, .val (logD spans), .own (fs.map pqD), .val (.int b), x, y] ∧ μ' = μ ∧ b ≤ spans.length ∧ fs ++ meetI rem (spans.drop b) = meetI ps spans) ?_ ?_ ⟨[], 0, _, _, rfl, rfl, Nat.zero_le _, rfl⟩
  · rintro ⟨lo, hi, more⟩ rem ρ μ' N ⟨fs, b, x, y, rfl, rfl, hb, e⟩ hN
    have spt : sta (ptD (lo, hi, more)) = true := by unfold ptD; simp only [sta, staL, Bool.true_and]; exact staL_ints _
    have gat : ∀ {j : Nat} {s : Int × Int}, spans[j]? = some s → atI (spans.map pD) (j : Int) = some (.tup [.int s.1, .int s.2]) := fun {j s} hj => by
      have hj' := (List.getElem?_eq_some_iff.mp hj).1
      unfold atI ixN
      rw [List.length_map, if_pos (by omega), if_pos (by omega)]
      show (spans.map pD)[j]? = _
      rw [List.getElem?_map, hj]
      rfl
    unfold l_meeting_1 s_meeting_1f_0
    simp_all! [spt]
    refine while_inv (Z := Z) (fun ρ μ2 => ∃ b' : Nat, ρ = [.val d, .val (logD spans), .own (fs.map pqD), .val (.int b'), .val (ptD (lo, hi, more)), y] ∧ μ2 = μ' ∧ b' ≤ spans.length ∧ (spans.drop b').dropWhile (fun s => decide (s.2 < lo)) = (spans.drop b).dropWhile fun s => decide (s.2 < lo)) (fun ρ _ => (spans.length - kAt 3 ρ).toNat) ?_ ⟨b, rfl, rfl, hb, rfl⟩
    rintro ρ μ2 M ⟨b', rfl, rfl, hb', ed⟩ hM
    have two : (spans.drop b').dropWhile (fun s => decide (s.2 < lo)) = spans.drop b' → dsSeq s_meeting_1f_1 s_meeting_1f_2 { nx := N, rt := R, ex := fun x _ μ' => Ed x μ', bk := s_meeting_2 (fin R Ed), ct := N } [.val d, .val (logD spans), .own (fs.map pqD), .val (.int b'), .val (ptD (lo, hi, more)), y] μ2 := fun hw => by
      unfold s_meeting_1f_1 s_meeting_1f_2
      simp_all!
      rw [meetI] at e
      dsimp only at e
      rw [← ed, hw] at e
      refine while_inv (Z := Z) (fun ρ μ3 => ∃ (a : Nat) (gs : List (Pt × (Int × Int))), ρ = [.val d, .val (logD spans), .own (gs.map pqD), .val (.int b'), .val (ptD (lo, hi, more)), .val (.int a)] ∧ μ3 = μ2 ∧ a ≤ spans.length ∧ gs ++ (((spans.drop a).takeWhile fun s => decide (s.1 ≤ hi)).map (fun s => ((lo, hi, more), s)) ++ meetI rem (spans.drop b')) = meetI ps spans) (fun ρ _ => (spans.length - kAt 5 ρ).toNat) ?_ ⟨b', fs, rfl, rfl, hb', e⟩
      rintro ρ μ3 M2 ⟨a, gs, rfl, rfl, ha, eg⟩ hM2
      unfold logD ptD
      simp_all! [List.length_map]
      by_cases h1 : a < spans.length
      · rw [if_pos (decide_eq_true (by omega))]
        obtain ⟨s, hs⟩ : ∃ s, spans[a]? = some s := ⟨_, List.getElem?_eq_getElem h1⟩
        have eg1 := gat hs
        rw [drop_cons hs, List.takeWhile_cons] at eg
        simp_all! [eg1]
        by_cases h2 : s.1 ≤ hi
        · rw [if_pos (decide_eq_true h2)]
          rw [if_pos (decide_eq_true h2), List.map_cons] at eg
          unfold l_meeting_1f_2 s_meeting_1f_2w_0 s_meeting_1f_2w_1
          have lg : gs.length < 16777216 := by
            have := congrArg List.length eg
            simp only [List.length_append, List.length_cons] at this
            omega
          simp_all! [List.length_map, eg1, q_addI]
          refine ⟨staL_ints _, lg, hM2 _ _ ⟨a + 1, gs ++ [((lo, hi, more), s)], ?_, rfl, by omega, ?_⟩ ?_⟩
          · rw [List.map_append]; rfl
          · rw [List.append_assoc]; exact eg
          · show (spans.length - ((a : Int) + 1)).toNat < (spans.length - (a : Int)).toNat
            omega
        · rw [if_neg (by simpa using h2)]
          rw [if_neg (by simpa using h2)] at eg
          exact hN _ _ ⟨gs, b', _, _, rfl, rfl, hb', eg⟩
      · rw [if_neg (by simp; omega)]
        rw [List.drop_of_length_le (show spans.length ≤ a by omega)] at eg
        exact hN _ _ ⟨gs, b', _, _, rfl, rfl, hb', eg⟩
    unfold logD ptD
    simp_all! [List.length_map]
    by_cases h1 : b' < spans.length
    · rw [if_pos (decide_eq_true (by omega))]
      obtain ⟨s, hs⟩ : ∃ s, spans[b']? = some s := ⟨_, List.getElem?_eq_getElem h1⟩
      have eg1 := gat hs
      simp_all! [eg1]
      by_cases h2 : s.2 < lo
      · rw [if_pos (decide_eq_true h2)]
        unfold l_meeting_1f_0 s_meeting_1f_0w_0
        simp_all! [q_addI]
        refine hM _ _ ⟨b' + 1, rfl, rfl, by omega, ?_⟩ ?_
        · rw [← ed]
          conv => rhs; rw [drop_cons hs, List.dropWhile_cons, if_pos (decide_eq_true h2)]
        · show (spans.length - ((b' : Int) + 1)).toNat < (spans.length - (b' : Int)).toNat
          omega
      · rw [if_neg (by simpa using h2)]
        exact two (by rw [drop_cons hs, List.dropWhile_cons, if_neg (by simpa using h2)])
    · rw [if_neg (by simp; omega)]
      exact two (by rw [List.drop_of_length_le (by omega)]; rfl)
  · rintro ρ μ' ⟨fs, b, x, y, rfl, rfl, hb, e⟩
    unfold s_meeting_2
    rw [show meetI [] (spans.drop b) = [] from rfl, List.append_nil] at e
    rw [e]
    simp_all!
    show R (.lst (frL ((meetI ps spans).map pqD))) μ'
    rw [frL_sta _ (staL_map (fun q => by unfold pqD ptD pD; simp only [sta, staL, Bool.true_and, Bool.and_true]; exact staL_ints _) _)]
    exact h
theorem meetI_mem : ∀ {ps : List Pt} {rs : Lg} {q : Pt × (Int × Int)}, q ∈ meetI ps rs → q.1 ∈ ps
  | p :: ps, rs, q, h => by
    rw [meetI] at h
    rcases List.mem_append.mp h with h | h
    · obtain ⟨s, _, rfl⟩ := List.mem_map.mp h
      exact List.mem_cons_self ..
    · exact List.mem_cons_of_mem _ (meetI_mem h)
theorem sta_opt (o : Option Int) : sta (optD o) = true := by cases o <;> rfl
theorem pure_sure_in_quiet (hl : ds.length = ps_sure_in_quiet.length) (hs : sp_sure_in_quiet ds μ R Ed) (st : staL ds = true) : t_sure_in_quiet (fin R Ed) (startD N_sure_in_quiet ds) μ := by
  obtain ⟨l, g, spans, rfl, hf, hn, h⟩ := hs
  show t_sure_in_quiet (fin R Ed) [.val (lampD l), .val (logD g), .val (logD spans), .un, .un, .un, .un, .un, .un, .un] μ
  unfold t_sure_in_quiet s_sure_in_quiet_0
  have hp := hf.lp
  have hlen := hf.len
  have runOk : ∀ s ∈ g, 1 ≤ (runI l s).2.1 ∧ (runI l s).2.1 < 2 ^ 62 := fun s hs => by
    have hb := hf.bp s hs
    have hfit := wrongI_nil hf.fit s hs
    unfold fitsB at hfit
    unfold LampP at hp
    unfold BpP at hb
    unfold runI
    simp only [Bool.and_eq_true] at hfit
    split
    · dsimp only; omega
    · split
      · rename_i h1 h2
        rw [if_pos h2] at hfit
        have := of_decide_eq_true hfit.2
        dsimp only; omega
      · dsimp only; omega
  simp_all! [sta_lamp, sta_log]
  refine ⟨l, g, rfl, hp, by omega, ?_⟩
  unfold fitOr
  rw [hf.fit]
  unfold runsD
  simp_all! [staL_rn]
  rw [show (g.map (runI l)).map rnD = g.map fun s => rnD (runI l s) by rw [List.map_map]; rfl]
  refine comp_fun (Z := Z) (fun s => rnD (runI l s)) (fun s => ptD (runP (runI l s))) (by rw [szl]; omega) (fun s hs k k' hk => ?_) (fun s _ => rfl) ?_
  · obtain ⟨r1, r2⟩ := runOk s hs
    unfold rnD
    simp_all!
    exact ⟨sm60 (by omega) (by omega), hk⟩
  have spt : ∀ p : Pt, sta (ptD p) = true := fun p => by unfold ptD; simp only [sta, staL, Bool.true_and]; exact staL_ints _
  have spq : ∀ q : Pt × (Int × Int), sta (pqD q) = true := fun q => by unfold pqD; simp only [sta, staL, spt, Bool.true_and, Bool.and_true]; rfl
  have em : g.map (fun s => ptD (runP (runI l s))) = (g.map fun s => runP (runI l s)).map ptD := by rw [List.map_map]; rfl
  refine ⟨staL_map (fun s => spt _) g, ?_⟩
  unfold s_sure_in_quiet_1
  rw [em]
  simp_all! [staL_map spt, sta_log]
  refine ⟨_, _, spans, rfl, rfl, by rw [List.length_map]; exact hlen, hn, ?_⟩
  simp_all! [staL_map spq]
  refine loop_t (Z := Z) pqD (fun rem ρ μ' => ∃ (x1 x2 x3 x4 x5 : Slot) , ρ = [.val (lampD l), .val (logD g), .val (logD spans), x1, x2, .val (.lst ((g.map fun s => runP (runI l s)).map ptD)), x3, x4, x5, .un] ∧ μ' = μ ∧ rem.findSome? sureT = sureQ l g spans ∧ ∀ q ∈ rem, q.1 ∈ g.map fun s => runP (runI l s)) ?_ ?_ ⟨_, _, _, _, _, rfl, rfl, rfl, fun q hq => meetI_mem hq⟩
  · rintro ⟨p, s⟩ rem ρ μ' N ⟨x1, x2, x3, x4, x5, rfl, rfl, e, hm⟩ hN
    obtain ⟨s0, hs0, e0⟩ := List.mem_map.mp (hm _ (List.mem_cons_self ..))
    obtain ⟨r1, r2⟩ := runOk s0 hs0
    dsimp only at e0
    unfold runP at e0
    subst e0
    generalize runI l s0 = r at r1 r2 e
    rw [List.findSome?_cons] at e
    unfold l_sure_in_quiet_1 s_sure_in_quiet_1f_0 s_sure_in_quiet_1f_1 pqD ptD pD
    simp_all! [List.map_cons, List.map_nil]
    refine ⟨dv60 (by omega) (by omega), sm61 (by omega) (by omega), ?_⟩
    have es : sureT ((r.1, r.1 + r.2.1 * (r.2.2 - 1), [r.2.1]), s) = if sureM r.1 r.2.1 s ≤ min (r.1 + r.2.1 * (r.2.2 - 1)) s.2 then some (sureM r.1 r.2.1 s) else none := rfl
    rw [es] at e
    unfold sureM at e
    by_cases hc : r.1 + max 0 (s.1 - r.1 + r.2.1 - 1) / r.2.1 * r.2.1 ≤ min (r.1 + r.2.1 * (r.2.2 - 1)) s.2
    · rw [if_pos (decide_eq_true hc)]
      rw [if_pos hc] at e
      rw [← e] at h
      exact h
    · rw [if_neg (by simpa using hc)]
      rw [if_neg hc] at e
      exact hN _ _ ⟨_, _, _, _, _, rfl, rfl, e, fun q hq => hm q (List.mem_cons_of_mem _ hq)⟩
  · rintro ρ μ' ⟨x1, x2, x3, x4, x5, rfl, rfl, e, hm⟩
    unfold s_sure_in_quiet_2
    simp_all!
    rw [← e] at h
    exact h
theorem pure_call_in_quiet (hl : ds.length = ps_call_in_quiet.length) (hs : sp_call_in_quiet ds μ R Ed) (st : staL ds = true) : t_call_in_quiet (fin R Ed) (startD N_call_in_quiet ds) μ := by
  obtain ⟨l, g, spans, rfl, hf, hn, h⟩ := hs
  show t_call_in_quiet (fin R Ed) [.val (lampD l), .val (logD g), .val (logD spans), .un, .un, .un, .un] μ
  unfold t_call_in_quiet s_call_in_quiet_0
  have hlen := hf.len
  have spt : ∀ p : Pt, sta (ptD p) = true := fun p => by unfold ptD; simp only [sta, staL, Bool.true_and]; exact staL_ints _
  have spq : ∀ q : Pt × (Int × Int), sta (pqD q) = true := fun q => by unfold pqD; simp only [sta, staL, spt, Bool.true_and, Bool.and_true]; rfl
  simp_all! [sta_lamp, sta_log]
  refine ⟨l, g, rfl, hf.lp, by omega, ?_⟩
  unfold fitOr
  rw [hf.fit]
  simp_all! [sta_log]
  refine ⟨_, (callsI l g).map fun s => ((s.1, s.2, []) : Pt), spans, rfl, ?_, by rw [List.length_map]; have := callsI_len l g; omega, hn, ?_⟩
  · rw [List.map_map]; rfl
  simp_all! [staL_map spq]
  refine loop_t (Z := Z) pqD (fun rem ρ μ' => ∃ (x1 x2 x3 x4 : Slot) , ρ = [.val (lampD l), .val (logD g), .val (logD spans), x1, x2, x3, x4] ∧ μ' = μ ∧ rem.findSome? (callT l.2) = callQ l g spans ∧ ∀ q ∈ rem, q.1 ∈ (callsI l g).map fun s => ((s.1, s.2, []) : Pt)) ?_ ?_ ⟨_, _, _, _, rfl, rfl, rfl, fun q hq => meetI_mem hq⟩
  · rintro ⟨p, s⟩ rem ρ μ' N ⟨x1, x2, x3, x4, rfl, rfl, e, hm⟩ hN
    obtain ⟨s0, hs0, e0⟩ := List.mem_map.mp (hm _ (List.mem_cons_self ..))
    dsimp only at e0
    subst e0
    rw [List.findSome?_cons] at e
    unfold l_call_in_quiet_0 s_call_in_quiet_0f_0 s_call_in_quiet_0f_1 pqD ptD pD lampD
    simp_all! [List.map_nil]
    have es : callT l.2 (((s0.1, s0.2, []) : Pt), s) = if l.2 ≤ min s0.2 s.2 - max s0.1 s.1 + 1 then some (max s0.1 s.1) else none := rfl
    rw [es] at e
    by_cases hc : l.2 ≤ min s0.2 s.2 - max s0.1 s.1 + 1
    · rw [if_pos (decide_eq_true hc)]
      rw [if_pos hc] at e
      rw [← e] at h
      exact h
    · rw [if_neg (by simpa using hc)]
      rw [if_neg hc] at e
      exact hN _ _ ⟨_, _, _, _, rfl, rfl, e, fun q hq => hm q (List.mem_cons_of_mem _ hq)⟩
  · rintro ρ μ' ⟨x1, x2, x3, x4, rfl, rfl, e, hm⟩
    unfold s_call_in_quiet_1
    simp_all!
    rw [← e] at h
    exact h
end
end LP
/-! text DLs -/
/-! DL: x.extend(a tuple). -/
namespace DL
open PySem PySem.Spec PyProof.Rows L2
def rExtT (K : PySem.W.Frag) : V → List V → Hp → VK → Prop := fun x vs H Q => ∃ l b xs zs, x = .ref l ∧ vs = [.ref b] ∧ H l = some (.lst xs) ∧ SqT K H b zs ∧ xs.length + zs.length ≤ sizeLine ∧ Q .non (upd H l (.lst (xs ++ zs)))

theorem ext_tup (l : Addr) (items : Array Value) (n : Nat) (b : Addr) (items2 : Array Value) (n2 : Nat) (od : Option Addr) (sl : Array (Option Value)) (hs0 : ¬(!items.isEmpty && Builtin.List.listTooLong (items.size + items2.size)) = true) (hs1 : items.size ≤ sizeLine) (hs2 : items.size + items2.size ≤ sizeLine + 1) :
    Meets (Builtin.«list.extend» ⟨[.ref l, .ref b], []⟩) (fun _ R s => s.heap.get? l = some { cls := .type "list", dict := none, data := .seq items n, slots := #[] } ∧ s.heap.get? b = some { cls := .type "tuple", dict := od, data := .seq items2 n2, slots := sl } ∧ R (.ok (.ret Value.none)) { s with heap := s.heap.update l (Obj.mapSeq fun x => x ++ items2), toks := s.toks }) :=
  .of_wp fun prog w A R s h => by
    obtain ⟨hp, g, d, tk, os⟩ := s
    obtain ⟨hl, hb, h⟩ := h
    have f4 := PySem.AutoSeq1.sub_tuple_list
    have hz' : (items ++ items2).size ≤ sizeLine + 1 := by rw [Array.size_append]; exact hs2
    wp_walk using (wpAny_updateSeq hl rfl (hz := hs1) (_hz' := hz')), PySem.AutoSeq1.wpAny_loadPart' hl, PySem.AutoSeq1.wpAny_loadPart' hb
    exact ⟨_, rfl, h⟩
section
variable {X : Cx}
theorem mt_extT : MtM X "list.extend" (rExtT X.K) := by
  intro pins s σ H x vs v us Q I rx rv h
  obtain ⟨l, b, xs, zs, rfl, rfl, hH, hB, hz, q⟩ := h
  cases rx
  obtain ⟨u, rfl, ru⟩ := rv.one
  cases ru
  obtain ⟨z, its, n, r, hl, e⟩ := I.lstM hH
  obtain ⟨its2, r2, ⟨o2, e2, c2, n2, d2⟩, _⟩ := I.tuple hB
  obtain ⟨oc, od, dt, sl⟩ := o2
  simp only at c2 d2
  subst c2 d2
  have hl2 := r2.length
  have hsz : its.toArray.size + its2.toArray.size ≤ sizeLine := by rw [List.size_toArray, List.size_toArray]; omega
  have hlong : ¬ (!its.toArray.isEmpty && Builtin.List.listTooLong (its.toArray.size + its2.toArray.size)) = true := by
    have : Builtin.List.listTooLong (its.toArray.size + its2.toArray.size) = false := by
      unfold Builtin.List.listTooLong
      exact decide_eq_false (by omega)
    rw [this, Bool.and_false]
    exact Bool.false_ne_true
  refine call_meets F.slot_list_extend ⟨_, e, rfl⟩ F.entry_list_extend (F.args_list_extend_2 _ _)
    (ext_tup l its.toArray n b its2.toArray n2 od sl hlong (by rw [List.size_toArray]; omega) (by omega)) ⟨e, e2, ?_⟩
  refine ⟨.non, _, I.lset (its' := its ++ its2) hH e (by simp) (r.append r2) ?_, rfl, q⟩
  rw [List.length_append]
  omega
end
section
variable {Z : Wld} {F : Fm} {W : WX} {e : Expr} {ta : DT Z} {pos : Pos}
def dsExtT {M : Type} (i : Nat) (te : DT0 M) : DTS0 M := fun B ρ μ => ∃ xs, ρ[i]? = some (.own xs) ∧ te ρ μ (fun d μ' => ∃ ys, d = .tup ys ∧ staL ys = true ∧ xs.length + ys.length ≤ sizeLine ∧ B.nx (ρ.set i (.own (xs ++ ys))) μ') fun x μ' => B.ex x ρ μ'
theorem ds_extT {i : Nat} {x : Str} {p1 apos cpos : Pos} (ha : DE Z F W e ta) (hv : ∀ j, PE (F.X j) (.Name x p1) (tVar i))
    (hbase : ∀ j, attributeBase (.Name x p1) "extend" (F.X j).env (eval (.Name x p1) (F.X j).env) = eval (.Name x p1) (F.X j).env := by intro _; rfl)
    (hfew : ∀ j, ((backTo cpos (starEach [e] (F.X j).env)).all (fun x => !x.1) && (backToKw cpos (keywordEach [] (F.X j).env)).all (fun x => x.1.isSome)
      && decide (([e] : List Expr).length + ([] : List Keyword).length + (if ([] : List Keyword).isEmpty then 0 else 1) < 30)) = true := by intro _; rfl)
    (hline : (apos.endLine == cpos.line) = true := by rfl) (hs1 : ∀ j, starEach [e] (F.X j).env = (false, eval e (F.X j).env) :: starEach [] (F.X j).env := by intro _; rfl)
    (hpl : ∀ j, (backTo cpos (starEach [] (F.X j).env)).any (·.1) = false := by intro _; rfl)
    (hs : ∀ j, swapsWith (.Call (.Attribute (.Name x p1) "extend" apos) [e] [] cpos) none pos.line (F.X j).env = pure false := by intro _; rfl) :
    DS Z F W (.Expr (.Call (.Attribute (.Name x p1) "extend" apos) [e] [] cpos) pos) (dsExtT i ta) := by
  obtain ⟨te, p, ha⟩ := ha
  refine ⟨tDrop (tBM F.K "list" (rExtT F.K) (tVar i) (tCons te tNil)), fun j => ?_, fun μ0 S0 H0 ρ σ μ S H B L r ht k => ?_⟩
  · rw [← F.hK j]
    exact ps_expr (pe_bm PySem.F.plainAttrs_list PySem.F.slot_list_extend PySem.F.type_list_extend mt_extT (hv j) (pa_cons (p j) pa_nil (hs1 j)) (hbase j) (hfew j) hline (hs1 j) (hpl j)) (hs j)
  · obtain ⟨xs, hi, ht⟩ := ht
    obtain ⟨a, vs, e1, e2, _⟩ := r.owner hi
    refine ⟨_, e1, .inl ⟨rfl, _, SqL.of e2⟩, ?_⟩
    refine ha H0 ρ σ μ S H _ _ _ r.env r.ok ht (k.wish r) fun v d μ' S' H' x rd hd => ?_
    obtain ⟨ys, rfl, hy, hz, hd⟩ := hd
    obtain ⟨b, ws, rfl, hb, hr⟩ := rd
    have r' := r.up x
    obtain ⟨a', vs', e1', e2', e3', e4', e5', e6'⟩ := r'.owner hi
    rw [e1] at e1'
    cases e1'
    refine ⟨a, b, vs', ws, rfl, rfl, e2', seqT_mono x.ok.sub hb, by rw [e6'.length, hr.length]; exact hz, ?_⟩
    exact k.nx _ _ _ _ _ (r'.grow hi e1 e2' e3' e4' (staL_append e5' hy) (e6'.append hr)) x.same hd
end
end DL
/-! text VBs -/
/-! facts.py: reasons and verdicts (specs), second part -/
namespace LP
open PySem PySem.Spec PyProof.Rows L2 DL
def lampsD (ls : List Lamp) : D := .tup (ls.map lampD)
def logsD (gs : List Lg) : D := .tup (gs.map logD)
/-- lamps and as many logs -/
structure Scn (ls : List Lamp) (gs : List Lg) : Prop where
  n : ls.length ≤ 1000
  eq : gs.length = ls.length
  lp : ∀ l ∈ ls, LampP l
  len : ∀ g ∈ gs, g.length ≤ 4000
  bp : ∀ g ∈ gs, ∀ s ∈ g, BpP s
def AllFit (ls : List Lamp) (gs : List Lg) : Prop := ∀ q ∈ ls.zip gs, wrongI q.1 0 q.2 = []
def firstS : Int → List (Lamp × Lg) → Option (Int × Int)
  | _, [] => none
  | i, (l, g) :: r => match wrongI l 0 g with
    | w :: _ => some (i, w)
    | [] => firstS (i + 1) r
def quietsOf (ls : List Lamp) (gs : List Lg) : List Lg := (ls.zip gs).map fun q => quietI q.1 0 q.2
def foundI (f : Lamp → Lg → Lg → Option Int) (l : Lamp) (g : Lg) (qs : List Lg) : Lg := (enI 0 qs).filterMap fun q => (f l g q.2).map fun m => (m, q.1)
def betweenI (f : Lamp → Lg → Lg → Option Int) (qs : List Lg) : Int → List (Lamp × Lg) → Option (Int × Int × Int)
  | _, [] => none
  | i, (l, g) :: r => match foundI f l g qs with
    | [] => betweenI f qs (i + 1) r
    | p :: ps => some (i, (ps.foldl minP p).1, (ps.foldl minP p).2)
/-- a reason: a stretch that does not fit; or a minute of one lamp in the quiet of another -/
inductive Rsn where
  | st (n w : Int)
  | two (word : Str) (n m o : Int)
def rsnD : Rsn → D
  | .st n w => .tup [.str "stretch", .int n, .int w]
  | .two word n m o => .tup [.str word, .int n, .int m, .int o]
def optRD : Option Rsn → D
  | none => .non
  | some r => rsnD r
def twoR (word : Str) (q : Int × Int × Int) : Rsn := .two word q.1 q.2.1 q.2.2
def reasonI (ls : List Lamp) (gs : List Lg) : Option Rsn := match firstS 0 (ls.zip gs) with
  | some q => some (.st q.1 q.2)
  | none => match betweenI sureQ (quietsOf ls gs) 0 (ls.zip gs) with
    | some q => some (twoR "sure" q)
    | none => (betweenI callQ (quietsOf ls gs) 0 (ls.zip gs)).map (twoR "call")
def freeI : Int → Lg → Lg
  | first, [] => if first ≤ 1000000000 then [(first, 1000000000)] else []
  | first, s :: r => (if first < s.1 then [(first, s.1 - 1)] else []) ++ freeI (max first (s.2 + 1)) r
def motI (spans : Lg) : List Rn := spans.map fun s => (s.1, 1, s.2 - s.1 + 1)
def otherX (n : Nat) : Xc := ⟨"OtherCount", [("count", .int n)]⟩
section
variable {Z : Wld}
def sp_require_count : SpD Z := fun ds μ R Ed => ∃ ls gs, ds = [lampsD ls, logsD gs] ∧ if gs.length = ls.length then R .non μ else Ed (otherX gs.length) μ
def sp_first_stretch_t : SpD Z := fun ds μ R _ => ∃ ls gs, ds = [lampsD ls, logsD gs] ∧ Scn ls gs ∧ R (optRD ((firstS 0 (ls.zip gs)).map fun q => .st q.1 q.2)) μ
def sp_first_stretch_l : SpD Z := fun ds μ R _ => ∃ ls gs, ds = [.lst (ls.map lampD), .lst (gs.map logD)] ∧ Scn ls gs ∧ R (optRD ((firstS 0 (ls.zip gs)).map fun q => .st q.1 q.2)) μ
/-- lamps and logs as tuples or as lists -/
def sp_first_stretch : SpD Z := fun ds μ R Ed => sp_first_stretch_t ds μ R Ed ∨ sp_first_stretch_l ds μ R Ed
def sp_first_between_t : SpD Z := fun ds μ R _ => ∃ ls gs word x f, ds = [lampsD ls, logsD gs, .str word, .fn x] ∧ Scn ls gs ∧ AllFit ls gs ∧ ((x = "sure_in_quiet" ∧ f = sureQ) ∨ (x = "call_in_quiet" ∧ f = callQ)) ∧ R (optRD ((betweenI f (quietsOf ls gs) 0 (ls.zip gs)).map (twoR word))) μ
def sp_first_between_l : SpD Z := fun ds μ R _ => ∃ ls gs word x f, ds = [.lst (ls.map lampD), .lst (gs.map logD), .str word, .fn x] ∧ Scn ls gs ∧ AllFit ls gs ∧ ((x = "sure_in_quiet" ∧ f = sureQ) ∨ (x = "call_in_quiet" ∧ f = callQ)) ∧ R (optRD ((betweenI f (quietsOf ls gs) 0 (ls.zip gs)).map (twoR word))) μ
/-- lamps and logs as tuples or as lists -/
def sp_first_between : SpD Z := fun ds μ R Ed => sp_first_between_t ds μ R Ed ∨ sp_first_between_l ds μ R Ed
def sp_first_reason_t : SpD Z := fun ds μ R _ => ∃ ls gs, ds = [lampsD ls, logsD gs] ∧ Scn ls gs ∧ R (optRD (reasonI ls gs)) μ
def sp_first_reason_l : SpD Z := fun ds μ R _ => ∃ ls gs, ds = [.lst (ls.map lampD), .lst (gs.map logD)] ∧ Scn ls gs ∧ R (optRD (reasonI ls gs)) μ
/-- lamps and logs as tuples or as lists -/
def sp_first_reason : SpD Z := fun ds μ R Ed => sp_first_reason_t ds μ R Ed ∨ sp_first_reason_l ds μ R Ed
def sp_spans_without : SpD Z := fun ds μ R _ => ∃ qs : Lg, ds = [.lst (qs.map pD)] ∧ qs.length ≤ 16000000 ∧ ∀ ss : Lg, ss.Perm qs → ss.Pairwise LeP → R (logD (freeI 0 ss)) μ
def sp_all_quiet : SpD Z := fun ds μ R _ => ∃ ls gs, ds = [lampsD ls, logsD gs] ∧ Scn ls gs ∧ AllFit ls gs ∧ R (.lst ((quietsOf ls gs).flatten.map pD)) μ
def sp_motions_in : SpD Z := fun ds μ R _ => ∃ spans : Lg, ds = [logD spans] ∧ spans.length ≤ 16000001 ∧ R (runsD (motI spans)) μ
def sp_verdict : SpD Z := fun ds μ R Ed => ∃ ls gs, ds = [lampsD ls, logsD gs] ∧ if gs.length = ls.length then Scn ls gs ∧ (match reasonI ls gs with
  | some r => R (rsnD r) μ
  | none => ∀ ss : Lg, ss.Perm (quietsOf ls gs).flatten → ss.Pairwise LeP → R (.tup [.str "motions", runsD (motI (freeI 0 ss))]) μ) else Ed (otherX gs.length) μ
end
end LP
/-! text VBt -/
/-! readings of defs that several laws share: printed by gen/mkshared.py -/
namespace LP
open PySem PySem.Spec PyProof.Rows L2 DL LP
def N_require_count : List Str := ["lamps", "logs"]
def ps_require_count : List Str := ["lamps", "logs"]
def s_require_count_0a_0 {Z : Wld} : DTS Z :=
  (dsRaise "OtherCount" "count" (dL smLen (dCons (dVar 1) dNil)))
def s_require_count_0 {Z : Wld} : DTS Z :=
  (dsIf (dB (d2 smNe (dL smLen (dCons (dVar 1) dNil)) (dL smLen (dCons (dVar 0) dNil)))) s_require_count_0a_0 dsNext)
def t_require_count {Z : Wld} : DTS Z :=
  s_require_count_0
def N_first_stretch : List Str := ["lamps", "logs", "number", "lamp", "wrong"]
def ps_first_stretch : List Str := ["lamps", "logs"]
def s_first_stretch_0f_0 {Z : Wld} : DTS Z :=
  (dsAsg (dCall sp_wrong_stretches (dCons (dVar 3) (dCons (d2 smIx (dVar 1) (dVar 2)) dNil))) (dName 4))
def s_first_stretch_0f_1a_0 {Z : Wld} : DTS Z :=
  (dsRet (dTup (dCons (dC (.str "stretch")) (dCons (dVar 2) (dCons (d2 smIx (dVar 4) (dC (.int 0))) dNil)))))
def s_first_stretch_0f_1 {Z : Wld} : DTS Z :=
  (dsIf (dB (d2 smNe (dVar 4) (dTup dNil))) s_first_stretch_0f_1a_0 dsNext)
def l_first_stretch_0 {Z : Wld} : DTS Z :=
  (dsSeq s_first_stretch_0f_0
    s_first_stretch_0f_1)
def s_first_stretch_0 {Z : Wld} : DTS Z :=
  (dsFor (dEnum (dVar 0)) (dgTup 2 (dgCons (dName 2) (dgCons (dName 3) dgNil)))
   l_first_stretch_0)
def s_first_stretch_1 {Z : Wld} : DTS Z :=
  (dsRet (dC .non))
def t_first_stretch {Z : Wld} : DTS Z :=
  (dsSeq s_first_stretch_0
    s_first_stretch_1)
def N_first_between : List Str := ["lamps", "logs", "word", "search", "lamp", "spans", "number", "found", "other", "minute", "log"]
def ps_first_between : List Str := ["lamps", "logs", "word", "search"]
def s_first_between_0 {Z : Wld} : DTS Z :=
  (dsAsg (dFrz (dComp (dZipC (dCons (dVar 0) (dCons (dVar 1) dNil))) (dgTup 2 (dgCons (dName 4) (dgCons (dName 10) dgNil))) dYes (dCall sp_quiet_spans (dCons (dVar 4) (dCons (dVar 10) dNil))) [4, 10])) (dName 5))
def s_first_between_1f_0 {Z : Wld} : DTS Z :=
  (dsOwn 7 (dLst dNil))
def s_first_between_1f_1f_0 {Z : Wld} : DTS Z :=
  (dsAsg (dCallV 3 [("call_in_quiet", sp_call_in_quiet), ("sure_in_quiet", sp_sure_in_quiet)] (dCons (dVar 4) (dCons (d2 smIx (dVar 1) (dVar 6)) (dCons (d2 smIx (dVar 5) (dVar 8)) dNil)))) (dName 9))
def s_first_between_1f_1f_1a_0 {Z : Wld} : DTS Z :=
  (dsApp 7 (dTup (dCons (dVar 9) (dCons (dVar 8) dNil))))
def s_first_between_1f_1f_1 {Z : Wld} : DTS Z :=
  (dsIf (dB (d2 smIsNot (dVar 9) (dC .non))) s_first_between_1f_1f_1a_0 dsNext)
def l_first_between_1f_1 {Z : Wld} : DTS Z :=
  (dsSeq s_first_between_1f_1f_0
    s_first_between_1f_1f_1)
def s_first_between_1f_1 {Z : Wld} : DTS Z :=
  (dsFor (dRg1 (dCons (dL smLen (dCons (dVar 0) dNil)) dNil)) (dName 8)
   l_first_between_1f_1)
def s_first_between_1f_2a_0 {Z : Wld} : DTS Z :=
  (dsRet (dTup (dCons (dVar 2) (dCons (dVar 6) (dStar (dL smMinP (dCons (dVar 7) dNil)) dNil)))))
def s_first_between_1f_2 {Z : Wld} : DTS Z :=
  (dsIf (dB (d2 smNe (dVar 7) (dFrz (dLst dNil)))) s_first_between_1f_2a_0 dsNext)
def l_first_between_1 {Z : Wld} : DTS Z :=
  (dsSeq s_first_between_1f_0
    (dsSeq s_first_between_1f_1
    s_first_between_1f_2))
def s_first_between_1 {Z : Wld} : DTS Z :=
  (dsFor (dEnum (dVar 0)) (dgTup 2 (dgCons (dName 6) (dgCons (dName 4) dgNil)))
   l_first_between_1)
def s_first_between_2 {Z : Wld} : DTS Z :=
  (dsRet (dC .non))
def t_first_between {Z : Wld} : DTS Z :=
  (dsSeq s_first_between_0
    (dsSeq s_first_between_1
    s_first_between_2))
def N_first_reason : List Str := ["lamps", "logs", "found"]
def ps_first_reason : List Str := ["lamps", "logs"]
def s_first_reason_0 {Z : Wld} : DTS Z :=
  (dsAsg (dCall sp_first_stretch (dCons (dVar 0) (dCons (dVar 1) dNil))) (dName 2))
def s_first_reason_1a_0 {Z : Wld} : DTS Z :=
  (dsAsg (dCall sp_first_between (dCons (dVar 0) (dCons (dVar 1) (dCons (dC (.str "sure")) (dCons (dC (.fn "sure_in_quiet")) dNil))))) (dName 2))
def s_first_reason_1 {Z : Wld} : DTS Z :=
  (dsIf (dB (d2 smIs (dVar 2) (dC .non))) s_first_reason_1a_0 dsNext)
def s_first_reason_2 {Z : Wld} : DTS Z :=
  (dsRet (dIf (dB (d2 smIs (dVar 2) (dC .non))) (dCall sp_first_between (dCons (dVar 0) (dCons (dVar 1) (dCons (dC (.str "call")) (dCons (dC (.fn "call_in_quiet")) dNil))))) (dVar 2)))
def t_first_reason {Z : Wld} : DTS Z :=
  (dsSeq s_first_reason_0
    (dsSeq s_first_reason_1
    s_first_reason_2))
def N_spans_without : List Str := ["quiet", "found", "first", "begin", "last"]
def ps_spans_without : List Str := ["quiet"]
def s_spans_without_0 {Z : Wld} : DTS Z :=
  (dsPar2 1 2 (dpF (dLst dNil) (dpE (dC (.int 0)) dpNil)))
def s_spans_without_1f_0a_0 {Z : Wld} : DTS Z :=
  (dsApp 1 (dTup (dCons (dVar 2) (dCons (d2 smSub (dVar 3) (dC (.int 1))) dNil))))
def s_spans_without_1f_0 {Z : Wld} : DTS Z :=
  (dsIf (dB (d2 smLt (dVar 2) (dVar 3))) s_spans_without_1f_0a_0 dsNext)
def s_spans_without_1f_1 {Z : Wld} : DTS Z :=
  (dsAsg (dL smMax2 (dCons (dVar 2) (dCons (d2 smAdd (dVar 4) (dC (.int 1))) dNil))) (dName 2))
def l_spans_without_1 {Z : Wld} : DTS Z :=
  (dsSeq s_spans_without_1f_0
    s_spans_without_1f_1)
def s_spans_without_1 {Z : Wld} : DTS Z :=
  (dsFor (dSeq (dL smSortP (dCons (dVar 0) dNil))) (dgTup 2 (dgCons (dName 3) (dgCons (dName 4) dgNil)))
   l_spans_without_1)
def s_spans_without_2a_0 {Z : Wld} : DTS Z :=
  (dsApp 1 (dTup (dCons (dVar 2) (dCons (dC (.int 1000000000)) dNil))))
def s_spans_without_2 {Z : Wld} : DTS Z :=
  (dsIf (dB (d2 smLe (dVar 2) (dC (.int 1000000000)))) s_spans_without_2a_0 dsNext)
def s_spans_without_3 {Z : Wld} : DTS Z :=
  (dsRet (dL smTuple (dCons (dVar 1) dNil)))
def t_spans_without {Z : Wld} : DTS Z :=
  (dsSeq s_spans_without_0
    (dsSeq s_spans_without_1
    (dsSeq s_spans_without_2
    s_spans_without_3)))
def N_all_quiet : List Str := ["lamps", "logs", "found", "lamp", "log"]
def ps_all_quiet : List Str := ["lamps", "logs"]
def s_all_quiet_0 {Z : Wld} : DTS Z :=
  (dsOwn 2 (dLst dNil))
def s_all_quiet_1f_0 {Z : Wld} : DTS Z :=
  (dsExtT 2 (dCall sp_quiet_spans (dCons (dVar 3) (dCons (dVar 4) dNil))))
def l_all_quiet_1 {Z : Wld} : DTS Z :=
  s_all_quiet_1f_0
def s_all_quiet_1 {Z : Wld} : DTS Z :=
  (dsFor (dZip (dCons (dVar 0) (dCons (dVar 1) dNil))) (dgTup 2 (dgCons (dName 3) (dgCons (dName 4) dgNil)))
   l_all_quiet_1)
def s_all_quiet_2 {Z : Wld} : DTS Z :=
  (dsRetF (dVar 2))
def t_all_quiet {Z : Wld} : DTS Z :=
  (dsSeq s_all_quiet_0
    (dsSeq s_all_quiet_1
    s_all_quiet_2))
def N_motions_in : List Str := ["spans", "first", "last"]
def ps_motions_in : List Str := ["spans"]
def s_motions_in_0 {Z : Wld} : DTS Z :=
  (dsRet (dL smTuple (dCons (dFrz (dComp (dSeqC (dVar 0)) (dgTup 2 (dgCons (dName 1) (dgCons (dName 2) dgNil))) dYes (dTup (dCons (dVar 1) (dCons (dC (.int 1)) (dCons (d2 smAdd (d2 smSub (dVar 2) (dVar 1)) (dC (.int 1))) dNil)))) [1, 2])) dNil)))
def t_motions_in {Z : Wld} : DTS Z :=
  s_motions_in_0
def N_verdict : List Str := ["lamps", "logs", "reason"]
def ps_verdict : List Str := ["lamps", "logs"]
def s_verdict_0 {Z : Wld} : DTS Z :=
  (dsDrop (dCall sp_require_count (dCons (dVar 0) (dCons (dVar 1) dNil))))
def s_verdict_1 {Z : Wld} : DTS Z :=
  (dsAsg (dCall sp_first_reason (dCons (dVar 0) (dCons (dVar 1) dNil))) (dName 2))
def s_verdict_2 {Z : Wld} : DTS Z :=
  (dsRet (dIf (dB (d2 smIs (dVar 2) (dC .non))) (dTup (dCons (dC (.str "motions")) (dCons (dCall sp_motions_in (dCons (dCall sp_spans_without (dCons (dCall sp_all_quiet (dCons (dVar 0) (dCons (dVar 1) dNil))) dNil)) dNil)) dNil))) (dVar 2)))
def t_verdict {Z : Wld} : DTS Z :=
  (dsSeq s_verdict_0
    (dsSeq s_verdict_1
    s_verdict_2))
end LP
/-! text VBp -/
namespace LP
open PySem PySem.Spec PyProof.Rows L2 DL
theorem sta_lamps (ls : List Lamp) : sta (lampsD ls) = true := by unfold lampsD; simp only [sta]; exact staL_lamp ls
theorem sta_logs (gs : List Lg) : sta (logsD gs) = true := by unfold logsD; simp only [sta]; exact staL_log gs
theorem enI_snoc {α : Type} : ∀ (i : Int) (xs : List α) (x : α), enI i (xs ++ [x]) = enI i xs ++ [(i + xs.length, x)]
  | i, [], x => by simp [enI]
  | i, y :: xs, x => by
    rw [List.cons_append, enI, enI, enI_snoc (i + 1) xs x, List.cons_append, List.length_cons]
    congr 3
    simp
    omega
theorem found_snoc (f : Lamp → Lg → Lg → Option Int) (l : Lamp) (g : Lg) (qs : List Lg) (q : Lg) : foundI f l g (qs ++ [q]) = foundI f l g qs ++ (match f l g q with | some m => [(m, (qs.length : Int))] | none => []) := by
  unfold foundI
  rw [enI_snoc, List.filterMap_append]
  congr 1
  cases h : f l g q with
  | none => simp [h]
  | some m => simp [h]
theorem fit_of_none {ls : List Lamp} {gs : List Lg} (e1 : firstS 0 (ls.zip gs) = none) : AllFit ls gs := by
  have key : ∀ (i : Int) (qs : List (Lamp × Lg)), firstS i qs = none → ∀ q ∈ qs, wrongI q.1 0 q.2 = [] := by
    intro i qs
    induction qs generalizing i with
    | nil => intro _ q hq; cases hq
    | cons x qs ih =>
      obtain ⟨l, g⟩ := x
      intro h q hq
      rw [firstS] at h
      split at h
      · cases h
      · rename_i hw
        rcases List.mem_cons.mp hq with e | e
        · rw [e]; exact hw
        · exact ih _ h q e
  exact key 0 _ e1
section
variable {Z : Wld} (ds : List D) (μ : Z.M) (R : D → Z.M → Prop) (Ed : Xc → Z.M → Prop)
theorem pure_require_count (hl : ds.length = ps_require_count.length) (hs : sp_require_count ds μ R Ed) (st : staL ds = true) : t_require_count (fin R Ed) (startD N_require_count ds) μ := by
  obtain ⟨ls, gs, rfl, h⟩ := hs
  show t_require_count (fin R Ed) [.val (lampsD ls), .val (logsD gs)] μ
  unfold t_require_count s_require_count_0 s_require_count_0a_0 lampsD logsD
  simp_all! [List.length_map]
  by_cases hc : gs.length = ls.length
  · rw [if_pos hc] at h
    rw [if_neg (by simp; omega)]
    exact h
  · rw [if_neg hc] at h
    rw [if_pos (by simp; omega)]
    exact h
theorem pure_motions_in (hl : ds.length = ps_motions_in.length) (hs : sp_motions_in ds μ R Ed) (st : staL ds = true) : t_motions_in (fin R Ed) (startD N_motions_in ds) μ := by
  obtain ⟨spans, rfl, hn, h⟩ := hs
  show t_motions_in (fin R Ed) [.val (logD spans), .un, .un] μ
  unfold t_motions_in s_motions_in_0 logD
  simp_all!
  refine comp_fun (Z := Z) pD (fun s => rnD (s.1, 1, s.2 - s.1 + 1)) (by rw [szl]; omega) (fun s _ k k' hk => ?_) (fun _ _ => rfl) ?_
  · unfold pD
    simp_all!
    exact hk
  · have e : spans.map (fun s => rnD (s.1, 1, s.2 - s.1 + 1)) = (motI spans).map rnD := by unfold motI; rw [List.map_map]; rfl
    rw [e]
    simp_all! [staL_rn]
    exact h
theorem freeI_len : ∀ (ss : Lg) (first : Int), (freeI first ss).length ≤ ss.length + 1
  | [], first => by unfold freeI; split <;> simp
  | s :: g, first => by
    have := freeI_len g (max first (s.2 + 1))
    rw [freeI, List.length_append, List.length_cons]
    split <;> simp <;> omega
theorem pure_spans_without (hl : ds.length = ps_spans_without.length) (hs : sp_spans_without ds μ R Ed) (st : staL ds = true) : t_spans_without (fin R Ed) (startD N_spans_without ds) μ := by
  obtain ⟨qs, rfl, hn, h⟩ := hs
  show t_spans_without (fin R Ed) [.val (.lst (qs.map pD)), .un, .un, .un, .un] μ
  unfold t_spans_without s_spans_without_0 s_spans_without_1
  simp_all!
  refine ⟨_, qs, rfl, rfl, fun ss hp hw => ?_⟩
  have hlen := hp.length_eq
  simp_all! [staL_p]
  refine loop_t (Z := Z) pD (fun rem ρ μ' => ∃ (found : Lg) (first : Int) (a b : Slot), ρ = [.val (.lst (qs.map pD)), .own (found.map pD), .val (.int first), a, b] ∧ μ' = μ ∧ found ++ freeI first rem = freeI 0 ss ∧ found.length + rem.length ≤ 16000000) ?_ ?_ ⟨[], 0, _, _, rfl, rfl, rfl, by simp; omega⟩
  · rintro ⟨on, off⟩ rem ρ μ' N ⟨found, first, a, b, rfl, rfl, e, hz⟩ hN
    simp only [List.length_cons] at hz
    unfold l_spans_without_1 s_spans_without_1f_0 s_spans_without_1f_0a_0 s_spans_without_1f_1 pD
    simp_all! [List.length_map]
    rw [freeI] at e
    dsimp only at e
    by_cases h1 : first < on
    · rw [if_pos (decide_eq_true h1)]
      rw [if_pos h1] at e
      refine ⟨by omega, hN _ _ ⟨found ++ [(first, on - 1)], _, _, _, by rw [List.map_append]; rfl, rfl, by rw [List.append_assoc]; exact e, by simp; omega⟩⟩
    · rw [if_neg (by simpa using h1)]
      rw [if_neg h1] at e
      exact hN _ _ ⟨found, _, _, _, rfl, rfl, e, by omega⟩
  · rintro ρ μ' ⟨found, first, a, b, rfl, rfl, e, hz⟩
    unfold s_spans_without_2 s_spans_without_2a_0 s_spans_without_3
    simp_all! [List.length_map, staL_p]
    rw [freeI] at e
    have h := h ss hp hw
    by_cases h1 : first ≤ 1000000000
    · rw [if_pos (decide_eq_true h1)]
      rw [if_pos h1] at e
      have e2 : found.map pD ++ [D.tup [.int first, .int 1000000000]] = (freeI 0 ss).map pD := by rw [← e, List.map_append]; rfl
      rw [e2]
      exact ⟨by simp at hz; omega, staL_p _, h⟩
    · rw [if_neg (by simpa using h1)]
      rw [if_neg h1, List.append_nil] at e
      rw [e]
      exact h
theorem zip_ok {ls : List Lamp} {gs : List Lg} (S : Scn ls gs) {q : Lamp × Lg} (h : q ∈ ls.zip gs) : LampP q.1 ∧ q.2.length ≤ 4000 ∧ ∀ s ∈ q.2, BpP s :=
  ⟨S.lp _ (List.of_mem_zip h).1, S.len _ (List.of_mem_zip h).2, S.bp _ (List.of_mem_zip h).2⟩
theorem flat_len {qs : List Lg} {m : Nat} (h : ∀ q ∈ qs, q.length ≤ m) : qs.flatten.length ≤ qs.length * m := by
  induction qs with
  | nil => simp
  | cons q qs ih =>
    have h1 := h q (List.mem_cons_self ..)
    have h2 := ih fun x hx => h x (List.mem_cons_of_mem _ hx)
    rw [List.flatten_cons, List.length_append, List.length_cons, Nat.add_mul, Nat.one_mul]
    omega
theorem pure_all_quiet (hl : ds.length = ps_all_quiet.length) (hs : sp_all_quiet ds μ R Ed) (st : staL ds = true) : t_all_quiet (fin R Ed) (startD N_all_quiet ds) μ := by
  obtain ⟨ls, gs, rfl, S, hf, h⟩ := hs
  show t_all_quiet (fin R Ed) [.val (lampsD ls), .val (logsD gs), .un, .un, .un] μ
  unfold t_all_quiet s_all_quiet_0 s_all_quiet_1 lampsD logsD
  simp_all! [dZip]
  refine ⟨_, _, _, _, rfl, rfl, rfl, staL_lamp ls, staL_log gs, ?_⟩
  rw [zipF_map]
  have hsz : ∀ {pre rem : List (Lamp × Lg)}, pre ++ rem = ls.zip gs → pre.length ≤ 1000 := fun {pre rem} e => by
    have := congrArg List.length e
    rw [List.length_append, List.length_zip] at this
    have := S.n
    omega
  refine loop_t (Z := Z) (fun q : Lamp × Lg => D.tup [lampD q.1, logD q.2]) (fun rem ρ μ' => ∃ (pre : List (Lamp × Lg)) (x1 x2 : Slot), ρ = [.val (.tup (ls.map lampD)), .val (.tup (gs.map logD)), .own ((pre.map fun q => quietI q.1 0 q.2).flatten.map pD), x1, x2] ∧ μ' = μ ∧ pre ++ rem = ls.zip gs) ?_ ?_ ⟨[], _, _, rfl, rfl, rfl⟩
  · rintro ⟨l, g⟩ rem ρ μ' N ⟨pre, x1, x2, rfl, rfl, e⟩ hN
    have hmem : (l, g) ∈ ls.zip gs := by rw [← e]; simp
    have hq := zip_ok S hmem
    have hw := hf _ hmem
    have hpl := hsz e
    have hflat : (pre.map fun q => quietI q.1 0 q.2).flatten.length ≤ 4001000 := by
      have h1 := flat_len (qs := pre.map fun q => quietI q.1 0 q.2) (m := 4001) fun q hq => by
        obtain ⟨x, hx, rfl⟩ := List.mem_map.mp hq
        have := quietI_len x.1 x.2 0
        have := (zip_ok S (show x ∈ ls.zip gs by rw [← e]; exact List.mem_append.mpr (.inl hx))).2.1
        omega
      rw [List.length_map] at h1
      have := Nat.mul_le_mul_right 4001 hpl
      omega
    have hql := quietI_len l g 0
    dsimp only at hq hw
    unfold l_all_quiet_1 s_all_quiet_1f_0
    simp_all! [dsExtT, sta_lamp, sta_log]
    refine ⟨l, g, rfl, hq.1, by omega, ?_⟩
    unfold fitOr
    rw [hw]
    refine ⟨_, rfl, staL_p _, by rw [List.length_map, List.length_map]; omega, hN _ _ ⟨pre ++ [(l, g)], .val (lampD l), .val (logD g), ?_, rfl, by rw [List.append_assoc]; exact e⟩⟩
    rw [List.map_append, List.flatten_append, List.map_append]
    simp
  · rintro ρ μ' ⟨pre, x1, x2, rfl, rfl, e⟩
    unfold s_all_quiet_2
    simp_all!
    rw [List.append_nil] at e
    show R (.lst (frL ((pre.map fun q => quietI q.1 0 q.2).flatten.map pD))) μ'
    rw [frL_sta _ (staL_p _), e]
    exact h
theorem pure_first_stretch_t (hl : ds.length = ps_first_stretch.length) (hs : sp_first_stretch_t ds μ R Ed) (st : staL ds = true) : t_first_stretch (fin R Ed) (startD N_first_stretch ds) μ := by
  obtain ⟨ls, gs, rfl, S, h⟩ := hs
  show t_first_stretch (fin R Ed) [.val (lampsD ls), .val (logsD gs), .un, .un, .un] μ
  unfold t_first_stretch s_first_stretch_0 lampsD logsD
  simp_all! [staL_lamp]
  rw [enumF_map]
  refine loop_t (Z := Z) (fun p : Int × Lamp => D.tup [.int p.1, lampD p.2]) (fun rem ρ μ' => ∃ (x1 x2 x3 : Slot) (i : Nat), ρ = [.val (.tup (ls.map lampD)), .val (.tup (gs.map logD)), x1, x2, x3] ∧ μ' = μ ∧ rem = enI i (ls.drop i) ∧ i ≤ ls.length ∧ firstS i ((ls.zip gs).drop i) = firstS 0 (ls.zip gs)) ?_ ?_ ⟨_, _, _, 0, rfl, rfl, rfl, Nat.zero_le _, rfl⟩
  · rintro ⟨n, l⟩ rem ρ μ' N ⟨x1, x2, x3, i, rfl, rfl, er, hi, e⟩ hN
    have hil : i < ls.length := by
      apply Classical.byContradiction
      intro hc
      rw [List.drop_of_length_le (by omega)] at er
      cases er
    rw [drop_cons (List.getElem?_eq_getElem hil), enI, List.cons.injEq] at er
    obtain ⟨e1, e2⟩ := er
    simp only [Prod.mk.injEq] at e1
    obtain ⟨rfl, rfl⟩ := e1
    have hig : i < gs.length := by rw [S.eq]; exact hil
    have hz : (ls.zip gs)[i]? = some (ls[i], gs[i]) := by rw [List.getElem?_zip_eq_some]; exact ⟨List.getElem?_eq_getElem hil, List.getElem?_eq_getElem hig⟩
    rw [drop_cons hz, firstS] at e
    have hq := zip_ok S (List.mem_of_getElem? hz)
    dsimp only at hq
    have ga : atI (gs.map logD) (i : Int) = some (logD gs[i]) := by
      unfold atI ixN
      rw [List.length_map, if_pos (by omega), if_pos (by omega)]
      show (gs.map logD)[i]? = _
      rw [List.getElem?_map, List.getElem?_eq_getElem hig]
      rfl
    generalize ls[i] = l at hq e
    generalize gs[i] = g at hq e ga
    unfold l_first_stretch_0 s_first_stretch_0f_0 s_first_stretch_0f_1 s_first_stretch_0f_1a_0
    simp_all! [sta_lamp, ga, sta_log]
    refine ⟨l, g, rfl, hq.1.1, by omega, ?_⟩
    unfold intsT
    simp_all! [staL_ints]
    cases ew : wrongI l 0 g with
    | nil =>
      rw [ew] at e
      simp_all! [List.map_nil, List.isEmpty_nil]
      exact hN _ _ ⟨_, _, _, i + 1, rfl, rfl, e2, by omega, e⟩
    | cons w ws =>
      rw [ew] at e
      simp_all! [List.map_cons, List.isEmpty_cons]
      rw [← e] at h
      exact h
  · rintro ρ μ' ⟨x1, x2, x3, i, rfl, rfl, er, hi, e⟩
    unfold s_first_stretch_1
    simp_all!
    have hil : ls.length ≤ i := by
      apply Classical.byContradiction
      intro hc
      rw [drop_cons (List.getElem?_eq_getElem (show i < ls.length by omega)), enI] at er
      cases er
    rw [List.drop_of_length_le (by rw [List.length_zip]; omega)] at e
    rw [← e] at h
    exact h
theorem pure_first_stretch_l (hl : ds.length = ps_first_stretch.length) (hs : sp_first_stretch_l ds μ R Ed) (st : staL ds = true) : t_first_stretch (fin R Ed) (startD N_first_stretch ds) μ := by
  obtain ⟨ls, gs, rfl, S, h⟩ := hs
  show t_first_stretch (fin R Ed) [.val (.lst (ls.map lampD)), .val (.lst (gs.map logD)), .un, .un, .un] μ
  unfold t_first_stretch s_first_stretch_0
  simp_all! [staL_lamp]
  rw [enumF_map]
  refine loop_t (Z := Z) (fun p : Int × Lamp => D.tup [.int p.1, lampD p.2]) (fun rem ρ μ' => ∃ (x1 x2 x3 : Slot) (i : Nat), ρ = [.val (.lst (ls.map lampD)), .val (.lst (gs.map logD)), x1, x2, x3] ∧ μ' = μ ∧ rem = enI i (ls.drop i) ∧ i ≤ ls.length ∧ firstS i ((ls.zip gs).drop i) = firstS 0 (ls.zip gs)) ?_ ?_ ⟨_, _, _, 0, rfl, rfl, rfl, Nat.zero_le _, rfl⟩
  · rintro ⟨n, l⟩ rem ρ μ' N ⟨x1, x2, x3, i, rfl, rfl, er, hi, e⟩ hN
    have hil : i < ls.length := by
      apply Classical.byContradiction
      intro hc
      rw [List.drop_of_length_le (by omega)] at er
      cases er
    rw [drop_cons (List.getElem?_eq_getElem hil), enI, List.cons.injEq] at er
    obtain ⟨e1, e2⟩ := er
    simp only [Prod.mk.injEq] at e1
    obtain ⟨rfl, rfl⟩ := e1
    have hig : i < gs.length := by rw [S.eq]; exact hil
    have hz : (ls.zip gs)[i]? = some (ls[i], gs[i]) := by rw [List.getElem?_zip_eq_some]; exact ⟨List.getElem?_eq_getElem hil, List.getElem?_eq_getElem hig⟩
    rw [drop_cons hz, firstS] at e
    have hq := zip_ok S (List.mem_of_getElem? hz)
    dsimp only at hq
    have ga : atI (gs.map logD) (i : Int) = some (logD gs[i]) := by
      unfold atI ixN
      rw [List.length_map, if_pos (by omega), if_pos (by omega)]
      show (gs.map logD)[i]? = _
      rw [List.getElem?_map, List.getElem?_eq_getElem hig]
      rfl
    generalize ls[i] = l at hq e
    generalize gs[i] = g at hq e ga
    unfold l_first_stretch_0 s_first_stretch_0f_0 s_first_stretch_0f_1 s_first_stretch_0f_1a_0
    simp_all! [sta_lamp, ga, sta_log]
    refine ⟨l, g, rfl, hq.1.1, by omega, ?_⟩
    unfold intsT
    simp_all! [staL_ints]
    cases ew : wrongI l 0 g with
    | nil =>
      rw [ew] at e
      simp_all! [List.map_nil, List.isEmpty_nil]
      exact hN _ _ ⟨_, _, _, i + 1, rfl, rfl, e2, by omega, e⟩
    | cons w ws =>
      rw [ew] at e
      simp_all! [List.map_cons, List.isEmpty_cons]
      rw [← e] at h
      exact h
  · rintro ρ μ' ⟨x1, x2, x3, i, rfl, rfl, er, hi, e⟩
    unfold s_first_stretch_1
    simp_all!
    have hil : ls.length ≤ i := by
      apply Classical.byContradiction
      intro hc
      rw [drop_cons (List.getElem?_eq_getElem (show i < ls.length by omega)), enI] at er
      cases er
    rw [List.drop_of_length_le (by rw [List.length_zip]; omega)] at e
    rw [← e] at h
    exact h
theorem pure_first_stretch (hl : ds.length = ps_first_stretch.length) (hs : sp_first_stretch ds μ R Ed) (st : staL ds = true) : t_first_stretch (fin R Ed) (startD N_first_stretch ds) μ := hs.elim (fun h => pure_first_stretch_t ds μ R Ed hl h st) fun h => pure_first_stretch_l ds μ R Ed hl h st
theorem pure_first_between_t (hl : ds.length = ps_first_between.length) (hs : sp_first_between_t ds μ R Ed) (st : staL ds = true) : t_first_between (fin R Ed) (startD N_first_between ds) μ := by
  obtain ⟨ls, gs, word, x, f, rfl, S, hf, hx, h⟩ := hs
  show t_first_between (fin R Ed) [.val (lampsD ls), .val (logsD gs), .val (.str word), .val (.fn x), .un, .un, .un, .un, .un, .un, .un] μ
  unfold t_first_between s_first_between_0 lampsD logsD
  simp_all! [dZipC]
  refine ⟨_, _, _, _, rfl, rfl, rfl, ?_⟩
  rw [zipF_map]
  have hn := S.n
  have heq := S.eq
  refine comp_fun (Z := Z) (fun q : Lamp × Lg => D.tup [lampD q.1, logD q.2]) (fun q => logD (quietI q.1 0 q.2)) (by rw [szl, List.length_zip]; omega) (fun q hq k k' hk => ?_) (fun q _ => sta_log _) ?_
  · have hz := zip_ok S hq
    simp_all! [sta_lamp, sta_log]
    refine ⟨q.1, q.2, rfl, hz.1, by omega, ?_⟩
    unfold fitOr
    rw [hf q hq]
    exact hk
  have em : (ls.zip gs).map (fun q => logD (quietI q.1 0 q.2)) = (quietsOf ls gs).map logD := by unfold quietsOf; rw [List.map_map]; rfl
  have hql : (quietsOf ls gs).length = ls.length := by unfold quietsOf; rw [List.length_map, List.length_zip]; omega
  have hqb : ∀ q ∈ quietsOf ls gs, q.length ≤ 4001 := fun q hq => by
    unfold quietsOf at hq
    obtain ⟨y, hy, rfl⟩ := List.mem_map.mp hq
    have := quietI_len y.1 y.2 0
    have := (zip_ok S hy).2.1
    omega
  rw [em]
  generalize quietsOf ls gs = qs at hql hqb h ⊢
  refine ⟨staL_log _, ?_⟩
  unfold s_first_between_1
  simp_all! [staL_lamp]
  rw [enumF_map]
  refine loop_t (Z := Z) (fun p : Int × Lamp => D.tup [.int p.1, lampD p.2]) (fun rem ρ μ' => ∃ (x1 x2 x3 x4 x5 x6 : Slot) (i : Nat), ρ = [.val (.tup (ls.map lampD)), .val (.tup (gs.map logD)), .val (.str word), .val (.fn x), x1, .val (.lst (qs.map logD)), x2, x3, x4, x5, x6] ∧ μ' = μ ∧ rem = enI i (ls.drop i) ∧ i ≤ ls.length ∧ betweenI f qs i ((ls.zip gs).drop i) = betweenI f qs 0 (ls.zip gs)) ?_ ?_ ⟨_, _, _, _, _, _, 0, rfl, rfl, rfl, Nat.zero_le _, rfl⟩
  · rintro ⟨n, l⟩ rem ρ μ' N ⟨x1, x2, x3, x4, x5, x6, i, rfl, rfl, er, hi, e⟩ hN
    have hil : i < ls.length := by
      apply Classical.byContradiction
      intro hc
      rw [List.drop_of_length_le (by omega)] at er
      cases er
    rw [drop_cons (List.getElem?_eq_getElem hil), enI, List.cons.injEq] at er
    obtain ⟨e1, e2⟩ := er
    simp only [Prod.mk.injEq] at e1
    obtain ⟨rfl, rfl⟩ := e1
    have hig : i < gs.length := by rw [S.eq]; exact hil
    have hz : (ls.zip gs)[i]? = some (ls[i], gs[i]) := by rw [List.getElem?_zip_eq_some]; exact ⟨List.getElem?_eq_getElem hil, List.getElem?_eq_getElem hig⟩
    rw [drop_cons hz, betweenI] at e
    have hq := zip_ok S (List.mem_of_getElem? hz)
    have hw := hf _ (List.mem_of_getElem? hz)
    dsimp only at hq hw
    have ga : atI (gs.map logD) (i : Int) = some (logD gs[i]) := by
      unfold atI ixN
      rw [List.length_map, if_pos (by omega), if_pos (by omega)]
      show (gs.map logD)[i]? = _
      rw [List.getElem?_map, List.getElem?_eq_getElem hig]
      rfl
    generalize ls[i] = l at hq e hw
    generalize gs[i] = g at hq e ga hw
    have FL : FitL l g := ⟨hq.1, hq.2.1, hw, hq.2.2⟩
    unfold l_first_between_1 s_first_between_1f_0 s_first_between_1f_1
    simp_all! [sta_lamp, List.length_map]
    refine ⟨by omega, by omega, fun rg hrg => ?_⟩
    rw [show ((ls.length : Nat) : Int).toNat = ls.length by omega] at hrg
    refine loop_rg (Z := Z) hrg (fun j ρ μ => ∃ (x4 x5 : Slot), ρ = [.val (.tup (ls.map lampD)), .val (.tup (gs.map logD)), .val (.str word), .val (.fn x), .val (lampD l), .val (.lst (qs.map logD)), .val (.int i), .own ((foundI f l g (qs.take j)).map pD), x4, x5, x6] ∧ μ = μ') ?_ ?_ ⟨_, _, rfl, rfl⟩
    · rintro j ρ μ M hj ⟨x4, x5, rfl, rfl⟩ hM
      unfold l_first_between_1f_1 s_first_between_1f_1f_0 s_first_between_1f_1f_1 s_first_between_1f_1f_1a_0
      simp_all! [dCallV, ga]
      have hjq : j < qs.length := by omega
      have ga2 : atI (qs.map logD) (0 + (j : Int)) = some (logD qs[j]) := by
        rw [Int.zero_add]
        unfold atI ixN
        rw [List.length_map, if_pos (by omega), if_pos (by omega)]
        show (qs.map logD)[j]? = _
        rw [List.getElem?_map, List.getElem?_eq_getElem hjq]
        rfl
      have hb4 := hqb _ (List.getElem_mem hjq)
      have hfl : (foundI f l g (qs.take j)).length < 16777216 := by
        have h1 := List.length_filterMap_le (fun q : Int × Lg => (f l g q.2).map fun m => (m, q.1)) (enI 0 (qs.take j))
        rw [enI_length, List.length_take] at h1
        unfold foundI
        omega
      have ht : qs.take (j + 1) = qs.take j ++ [qs[j]] := List.take_succ_eq_append_getElem hjq
      have hs1 := found_snoc f l g (qs.take j) qs[j]
      rw [← ht, List.length_take, Nat.min_eq_left (by omega)] at hs1
      generalize qs[j] = qj at ga2 hb4 hs1
      have nonI : ∀ m : Int, ∀ v, D.int m ≠ .op v := fun m v z => by cases z
      rcases hx with ⟨rfl, rfl⟩ | ⟨rfl, rfl⟩
      · refine ⟨_, sp_sure_in_quiet, rfl, .inr rfl, _, ga2, ⟨sta_lamp _, sta_log _, sta_log _⟩, l, g, qj, rfl, FL, hb4, ?_⟩
        cases hv : sureQ l g qj with
        | none =>
          rw [hv] at hs1
          simp_all! [optD, q_isnot (show ∀ v, D.non ≠ .op v from fun v z => by cases z), show isNon D.non = true from rfl]
          dsimp only at hs1
          rw [List.append_nil] at hs1
          exact hM _ _ ⟨_, _, by rw [hs1], rfl⟩
        | some m =>
          rw [hv] at hs1
          simp_all! [optD, q_isnot (nonI m), show isNon (D.int m) = false from rfl, List.length_map]
          refine ⟨hfl, hM _ _ ⟨.val (.int (0 + (j : Int))), .val (.int m), ?_, rfl⟩⟩
          rw [hs1, List.map_append, Int.zero_add]
          rfl
      · refine ⟨_, sp_call_in_quiet, rfl, .inl rfl, _, ga2, ⟨sta_lamp _, sta_log _, sta_log _⟩, l, g, qj, rfl, FL, hb4, ?_⟩
        cases hv : callQ l g qj with
        | none =>
          rw [hv] at hs1
          simp_all! [optD, q_isnot (show ∀ v, D.non ≠ .op v from fun v z => by cases z), show isNon D.non = true from rfl]
          dsimp only at hs1
          rw [List.append_nil] at hs1
          exact hM _ _ ⟨_, _, by rw [hs1], rfl⟩
        | some m =>
          rw [hv] at hs1
          simp_all! [optD, q_isnot (nonI m), show isNon (D.int m) = false from rfl, List.length_map]
          refine ⟨hfl, hM _ _ ⟨.val (.int (0 + (j : Int))), .val (.int m), ?_, rfl⟩⟩
          rw [hs1, List.map_append, Int.zero_add]
          rfl
    · rintro ρ μ ⟨x4, x5, rfl, rfl⟩
      rw [List.take_of_length_le (by omega)]
      unfold s_first_between_1f_2 s_first_between_1f_2a_0
      cases ef : foundI f l g qs with
      | nil =>
        rw [ef] at e
        simp_all! [List.map_nil, List.isEmpty_nil]
        exact hN _ _ ⟨_, _, _, _, _, _, i + 1, rfl, rfl, e2, by omega, e⟩
      | cons p ps =>
        rw [ef] at e
        simp_all! [List.map_cons, List.isEmpty_cons]
        refine ⟨_, p, ps, rfl, rfl, fun q hq hle => ?_⟩
        obtain ⟨f1, f2⟩ := fold_minP ps p
        have eq : q = ps.foldl minP p := by
          have h1 := hle _ f1
          have h2 := f2 q hq
          unfold LeP at h1 h2
          exact Prod.ext (by omega) (by omega)
        subst eq
        rw [← e] at h
        unfold pD
        simp_all!
        exact h
  · rintro ρ μ' ⟨x1, x2, x3, x4, x5, x6, i, rfl, rfl, er, hi, e⟩
    unfold s_first_between_2
    simp_all!
    have hil : ls.length ≤ i := by
      apply Classical.byContradiction
      intro hc
      rw [drop_cons (List.getElem?_eq_getElem (show i < ls.length by omega)), enI] at er
      cases er
    rw [List.drop_of_length_le (by rw [List.length_zip]; omega)] at e
    rw [← e] at h
    exact h
theorem pure_first_between_l (hl : ds.length = ps_first_between.length) (hs : sp_first_between_l ds μ R Ed) (st : staL ds = true) : t_first_between (fin R Ed) (startD N_first_between ds) μ := by
  obtain ⟨ls, gs, word, x, f, rfl, S, hf, hx, h⟩ := hs
  show t_first_between (fin R Ed) [.val (.lst (ls.map lampD)), .val (.lst (gs.map logD)), .val (.str word), .val (.fn x), .un, .un, .un, .un, .un, .un, .un] μ
  unfold t_first_between s_first_between_0
  simp_all! [dZipC]
  refine ⟨_, _, _, _, rfl, rfl, rfl, ?_⟩
  rw [zipF_map]
  have hn := S.n
  have heq := S.eq
  refine comp_fun (Z := Z) (fun q : Lamp × Lg => D.tup [lampD q.1, logD q.2]) (fun q => logD (quietI q.1 0 q.2)) (by rw [szl, List.length_zip]; omega) (fun q hq k k' hk => ?_) (fun q _ => sta_log _) ?_
  · have hz := zip_ok S hq
    simp_all! [sta_lamp, sta_log]
    refine ⟨q.1, q.2, rfl, hz.1, by omega, ?_⟩
    unfold fitOr
    rw [hf q hq]
    exact hk
  have em : (ls.zip gs).map (fun q => logD (quietI q.1 0 q.2)) = (quietsOf ls gs).map logD := by unfold quietsOf; rw [List.map_map]; rfl
  have hql : (quietsOf ls gs).length = ls.length := by unfold quietsOf; rw [List.length_map, List.length_zip]; omega
  have hqb : ∀ q ∈ quietsOf ls gs, q.length ≤ 4001 := fun q hq => by
    unfold quietsOf at hq
    obtain ⟨y, hy, rfl⟩ := List.mem_map.mp hq
    have := quietI_len y.1 y.2 0
    have := (zip_ok S hy).2.1
    omega
  rw [em]
  generalize quietsOf ls gs = qs at hql hqb h ⊢
  refine ⟨staL_log _, ?_⟩
  unfold s_first_between_1
  simp_all! [staL_lamp]
  rw [enumF_map]
  refine loop_t (Z := Z) (fun p : Int × Lamp => D.tup [.int p.1, lampD p.2]) (fun rem ρ μ' => ∃ (x1 x2 x3 x4 x5 x6 : Slot) (i : Nat), ρ = [.val (.lst (ls.map lampD)), .val (.lst (gs.map logD)), .val (.str word), .val (.fn x), x1, .val (.lst (qs.map logD)), x2, x3, x4, x5, x6] ∧ μ' = μ ∧ rem = enI i (ls.drop i) ∧ i ≤ ls.length ∧ betweenI f qs i ((ls.zip gs).drop i) = betweenI f qs 0 (ls.zip gs)) ?_ ?_ ⟨_, _, _, _, _, _, 0, rfl, rfl, rfl, Nat.zero_le _, rfl⟩
  · rintro ⟨n, l⟩ rem ρ μ' N ⟨x1, x2, x3, x4, x5, x6, i, rfl, rfl, er, hi, e⟩ hN
    have hil : i < ls.length := by
      apply Classical.byContradiction
      intro hc
      rw [List.drop_of_length_le (by omega)] at er
      cases er
    rw [drop_cons (List.getElem?_eq_getElem hil), enI, List.cons.injEq] at er
    obtain ⟨e1, e2⟩ := er
    simp only [Prod.mk.injEq] at e1
    obtain ⟨rfl, rfl⟩ := e1
    have hig : i < gs.length := by rw [S.eq]; exact hil
    have hz : (ls.zip gs)[i]? = some (ls[i], gs[i]) := by rw [List.getElem?_zip_eq_some]; exact ⟨List.getElem?_eq_getElem hil, List.getElem?_eq_getElem hig⟩
    rw [drop_cons hz, betweenI] at e
    have hq := zip_ok S (List.mem_of_getElem? hz)
    have hw := hf _ (List.mem_of_getElem? hz)
    dsimp only at hq hw
    have ga : atI (gs.map logD) (i : Int) = some (logD gs[i]) := by
      unfold atI ixN
      rw [List.length_map, if_pos (by omega), if_pos (by omega)]
      show (gs.map logD)[i]? = _
      rw [List.getElem?_map, List.getElem?_eq_getElem hig]
      rfl
    generalize ls[i] = l at hq e hw
    generalize gs[i] = g at hq e ga hw
    have FL : FitL l g := ⟨hq.1, hq.2.1, hw, hq.2.2⟩
    unfold l_first_between_1 s_first_between_1f_0 s_first_between_1f_1
    simp_all! [sta_lamp, List.length_map]
    refine ⟨by omega, by omega, fun rg hrg => ?_⟩
    rw [show ((ls.length : Nat) : Int).toNat = ls.length by omega] at hrg
    refine loop_rg (Z := Z) hrg (fun j ρ μ => ∃ (x4 x5 : Slot), ρ = [.val (.lst (ls.map lampD)), .val (.lst (gs.map logD)), .val (.str word), .val (.fn x), .val (lampD l), .val (.lst (qs.map logD)), .val (.int i), .own ((foundI f l g (qs.take j)).map pD), x4, x5, x6] ∧ μ = μ') ?_ ?_ ⟨_, _, rfl, rfl⟩
    · rintro j ρ μ M hj ⟨x4, x5, rfl, rfl⟩ hM
      unfold l_first_between_1f_1 s_first_between_1f_1f_0 s_first_between_1f_1f_1 s_first_between_1f_1f_1a_0
      simp_all! [dCallV, ga]
      have hjq : j < qs.length := by omega
      have ga2 : atI (qs.map logD) (0 + (j : Int)) = some (logD qs[j]) := by
        rw [Int.zero_add]
        unfold atI ixN
        rw [List.length_map, if_pos (by omega), if_pos (by omega)]
        show (qs.map logD)[j]? = _
        rw [List.getElem?_map, List.getElem?_eq_getElem hjq]
        rfl
      have hb4 := hqb _ (List.getElem_mem hjq)
      have hfl : (foundI f l g (qs.take j)).length < 16777216 := by
        have h1 := List.length_filterMap_le (fun q : Int × Lg => (f l g q.2).map fun m => (m, q.1)) (enI 0 (qs.take j))
        rw [enI_length, List.length_take] at h1
        unfold foundI
        omega
      have ht : qs.take (j + 1) = qs.take j ++ [qs[j]] := List.take_succ_eq_append_getElem hjq
      have hs1 := found_snoc f l g (qs.take j) qs[j]
      rw [← ht, List.length_take, Nat.min_eq_left (by omega)] at hs1
      generalize qs[j] = qj at ga2 hb4 hs1
      have nonI : ∀ m : Int, ∀ v, D.int m ≠ .op v := fun m v z => by cases z
      rcases hx with ⟨rfl, rfl⟩ | ⟨rfl, rfl⟩
      · refine ⟨_, sp_sure_in_quiet, rfl, .inr rfl, _, ga2, ⟨sta_lamp _, sta_log _, sta_log _⟩, l, g, qj, rfl, FL, hb4, ?_⟩
        cases hv : sureQ l g qj with
        | none =>
          rw [hv] at hs1
          simp_all! [optD, q_isnot (show ∀ v, D.non ≠ .op v from fun v z => by cases z), show isNon D.non = true from rfl]
          dsimp only at hs1
          rw [List.append_nil] at hs1
          exact hM _ _ ⟨_, _, by rw [hs1], rfl⟩
        | some m =>
          rw [hv] at hs1
          simp_all! [optD, q_isnot (nonI m), show isNon (D.int m) = false from rfl, List.length_map]
          refine ⟨hfl, hM _ _ ⟨.val (.int (0 + (j : Int))), .val (.int m), ?_, rfl⟩⟩
          rw [hs1, List.map_append, Int.zero_add]
          rfl
      · refine ⟨_, sp_call_in_quiet, rfl, .inl rfl, _, ga2, ⟨sta_lamp _, sta_log _, sta_log _⟩, l, g, qj, rfl, FL, hb4, ?_⟩
        cases hv : callQ l g qj with
        | none =>
          rw [hv] at hs1
          simp_all! [optD, q_isnot (show ∀ v, D.non ≠ .op v from fun v z => by cases z), show isNon D.non = true from rfl]
          dsimp only at hs1
          rw [List.append_nil] at hs1
          exact hM _ _ ⟨_, _, by rw [hs1], rfl⟩
        | some m =>
          rw [hv] at hs1
          simp_all! [optD, q_isnot (nonI m), show isNon (D.int m) = false from rfl, List.length_map]
          refine ⟨hfl, hM _ _ ⟨.val (.int (0 + (j : Int))), .val (.int m), ?_, rfl⟩⟩
          rw [hs1, List.map_append, Int.zero_add]
          rfl
    · rintro ρ μ ⟨x4, x5, rfl, rfl⟩
      rw [List.take_of_length_le (by omega)]
      unfold s_first_between_1f_2 s_first_between_1f_2a_0
      cases ef : foundI f l g qs with
      | nil =>
        rw [ef] at e
        simp_all! [List.map_nil, List.isEmpty_nil]
        exact hN _ _ ⟨_, _, _, _, _, _, i + 1, rfl, rfl, e2, by omega, e⟩
      | cons p ps =>
        rw [ef] at e
        simp_all! [List.map_cons, List.isEmpty_cons]
        refine ⟨_, p, ps, rfl, rfl, fun q hq hle => ?_⟩
        obtain ⟨f1, f2⟩ := fold_minP ps p
        have eq : q = ps.foldl minP p := by
          have h1 := hle _ f1
          have h2 := f2 q hq
          unfold LeP at h1 h2
          exact Prod.ext (by omega) (by omega)
        subst eq
        rw [← e] at h
        unfold pD
        simp_all!
        exact h
  · rintro ρ μ' ⟨x1, x2, x3, x4, x5, x6, i, rfl, rfl, er, hi, e⟩
    unfold s_first_between_2
    simp_all!
    have hil : ls.length ≤ i := by
      apply Classical.byContradiction
      intro hc
      rw [drop_cons (List.getElem?_eq_getElem (show i < ls.length by omega)), enI] at er
      cases er
    rw [List.drop_of_length_le (by rw [List.length_zip]; omega)] at e
    rw [← e] at h
    exact h
theorem pure_first_between (hl : ds.length = ps_first_between.length) (hs : sp_first_between ds μ R Ed) (st : staL ds = true) : t_first_between (fin R Ed) (startD N_first_between ds) μ := hs.elim (fun h => pure_first_between_t ds μ R Ed hl h st) fun h => pure_first_between_l ds μ R Ed hl h st
theorem pure_first_reason_t (hl : ds.length = ps_first_reason.length) (hs : sp_first_reason_t ds μ R Ed) (st : staL ds = true) : t_first_reason (fin R Ed) (startD N_first_reason ds) μ := by
  obtain ⟨ls, gs, rfl, S, h⟩ := hs
  show t_first_reason (fin R Ed) [.val (lampsD ls), .val (logsD gs), .un] μ
  unfold t_first_reason s_first_reason_0
  simp_all! [sta_lamps, sta_logs]
  refine .inl ⟨ls, gs, rfl, S, ?_⟩
  unfold s_first_reason_1 s_first_reason_1a_0 s_first_reason_2
  unfold reasonI at h
  have nonOp : ∀ r : Rsn, ∀ v, rsnD r ≠ .op v := fun r v => by cases r <;> exact fun z => by cases z
  have non0 : ∀ r : Rsn, isNon (rsnD r) = false := fun r => by cases r <;> rfl
  have staR : ∀ r : Rsn, sta (rsnD r) = true := fun r => by cases r <;> rfl
  cases e1 : firstS 0 (ls.zip gs) with
  | some q =>
    rw [e1] at h
    rw [show optRD (Option.map (fun q => Rsn.st q.fst q.snd) (some q)) = rsnD (.st q.1 q.2) from rfl]
    have hop := nonOp (.st q.1 q.2)
    have hno := non0 (.st q.1 q.2)
    have hst := staR (.st q.1 q.2)
    change R (rsnD (.st q.1 q.2)) μ at h
    generalize rsnD (.st q.1 q.2) = d at hop hno hst h
    simp_all! [q_is hop, hno, hst]
    exact h
  | none =>
    rw [e1] at h
    have hfit : AllFit ls gs := fit_of_none e1
    simp_all! [sta_lamps, sta_logs, Option.map_none, optRD, q_is (show ∀ v, D.non ≠ .op v from fun v z => by cases z), show isNon D.non = true from rfl]
    refine .inl ⟨ls, gs, "sure", "sure_in_quiet", sureQ, rfl, S, hfit, .inl ⟨rfl, rfl⟩, ?_⟩
    dsimp only at h
    cases e2 : betweenI sureQ (quietsOf ls gs) 0 (ls.zip gs) with
    | some q =>
      rw [e2] at h
      rw [show optRD (Option.map (twoR "sure") (some q)) = rsnD (twoR "sure" q) from rfl]
      have hop := nonOp (twoR "sure" q)
      have hno := non0 (twoR "sure" q)
      have hst := staR (twoR "sure" q)
      change R (rsnD (twoR "sure" q)) μ at h
      generalize rsnD (twoR "sure" q) = d at hop hno hst h
      simp_all! [q_is hop, hno, hst]
      exact h
    | none =>
      rw [e2] at h
      simp_all! [sta_lamps, sta_logs, Option.map_none, optRD, q_is (show ∀ v, D.non ≠ .op v from fun v z => by cases z), show isNon D.non = true from rfl]
      refine .inl ⟨ls, gs, "call", "call_in_quiet", callQ, rfl, S, hfit, .inr ⟨rfl, rfl⟩, ?_⟩
      have hst : ∀ o : Option Rsn, sta (optRD o) = true := fun o => by cases o; rfl; exact staR _
      exact ⟨hst _, h⟩
theorem pure_first_reason_l (hl : ds.length = ps_first_reason.length) (hs : sp_first_reason_l ds μ R Ed) (st : staL ds = true) : t_first_reason (fin R Ed) (startD N_first_reason ds) μ := by
  obtain ⟨ls, gs, rfl, S, h⟩ := hs
  show t_first_reason (fin R Ed) [.val (.lst (ls.map lampD)), .val (.lst (gs.map logD)), .un] μ
  unfold t_first_reason s_first_reason_0
  simp_all! [staL_lamp, staL_log]
  refine .inr ⟨ls, gs, rfl, S, ?_⟩
  unfold s_first_reason_1 s_first_reason_1a_0 s_first_reason_2
  unfold reasonI at h
  have nonOp : ∀ r : Rsn, ∀ v, rsnD r ≠ .op v := fun r v => by cases r <;> exact fun z => by cases z
  have non0 : ∀ r : Rsn, isNon (rsnD r) = false := fun r => by cases r <;> rfl
  have staR : ∀ r : Rsn, sta (rsnD r) = true := fun r => by cases r <;> rfl
  cases e1 : firstS 0 (ls.zip gs) with
  | some q =>
    rw [e1] at h
    rw [show optRD (Option.map (fun q => Rsn.st q.fst q.snd) (some q)) = rsnD (.st q.1 q.2) from rfl]
    have hop := nonOp (.st q.1 q.2)
    have hno := non0 (.st q.1 q.2)
    have hst := staR (.st q.1 q.2)
    change R (rsnD (.st q.1 q.2)) μ at h
    generalize rsnD (.st q.1 q.2) = d at hop hno hst h
    simp_all! [q_is hop, hno, hst]
    exact h
  | none =>
    rw [e1] at h
    have hfit : AllFit ls gs := fit_of_none e1
    simp_all! [staL_lamp, staL_log, Option.map_none, optRD, q_is (show ∀ v, D.non ≠ .op v from fun v z => by cases z), show isNon D.non = true from rfl]
    refine .inr ⟨ls, gs, "sure", "sure_in_quiet", sureQ, rfl, S, hfit, .inl ⟨rfl, rfl⟩, ?_⟩
    dsimp only at h
    cases e2 : betweenI sureQ (quietsOf ls gs) 0 (ls.zip gs) with
    | some q =>
      rw [e2] at h
      rw [show optRD (Option.map (twoR "sure") (some q)) = rsnD (twoR "sure" q) from rfl]
      have hop := nonOp (twoR "sure" q)
      have hno := non0 (twoR "sure" q)
      have hst := staR (twoR "sure" q)
      change R (rsnD (twoR "sure" q)) μ at h
      generalize rsnD (twoR "sure" q) = d at hop hno hst h
      simp_all! [q_is hop, hno, hst]
      exact h
    | none =>
      rw [e2] at h
      simp_all! [staL_lamp, staL_log, Option.map_none, optRD, q_is (show ∀ v, D.non ≠ .op v from fun v z => by cases z), show isNon D.non = true from rfl]
      refine .inr ⟨ls, gs, "call", "call_in_quiet", callQ, rfl, S, hfit, .inr ⟨rfl, rfl⟩, ?_⟩
      have hst : ∀ o : Option Rsn, sta (optRD o) = true := fun o => by cases o; rfl; exact staR _
      exact ⟨hst _, h⟩
theorem pure_first_reason (hl : ds.length = ps_first_reason.length) (hs : sp_first_reason ds μ R Ed) (st : staL ds = true) : t_first_reason (fin R Ed) (startD N_first_reason ds) μ := hs.elim (fun h => pure_first_reason_t ds μ R Ed hl h st) fun h => pure_first_reason_l ds μ R Ed hl h st
theorem pure_verdict (hl : ds.length = ps_verdict.length) (hs : sp_verdict ds μ R Ed) (st : staL ds = true) : t_verdict (fin R Ed) (startD N_verdict ds) μ := by
  obtain ⟨ls, gs, rfl, h⟩ := hs
  show t_verdict (fin R Ed) [.val (lampsD ls), .val (logsD gs), .un] μ
  unfold t_verdict s_verdict_0 s_verdict_1 s_verdict_2
  simp_all! [sta_lamps, sta_logs]
  refine ⟨ls, gs, rfl, ?_⟩
  by_cases hc : gs.length = ls.length
  · rw [if_pos hc] at h ⊢
    obtain ⟨S, h⟩ := h
    refine .inl ⟨ls, gs, rfl, S, ?_⟩
    have nonOp : ∀ r : Rsn, ∀ v, rsnD r ≠ .op v := fun r v => by cases r <;> exact fun z => by cases z
    have non0 : ∀ r : Rsn, isNon (rsnD r) = false := fun r => by cases r <;> rfl
    have staR : ∀ r : Rsn, sta (rsnD r) = true := fun r => by cases r <;> rfl
    cases e : reasonI ls gs with
    | some r =>
      rw [e] at h
      dsimp only at h
      rw [show optRD (some r) = rsnD r from rfl]
      have hop := nonOp r
      have hno := non0 r
      have hst := staR r
      generalize rsnD r = d at hop hno hst h
      simp_all! [q_is hop, hno, hst]
      exact h
    | none =>
      rw [e] at h
      dsimp only at h
      simp_all! [optRD, q_is (show ∀ v, D.non ≠ .op v from fun v z => by cases z), show isNon D.non = true from rfl]
      have hfit : AllFit ls gs := fit_of_none (by
        unfold reasonI at e
        cases e1 : firstS 0 (ls.zip gs) with
        | none => rfl
        | some q => rw [e1] at e; cases e)
      refine ⟨ls, gs, rfl, S, hfit, ?_⟩
      have hlen : (quietsOf ls gs).flatten.length ≤ 4001000 := by
        have h1 := flat_len (qs := quietsOf ls gs) (m := 4001) fun q hq => by
          unfold quietsOf at hq
          obtain ⟨x, hx, rfl⟩ := List.mem_map.mp hq
          have := quietI_len x.1 x.2 0
          have := (zip_ok S hx).2.1
          omega
        have h2 : (quietsOf ls gs).length ≤ 1000 := by
          unfold quietsOf
          rw [List.length_map, List.length_zip]
          have := S.n
          omega
        have := Nat.mul_le_mul_right 4001 h2
        omega
      simp_all! [staL_p]
      refine ⟨_, rfl, by omega, fun ss hp hw => ?_⟩
      simp_all! [sta_log]
      have := freeI_len ss 0
      have := hp.length_eq
      refine ⟨_, rfl, by omega, ?_⟩
      simp_all! [sta_runs]
      exact h ss hp hw
  · rw [if_neg hc] at h ⊢
    exact h
end
end LP
/-! text LAt -/
/-! readings of defs that several laws share: printed by gen/mkshared.py -/
namespace LP
open PySem PySem.Spec PyProof.Rows L2 DL
def N_end_of : List Str := ["run", "first", "step", "count"]
def ps_end_of : List Str := ["run"]
def s_end_of_0 {Z : Wld} : DTS Z :=
  (dsAsg (dVar 0) (dgTup 3 (dgCons (dName 1) (dgCons (dName 2) (dgCons (dName 3) dgNil)))))
def s_end_of_1 {Z : Wld} : DTS Z :=
  (dsRet (d2 smAdd (dVar 1) (d2 smMul (dVar 2) (d2 smSub (dVar 3) (dC (.int 1))))))
def t_end_of {Z : Wld} : DTS Z :=
  (dsSeq s_end_of_0
    s_end_of_1)
def N_lengthened : List Str := ["log", "on", "off"]
def ps_lengthened : List Str := ["log", "on", "off"]
def s_lengthened_0a_0 {Z : Wld} : DTS Z :=
  (dsRet (dTup (dStar (dCut (dVar 0) dNoPart (dPart (dC (.int (-1))))) (dCons (dTup (dCons (d2 smIx (d2 smIx (dVar 0) (dC (.int (-1)))) (dC (.int 0))) (dCons (dL smMax2 (dCons (d2 smIx (d2 smIx (dVar 0) (dC (.int (-1)))) (dC (.int 1))) (dCons (dVar 2) dNil))) dNil))) dNil))))
def s_lengthened_0 {Z : Wld} : DTS Z :=
  (dsIf (dAnd (dB (d2 smNe (dVar 0) (dTup dNil))) (dB (d2 smLe (dVar 1) (d2 smIx (d2 smIx (dVar 0) (dC (.int (-1)))) (dC (.int 1)))))) s_lengthened_0a_0 dsNext)
def s_lengthened_1a_0 {Z : Wld} : DTS Z :=
  (dsRaise "TooLarge" "limit" (dC (.int 60)))
def s_lengthened_1 {Z : Wld} : DTS Z :=
  (dsIf (dB (d2 smEq (dL smLen (dCons (dVar 0) dNil)) (dC (.int 60)))) s_lengthened_1a_0 dsNext)
def s_lengthened_2 {Z : Wld} : DTS Z :=
  (dsRet (dTup (dStar (dVar 0) (dCons (dTup (dCons (dVar 1) (dCons (dVar 2) dNil))) dNil))))
def t_lengthened {Z : Wld} : DTS Z :=
  (dsSeq s_lengthened_0
    (dsSeq s_lengthened_1
    s_lengthened_2))
def N_after_hold : List Str := ["log", "run", "stay", "first", "step", "count", "index"]
def ps_after_hold : List Str := ["log", "run", "stay"]
def s_after_hold_0 {Z : Wld} : DTS Z :=
  (dsAsg (dVar 1) (dgTup 3 (dgCons (dName 3) (dgCons (dName 4) (dgCons (dName 5) dgNil)))))
def s_after_hold_1a_0 {Z : Wld} : DTS Z :=
  (dsRet (dCall sp_lengthened (dCons (dVar 0) (dCons (dVar 3) (dCons (d2 smAdd (dCall sp_end_of (dCons (dVar 1) dNil)) (dVar 2)) dNil)))))
def s_after_hold_1 {Z : Wld} : DTS Z :=
  (dsIf (dB (d2 smLe (dVar 4) (dVar 2))) s_after_hold_1a_0 dsNext)
def s_after_hold_2f_0 {Z : Wld} : DTS Z :=
  (dsAsg (dCall sp_lengthened (dCons (dVar 0) (dCons (d2 smAdd (dVar 3) (d2 smMul (dVar 4) (dVar 6))) (dCons (d2 smAdd (d2 smAdd (dVar 3) (d2 smMul (dVar 4) (dVar 6))) (dVar 2)) dNil)))) (dName 0))
def l_after_hold_2 {Z : Wld} : DTS Z :=
  s_after_hold_2f_0
def s_after_hold_2 {Z : Wld} : DTS Z :=
  (dsFor (dRg1 (dCons (dL smMin2 (dCons (dVar 5) (dCons (dC (.int (62))) dNil))) dNil)) (dName 6)
   l_after_hold_2)
def s_after_hold_3 {Z : Wld} : DTS Z :=
  (dsRet (dVar 0))
def t_after_hold {Z : Wld} : DTS Z :=
  (dsSeq s_after_hold_0
    (dsSeq s_after_hold_1
    (dsSeq s_after_hold_2
    s_after_hold_3)))
def N_after_pulse : List Str := ["log", "run", "stay", "first", "step", "count", "skipped", "every", "many", "index"]
def ps_after_pulse : List Str := ["log", "run", "stay"]
def s_after_pulse_0 {Z : Wld} : DTS Z :=
  (dsAsg (dVar 1) (dgTup 3 (dgCons (dName 3) (dgCons (dName 4) (dgCons (dName 5) dgNil)))))
def s_after_pulse_1a_0 {Z : Wld} : DTS Z :=
  (dsAsg (d2 smDiv (d2 smSub (d2 smAdd (d2 smSub (d2 smIx (d2 smIx (dVar 0) (dC (.int (-1)))) (dC (.int 1))) (dVar 3)) (dVar 4)) (dC (.int 1))) (dVar 4)) (dName 6))
def s_after_pulse_1a_1 {Z : Wld} : DTS Z :=
  (dsPar2 3 5 (dpE (d2 smAdd (dVar 3) (d2 smMul (dVar 4) (dVar 6))) (dpE (d2 smSub (dVar 5) (dVar 6)) dpNil)))
def s_after_pulse_1 {Z : Wld} : DTS Z :=
  (dsIf (dAnd (dB (d2 smNe (dVar 0) (dTup dNil))) (dB (d2 smLt (dVar 3) (d2 smIx (d2 smIx (dVar 0) (dC (.int (-1)))) (dC (.int 1)))))) (dsSeq s_after_pulse_1a_0
    s_after_pulse_1a_1) dsNext)
def s_after_pulse_2 {Z : Wld} : DTS Z :=
  (dsAsg (d2 smDiv (d2 smSub (d2 smAdd (dVar 2) (dVar 4)) (dC (.int 1))) (dVar 4)) (dName 7))
def s_after_pulse_3 {Z : Wld} : DTS Z :=
  (dsAsg (d2 smDiv (d2 smSub (d2 smAdd (dVar 5) (dVar 7)) (dC (.int 1))) (dVar 7)) (dName 8))
def s_after_pulse_4a_0 {Z : Wld} : DTS Z :=
  (dsRet (dCall sp_lengthened (dCons (dVar 0) (dCons (dVar 3) (dCons (d2 smAdd (dVar 3) (d2 smMul (dVar 2) (dVar 8))) dNil)))))
def s_after_pulse_4 {Z : Wld} : DTS Z :=
  (dsIf (dAnd (dB (d2 smGt (dVar 8) (dC (.int 0)))) (dB (d2 smEq (d2 smMul (dVar 4) (dVar 7)) (dVar 2)))) s_after_pulse_4a_0 dsNext)
def s_after_pulse_5f_0 {Z : Wld} : DTS Z :=
  (dsAsg (dCall sp_lengthened (dCons (dVar 0) (dCons (d2 smAdd (dVar 3) (d2 smMul (d2 smMul (dVar 4) (dVar 7)) (dVar 9))) (dCons (d2 smAdd (d2 smAdd (dVar 3) (d2 smMul (d2 smMul (dVar 4) (dVar 7)) (dVar 9))) (dVar 2)) dNil)))) (dName 0))
def l_after_pulse_5 {Z : Wld} : DTS Z :=
  s_after_pulse_5f_0
def s_after_pulse_5 {Z : Wld} : DTS Z :=
  (dsFor (dRg1 (dCons (dL smMin2 (dCons (dVar 8) (dCons (dC (.int (62))) dNil))) dNil)) (dName 9)
   l_after_pulse_5)
def s_after_pulse_6 {Z : Wld} : DTS Z :=
  (dsRet (dVar 0))
def t_after_pulse {Z : Wld} : DTS Z :=
  (dsSeq s_after_pulse_0
    (dsSeq s_after_pulse_1
    (dsSeq s_after_pulse_2
    (dsSeq s_after_pulse_3
    (dsSeq s_after_pulse_4
    (dsSeq s_after_pulse_5
    s_after_pulse_6))))))
def N_log_of : List Str := ["lamp", "motions", "kind", "stay", "log", "run"]
def ps_log_of : List Str := ["lamp", "motions"]
def s_log_of_0 {Z : Wld} : DTS Z :=
  (dsAsg (dVar 0) (dgTup 2 (dgCons (dName 2) (dgCons (dName 3) dgNil))))
def s_log_of_1 {Z : Wld} : DTS Z :=
  (dsAsg (dTup dNil) (dName 4))
def s_log_of_2f_0 {Z : Wld} : DTS Z :=
  (dsAsg (dIf (dB (d2 smEq (dVar 2) (dC (.str "hold")))) (dCall sp_after_hold (dCons (dVar 4) (dCons (dVar 5) (dCons (dVar 3) dNil)))) (dCall sp_after_pulse (dCons (dVar 4) (dCons (dVar 5) (dCons (dVar 3) dNil))))) (dName 4))
def l_log_of_2 {Z : Wld} : DTS Z :=
  s_log_of_2f_0
def s_log_of_2 {Z : Wld} : DTS Z :=
  (dsFor (dSeq (dVar 1)) (dName 5)
   l_log_of_2)
def s_log_of_3 {Z : Wld} : DTS Z :=
  (dsRet (dVar 4))
def t_log_of {Z : Wld} : DTS Z :=
  (dsSeq s_log_of_0
    (dsSeq s_log_of_1
    (dsSeq s_log_of_2
    s_log_of_3)))
end LP
/-! text LAp -/
namespace LP
open PySem PySem.Spec PyProof.Rows L2 DL
section
variable {Z : Wld} (ds : List D) (μ : Z.M) (R : D → Z.M → Prop) (Ed : Xc → Z.M → Prop)
theorem pure_end_of (hl : ds.length = ps_end_of.length) (hs : sp_end_of ds μ R Ed) (st : staL ds = true) : t_end_of (fin R Ed) (startD N_end_of ds) μ := by
  obtain ⟨⟨f, s, c⟩, rfl, g, h⟩ := hs
  show t_end_of (fin R Ed) [.val (rnD (f, s, c)), .un, .un, .un] μ
  have h1 := g.s1
  have h2 := g.s2
  unfold t_end_of s_end_of_0 s_end_of_1 rnD
  simp_all!
  exact ⟨sm60 (by dsimp only at h1; omega) (by dsimp only at h2; omega), h⟩
theorem pure_lengthened (hl : ds.length = ps_lengthened.length) (hs : sp_lengthened ds μ R Ed) (st : staL ds = true) : t_lengthened (fin R Ed) (startD N_lengthened ds) μ := by
  obtain ⟨rev, on, off, rfl, hn, h⟩ := hs
  show t_lengthened (fin R Ed) [.val (logD rev.reverse), .val (.int on), .val (.int off)] μ
  unfold t_lengthened s_lengthened_0 s_lengthened_0a_0 logD
  cases rev with
  | nil =>
    unfold s_lengthened_1 s_lengthened_1a_0 s_lengthened_2
    simp_all! [List.reverse_nil, List.map_nil, List.isEmpty_nil]
    exact h
  | cons s r =>
    obtain ⟨a, b⟩ := s
    have eb : ((a, b) :: r).reverse.map pD = r.reverse.map pD ++ [.tup [.int a, .int b]] := by rw [List.reverse_cons, List.map_append]; rfl
    rw [eb]
    simp_all! [app_ne, at_last]
    have hn' : r.length ≤ 59 := by simpa using hn
    have hc : cutL (r.reverse.map pD ++ [D.tup [.int a, .int b]]) none (some (-1)) = r.reverse.map pD := by
      rw [show (-1 : Int) = -1 from rfl]
      unfold cutL HT.sIx
      simp
      rw [show (-1 + ((r.length : Int) + 1)).toNat = (List.map pD r).reverse.length by simp; omega, List.take_left]
    by_cases h1 : on ≤ b
    · rw [if_pos (decide_eq_true h1)]
      rw [show putU ((a, b) :: r) on off = (a, max b off) :: r by simp only [putU, if_pos h1]] at h
      unfold ansL at h
      rw [if_pos (by simpa using hn')] at h
      rw [hc]
      have e2 : logD ((a, max b off) :: r).reverse = .tup (r.reverse.map pD ++ [.tup [.int a, .int (max b off)]]) := by unfold logD; rw [List.reverse_cons, List.map_append]; rfl
      have s2 := sta_log ((a, max b off) :: r).reverse
      rw [e2] at s2 h
      exact ⟨by simp; omega, s2, h⟩
    · rw [if_neg (by simpa using h1)]
      rw [show putU ((a, b) :: r) on off = (on, off) :: (a, b) :: r by simp only [putU, if_neg h1]] at h
      unfold s_lengthened_1 s_lengthened_1a_0
      simp_all! [List.length_append, rev_len, List.length_map, List.length_reverse]
      unfold ansL at h
      by_cases h2 : r.length = 59
      · rw [if_neg (by simp; omega)] at h
        rw [if_pos (by simp; omega)]
        exact h
      · rw [if_pos (by simp; omega)] at h
        rw [if_neg (by simp; omega)]
        unfold s_lengthened_2
        simp_all!
        have e2 : logD ((on, off) :: (a, b) :: r).reverse = .tup (r.reverse.map pD ++ [.tup [.int a, .int b]] ++ [.tup [.int on, .int off]]) := by unfold logD; rw [List.reverse_cons, List.reverse_cons, List.map_append, List.map_append]; rfl
        have s2 := sta_log ((on, off) :: (a, b) :: r).reverse
        rw [e2] at s2 h
        exact ⟨by simp; omega, s2, h⟩
theorem ans_end {o : Lg} (h : ansL (Z := Z) o R Ed μ) (h1 : 60 < o.length) : Ed tooL μ := by
  unfold ansL at h
  rwa [if_neg (by omega)] at h
theorem ans_sta {o : Lg} (h : ansL (Z := Z) o R Ed μ) : ansL (Z := Z) o (fun d μ' => sta d = true ∧ R d μ') Ed μ := by
  unfold ansL at h ⊢
  split
  · rename_i hc
    rw [if_pos hc] at h
    exact ⟨sta_log _, h⟩
  · rename_i hc
    rw [if_neg hc] at h
    exact h
theorem steps_le {k : Bool} {stay first step : Int} {rev : Lg} {n m : Nat} (h : n ≤ m) : (stepsU k stay first step n rev).length ≤ (stepsU k stay first step m rev).length := by
  have := stepsU_mono k stay first step rev n (m - n)
  rwa [show n + (m - n) = m by omega] at this
/-- the loops of at most sixty-two turns -/
theorem end_62 {stay first step : Int} {rev : Lg} {n : Nat} (h : stay < step ∨ n ≤ 62) (hr : offLe rev (first + stay)) (hs : ansL (Z := Z) (stepsU true stay first step n rev) R Ed μ) (hl : (stepsU true stay first step (min n 62) rev).length ≤ 60) : R (logD (stepsU true stay first step (min n 62) rev).reverse) μ := by
  by_cases hn : n ≤ 62
  · rw [Nat.min_eq_left hn] at hl ⊢
    unfold ansL at hs
    rwa [if_pos hl] at hs
  · rw [Nat.min_eq_right (by omega)] at hl
    have := (steps_62 (h.resolve_right hn) hr 62 (Nat.le_refl _)).1
    omega
theorem turn_62 {stay first step : Int} {rev : Lg} {n i : Nat} (hi : i < min n 62) (hs : ansL (Z := Z) (stepsU true stay first step n rev) R Ed μ) {R' : D → Z.M → Prop}
    (hN : (stepsU true stay first step (i + 1) rev).length ≤ 60 → R' (logD (stepsU true stay first step (i + 1) rev).reverse) μ) : ansL (Z := Z) (putU (stepsU true stay first step i rev) (first + step * i) (first + step * i + stay)) R' Ed μ := by
  have e : putU (stepsU true stay first step i rev) (first + step * i) (first + step * i + stay) = stepsU true stay first step (i + 1) rev := by
    rw [← stepU_true]; rfl
  rw [e]
  unfold ansL
  by_cases hc : (stepsU true stay first step (i + 1) rev).length ≤ 60
  · rw [if_pos hc]
    exact hN hc
  · rw [if_neg hc]
    have := steps_le (k := true) (stay := stay) (first := first) (step := step) (rev := rev) (show i + 1 ≤ n by omega)
    exact ans_end μ R Ed hs (by omega)
theorem min_62 {c : Int} : (min c 62).toNat = min c.toNat 62 := by omega
theorem pure_after_hold (hl : ds.length = ps_after_hold.length) (hs : sp_after_hold ds μ R Ed) (st : staL ds = true) : t_after_hold (fin R Ed) (startD N_after_hold ds) μ := by
  obtain ⟨rev, ⟨f, s, c⟩, stay, rfl, hn, g, s0, s1, ho, h⟩ := hs
  show t_after_hold (fin R Ed) [.val (logD rev.reverse), .val (rnD (f, s, c)), .val (.int stay), .un, .un, .un, .un] μ
  obtain ⟨g1, g2, g3, g4, g5, g6⟩ := g
  dsimp only at g1 g2 g3 g4 g5 g6 ho
  unfold t_after_hold s_after_hold_0 s_after_hold_1 s_after_hold_1a_0 rnD
  simp_all!
  by_cases hc : s ≤ stay
  · rw [if_pos (decide_eq_true hc)]
    simp_all! [sta_log]
    refine ⟨(f, s, c), rfl, ⟨g1, g2, g3, g4, g5, g6⟩, ?_⟩
    simp_all! [sta_log]
    refine ⟨rev, f, endOf (f, s, c) + stay, rfl, hn, ?_⟩
    unfold runU at h
    dsimp only at h
    obtain ⟨n, hn'⟩ : ∃ n : Nat, c = n + 1 := ⟨(c - 1).toNat, by omega⟩
    rw [show c.toNat = n + 1 by omega, steps_close hc (by omega)] at h
    unfold endOf
    dsimp only
    rw [show c - 1 = (n : Int) by omega]
    exact ans_sta _ _ _ h
  · rw [if_neg (by simpa using hc)]
    unfold s_after_hold_2
    simp_all!
    refine ⟨by omega, by omega, fun rg hrg => ?_⟩
    rw [min_62] at hrg
    unfold runU at h
    dsimp only at h
    refine loop_rg (Z := Z) hrg (fun i ρ μ' => ∃ a, ρ = [.val (logD (stepsU true stay f s i rev).reverse), .val (.tup [.int f, .int s, .int c]), .val (.int stay), .val (.int f), .val (.int s), .val (.int c), a] ∧ μ' = μ ∧ (stepsU true stay f s i rev).length ≤ 60) ?_ ?_ ⟨_, rfl, rfl, hn⟩
    · rintro i ρ μ' N hi ⟨a, rfl, rfl, hz⟩ hN
      unfold l_after_hold_2 s_after_hold_2f_0
      simp_all! [sta_log]
      refine ⟨sm60 (by omega) (by omega), sm60 (by omega) (by omega), _, _, _, rfl, hz, ?_⟩
      rw [Int.zero_add]
      exact turn_62 _ R Ed hi h fun hc => ⟨sta_log _, hN _ _ ⟨_, rfl, rfl, hc⟩⟩
    · rintro ρ μ' ⟨a, rfl, rfl, hz⟩
      unfold s_after_hold_3
      simp_all! [sta_log]
      exact end_62 _ R Ed (.inl (by omega)) ho h hz
theorem ceil_up {a s : Int} (hs : 1 ≤ s) : a ≤ s * ((a + s - 1) / s) ∧ s * ((a + s - 1) / s) ≤ a + s - 1 := by
  have h1 := Int.mul_ediv_self_le (x := a + s - 1) (k := s) (by omega)
  have h2 := Int.lt_mul_ediv_self_add (x := a + s - 1) (k := s) (by omega)
  omega
theorem ceil_nat {c e : Int} (he : 1 ≤ e) : ((c + e - 1) / e).toNat = (c.toNat + e.toNat - 1) / e.toNat := by
  obtain ⟨n, rfl⟩ : ∃ n : Nat, e = n := ⟨e.toNat, by omega⟩
  by_cases hc : 0 < c
  · obtain ⟨m, rfl⟩ : ∃ m : Nat, c = m := ⟨c.toNat, by omega⟩
    rw [show ((m : Int) + n - 1) = ((m + n - 1 : Nat) : Int) by omega]
    rfl
  · have h1 : (c + n - 1) / (n : Int) < 1 := Int.ediv_lt_of_lt_mul (by omega) (by omega)
    rw [show c.toNat = 0 by omega, show ((c + n - 1) / (n : Int)).toNat = 0 by omega]
    exact (Nat.div_eq_of_lt (by omega)).symm
theorem pure_after_pulse (hl : ds.length = ps_after_pulse.length) (hs : sp_after_pulse ds μ R Ed) (st : staL ds = true) : t_after_pulse (fin R Ed) (startD N_after_pulse ds) μ := by
  obtain ⟨rev, ⟨f, s, c⟩, stay, rfl, hn, g, s0, s1, ho, h⟩ := hs
  show t_after_pulse (fin R Ed) [.val (logD rev.reverse), .val (rnD (f, s, c)), .val (.int stay), .un, .un, .un, .un, .un, .un, .un] μ
  obtain ⟨g1, g2, g3, g4, g5, g6⟩ := g
  dsimp only at g1 g2 g3 g4 g5 g6 ho
  unfold runU at h
  dsimp only at h
  have rest : ∀ (f c : Int) (sk rn : Slot), offLe rev f → c < 2 ^ 60 → -(2 ^ 61) ≤ c → ansL (Z := Z) (stepsU false stay f s c.toNat rev) R Ed μ → dsSeq s_after_pulse_2 (dsSeq s_after_pulse_3 (dsSeq s_after_pulse_4 (dsSeq s_after_pulse_5 s_after_pulse_6))) (fin R Ed)
      [.val (logD rev.reverse), rn, .val (.int stay), .val (.int f), .val (.int s), .val (.int c), sk, .un, .un, .un] μ := fun f c sk rn ho c0 c1 h => by
    obtain ⟨k1, k2⟩ := ceil_up (a := stay) g3
    have hof : offLe rev (f + stay) := fun x hx => by have := ho x hx; omega
    unfold s_after_pulse_2 s_after_pulse_3 s_after_pulse_4 s_after_pulse_4a_0
    simp_all!
    generalize (stay + s - 1) / s = e at k1 k2 ⊢
    have he : 1 ≤ e := by
      apply Classical.byContradiction
      intro hc
      have : s * e ≤ s * 0 := Int.mul_le_mul_of_nonneg_left (by omega) (by omega)
      omega
    have he2 : e < 2 ^ 62 := by
      have : 1 * e ≤ s * e := Int.mul_le_mul_of_nonneg_right g3 (by omega)
      omega
    have hm := ceil_nat (c := c) he
    have hb1 : -(2 ^ 62) ≤ (c + e - 1) / e := by
      refine Int.le_ediv_of_mul_le (by omega) ?_
      by_cases h0 : 0 ≤ c
      · have : -(2 ^ 62) * e ≤ 0 := Int.mul_nonpos_of_nonpos_of_nonneg (by omega) (by omega)
        omega
      · have : -(2 ^ 62) * e ≤ -(2 ^ 62) * 1 := Int.mul_le_mul_of_nonpos_left (by omega) (by omega)
        omega
    rw [pulse_hold (e := e.toNat) s0 g3 (by omega) (by rw [show ((e.toNat : Nat) : Int) = e by omega, Int.mul_sub]; omega) (by rw [show ((e.toNat : Nat) : Int) = e by omega]; exact k1) c.toNat c.toNat f rev (Nat.le_refl _) ho, ← hm, show ((e.toNat : Nat) : Int) = e by omega] at h
    generalize (c + e - 1) / e = many at hb1 hm h ⊢
    have go : many ≤ 0 ∨ s * e ≠ stay → dsSeq s_after_pulse_5 s_after_pulse_6 (fin R Ed) [.val (logD rev.reverse), rn, .val (.int stay), .val (.int f), .val (.int s), .val (.int c), sk, .val (.int e), .val (.int many), .un] μ := fun hgo => by
      unfold s_after_pulse_5
      simp_all!
      refine ⟨by omega, by omega, fun rg hrg => ?_⟩
      rw [min_62] at hrg
      refine loop_rg (Z := Z) hrg (fun i ρ μ' => ∃ a, ρ = [.val (logD (stepsU true stay f (s * e) i rev).reverse), rn, .val (.int stay), .val (.int f), .val (.int s), .val (.int c), sk, .val (.int e), .val (.int many), a] ∧ μ' = μ ∧ (stepsU true stay f (s * e) i rev).length ≤ 60) ?_ ?_ ⟨_, rfl, rfl, hn⟩
      · rintro i ρ μ' N hi ⟨a, rfl, rfl, hz⟩ hN
        unfold l_after_pulse_5 s_after_pulse_5f_0
        simp_all! [sta_log]
        refine ⟨sm60 (by omega) (by omega), sm61 (by omega) (by omega), sm60 (by omega) (by omega), sm61 (by omega) (by omega), _, _, _, rfl, hz, ?_⟩
        rw [Int.zero_add]
        exact turn_62 _ R Ed hi h fun hc => ⟨sta_log _, hN _ _ ⟨_, rfl, rfl, hc⟩⟩
      · rintro ρ μ' ⟨a, rfl, rfl, hz⟩
        unfold s_after_pulse_6
        simp_all! [sta_log]
        exact end_62 _ R Ed (by rcases hgo with q | q; exact .inr (by omega); exact .inl (by omega)) hof h hz
    refine ⟨dv60 (by omega) (by omega), dv60 (by omega) (by omega), ?_⟩
    by_cases hm0 : 0 < many
    · rw [if_pos (decide_eq_true hm0)]
      by_cases hse : s * e = stay
      · refine ⟨sm60 (by omega) (by omega), ?_⟩
        rw [if_pos (by simpa using hse)]
        refine ⟨sm60 (by omega) (by omega), sta_log _, rev, f, f + stay * many, rfl, hn, ans_sta _ _ _ ?_⟩
        obtain ⟨n, hn'⟩ : ∃ n : Nat, many = n + 1 := ⟨(many - 1).toNat, by omega⟩
        rw [hse, show many.toNat = n + 1 by omega, steps_close (Int.le_refl _) (by omega)] at h
        rw [hn', Int.mul_add, Int.mul_one, ← Int.add_assoc]
        exact h
      · refine ⟨sm60 (by omega) (by omega), ?_⟩
        rw [if_neg (by simpa using hse)]
        exact go (.inr hse)
    · rw [if_neg (by simpa using hm0)]
      exact go (.inl (by omega))
  unfold t_after_pulse s_after_pulse_0 s_after_pulse_1 s_after_pulse_1a_0 s_after_pulse_1a_1 rnD logD
  have keep : offLe rev f → dsSeq s_after_pulse_2 (dsSeq s_after_pulse_3 (dsSeq s_after_pulse_4 (dsSeq s_after_pulse_5 s_after_pulse_6))) (fin R Ed)
      [.val (logD rev.reverse), .val (.tup [.int f, .int s, .int c]), .val (.int stay), .val (.int f), .val (.int s), .val (.int c), .un, .un, .un, .un] μ := fun hof => rest f c _ _ hof g6 (by omega) h
  cases rev with
  | nil =>
    simp_all! [List.reverse_nil, List.map_nil, List.isEmpty_nil]
    exact keep fun s hs => by cases hs
  | cons x r =>
    obtain ⟨a, b⟩ := x
    have eb : ((a, b) :: r).reverse.map pD = r.reverse.map pD ++ [.tup [.int a, .int b]] := by rw [List.reverse_cons, List.map_append]; rfl
    have hb : b ≤ f + stay := ho _ rfl
    rw [eb]
    simp_all! [app_ne, at_last]
    rw [← eb]
    by_cases h1 : f < b
    · rw [if_pos (decide_eq_true h1)]
      have ea : b - f + s - 1 = (b - f) + s - 1 := rfl
      obtain ⟨k1, k2⟩ := ceil_up (a := b - f) g3
      generalize (b - f + s - 1) / s = k at k1 k2 ⊢
      have hk : 1 ≤ k := by
        apply Classical.byContradiction
        intro hc
        have : s * k ≤ s * 0 := Int.mul_le_mul_of_nonneg_left (by omega) (by omega)
        omega
      have hk2 : k ≤ 2 ^ 60 + 2 ^ 60 := by
        have h2 : 1 * k ≤ s * k := Int.mul_le_mul_of_nonneg_right g3 (by omega)
        apply Classical.byContradiction
        intro hc
        have h3 : s * (2 ^ 60 + 2 ^ 60 + 1) ≤ s * k := Int.mul_le_mul_of_nonneg_left (by omega) (by omega)
        omega
      refine ⟨dv60 (by omega) (by omega), sm60 (by omega) (by omega), ?_⟩
      refine rest (f + s * k) (c - k) _ _ (fun x hx => by cases hx; show b ≤ _; omega) (by omega) (by omega) ?_
      have sk : ∀ n : Nat, (n : Int) ≤ k → stepsU false stay f s n ((a, b) :: r) = (a, b) :: r := fun n hnk => steps_skip n fun i hi => by
        have : s * (i : Int) ≤ s * (k - 1) := Int.mul_le_mul_of_nonneg_left (by omega) (by omega)
        rw [Int.mul_sub] at this
        omega
      by_cases hkc : k ≤ c
      · have ec : c.toNat = k.toNat + (c - k).toNat := by omega
        rw [ec, stepsU_add, sk _ (by omega), show ((k.toNat : Nat) : Int) = k by omega] at h
        exact h
      · rw [sk _ (by omega)] at h
        rw [show (c - k).toNat = 0 by omega]
        exact h
    · rw [if_neg (by simpa using h1)]
      exact keep fun x hx => by cases hx; show b ≤ f; omega
theorem pure_log_of (hl : ds.length = ps_log_of.length) (hs : sp_log_of ds μ R Ed) (st : staL ds = true) : t_log_of (fin R Ed) (startD N_log_of ds) μ := by
  obtain ⟨⟨k, stay⟩, rs, rfl, s0, s1, hg, ⟨a0, ha⟩, h⟩ := hs
  show t_log_of (fin R Ed) [.val (lampD (k, stay)), .val (runsD rs), .un, .un, .un, .un] μ
  dsimp only at s0 s1 h
  unfold t_log_of s_log_of_0 s_log_of_1 s_log_of_2 lampD runsD
  simp_all! [staL_rn]
  refine loop_t (Z := Z) rnD (fun rem ρ μ' => ∃ (rev : Lg) (a : Slot) (b : Int), ρ = [.val (lampD (k, stay)), .val (runsD rs), .val (.str (kS k)), .val (.int stay), .val (logD rev.reverse), a] ∧ μ' = μ ∧ rem.foldl (runU k stay) rev = logU k stay rs ∧ rev.length ≤ 60 ∧ (∀ r ∈ rem, GoodR r) ∧ AscN b rem ∧ offLe rev (b + stay)) ?_ ?_ ⟨[], _, a0, rfl, rfl, rfl, by decide, hg, ha, fun s hs => by cases hs⟩
  · rintro r rem ρ μ' N ⟨rev, a, b, rfl, rfl, e, hz, hg, ⟨hb, ha⟩, ho⟩ hN
    have g := hg r (List.mem_cons_self ..)
    have ho' : offLe rev (r.1 + stay) := fun s hs => by have := ho s hs; omega
    have key : ansL (Z := Z) (runU k stay rev r) (fun d μ2 => sta d = true ∧ N [.val (lampD (k, stay)), .val (runsD rs), .val (.str (kS k)), .val (.int stay), .val d, .val (rnD r)] μ2) Ed μ' := by
      unfold ansL
      rw [List.foldl_cons] at e
      by_cases hc : (runU k stay rev r).length ≤ 60
      · rw [if_pos hc]
        exact ⟨sta_log _, hN _ _ ⟨_, _, endOf r, rfl, rfl, e, hc, fun x hx => hg x (List.mem_cons_of_mem _ hx), ha, offLe_run g ho'⟩⟩
      · rw [if_neg hc]
        have := runsU_ge k stay rem (runU k stay rev r)
        rw [e] at this
        exact ans_end _ R Ed h (by omega)
    unfold l_log_of_2 s_log_of_2f_0
    simp_all! [kS_hold, sta_log, sta_rn]
    cases k with
    | true => exact ⟨rev, r, stay, rfl, hz, g, s0, s1, ho', key⟩
    | false => exact ⟨rev, r, stay, rfl, hz, g, s0, s1, ho', key⟩
  · rintro ρ μ' ⟨rev, a, b, rfl, rfl, e, hz, _⟩
    unfold s_log_of_3
    simp_all! [sta_log]
    rw [List.foldl_nil] at e
    unfold ansL at h
    rw [← e, if_pos hz] at h
    exact h
end
end LP
/-! text MOs -/
/-! lamps.py: motions judged (specs) -/
namespace LP
open PySem PySem.Spec PyProof.Rows L2 DL
def wholeD (d : D) (lo hi : Int) : Bool := match d with
  | .int i => decide (lo ≤ i) && decide (i ≤ hi)
  | _ => false
def RunV (a b c : Int) : Prop := 0 ≤ a ∧ a ≤ 1000000000 ∧ 1 ≤ b ∧ b ≤ 1000000000 ∧ 1 ≤ c ∧ c ≤ 1000000001 ∧ a + b * (c - 1) ≤ 1000000000 ∧ (1 < c ∨ b = 1)
instance (a b c : Int) : Decidable (RunV a b c) := by unfold RunV; exact inferInstance
def runD (d : D) : Bool := match d with
  | .tup [.int a, .int b, .int c] => decide (RunV a b c)
  | _ => false
def onD (d : D) : Int := match d with
  | .tup [.int a, _, _] => a
  | _ => 0
def endD (d : D) : Int := match d with
  | .tup [.int a, .int b, .int c] => a + b * (c - 1)
  | _ => 0
def faultL : Int → Int → List D → D
  | _, _, [] => .non
  | i, last, x :: xs => if runD x = true then (if onD x ≤ last then .tup [.int i, .str "order"] else faultL (i + 1) (endD x) xs) else .tup [.int i, .str "run"]
def faultD (d : D) : D := match d with
  | .tup xs => if 360 < xs.length then .tup [.non, .str "motions"] else faultL 0 (-1) xs
  | _ => .tup [.non, .str "motions"]
section
variable {Z : Wld}
def sp_is_integer : SpD Z := fun ds μ R _ => ∃ d lo hi, ds = [d, .int lo, .int hi] ∧ tame d = true ∧ R (.bl (wholeD d lo hi)) μ
def sp_is_minute : SpD Z := fun ds μ R _ => ∃ d, ds = [d] ∧ tame d = true ∧ R (.bl (wholeD d 0 1000000000)) μ
def sp_is_run : SpD Z := fun ds μ R _ => ∃ d, ds = [d] ∧ (∃ n k, Tm n k d ∧ n ≤ 8000) ∧ R (.bl (runD d)) μ
def sp_motions_error : SpD Z := fun ds μ R _ => ∃ d, ds = [d] ∧ (∃ n k, Tm n k d ∧ n ≤ 8000) ∧ R (faultD d) μ
def sp_is_motions : SpD Z := fun ds μ R _ => ∃ d, ds = [d] ∧ (∃ n k, Tm n k d ∧ n ≤ 8000) ∧ R (.bl (isNon (faultD d))) μ
end
end LP
/-! text MOt -/
/-! readings of defs that several laws share: printed by gen/mkshared.py -/
namespace LP
open PySem PySem.Spec PyProof.Rows L2 DL LP
def N_is_integer : List Str := ["value", "low", "high"]
def ps_is_integer : List Str := ["value", "low", "high"]
def s_is_integer_0 {Z : Wld} : DTS Z :=
  (dsRet (dAndV (dL smIsi (dCons (dVar 0) (dCons (dC (.op (.ty "int"))) dNil))) (dAndV (dNotV (dL smIsi (dCons (dVar 0) (dCons (dC (.op (.ty "bool"))) dNil)))) (dChain smLe smLe (dVar 1) (dVar 0) (dVar 2)))))
def t_is_integer {Z : Wld} : DTS Z :=
  s_is_integer_0
def N_is_minute : List Str := ["value"]
def ps_is_minute : List Str := ["value"]
def s_is_minute_0 {Z : Wld} : DTS Z :=
  (dsRet (dCall sp_is_integer (dCons (dVar 0) (dCons (dC (.int 0)) (dCons (dC (.int 1000000000)) dNil)))))
def t_is_minute {Z : Wld} : DTS Z :=
  s_is_minute_0
def N_is_run : List Str := ["value", "first", "step", "count"]
def ps_is_run : List Str := ["value"]
def s_is_run_0 {Z : Wld} : DTS Z :=
  (dsIf (dOr (dNot (dTru (dL smIsi (dCons (dVar 0) (dCons (dC (.op (.ty "tuple"))) dNil))))) (dOr (dB (d2 smNe (dL smLen (dCons (dVar 0) dNil)) (dC (.int 3)))) (dNot (dTru (dCall sp_is_minute (dCons (d2 smIx (dVar 0) (dC (.int 0))) dNil)))))) (dsRet (dC (.bl false))) dsNext)
def s_is_run_1 {Z : Wld} : DTS Z :=
  (dsAsg (dVar 0) (dgTup 3 (dgCons (dName 1) (dgCons (dName 2) (dgCons (dName 3) dgNil)))))
def s_is_run_2 {Z : Wld} : DTS Z :=
  (dsIf (dOr (dNot (dTru (dCall sp_is_integer (dCons (dVar 2) (dCons (dC (.int 1)) (dCons (dC (.int 1000000000)) dNil)))))) (dNot (dTru (dCall sp_is_integer (dCons (dVar 3) (dCons (dC (.int 1)) (dCons (dC (.int (1000000001))) dNil))))))) (dsRet (dC (.bl false))) dsNext)
def s_is_run_3 {Z : Wld} : DTS Z :=
  (dsRet (dAndV (d2 smLe (dCall sp_end_of (dCons (dVar 0) dNil)) (dC (.int 1000000000))) (dOrV (d2 smGt (dVar 3) (dC (.int 1))) (d2 smEq (dVar 2) (dC (.int 1))))))
def t_is_run {Z : Wld} : DTS Z :=
  (dsSeq s_is_run_0
    (dsSeq s_is_run_1
    (dsSeq s_is_run_2
    s_is_run_3)))
def N_motions_error : List Str := ["value", "last", "at", "run"]
def ps_motions_error : List Str := ["value"]
def s_motions_error_0a_0 {Z : Wld} : DTS Z :=
  (dsRet (dTup (dCons (dC .non) (dCons (dC (.str "motions")) dNil))))
def s_motions_error_0 {Z : Wld} : DTS Z :=
  (dsIf (dOr (dNot (dTru (dL smIsi (dCons (dVar 0) (dCons (dC (.op (.ty "tuple"))) dNil))))) (dB (d2 smGt (dL smLen (dCons (dVar 0) dNil)) (dC (.int 360))))) s_motions_error_0a_0 dsNext)
def s_motions_error_1 {Z : Wld} : DTS Z :=
  (dsAsg (dC (.int (-1))) (dName 1))
def s_motions_error_2f_0a_0 {Z : Wld} : DTS Z :=
  (dsRet (dTup (dCons (dVar 2) (dCons (dC (.str "run")) dNil))))
def s_motions_error_2f_0 {Z : Wld} : DTS Z :=
  (dsIf (dNot (dTru (dCall sp_is_run (dCons (dVar 3) dNil)))) s_motions_error_2f_0a_0 dsNext)
def s_motions_error_2f_1a_0 {Z : Wld} : DTS Z :=
  (dsRet (dTup (dCons (dVar 2) (dCons (dC (.str "order")) dNil))))
def s_motions_error_2f_1 {Z : Wld} : DTS Z :=
  (dsIf (dB (d2 smLe (d2 smIx (dVar 3) (dC (.int 0))) (dVar 1))) s_motions_error_2f_1a_0 dsNext)
def s_motions_error_2f_2 {Z : Wld} : DTS Z :=
  (dsAsg (dCall sp_end_of (dCons (dVar 3) dNil)) (dName 1))
def l_motions_error_2 {Z : Wld} : DTS Z :=
  (dsSeq s_motions_error_2f_0
    (dsSeq s_motions_error_2f_1
    s_motions_error_2f_2))
def s_motions_error_2 {Z : Wld} : DTS Z :=
  (dsFor (dEnum (dVar 0)) (dgTup 2 (dgCons (dName 2) (dgCons (dName 3) dgNil)))
   l_motions_error_2)
def s_motions_error_3 {Z : Wld} : DTS Z :=
  (dsRet (dC .non))
def t_motions_error {Z : Wld} : DTS Z :=
  (dsSeq s_motions_error_0
    (dsSeq s_motions_error_1
    (dsSeq s_motions_error_2
    s_motions_error_3)))
def N_is_motions : List Str := ["value"]
def ps_is_motions : List Str := ["value"]
def s_is_motions_0 {Z : Wld} : DTS Z :=
  (dsRet (d2 smIs (dCall sp_motions_error (dCons (dVar 0) dNil)) (dC .non)))
def t_is_motions {Z : Wld} : DTS Z :=
  s_is_motions_0
end LP
/-! text MOp -/
namespace LP
open PySem PySem.Spec PyProof.Rows L2 DL
theorem p_is_integer {Z : Wld} (d : D) (lo hi : Int) (μ : Z.M) (R : D → Z.M → Prop) (Ed : Xc → Z.M → Prop) (hd : tame d = true) (h : R (.bl (wholeD d lo hi)) μ) : s_is_integer_0 (fin R Ed) [.val d, .val (.int lo), .val (.int hi)] μ := by
  unfold s_is_integer_0
  cases d <;> simp only [wholeD] at h <;> simp_all! <;> first | exact h | (simp [tame] at hd; done) | skip
  rename_i i
  by_cases h1 : lo ≤ i <;> simp [h1] at h ⊢ <;> exact h
theorem pure_is_integer {Z : Wld} (ds : List D) (μ : Z.M) (R : D → Z.M → Prop) (Ed : Xc → Z.M → Prop) (hl : ds.length = ps_is_integer.length) (hs : sp_is_integer ds μ R Ed) (st : staL ds = true) : t_is_integer (fin R Ed) (startD N_is_integer ds) μ := by
  obtain ⟨d, lo, hi, rfl, hd, h⟩ := hs
  exact p_is_integer d lo hi μ R Ed hd h
section
variable {Z : Wld} {d : D} {lo hi : Int} {μ : Z.M} {R : D → Z.M → Prop} {E : Xc → Z.M → Prop}
theorem q_is_integer : sp_is_integer [d, .int lo, .int hi] μ R E ↔ (tame d = true ∧ R (.bl (wholeD d lo hi)) μ) := by
  constructor
  · rintro ⟨d', l, h, e, h1, h2⟩
    cases e
    exact ⟨h1, h2⟩
  · rintro ⟨h1, h2⟩
    exact ⟨d, lo, hi, rfl, h1, h2⟩
theorem q_minute : sp_is_minute [d] μ R E ↔ (tame d = true ∧ R (.bl (wholeD d 0 1000000000)) μ) := by
  constructor
  · rintro ⟨d', e, h1, h2⟩
    cases e
    exact ⟨h1, h2⟩
  · rintro ⟨h1, h2⟩
    exact ⟨d, rfl, h1, h2⟩
theorem q_end {a b c : Int} : sp_end_of [.tup [.int a, .int b, .int c]] μ R E ↔ (GoodR (a, b, c) ∧ R (.int (a + b * (c - 1))) μ) := by
  constructor
  · rintro ⟨r, e, h1, h2⟩
    obtain ⟨x, y, z⟩ := r
    cases e
    exact ⟨h1, h2⟩
  · rintro ⟨h1, h2⟩
    exact ⟨(a, b, c), rfl, h1, h2⟩
end
theorem whole_int {d : D} {lo hi : Int} (h : wholeD d lo hi = true) : ∃ i, d = .int i ∧ lo ≤ i ∧ i ≤ hi := by
  cases d <;> simp only [wholeD, Bool.false_eq_true, Bool.and_eq_true, decide_eq_true_eq] at h
  exact ⟨_, rfl, h⟩
theorem whole_no {i lo hi : Int} (h : wholeD (.int i) lo hi = false) : i < lo ∨ hi < i := by
  simp only [wholeD, Bool.and_eq_false_iff, decide_eq_false_iff_not] at h
  omega
theorem pure_is_minute {Z : Wld} (ds : List D) (μ : Z.M) (R : D → Z.M → Prop) (Ed : Xc → Z.M → Prop) (hl : ds.length = ps_is_minute.length) (hs : sp_is_minute ds μ R Ed) (st : staL ds = true) : t_is_minute (fin R Ed) (startD N_is_minute ds) μ := by
  obtain ⟨d, rfl, hd, h⟩ := hs
  show t_is_minute (fin R Ed) [.val d] μ
  unfold t_is_minute s_is_minute_0
  simp_all! [q_is_integer]
  exact ⟨tame_sta d hd, hd, h⟩
theorem run_false {a b c : D} (h : ∀ x y z : Int, a = .int x → b = .int y → c = .int z → ¬ RunV x y z) : runD (.tup [a, b, c]) = false := by
  cases a <;> try rfl
  cases b <;> try rfl
  cases c <;> try rfl
  exact decide_eq_false (h _ _ _ rfl rfl rfl)
theorem pure_is_run {Z : Wld} (ds : List D) (μ : Z.M) (R : D → Z.M → Prop) (Ed : Xc → Z.M → Prop) (hl : ds.length = ps_is_run.length) (hs : sp_is_run ds μ R Ed) (st : staL ds = true) : t_is_run (fin R Ed) (startD N_is_run ds) μ := by
  obtain ⟨d, rfl, ⟨n, k, tm, hn⟩, h⟩ := hs
  show t_is_run (fin R Ed) [.val d, .un, .un, .un] μ
  unfold t_is_run s_is_run_0
  have hd := tm.t
  cases d with
  | tup xs =>
    simp_all!
    match xs, h, hd with
    | [], h, _ => exact h
    | [a], h, _ => exact itT (by rfl) (by cases a <;> exact h)
    | [a, b], h, _ => exact itT (by rfl) (by cases a <;> cases b <;> exact h)
    | [a, b, c], h, hd =>
      simp only [tame, tameL, Bool.and_true, Bool.and_eq_true] at hd
      obtain ⟨ha, hb, hc⟩ := hd
      have sa := tame_sta a ha
      have sb := tame_sta b hb
      have sc := tame_sta c hc
      refine itF (by simp) ?_
      simp_all! [q_minute, sa, ha]
      cases ea : wholeD a 0 1000000000 with
      | false =>
        refine itT rfl ?_
        rw [run_false fun x y z e1 e2 e3 r => by
          subst e1
          have := whole_no ea
          obtain ⟨r1, r2, _⟩ := r
          omega] at h
        exact h
      | true =>
        refine itF (by simp) ?_
        obtain ⟨x, rfl, x0, x1⟩ := whole_int ea
        unfold s_is_run_1 s_is_run_2
        simp_all! [q_is_integer, sb, sc, hb, hc]
        cases eb : wholeD b 1 1000000000 with
        | false =>
          refine itT rfl ?_
          rw [run_false fun x y z e1 e2 e3 r => by
            subst e2
            have := whole_no eb
            obtain ⟨r1, r2, r3, r4, _⟩ := r
            omega] at h
          exact h
        | true =>
          refine itF (by simp) ?_
          obtain ⟨y, rfl, y0, y1⟩ := whole_int eb
          cases ec : wholeD c 1 1000000001 with
          | false =>
            refine itT rfl ?_
            rw [run_false fun x y z e1 e2 e3 r => by
              subst e3
              have := whole_no ec
              obtain ⟨r1, r2, r3, r4, r5, r6, _⟩ := r
              omega] at h
            exact h
          | true =>
            refine itF (by simp) ?_
            obtain ⟨z, rfl, z0, z1⟩ := whole_int ec
            unfold s_is_run_3
            simp_all! [q_end]
            refine ⟨⟨by dsimp only; omega, by dsimp only; omega, by dsimp only; omega, by dsimp only; omega, by dsimp only; omega, by dsimp only; omega⟩, ?_⟩
            have e : runD (.tup [.int x, .int y, .int z]) = decide (RunV x y z) := rfl
            rw [e] at h
            by_cases h1 : x + y * (z - 1) ≤ 1000000000
            · refine itT (decide_eq_true h1) ?_
              by_cases h2 : 1 < z
              · refine itT (decide_eq_true h2) ?_
                rw [decide_eq_true (show RunV x y z from ⟨x0, x1, y0, y1, z0, z1, h1, .inl h2⟩)] at h
                exact h
              · refine itF (by simpa using h2) ?_
                by_cases h3 : y = 1
                · subst h3
                  rw [decide_eq_true (show RunV x 1 z from ⟨x0, x1, y0, y1, z0, z1, h1, .inr rfl⟩)] at h
                  exact h
                · rw [decide_eq_false (fun r : RunV x y z => by
                    obtain ⟨_, _, _, _, _, _, _, r⟩ := r
                    omega)] at h
                  have e3 : (y == 1) = false := by simpa using h3
                  rw [e3]
                  exact h
            · refine itF (by simpa using h1) ?_
              rw [decide_eq_false (fun r : RunV x y z => h1 r.2.2.2.2.2.2.1)] at h
              exact h
    | a :: b :: c :: e :: r, h, _ => exact itT (by simp; omega) (by cases a <;> cases b <;> cases c <;> exact h)
  | _ => first | (simp_all!; exact h) | (simp [tame] at hd; done)
theorem mul_ge {b c : Int} (h1 : 1 ≤ b) (h2 : 1 ≤ c) : b ≤ b * c := by
  have := Int.mul_le_mul_of_nonneg_left h2 (show 0 ≤ b by omega)
  omega
theorem mul_ge2 {b c : Int} (h1 : 1 ≤ b) (h2 : 0 ≤ c) : c ≤ b * c := by
  have := Int.mul_le_mul_of_nonneg_right h1 h2
  omega
theorem q_run {Z : Wld} {d : D} {μ : Z.M} {R : D → Z.M → Prop} {E : Xc → Z.M → Prop} {n k : Nat} (h : DL.Tm n k d) (hn : n ≤ 8000) (q : R (.bl (runD d)) μ) : sp_is_run [d] μ R E := ⟨d, rfl, ⟨n, k, h, hn⟩, q⟩
theorem run_form {d : D} (h : runD d = true) : ∃ a b c : Int, d = .tup [.int a, .int b, .int c] ∧ RunV a b c := by
  match d, h with
  | .tup [.int a, .int b, .int c], h => exact ⟨a, b, c, rfl, of_decide_eq_true h⟩
theorem non_tm : DL.Tm 3 1 .non := ⟨rfl, by decide, by decide⟩
theorem motT : DL.Tm 3 1 (.tup [.non, .str "motions"]) := ⟨by decide, by decide, by decide⟩
theorem fault_tame : ∀ (i last : Int) (xs : List D), 0 ≤ i → i + xs.length < 2 ^ 60 → DL.Tm 3 1 (faultL i last xs)
  | i, last, [], _, _ => non_tm
  | i, last, x :: xs, h0, h => by
    rw [List.length_cons] at h
    have hi : i.natAbs < 2 ^ 200 := by omega
    have tm : ∀ z : Str, tame (.str z) = true → DL.Tm 3 1 (.tup [.int i, .str z]) := fun z hz => by
      refine ⟨?_, by simp [nodes, nodesL], by simp [dep, depL]⟩
      simp only [tame] at hz
      simp only [tame, tameL, hz, hi, decide_true, Bool.and_true]
    unfold faultL
    split
    · split
      · exact tm _ (by decide)
      · exact fault_tame (i + 1) (endD x) xs (by omega) (by omega)
    · exact tm _ (by decide)
theorem fault_ok (d : D) {n k : Nat} (h : DL.Tm n k d) (hn : n ≤ 8000) : DL.Tm 3 1 (faultD d) := by
  cases d with
  | tup xs =>
    have := h.tupL.len
    show DL.Tm 3 1 (if 360 < xs.length then D.tup [D.non, D.str "motions"] else faultL 0 (-1) xs)
    by_cases h6 : 360 < xs.length
    · rw [if_pos h6]; exact motT
    · rw [if_neg h6]; exact fault_tame 0 (-1) xs (by decide) (by omega)
  | _ => exact motT
theorem f_no {i last : Int} {y : D} {ys : List D} (e : runD y = false) : faultL i last (y :: ys) = .tup [.int i, .str "run"] := by unfold faultL; rw [if_neg (by rw [e]; exact Bool.false_ne_true)]
theorem f_ord {i last a b c : Int} {ys : List D} (e : runD (.tup [.int a, .int b, .int c]) = true) (h : a ≤ last) : faultL i last (.tup [.int a, .int b, .int c] :: ys) = .tup [.int i, .str "order"] := by unfold faultL; rw [if_pos e]; exact if_pos h
theorem f_next {i last a b c : Int} {ys : List D} (e : runD (.tup [.int a, .int b, .int c]) = true) (h : ¬ a ≤ last) : faultL i last (.tup [.int a, .int b, .int c] :: ys) = faultL (i + 1) (a + b * (c - 1)) ys := by
  conv => lhs; unfold faultL
  rw [if_pos e]; exact if_neg h
theorem tail_tm {n k : Nat} {y : D} {ys : List D} (h1 : DL.TmL n k (y :: ys)) : DL.TmL n k ys := ⟨tameL_sub h1.t fun b hb => List.mem_cons_of_mem _ hb, by have := h1.n; simp only [nodesL] at this; omega, by have := h1.k; simp only [depL] at this; omega⟩
theorem pure_motions_error {Z : Wld} (ds : List D) (μ : Z.M) (R : D → Z.M → Prop) (Ed : Xc → Z.M → Prop) (hl : ds.length = ps_motions_error.length) (hs : sp_motions_error ds μ R Ed) (st : staL ds = true) : t_motions_error (fin R Ed) (startD N_motions_error ds) μ := by
  obtain ⟨d, rfl, ⟨n, k, tm, hn⟩, h⟩ := hs
  show t_motions_error (fin R Ed) [.val d, .un, .un, .un] μ
  unfold t_motions_error s_motions_error_0 s_motions_error_0a_0 s_motions_error_1 s_motions_error_2 s_motions_error_3
  cases d with
  | tup xs =>
    have hx := tm.tupL
    have sx := tameL_sta xs hx.t
    have h' : R (if 360 < xs.length then D.tup [D.non, D.str "motions"] else faultL 0 (-1) xs) μ := h
    simp_all! [sx]
    by_cases h6 : 360 < xs.length
    · rw [if_pos h6] at h'
      exact itT (decide_eq_true (by omega)) h'
    · rw [if_neg h6] at h'
      refine itF (fun q => h6 (by have := of_decide_eq_true q; omega)) ?_
      refine loop_inv (Z := Z) (fun rem ρ μ' => ∃ (i : Nat) (last : Int) (ys : List D) (a b : Slot), rem = enumF i ys ∧ ρ = [.val (.tup xs), .val (.int last), a, b] ∧ μ' = μ ∧ DL.TmL n k ys ∧ faultL i last ys = faultL 0 (-1) xs) ?_ ?_ ⟨0, -1, xs, .un, .un, rfl, rfl, rfl, hx.mono (by omega) (by omega), rfl⟩
      · rintro d rem ρ μ' N ⟨i, last, ys, a, b, e, rfl, rfl, h1, h2⟩ hN
        cases ys with
        | nil => cases e
        | cons y ys =>
          cases e
          have hy := h1.mem (List.mem_cons_self ..)
          have sy := tm_sta hy
          unfold l_motions_error_2 s_motions_error_2f_0 s_motions_error_2f_0a_0 s_motions_error_2f_1 s_motions_error_2f_1a_0 s_motions_error_2f_2
          simp_all! [sy]
          refine q_run hy hn ⟨_, rfl, ?_⟩
          cases e : runD y with
          | false =>
            refine itT rfl ?_
            rw [← h2, f_no e] at h'
            exact h'
          | true =>
            refine itF (by simp) ?_
            obtain ⟨x, y, z, rfl, rv⟩ := run_form e
            simp_all! [q_end]
            by_cases h5 : x ≤ last
            · refine itT (decide_eq_true h5) ?_
              rw [← h2, f_ord e h5] at h'
              exact h'
            · refine itF (by simpa using h5) ?_
              obtain ⟨r1, r2, r3, r4, r5, r6, _⟩ := rv
              refine ⟨⟨by dsimp only; omega, by dsimp only; omega, by dsimp only; omega, by dsimp only; omega, by dsimp only; omega, by dsimp only; omega⟩, hN _ _ ⟨i + 1, _, ys, _, _, rfl, rfl, rfl, tail_tm h1, ?_⟩⟩
              rw [← h2, f_next e h5]
              rfl
      · rintro ρ μ' ⟨i, last, ys, a, b, e, rfl, rfl, h1, h2⟩
        cases ys with
        | nil =>
          simp_all!
          rw [← h2] at h'
          exact h'
        | cons y ys => cases e
  | _ => first | (simp_all!; exact h) | (have := tm.t; simp [tame] at this; done)
theorem pure_is_motions {Z : Wld} (ds : List D) (μ : Z.M) (R : D → Z.M → Prop) (Ed : Xc → Z.M → Prop) (hl : ds.length = ps_is_motions.length) (hs : sp_is_motions ds μ R Ed) (st : staL ds = true) : t_is_motions (fin R Ed) (startD N_is_motions ds) μ := by
  obtain ⟨d, rfl, ⟨n, k, tm, hn⟩, h⟩ := hs
  show t_is_motions (fin R Ed) [.val d] μ
  unfold t_is_motions s_is_motions_0
  simp_all!
  refine ⟨tm_sta tm, d, rfl, ⟨n, k, tm, hn⟩, ?_⟩
  refine ⟨rfl, fun v e => ?_, rfl, h⟩
  have := (fault_ok d tm hn).t
  rw [e] at this
  cases this
end LP
/-! text LAr -/
/-! logs of motions are tame; what a law is told of log_of -/
namespace LP
open PySem PySem.Spec PyProof.Rows L2 DL
theorem stepU_le (k : Bool) (stay : Int) (rev : Lg) (m : Int) : (stepU k stay rev m).length ≤ rev.length + 1 := by
  unfold stepU
  split
  · exact putU_le ..
  · split
    · simp
    · split
      · simp
      · exact putU_le ..
theorem playM_le (k : Bool) (stay : Int) : ∀ (ms : List Int) (rev : Lg), (ms.foldl (stepU k stay) rev).length ≤ rev.length + ms.length
  | [], _ => Nat.le_refl _
  | m :: ms, rev => by
    have h1 := playM_le k stay ms (stepU k stay rev m)
    have h2 := stepU_le k stay rev m
    rw [List.foldl_cons, List.length_cons]
    omega
def toldD (u : Lg) : D := if u.length ≤ 60 then logD u.reverse else .lst [.int 60]
theorem sta_told (u : Lg) : sta (toldD u) = true := by
  unfold toldD
  split
  · exact sta_log _
  · rfl
def InB (lo hi : Int) (rev : Lg) : Prop := ∀ s ∈ rev, lo ≤ s.1 ∧ s.1 ≤ hi ∧ lo ≤ s.2 ∧ s.2 ≤ hi
theorem inB_put {lo hi on off : Int} {rev : Lg} (h : InB lo hi rev) (h1 : lo ≤ on) (h2 : on ≤ hi) (h3 : lo ≤ off) (h4 : off ≤ hi) : InB lo hi (putU rev on off) := by
  cases rev with
  | nil => intro s hs; rw [show putU [] on off = [(on, off)] from rfl, List.mem_singleton] at hs; subst hs; exact ⟨h1, h2, h3, h4⟩
  | cons x t =>
    obtain ⟨a, b⟩ := x
    obtain ⟨q1, q2, q3, q4⟩ := h (a, b) (List.mem_cons_self ..)
    dsimp only at q1 q2 q3 q4
    intro s hs
    unfold putU at hs
    dsimp only at hs
    split at hs
    · rcases List.mem_cons.mp hs with e | e
      · subst e; dsimp only; omega
      · exact h s (List.mem_cons_of_mem _ e)
    · rcases List.mem_cons.mp hs with e | e
      · subst e; dsimp only; omega
      · exact h s e
theorem inB_step {k : Bool} {lo hi stay m : Int} {rev : Lg} (h : InB lo hi rev) (h0 : 0 ≤ stay) (h1 : lo ≤ m) (h2 : m + stay ≤ hi) : InB lo hi (stepU k stay rev m) := by
  unfold stepU
  split
  · exact inB_put h h1 (by omega) (by omega) h2
  · split
    · intro s hs; rw [List.mem_singleton.mp hs]; exact ⟨h1, by dsimp only; omega, by dsimp only; omega, h2⟩
    · split
      · exact h
      · exact inB_put h h1 (by omega) (by omega) h2
theorem inB_steps {k : Bool} {lo hi stay first step : Int} {rev : Lg} (h : InB lo hi rev) (h0 : 0 ≤ stay) : ∀ n : Nat, (∀ i : Nat, i < n → lo ≤ first + step * i ∧ first + step * i + stay ≤ hi) → InB lo hi (stepsU k stay first step n rev)
  | 0, _ => h
  | n + 1, q => inB_step (inB_steps h h0 n fun i hi => q i (by omega)) h0 (q n (by omega)).1 (q n (by omega)).2
theorem inB_log {k : Bool} {stay : Int} (h0 : 0 ≤ stay) (h1 : stay < 2 ^ 60) : ∀ {rs : List Rn} {rev : Lg}, (∀ r ∈ rs, GoodR r) → InB (-(2 ^ 60)) (2 ^ 122) rev → InB (-(2 ^ 60)) (2 ^ 122) (rs.foldl (runU k stay) rev)
  | [], rev, _, h => h
  | r :: rs, rev, hg, h => by
    have g := hg r (List.mem_cons_self ..)
    show InB _ _ (rs.foldl (runU k stay) (runU k stay rev r))
    refine inB_log h0 h1 (fun x hx => hg x (List.mem_cons_of_mem _ hx)) (inB_steps h h0 _ fun i hi => ?_)
    obtain ⟨g1, g2, g3, g4, g5, g6⟩ := g
    have a1 : 0 ≤ r.2.1 * (i : Int) := Int.mul_nonneg (by omega) (by omega)
    have a2 : r.2.1 * (i : Int) ≤ 2 ^ 60 * (i : Int) := Int.mul_le_mul_of_nonneg_right (by omega) (by omega)
    omega
theorem log_bp {k : Bool} {stay : Int} {rs : List Rn} (h0 : 0 ≤ stay) (h1 : stay < 2 ^ 60) (hg : ∀ r ∈ rs, GoodR r) : ∀ s ∈ logU k stay rs, BP s := fun s hs => by
  have := inB_log (k := k) h0 h1 hg (rev := []) (fun _ z => by cases z) s hs
  unfold BP BI
  omega
theorem told_tm {k : Bool} {stay : Int} {rs : List Rn} (h0 : 0 ≤ stay) (h1 : stay < 2 ^ 60) (hg : ∀ r ∈ rs, GoodR r) : DL.Tm 181 2 (toldD (logU k stay rs)) := by
  unfold toldD
  split
  · exact tm_log 60 (fun s hs => log_bp h0 h1 hg s (List.mem_reverse.mp hs)) (by rw [List.length_reverse]; assumption)
  · exact ((tm_one (Tm.int (show BI 60 by unfold BI; decide))).lst).mono (by omega) (by omega)
end LP
/-! text QC -/
/-! the motions of a verdict: plain laws -/
namespace RL
open PySem DL LP
theorem motF_mem (t : Int) : ∀ (n : Nat) (f : Int), t ∈ motF f 1 n ↔ f ≤ t ∧ t < f + n
  | 0, f => by simp [motF] <;> omega
  | n + 1, f => by
    rw [motF, List.mem_cons, motF_mem t n (f + 1)]
    omega
theorem run_mem {a b t : Int} (h : a ≤ b) : t ∈ mot (a, 1, b - a + 1) ↔ a ≤ t ∧ t ≤ b := by
  unfold mot
  rw [motF_mem]
  dsimp only
  omega
def minsOf (spans : Lg) : List Int := (motI spans).flatMap mot
theorem minsOf_cons (s : Int × Int) (r : Lg) : minsOf (s :: r) = mot (s.1, 1, s.2 - s.1 + 1) ++ minsOf r := by unfold minsOf motI; rw [List.map_cons, List.flatMap_cons]
theorem minsOf_app (a b : Lg) : minsOf (a ++ b) = minsOf a ++ minsOf b := by unfold minsOf motI; rw [List.map_append, List.flatMap_append]
/-- spans within the time -/
def SpOk (ss : Lg) : Prop := ∀ q ∈ ss, 0 ≤ q.1 ∧ q.1 ≤ q.2 ∧ q.2 ≤ 1000000000
theorem free_mem (t : Int) : ∀ (ss : Lg) (f : Int), SpOk ss → ss.Pairwise LeP → (t ∈ minsOf (freeI f ss) ↔ f ≤ t ∧ t ≤ 1000000000 ∧ ¬ InS ss t)
  | [], f, _, _ => by
    unfold freeI
    have e : ¬ InS [] t := fun ⟨q, h, _⟩ => by cases h
    split
    · rename_i h
      rw [minsOf_cons, List.mem_append, run_mem h]
      constructor
      · rintro (z | z)
        · exact ⟨z.1, z.2, e⟩
        · cases z
      · rintro ⟨h1, h2, _⟩; exact .inl ⟨h1, h2⟩
    · constructor
      · intro z; cases z
      · rintro ⟨h1, h2, _⟩; omega
  | s :: r, f, hs, hp => by
    obtain ⟨p1, p2⟩ := List.pairwise_cons.mp hp
    have hr : SpOk r := fun q hq => hs q (List.mem_cons_of_mem _ hq)
    have ih := free_mem t r (max f (s.2 + 1)) hr p2
    have s0 := hs s (List.mem_cons_self ..)
    rw [freeI, minsOf_app, List.mem_append, ih]
    have first : t ∈ minsOf (if f < s.1 then [(f, s.1 - 1)] else []) ↔ f ≤ t ∧ t < s.1 := by
      split
      · rw [minsOf_cons, List.mem_append, run_mem (by omega)]
        dsimp only
        constructor
        · rintro (z | z)
          · omega
          · cases z
        · intro z; exact .inl (by omega)
      · constructor
        · intro z; cases z
        · intro z; omega
    rw [first]
    constructor
    · rintro (z | ⟨z1, z2, z3⟩)
      · refine ⟨z.1, by omega, fun ⟨q, hq, q1, q2⟩ => ?_⟩
        rcases List.mem_cons.mp hq with e | e
        · rw [e] at q1; omega
        · have := p1 q e
          unfold LeP at this
          omega
      · refine ⟨by omega, z2, fun ⟨q, hq, q1, q2⟩ => ?_⟩
        rcases List.mem_cons.mp hq with e | e
        · rw [e] at q2; omega
        · exact z3 ⟨q, e, q1, q2⟩
    · rintro ⟨z1, z2, z3⟩
      by_cases h : t < s.1
      · exact .inl ⟨z1, h⟩
      · refine .inr ⟨?_, z2, fun ⟨q, hq, z⟩ => z3 ⟨q, List.mem_cons_of_mem _ hq, z⟩⟩
        have : ¬ t ≤ s.2 := fun z => z3 ⟨s, List.mem_cons_self .., by omega, z⟩
        omega
theorem ascM_run {p b : Int} {ys : List Int} : ∀ (n : Nat) (a : Int), p < a → AscM (a + n) ys → AscM p (motF a 1 (n + 1) ++ ys)
  | 0, a, h, hy => ⟨h, by simpa [motF] using hy⟩
  | n + 1, a, h, hy => by
    refine ⟨h, ?_⟩
    have := ascM_run (p := a) (b := b) n (a + 1) (by omega) (by rw [show a + 1 + (n : Int) = a + ((n + 1 : Nat) : Int) by omega]; exact hy)
    exact this
theorem ascM_mono : ∀ {a b : Int} {ms : List Int}, b ≤ a → AscM a ms → AscM b ms
  | _, _, [], _, _ => trivial
  | _, _, m :: ms, h, k => ⟨by have := k.1; omega, k.2⟩
theorem ascM_spans {p : Int} {s : Int × Int} {ys : List Int} (h : p < s.1) (h2 : s.1 ≤ s.2) (hy : AscM s.2 ys) : AscM p (mot (s.1, 1, s.2 - s.1 + 1) ++ ys) := by
  unfold mot
  rw [show (s.2 - s.1 + 1).toNat = (s.2 - s.1).toNat + 1 by omega]
  exact ascM_run (b := s.2) _ _ h (by rw [show s.1 + ((s.2 - s.1).toNat : Int) = s.2 by omega]; exact hy)
theorem free_asc : ∀ (ss : Lg) (f p : Int), SpOk ss → p < f → AscM p (minsOf (freeI f ss))
  | [], f, p, _, h => by
    unfold freeI
    split
    · rw [minsOf_cons]; exact ascM_spans h (by dsimp only; omega) trivial
    · trivial
  | s :: r, f, p, hs, h => by
    have hr : SpOk r := fun q hq => hs q (List.mem_cons_of_mem _ hq)
    have s0 := hs s (List.mem_cons_self ..)
    rw [freeI, minsOf_app]
    split
    · rw [minsOf_cons, List.append_assoc]
      exact ascM_spans h (by dsimp only; omega) (free_asc r _ _ hr (by dsimp only; omega))
    · exact free_asc r _ _ hr (by omega)
theorem free_len : ∀ (ss : Lg) (f : Int), (freeI f ss).length ≤ ss.length + 1
  | [], f => by unfold freeI; split <;> simp
  | s :: r, f => by
    have := free_len r (max f (s.2 + 1))
    rw [freeI, List.length_append, List.length_cons]
    split <;> simp <;> omega
theorem free_ok : ∀ (ss : Lg) (f : Int), SpOk ss → 0 ≤ f → ∀ q ∈ freeI f ss, f ≤ q.1 ∧ q.1 ≤ q.2 ∧ q.2 ≤ 1000000000
  | [], f, _, h0, q, hq => by
    unfold freeI at hq
    split at hq
    · rw [List.mem_singleton.mp hq]; dsimp only; omega
    · cases hq
  | s :: r, f, hs, h0, q, hq => by
    have hr : SpOk r := fun q hq => hs q (List.mem_cons_of_mem _ hq)
    have s0 := hs s (List.mem_cons_self ..)
    rw [freeI] at hq
    rcases List.mem_append.mp hq with hq | hq
    · split at hq
      · rw [List.mem_singleton.mp hq]; dsimp only; omega
      · cases hq
    · have := free_ok r _ hr (by omega) q hq
      omega
theorem run_ok {q : Int × Int} (h0 : 0 ≤ q.1) (h1 : q.1 ≤ q.2) (h2 : q.2 ≤ 1000000000) : RunV q.1 1 (q.2 - q.1 + 1) ∧ GoodR (q.1, 1, q.2 - q.1 + 1) := by
  refine ⟨?_, ⟨by dsimp only; omega, by dsimp only; omega, by dsimp only; omega, by dsimp only; omega, by dsimp only; omega, by dsimp only; omega⟩⟩
  unfold RunV
  omega
theorem fault_non : ∀ (rs : List Rn) (i last : Int), AscN last rs → (∀ r ∈ rs, RunV r.1 r.2.1 r.2.2) → faultL i last (rs.map rnD) = .non
  | [], _, _, _, _ => rfl
  | r :: rs, i, last, h, hr => by
    rw [List.map_cons, faultL]
    have h1 : runD (rnD r) = true := by
      show decide (RunV r.1 r.2.1 r.2.2) = true
      exact decide_eq_true (hr r (List.mem_cons_self ..))
    rw [if_pos h1]
    have h2 : ¬ onD (rnD r) ≤ last := by show ¬ r.1 ≤ last; have := h.1; omega
    rw [if_neg h2]
    exact fault_non rs (i + 1) _ h.2 fun x hx => hr x (List.mem_cons_of_mem _ hx)
theorem quiet_ok {l : Lamp} : ∀ {g : Lg} {f : Int}, 0 ≤ f → (∀ s ∈ g, 0 ≤ s.1 ∧ s.1 ≤ 1000000000 ∧ 0 ≤ s.2 - l.2 ∧ s.1 < s.2) → ∀ q ∈ quietI l f g, 0 ≤ q.1 ∧ q.1 ≤ q.2 ∧ q.2 ≤ 1000000000
  | [], f, h0, _, q, hq => by
    rw [quietI] at hq
    split at hq
    · rw [List.mem_singleton.mp hq]; dsimp only; omega
    · cases hq
  | s :: g, f, h0, hg, q, hq => by
    have hs := hg s (List.mem_cons_self ..)
    rw [quietI] at hq
    rcases List.mem_append.mp hq with hq | hq
    · split at hq
      · rw [List.mem_singleton.mp hq]; dsimp only; omega
      · cases hq
    · exact quiet_ok (f := lastI l s + 1) (by unfold lastI; split <;> omega) (fun x hx => hg x (List.mem_cons_of_mem _ hx)) q hq
/-- what the verdict's motions are, where there is no reason -/
theorem verdict_motions {qs : List (Lamp × Lg)} (C : Calm qs) {ss : Lg} (hp : ss.Perm (qs.map fun q => quietI q.1 0 q.2).flatten) (hs : ss.Pairwise LeP) (hl : ss.length ≤ 359) :
    (∀ r ∈ motI (freeI 0 ss), GoodR r) ∧ AscN (-1) (motI (freeI 0 ss)) ∧ faultD (runsD (motI (freeI 0 ss))) = .non ∧ ∀ x ∈ qs, logU x.1.1 x.1.2 (motI (freeI 0 ss)) = x.2.reverse := by
  have hin : ∀ t, InS ss t ↔ ∃ x ∈ qs, InS (quietI x.1 0 x.2) t := fun t => by
    constructor
    · rintro ⟨q, hq, h⟩
      have := hp.mem_iff.mp hq
      simp only [List.mem_flatten, List.mem_map] at this
      obtain ⟨_, ⟨x, hx, rfl⟩, h2⟩ := this
      exact ⟨x, hx, q, h2, h⟩
    · rintro ⟨x, hx, q, hq, h⟩
      refine ⟨q, hp.mem_iff.mpr ?_, h⟩
      simp only [List.mem_flatten, List.mem_map]
      exact ⟨_, ⟨x, hx, rfl⟩, hq⟩
  have ok : SpOk ss := fun q hq => by
    have := hp.mem_iff.mp hq
    simp only [List.mem_flatten, List.mem_map] at this
    obtain ⟨_, ⟨x, hx, rfl⟩, h2⟩ := this
    exact quiet_ok (Int.le_refl _) (fun s hs => by have := C.bounds hx hs; have := C.stay x hx; omega) q h2
  have fo := free_ok ss 0 ok (Int.le_refl _)
  have fr : ∀ r ∈ motI (freeI 0 ss), RunV r.1 r.2.1 r.2.2 ∧ GoodR r := fun r hr => by
    obtain ⟨q, hq, rfl⟩ := List.mem_map.mp hr
    have := fo q hq
    exact run_ok this.1 this.2.1 this.2.2
  have asc := free_asc ss 0 (-1) ok (by decide)
  have ascn : AscN (-1) (motI (freeI 0 ss)) := ascN_mot (fun r hr => (fr r hr).2.c1) asc
  refine ⟨fun r hr => (fr r hr).2, ascn, ?_, fun x hx => ?_⟩
  · have hlen := free_len ss 0
    have h1 : ¬ 360 < ((motI (freeI 0 ss)).map rnD).length := by unfold motI; rw [List.length_map, List.length_map]; omega
    unfold runsD
    show (if 360 < ((motI (freeI 0 ss)).map rnD).length then _ else _) = _
    rw [if_neg h1]
    exact fault_non _ _ _ ascn fun r hr => (fr r hr).1
  · rw [logU_mot]
    refine play_poss C hx _ (-1) [] asc (fun m hm => ?_) (fun t h1 h2 => ?_) (.inl ⟨rfl, rfl⟩)
    · obtain ⟨z1, z2, z3⟩ := (free_mem m ss 0 ok hs).mp hm
      exact ⟨z1, z2, fun y hy z => z3 ((hin m).mpr ⟨y, hy, z⟩)⟩
    · exact (free_mem t ss 0 ok hs).mpr ⟨h2.1, h2.2.1, fun z => by obtain ⟨y, hy, z⟩ := (hin t).mp z; exact h2.2.2 y hy z⟩
end RL
/-! text QA -/
/-! the least minutes: plain laws -/
namespace RL
open PySem DL LP
def Least (S : Int → Prop) : Option Int → Prop
  | some m => S m ∧ ∀ m', S m' → m ≤ m'
  | none => ∀ m', ¬ S m'
theorem Least.congr {S T : Int → Prop} {o : Option Int} (h : Least S o) (e : ∀ m, S m ↔ T m) : Least T o := by
  cases o with
  | none => exact fun m q => h m ((e m).mpr q)
  | some m => exact ⟨(e m).mp h.1, fun m' q => h.2 m' ((e m').mpr q)⟩
def SpA (rs : Lg) : Prop := rs.Pairwise (fun s t => s.2 < t.1) ∧ ∀ s ∈ rs, s.1 ≤ s.2
theorem drop_mem {p : Int × Int → Bool} {s : Int × Int} : ∀ {rs : Lg}, s ∈ rs → p s = false → s ∈ rs.dropWhile p
  | x :: rs, h, hp => by
    rw [List.dropWhile_cons]
    split
    · rename_i hx
      rcases List.mem_cons.mp h with e | e
      · rw [e] at hp; rw [hp] at hx; cases hx
      · exact drop_mem e hp
    · exact h
theorem take_mem {b : Int} {s : Int × Int} : ∀ {rs : Lg}, SpA rs → s ∈ rs → s.1 ≤ b → s ∈ rs.takeWhile fun s => decide (s.1 ≤ b)
  | x :: rs, hA, h, hb => by
    obtain ⟨h1, h2⟩ := List.pairwise_cons.mp hA.1
    have hx := hA.2 x (List.mem_cons_self ..)
    rw [List.takeWhile_cons]
    rcases List.mem_cons.mp h with e | e
    · rw [← e, if_pos (decide_eq_true hb)]; exact List.mem_cons_self ..
    · have := h1 s e
      rw [if_pos (decide_eq_true (by omega))]
      exact List.mem_cons_of_mem _ (take_mem ⟨h2, fun t ht => hA.2 t (List.mem_cons_of_mem _ ht)⟩ e hb)
theorem SpA.sub {rs rs' : Lg} (h : SpA rs) (s : rs'.Sublist rs) : SpA rs' := ⟨h.1.sublist s, fun t ht => h.2 t (s.subset ht)⟩
section
variable {f : Pt × (Int × Int) → Option Int} {V : Pt → (Int × Int) → Int → Prop}
theorem row_least {p : Pt} : ∀ {W : Lg}, SpA W → (∀ s ∈ W, ∀ m, V p s m → s.1 ≤ m ∧ m ≤ s.2) → (∀ s ∈ W, Least (V p s) (f (p, s))) → Least (fun m => ∃ s ∈ W, V p s m) (W.findSome? fun s => f (p, s))
  | [], _, _, _ => fun m ⟨s, h, _⟩ => by cases h
  | x :: W, hA, hV, hf => by
    obtain ⟨h1, h2⟩ := List.pairwise_cons.mp hA.1
    have ih := row_least (W := W) ⟨h2, fun t ht => hA.2 t (List.mem_cons_of_mem _ ht)⟩ (fun s hs => hV s (List.mem_cons_of_mem _ hs)) fun s hs => hf s (List.mem_cons_of_mem _ hs)
    have hx := hf x (List.mem_cons_self ..)
    rw [List.findSome?_cons]
    cases e : f (p, x) with
    | some m =>
      rw [e] at hx
      refine ⟨⟨x, List.mem_cons_self .., hx.1⟩, fun m' ⟨s, hs, hv⟩ => ?_⟩
      rcases List.mem_cons.mp hs with z | z
      · rw [z] at hv; exact hx.2 m' hv
      · have a1 := hV x (List.mem_cons_self ..) m hx.1
        have a2 := hV s (List.mem_cons_of_mem _ z) m' hv
        have := h1 s z
        omega
    | none =>
      rw [e] at hx
      refine ih.congr fun m => ⟨fun ⟨s, hs, hv⟩ => ⟨s, List.mem_cons_of_mem _ hs, hv⟩, fun ⟨s, hs, hv⟩ => ?_⟩
      rcases List.mem_cons.mp hs with z | z
      · rw [z] at hv; exact absurd hv (hx m)
      · exact ⟨s, z, hv⟩
theorem meet_least : ∀ {ps : List Pt} {rs : Lg}, ps.Pairwise (fun p q => p.2.1 < q.1) → (∀ p ∈ ps, p.1 ≤ p.2.1) → SpA rs → (∀ p ∈ ps, ∀ s ∈ rs, ∀ m, V p s m → p.1 ≤ m ∧ m ≤ p.2.1 ∧ s.1 ≤ m ∧ m ≤ s.2) → (∀ p ∈ ps, ∀ s ∈ rs, Least (V p s) (f (p, s))) →
    Least (fun m => ∃ p ∈ ps, ∃ s ∈ rs, V p s m) ((meetI ps rs).findSome? f)
  | [], rs, _, _, _, _, _ => fun m ⟨p, h, _⟩ => by cases h
  | p :: ps, rs, hP, hle, hA, hV, hf => by
    obtain ⟨p1, p2⟩ := List.pairwise_cons.mp hP
    have hp := hle p (List.mem_cons_self ..)
    have sub1 : (rs.dropWhile fun s => decide (s.2 < p.1)).Sublist rs := List.dropWhile_sublist _
    have sub2 : ((rs.dropWhile fun s => decide (s.2 < p.1)).takeWhile fun s => decide (s.1 ≤ p.2.1)).Sublist (rs.dropWhile fun s => decide (s.2 < p.1)) := List.takeWhile_sublist _
    have hA1 := hA.sub sub1
    have hA2 := hA1.sub sub2
    have inD : ∀ s ∈ rs, p.1 ≤ s.2 → s ∈ rs.dropWhile fun s => decide (s.2 < p.1) := fun s hs h => drop_mem hs (decide_eq_false (by omega))
    have ih := meet_least (ps := ps) (rs := rs.dropWhile fun s => decide (s.2 < p.1)) p2 (fun q hq => hle q (List.mem_cons_of_mem _ hq)) hA1 (fun q hq s hs => hV q (List.mem_cons_of_mem _ hq) s (sub1.subset hs)) fun q hq s hs => hf q (List.mem_cons_of_mem _ hq) s (sub1.subset hs)
    have row := row_least (f := f) (V := V) (p := p) hA2 (fun s hs m hv => by have := hV p (List.mem_cons_self ..) s (sub1.subset (sub2.subset hs)) m hv; exact this.2.2) fun s hs => hf p (List.mem_cons_self ..) s (sub1.subset (sub2.subset hs))
    have rowS : ∀ m, (∃ s ∈ (rs.dropWhile fun s => decide (s.2 < p.1)).takeWhile fun s => decide (s.1 ≤ p.2.1), V p s m) ↔ ∃ s ∈ rs, V p s m := fun m => by
      constructor
      · rintro ⟨s, hs, hv⟩; exact ⟨s, sub1.subset (sub2.subset hs), hv⟩
      · rintro ⟨s, hs, hv⟩
        have := hV p (List.mem_cons_self ..) s hs m hv
        exact ⟨s, take_mem hA1 (inD s hs (by omega)) (by omega), hv⟩
    have ihS : ∀ m, (∃ q ∈ ps, ∃ s ∈ rs.dropWhile fun s => decide (s.2 < p.1), V q s m) ↔ ∃ q ∈ ps, ∃ s ∈ rs, V q s m := fun m => by
      constructor
      · rintro ⟨q, hq, s, hs, hv⟩; exact ⟨q, hq, s, sub1.subset hs, hv⟩
      · rintro ⟨q, hq, s, hs, hv⟩
        have := hV q (List.mem_cons_of_mem _ hq) s hs m hv
        have := p1 q hq
        exact ⟨q, hq, s, inD s hs (by omega), hv⟩
    have row := row.congr rowS
    have ih := ih.congr ihS
    rw [meetI, List.findSome?_append, List.findSome?_map]
    show Least _ (Option.or (List.findSome? (fun s => f (p, s)) _) _)
    generalize (List.findSome? (fun s => f (p, s)) ((rs.dropWhile fun s => decide (s.2 < p.1)).takeWhile fun s => decide (s.1 ≤ p.2.1))) = o1 at row ⊢
    cases o1 with
    | some m =>
      refine ⟨⟨p, List.mem_cons_self .., row.1⟩, fun m' ⟨q, hq, s, hs, hv⟩ => ?_⟩
      rcases List.mem_cons.mp hq with z | z
      · rw [z] at hv; exact row.2 m' ⟨s, hs, hv⟩
      · obtain ⟨s0, hs0, hv0⟩ := row.1
        have a1 := hV p (List.mem_cons_self ..) s0 hs0 m hv0
        have a2 := hV q (List.mem_cons_of_mem _ z) s hs m' hv
        have := p1 q z
        omega
    | none =>
      rw [Option.none_or]
      refine ih.congr fun m => ⟨fun ⟨q, hq, r⟩ => ⟨q, List.mem_cons_of_mem _ hq, r⟩, fun ⟨q, hq, s, hs, hv⟩ => ?_⟩
      rcases List.mem_cons.mp hq with z | z
      · rw [z] at hv; exact absurd ⟨s, hs, hv⟩ (row m)
      · exact ⟨q, z, s, hs, hv⟩
end
/-! ### the sure minutes -/
theorem sureM_spec {first step : Int} {s : Int × Int} (h : 1 ≤ step) : (∃ i : Int, 0 ≤ i ∧ sureM first step s = first + i * step) ∧ s.1 ≤ sureM first step s ∧ ∀ i : Int, 0 ≤ i → s.1 ≤ first + i * step → sureM first step s ≤ first + i * step := by
  unfold sureM
  generalize hd : max 0 (s.1 - first + step - 1) = d
  have d0 : 0 ≤ d := by omega
  have e := Int.emod_add_mul_ediv d step
  have r0 := Int.emod_nonneg d (show step ≠ 0 by omega)
  have r1 := Int.emod_lt_of_pos d (show 0 < step by omega)
  have q0 : 0 ≤ d / step := Int.ediv_nonneg d0 (by omega)
  generalize d / step = q at e q0 ⊢
  generalize d % step = r at e r0 r1
  rw [Int.mul_comm] at e
  refine ⟨⟨q, q0, rfl⟩, by omega, fun i i0 hi => ?_⟩
  rcases Int.lt_or_le i q with z | z
  · have := Int.mul_le_mul (show i ≤ q - 1 by omega) (Int.le_refl step) (by omega) (by omega)
    rw [Int.sub_mul, Int.one_mul] at this
    have hqs := Int.mul_le_mul (show 1 ≤ q by omega) (Int.le_refl step) (by omega) (by omega)
    omega
  · have := Int.mul_le_mul z (Int.le_refl step) (by omega) i0
    omega
def SureV (p : Pt) (s : Int × Int) (m : Int) : Prop := p.1 ≤ m ∧ m ≤ p.2.1 ∧ s.1 ≤ m ∧ m ≤ s.2 ∧ ∃ i : Int, 0 ≤ i ∧ m = p.1 + i * stepOf p
theorem sureT_least {p : Pt} {s : Int × Int} (h : 1 ≤ stepOf p) : Least (SureV p s) (sureT (p, s)) := by
  obtain ⟨⟨i, i0, e⟩, h1, h2⟩ := sureM_spec (first := p.1) (s := s) h
  have h3 : 0 ≤ i * stepOf p := Int.mul_nonneg i0 (by omega)
  unfold sureT
  dsimp only
  split
  · rename_i hle
    refine ⟨⟨by omega, by omega, h1, by omega, i, i0, e⟩, fun m' ⟨a1, a2, a3, a4, j, j0, ej⟩ => ?_⟩
    have := h2 j j0 (by omega)
    omega
  · rename_i hle
    rintro m' ⟨a1, a2, a3, a4, j, j0, ej⟩
    have := h2 j j0 (by omega)
    omega
/-- a stretch that fits -/
structure FitS (l : Lamp) (s : Int × Int) : Prop where
  st : 1 ≤ l.2
  lt : s.1 < s.2
  le : s.2 - l.2 ≤ 1000000000
  ge : l.2 ≤ s.2 - s.1
  pu : l.1 = false → ∃ c : Int, 1 ≤ c ∧ s.2 = s.1 + c * l.2
theorem part_sure {l : Lamp} {s : Int × Int} (h : FitS l s) : (runP (runI l s)).1 = s.1 ∧ (runP (runI l s)).2.1 = s.2 - l.2 ∧ 1 ≤ stepOf (runP (runI l s)) ∧ ∀ q m, SureV (runP (runI l s)) q m ↔ SureS l s m ∧ q.1 ≤ m ∧ m ≤ q.2 := by
  obtain ⟨k, stay⟩ := l
  obtain ⟨on, off⟩ := s
  obtain ⟨h1, h2, h3, h4, h5⟩ := h
  dsimp only at h1 h2 h3 h4 h5
  have bnd : ∀ m, SureS (k, stay) (on, off) m → on ≤ m ∧ m ≤ off - stay := fun m hm => hm.bounds h1 h4 h5
  unfold runI
  dsimp only
  by_cases c1 : off - stay = on
  · rw [if_pos c1]
    refine ⟨rfl, by show on + 1 * (1 - 1) = off - stay; omega, by show (1 : Int) ≤ 1; omega, fun q m => ?_⟩
    show (on ≤ m ∧ m ≤ on + 1 * (1 - 1) ∧ q.1 ≤ m ∧ m ≤ q.2 ∧ ∃ i : Int, 0 ≤ i ∧ m = on + i * 1) ↔ _
    constructor
    · rintro ⟨a1, a2, a3, a4, _⟩
      have em : m = on := by omega
      refine ⟨?_, a3, a4⟩
      rw [em]
      exact sure_on h2
    · rintro ⟨a1, a3, a4⟩
      have := bnd m a1
      exact ⟨this.1, by omega, a3, a4, 0, Int.le_refl _, by omega⟩
  · rw [if_neg c1]
    cases k with
    | true =>
      rw [if_pos rfl]
      refine ⟨rfl, by show on + (off - stay - on) * (2 - 1) = off - stay; omega, by show (1 : Int) ≤ off - stay - on; omega, fun q m => ?_⟩
      show (on ≤ m ∧ m ≤ on + (off - stay - on) * (2 - 1) ∧ q.1 ≤ m ∧ m ≤ q.2 ∧ ∃ i : Int, 0 ≤ i ∧ m = on + i * (off - stay - on)) ↔ _
      generalize hd : off - stay - on = d
      have d1 : 1 ≤ d := by omega
      constructor
      · rintro ⟨a1, a2, a3, a4, i, i0, ei⟩
        refine ⟨?_, a3, a4⟩
        have i1 : i ≤ 1 := by
          rcases Int.lt_or_le 1 i with z | z
          · have := Int.mul_le_mul (show 2 ≤ i by omega) (Int.le_refl d) (by omega) i0
            omega
          · exact z
        have : i = 0 ∨ i = 1 := by omega
        rcases this with rfl | rfl
        · exact .inl (by show m = on; omega)
        · exact .inr (by show m = off - stay; omega)
      · rintro ⟨a1, a3, a4⟩
        have b := bnd m a1
        rcases a1 with e | e
        · have e : m = on := e
          exact ⟨by omega, by omega, a3, a4, 0, by omega, by omega⟩
        · have e : m = off - stay := e
          exact ⟨by omega, by omega, a3, a4, 1, by omega, by omega⟩
    | false =>
      rw [if_neg (by decide)]
      obtain ⟨c, c0, ec⟩ := h5 rfl
      have e1 : (off - on) / stay = c := by rw [ec, show on + c * stay - on = c * stay by omega]; exact Int.mul_ediv_cancel _ (by omega)
      rw [e1]
      have e2 : stay * (c - 1) = c * stay - stay := by rw [Int.mul_sub, Int.mul_comm]; omega
      refine ⟨rfl, by show on + stay * (c - 1) = off - stay; omega, h1, fun q m => ?_⟩
      show (on ≤ m ∧ m ≤ on + stay * (c - 1) ∧ q.1 ≤ m ∧ m ≤ q.2 ∧ ∃ i : Int, 0 ≤ i ∧ m = on + i * stay) ↔ _
      constructor
      · rintro ⟨a1, a2, a3, a4, i, i0, ei⟩
        exact ⟨sure_pulse i0 ei (by dsimp only; omega), a3, a4⟩
      · rintro ⟨a1, a3, a4⟩
        have b := bnd m a1
        obtain ⟨i, i0, ei, _⟩ := a1
        exact ⟨by omega, by omega, a3, a4, i, i0, ei⟩
theorem asc_pair {g : Lg} {a : Int} (h : AscP a g) : g.Pairwise (fun s t => s.2 < t.1) := by
  induction g generalizing a with
  | nil => exact .nil
  | cons s g ih => exact List.pairwise_cons.mpr ⟨fun t ht => (ascP_mem h.2.2 t ht).1, ih h.2.2⟩
theorem sureQ_least {l : Lamp} {g spans : Lg} {a : Int} (h : AscP a g) (hf : ∀ s ∈ g, FitS l s) (hs : SpA spans) : Least (fun m => (∃ s ∈ g, SureS l s m) ∧ InS spans m) (sureQ l g spans) := by
  unfold sureQ
  have pw : (g.map fun s => runP (runI l s)).Pairwise (fun p q => p.2.1 < q.1) := by
    refine List.pairwise_map.mpr ?_
    refine List.Pairwise.imp_of_mem ?_ (asc_pair h)
    intro s t hs ht hst
    obtain ⟨_, e2, _⟩ := part_sure (hf s hs)
    obtain ⟨e1, _⟩ := part_sure (hf t ht)
    rw [e1, e2]
    have := (hf s hs).st
    omega
  refine (meet_least (f := sureT) (V := SureV) pw (fun p hp => ?_) hs (fun p hp s _ m hv => ⟨hv.1, hv.2.1, hv.2.2.1, hv.2.2.2.1⟩) (fun p hp s _ => sureT_least ?_)).congr fun m => ?_
  · obtain ⟨s, hs, rfl⟩ := List.mem_map.mp hp
    obtain ⟨e1, e2, _⟩ := part_sure (hf s hs)
    rw [e1, e2]
    have := (hf s hs).ge
    omega
  · obtain ⟨s, hs, rfl⟩ := List.mem_map.mp hp
    exact (part_sure (hf s hs)).2.2.1
  · constructor
    · rintro ⟨p, hp, q, hq, hv⟩
      obtain ⟨s, hs, rfl⟩ := List.mem_map.mp hp
      obtain ⟨z1, z2⟩ := ((part_sure (hf s hs)).2.2.2 q m).mp hv
      exact ⟨⟨s, hs, z1⟩, q, hq, z2⟩
    · rintro ⟨⟨s, hs, z1⟩, q, hq, z2⟩
      exact ⟨_, List.mem_map.mpr ⟨s, hs, rfl⟩, q, hq, ((part_sure (hf s hs)).2.2.2 q m).mpr ⟨z1, z2⟩⟩
/-! ### calls -/
def CallS (l : Lamp) (s q : Int × Int) (m : Int) : Prop := m = max s.1 q.1 ∧ l.2 ≤ min (s.2 - l.2) q.2 - max s.1 q.1 + 1
theorem callQ_least {l : Lamp} {g spans : Lg} {a : Int} (h : AscP a g) (hf : ∀ s ∈ g, FitS l s) (hs : SpA spans) : Least (fun m => l.1 = true ∧ ∃ s ∈ g, ∃ q ∈ spans, CallS l s q m) (callQ l g spans) := by
  unfold callQ
  have mem : ∀ c : Int × Int, c ∈ callsI l g ↔ l.1 = true ∧ ∃ s ∈ g, c = (s.1, s.2 - l.2) ∧ l.2 ≤ s.2 - l.2 - s.1 + 1 := fun c => by
    unfold callsI
    split
    · rename_i hk
      rw [List.mem_filter]
      constructor
      · rintro ⟨hc, hd⟩
        obtain ⟨s, hs, rfl⟩ := List.mem_map.mp hc
        exact ⟨hk, s, hs, rfl, of_decide_eq_true hd⟩
      · rintro ⟨_, s, hs, rfl, hd⟩
        exact ⟨List.mem_map.mpr ⟨s, hs, rfl⟩, decide_eq_true hd⟩
    · rename_i hk
      constructor
      · intro z; cases z
      · rintro ⟨z, _⟩; exact absurd z hk
  have pw : ((callsI l g).map fun s => ((s.1, s.2, []) : Pt)).Pairwise (fun p q => p.2.1 < q.1) := by
    refine List.pairwise_map.mpr ?_
    unfold callsI
    split
    · refine List.Pairwise.filter _ (List.pairwise_map.mpr ?_)
      refine List.Pairwise.imp_of_mem ?_ (asc_pair h)
      intro s t hs ht hst
      dsimp only
      have := (hf s hs).st
      omega
    · exact .nil
  refine (meet_least (f := callT l.2) (V := fun p s m => m = max p.1 s.1 ∧ l.2 ≤ min p.2.1 s.2 - max p.1 s.1 + 1) pw (fun p hp => ?_) hs (fun p hp s _ m hv => ?_) (fun p hp s _ => ?_)).congr fun m => ?_
  · obtain ⟨c, hc, rfl⟩ := List.mem_map.mp hp
    obtain ⟨_, s, hs, rfl, hd⟩ := (mem c).mp hc
    have := (hf s hs).ge
    dsimp only
    omega
  · obtain ⟨c, hc, rfl⟩ := List.mem_map.mp hp
    obtain ⟨_, s0, hs0, rfl, hd⟩ := (mem c).mp hc
    have := (hf s0 hs0).st
    obtain ⟨e, z⟩ := hv
    dsimp only at e z ⊢
    omega
  · unfold callT
    dsimp only
    split
    · rename_i z
      exact ⟨⟨rfl, z⟩, fun m' hm => by omega⟩
    · rename_i z
      rintro m' ⟨_, hm⟩
      exact z hm
  · constructor
    · rintro ⟨p, hp, q, hq, e, z⟩
      obtain ⟨c, hc, rfl⟩ := List.mem_map.mp hp
      obtain ⟨hk, s, hs, rfl, hd⟩ := (mem c).mp hc
      exact ⟨hk, s, hs, q, hq, e, z⟩
    · rintro ⟨hk, s, hs, q, hq, e, z⟩
      refine ⟨(s.1, s.2 - l.2, []), List.mem_map.mpr ⟨(s.1, s.2 - l.2), (mem _).mpr ⟨hk, s, hs, rfl, by omega⟩, rfl⟩, q, hq, e, z⟩
theorem quiet_spa {l : Lamp} : ∀ {g : Lg} {f p : Int}, f ≤ p + 1 → AscP p g → (∀ s ∈ g, FitS l s) → (∀ q ∈ quietI l f g, f ≤ q.1) ∧ SpA (quietI l f g)
  | [], f, p, _, _, _ => by
    rw [quietI]
    split
    · exact ⟨fun q hq => by rw [List.mem_singleton.mp hq]; exact Int.le_refl _, List.pairwise_singleton .., fun q hq => by rw [List.mem_singleton.mp hq]; dsimp only; omega⟩
    · exact ⟨fun q hq => (by cases hq), .nil, fun q hq => (by cases hq)⟩
  | s :: g, f, p, hfp, ha, hf => by
    have hs := hf s (List.mem_cons_self ..)
    have b1 := hs.st
    have b2 := hs.lt
    have b3 := hs.le
    have b4 := hs.ge
    have a1 := ha.1
    have hl1 : s.1 ≤ lastI l s := by unfold lastI; split <;> omega
    have hl2 : lastI l s + 1 ≤ s.2 + 1 := by unfold lastI; split <;> omega
    obtain ⟨i1, i2, i3⟩ := quiet_spa (f := lastI l s + 1) (p := s.2) hl2 ha.2.2 fun t ht => hf t (List.mem_cons_of_mem _ ht)
    rw [quietI]
    split
    · refine ⟨fun q hq => ?_, List.pairwise_append.mpr ⟨List.pairwise_singleton .., i2, fun x hx y hy => ?_⟩, fun q hq => ?_⟩
      · rcases List.mem_append.mp hq with z | z
        · rw [List.mem_singleton.mp z]; exact Int.le_refl _
        · have := i1 q z; omega
      · rw [List.mem_singleton.mp hx]
        have := i1 y hy
        dsimp only
        omega
      · rcases List.mem_append.mp hq with z | z
        · rw [List.mem_singleton.mp z]; dsimp only; omega
        · exact i3 q z
    · exact ⟨fun q hq => by have := i1 q hq; omega, i2, i3⟩
end RL
/-! text QD -/
/-! reasons: plain laws -/
namespace RL
open PySem DL LP
theorem enI_of {α : Type} {xs : List α} {x : α} : ∀ {lo : Int} {j : Nat}, xs[j]? = some x → (lo + (j : Int), x) ∈ enI lo xs := by
  induction xs with
  | nil => intro lo j h; simp at h
  | cons y xs ih =>
    intro lo j h
    cases j with
    | zero =>
      simp at h
      subst h
      rw [enI]
      simp
    | succ j =>
      rw [enI]
      refine List.mem_cons_of_mem _ ?_
      have := ih (lo := lo + 1) (j := j) (by simpa using h)
      rw [show lo + ((j + 1 : Nat) : Int) = lo + 1 + (j : Int) by omega]
      exact this
section
variable {f : Lamp → Lg → Lg → Option Int} {l : Lamp} {g : Lg} {qs : List Lg} {S : Lg → Int → Prop}
theorem found_mem {m o : Int} : (m, o) ∈ foundI f l g qs ↔ ∃ (j : Nat) (q : Lg), o = (j : Int) ∧ qs[j]? = some q ∧ f l g q = some m := by
  unfold foundI
  rw [List.mem_filterMap]
  constructor
  · rintro ⟨⟨i, q⟩, h1, h2⟩
    obtain ⟨j, e, h3⟩ := enI_at h1
    dsimp only at e h2 h3
    cases hf : f l g q with
    | none => rw [hf] at h2; cases h2
    | some m' =>
      rw [hf] at h2
      cases h2
      exact ⟨j, q, by omega, h3, hf⟩
  · rintro ⟨j, q, e, h1, h2⟩
    refine ⟨(o, q), ?_, by rw [h2]; rfl⟩
    have := enI_of (lo := 0) h1
    rw [e]
    simpa using this
theorem found_nil (hL : ∀ q ∈ qs, Least (S q) (f l g q)) : foundI f l g qs = [] ↔ ∀ q ∈ qs, ∀ m, ¬ S q m := by
  constructor
  · intro h q hq m hm
    obtain ⟨j, hj⟩ := List.getElem?_of_mem hq
    have L := hL q hq
    cases hf : f l g q with
    | none => rw [hf] at L; exact L m hm
    | some m' =>
      have : (m', (j : Int)) ∈ foundI f l g qs := found_mem.mpr ⟨j, q, rfl, hj, hf⟩
      rw [h] at this
      cases this
  · intro h
    cases e : foundI f l g qs with
    | nil => rfl
    | cons p ps =>
      obtain ⟨m, o⟩ := p
      obtain ⟨j, q, _, h1, h2⟩ := found_mem.mp (show (m, o) ∈ foundI f l g qs by rw [e]; simp)
      have L := hL q (List.mem_of_getElem? h1)
      rw [h2] at L
      exact absurd L.1 (h q (List.mem_of_getElem? h1) m)
theorem found_cons (hL : ∀ q ∈ qs, Least (S q) (f l g q)) {p : Int × Int} {ps : Lg} (e : foundI f l g qs = p :: ps) :
    (∃ (j : Nat) (q : Lg), (ps.foldl minP p).2 = (j : Int) ∧ qs[j]? = some q ∧ S q (ps.foldl minP p).1) ∧ ∀ (j : Nat) (q : Lg) (m : Int), qs[j]? = some q → S q m → LeP (ps.foldl minP p) (m, (j : Int)) := by
  obtain ⟨h1, h2⟩ := fold_minP ps p
  rw [← e] at h1 h2
  generalize ps.foldl minP p = r at h1 h2
  obtain ⟨m, o⟩ := r
  refine ⟨?_, fun j q m' hj hm => ?_⟩
  · obtain ⟨j, q, e1, h3, h4⟩ := found_mem.mp h1
    have L := hL q (List.mem_of_getElem? h3)
    rw [h4] at L
    exact ⟨j, q, e1, h3, L.1⟩
  · have L := hL q (List.mem_of_getElem? hj)
    cases hf : f l g q with
    | none => rw [hf] at L; exact absurd hm (L m')
    | some m2 =>
      rw [hf] at L
      have := h2 _ (found_mem.mpr ⟨j, q, rfl, hj, hf⟩)
      have := L.2 m' hm
      unfold LeP at *
      dsimp only at *
      omega
end
section
variable {f : Lamp → Lg → Lg → Option Int} {qs : List Lg}
theorem bet_none : ∀ {r : List (Lamp × Lg)} {i : Int}, betweenI f qs i r = none ↔ ∀ x ∈ r, foundI f x.1 x.2 qs = []
  | [], i => by simp [betweenI]
  | (l, g) :: r, i => by
    rw [betweenI]
    cases e : foundI f l g qs with
    | nil =>
      dsimp only
      rw [bet_none (r := r)]
      constructor
      · intro h x hx
        rcases List.mem_cons.mp hx with z | z
        · rw [z]; exact e
        · exact h x z
      · exact fun h x hx => h x (List.mem_cons_of_mem _ hx)
    | cons p ps =>
      constructor
      · intro h; cases h
      · intro h
        have := h (l, g) (List.mem_cons_self ..)
        dsimp only at this
        rw [e] at this
        cases this
theorem bet_at : ∀ {r : List (Lamp × Lg)} {i : Int} {k : Nat} {x : Lamp × Lg} {p : Int × Int} {ps : Lg}, (∀ (j : Nat) (y : Lamp × Lg), j < k → r[j]? = some y → foundI f y.1 y.2 qs = []) → r[k]? = some x → foundI f x.1 x.2 qs = p :: ps →
    betweenI f qs i r = some (i + (k : Int), (ps.foldl minP p).1, (ps.foldl minP p).2)
  | [], i, k, x, p, ps, _, h, _ => by simp at h
  | (l, g) :: r, i, 0, x, p, ps, _, h, e => by
    simp at h
    subst h
    rw [betweenI, e]
    simp
  | (l, g) :: r, i, k + 1, x, p, ps, hb, h, e => by
    have e0 := hb 0 (l, g) (by omega) (by simp)
    dsimp only at e0
    rw [betweenI, e0]
    dsimp only
    rw [bet_at (r := r) (i := i + 1) (k := k) (fun j y hj hy => hb (j + 1) y (by omega) (by simpa using hy)) (by simpa using h) e]
    rw [show i + 1 + (k : Int) = i + ((k + 1 : Nat) : Int) by omega]
end
theorem first_none : ∀ {r : List (Lamp × Lg)} {i : Int}, firstS i r = none ↔ ∀ x ∈ r, wrongI x.1 0 x.2 = []
  | [], i => by simp [firstS]
  | (l, g) :: r, i => by
    rw [firstS]
    cases e : wrongI l 0 g with
    | nil =>
      dsimp only
      rw [first_none (r := r)]
      constructor
      · intro h x hx
        rcases List.mem_cons.mp hx with z | z
        · rw [z]; exact e
        · exact h x z
      · exact fun h x hx => h x (List.mem_cons_of_mem _ hx)
    | cons p ps =>
      constructor
      · intro h; cases h
      · intro h
        have := h (l, g) (List.mem_cons_self ..)
        dsimp only at this
        rw [e] at this
        cases this
theorem first_at : ∀ {r : List (Lamp × Lg)} {i : Int} {k : Nat} {x : Lamp × Lg} {w : Int} {ws : List Int}, (∀ (j : Nat) (y : Lamp × Lg), j < k → r[j]? = some y → wrongI y.1 0 y.2 = []) → r[k]? = some x → wrongI x.1 0 x.2 = w :: ws → firstS i r = some (i + (k : Int), w)
  | [], i, k, x, p, ps, _, h, _ => by simp at h
  | (l, g) :: r, i, 0, x, p, ps, _, h, e => by
    simp at h
    subst h
    rw [firstS, e]
    simp
  | (l, g) :: r, i, k + 1, x, p, ps, hb, h, e => by
    have e0 := hb 0 (l, g) (by omega) (by simp)
    dsimp only at e0
    rw [firstS, e0]
    dsimp only
    rw [first_at (r := r) (i := i + 1) (k := k) (fun j y hj hy => hb (j + 1) y (by omega) (by simpa using hy)) (by simpa using h) e]
    rw [show i + 1 + (k : Int) = i + ((k + 1 : Nat) : Int) by omega]
/-- lamps and logs that a law asks about -/
structure RsOk (ls : List Lamp) (gs : List Lg) : Prop where
  n : ls.length ≤ 16
  eq : gs.length = ls.length
  lo : ∀ l ∈ ls, LampOk 10000 l
  asc : ∀ g ∈ gs, AscP (-1) g
  ok : ∀ g ∈ gs, LogOk g
  cnt : ∀ (j : Nat) (x : Lamp) (g : Lg), ls[j]? = some x → gs[j]? = some g → (∀ s ∈ g, s.2 - s.1 ≤ x.2 * 50 + 11) ∧ g.length ≤ 52
section
variable {ls : List Lamp} {gs : List Lg}
theorem RsOk.fits (h : RsOk ls gs) {x : Lamp × Lg} (hx : x ∈ ls.zip gs) (hw : wrongI x.1 0 x.2 = []) : ∀ s ∈ x.2, FitS x.1 s := fun s hs => by
  obtain ⟨h1, h2⟩ := List.of_mem_zip hx
  have a := (h.lo x.1 h1)
  have b := ascP_mem (h.asc x.2 h2) s hs
  obtain ⟨q1, q2, q3⟩ := fits_of a.1 b.2 (wrongI_nil hw s hs)
  exact ⟨a.1, b.2, q1, q2, q3⟩
theorem RsOk.fit (h : RsOk ls gs) (hw : firstS 0 (ls.zip gs) = none) {x : Lamp × Lg} (hx : x ∈ ls.zip gs) : ∀ s ∈ x.2, FitS x.1 s := h.fits hx (first_none.mp hw x hx)
theorem RsOk.asc' (h : RsOk ls gs) {x : Lamp × Lg} (hx : x ∈ ls.zip gs) : AscP (-1) x.2 := h.asc x.2 (List.of_mem_zip hx).2
theorem mem_quiets {q : Lg} : q ∈ quietsOf ls gs ↔ ∃ x ∈ ls.zip gs, q = quietI x.1 0 x.2 := by
  unfold quietsOf
  rw [List.mem_map]
  constructor
  · rintro ⟨x, hx, rfl⟩; exact ⟨x, hx, rfl⟩
  · rintro ⟨x, hx, rfl⟩; exact ⟨x, hx, rfl⟩
theorem RsOk.spa (h : RsOk ls gs) (hw : firstS 0 (ls.zip gs) = none) : ∀ q ∈ quietsOf ls gs, SpA q := fun q hq => by
  obtain ⟨x, hx, rfl⟩ := mem_quiets.mp hq
  exact (quiet_spa (by decide) (h.asc' hx) (h.fit hw hx)).2
theorem RsOk.sureL (h : RsOk ls gs) (hw : firstS 0 (ls.zip gs) = none) {x : Lamp × Lg} (hx : x ∈ ls.zip gs) : ∀ q ∈ quietsOf ls gs, Least (fun m => (∃ s ∈ x.2, SureS x.1 s m) ∧ InS q m) (sureQ x.1 x.2 q) := fun q hq => sureQ_least (h.asc' hx) (h.fit hw hx) (h.spa hw q hq)
theorem RsOk.callL (h : RsOk ls gs) (hw : firstS 0 (ls.zip gs) = none) {x : Lamp × Lg} (hx : x ∈ ls.zip gs) : ∀ q ∈ quietsOf ls gs, Least (fun m => x.1.1 = true ∧ ∃ s ∈ x.2, ∃ t ∈ q, CallS x.1 s t m) (callQ x.1 x.2 q) := fun q hq => callQ_least (h.asc' hx) (h.fit hw hx) (h.spa hw q hq)
/-- no reason -/
theorem RsOk.calm (h : RsOk ls gs) (hr : reasonI ls gs = none) : firstS 0 (ls.zip gs) = none ∧ Calm (ls.zip gs) := by
  unfold reasonI at hr
  split at hr
  · cases hr
  · rename_i h1
    split at hr
    · cases hr
    · rename_i h2
      have h3 : betweenI callQ (quietsOf ls gs) 0 (ls.zip gs) = none := by
        cases e : betweenI callQ (quietsOf ls gs) 0 (ls.zip gs) with
        | none => rfl
        | some q => rw [e] at hr; cases hr
      refine ⟨h1, fun x hx => (h.lo x.1 (List.of_mem_zip hx).1).1, fun x hx => h.asc' hx, fun x hx => wrongI_nil (first_none.mp h1 x hx), fun x hx s hs m hm y hy hq => ?_, fun x hx hk s hs y hy q hq hc => ?_⟩
      · exact (found_nil (h.sureL h1 hx)).mp (bet_none.mp h2 x hx) _ (mem_quiets.mpr ⟨y, hy, rfl⟩) m ⟨⟨s, hs, hm⟩, hq⟩
      · exact (found_nil (h.callL h1 hx)).mp (bet_none.mp h3 x hx) _ (mem_quiets.mpr ⟨y, hy, rfl⟩) _ ⟨hk, s, hs, q, hq, rfl, hc⟩
end
end RL
/-! text RSs -/
/-! the law side of reasons (specs) -/
namespace RL
open PySem PySem.Spec PyProof.Rows L2 DL LP
def inQ (q : Lg) (m : Int) : Bool := q.any fun s => decide (s.1 ≤ m) && decide (m ≤ s.2)
theorem inQ_iff {q : Lg} {m : Int} : inQ q m = true ↔ InS q m := by
  unfold inQ InS
  rw [List.any_eq_true]
  constructor
  · rintro ⟨s, hs, h⟩; simp at h; exact ⟨s, hs, h⟩
  · rintro ⟨s, hs, h⟩; exact ⟨s, hs, by simp; exact h⟩
def sp__law_sure : SpD ReelW := fun ds μ R _ => ∃ l g, ds = [lampD l, logD g] ∧ LampOk 10000 l ∧ LogOk g ∧ (∀ s ∈ g, FitS l s) ∧ (∀ s ∈ g, s.2 - s.1 ≤ l.2 * 50 + 11) ∧ g.length ≤ 52 ∧
  ∀ out : List Int, out.Pairwise (· < ·) → (∀ k, k ∈ out ↔ ∃ s ∈ g, SureS l s k) → R (.lst (out.map .int)) μ
def sp__law_quiet : SpD ReelW := fun ds μ R _ => ∃ l g, ds = [lampD l, logD g] ∧ LampOk 10000 l ∧ LogOk g ∧ AscP (-1) g ∧ (∀ s ∈ g, FitS l s) ∧ R (.lst ((quietI l 0 g).map pD)) μ
def sp__law_inside : SpD ReelW := fun ds μ R _ => ∃ q m, (ds = [.lst (q.map pD), .int m] ∨ ds = [.tup (q.map pD), .int m]) ∧ q.length ≤ 1000 ∧ R (.bl (inQ q m)) μ
def sp__law_reason : SpD ReelW := fun ds μ R _ => ∃ ls gs, ds = [lampsD ls, logsD gs] ∧ RsOk ls gs ∧ R (optRD (reasonI ls gs)) μ
end RL
/-! text RSt -/
/-! readings of defs that several laws share: printed by gen/mkshared.py -/
namespace RL
open PySem PySem.Spec PyProof.Rows L2 DL LP RL
def N__law_sure : List Str := ["lamp", "log", "kind", "stay", "found", "on", "off"]
def ps__law_sure : List Str := ["lamp", "log"]
def s__law_sure_0 : DTS ReelW :=
  (dsAsg (dVar 0) (dgTup 2 (dgCons (dName 2) (dgCons (dName 3) dgNil))))
def s__law_sure_1 : DTS ReelW :=
  (dsAsg (dFrz (dLst dNil)) (dName 4))
def s__law_sure_2f_0a_0 : DTS ReelW :=
  (dsAsg (d2 smAdd (dVar 4) (dFrz (dLst (dCons (dVar 5) (dCons (d2 smSub (dVar 6) (dVar 3)) dNil))))) (dName 4))
def s__law_sure_2f_0b_0 : DTS ReelW :=
  (dsAsg (d2 smAdd (dVar 4) (dFrz (dLstRg3 (dCons (dVar 5) (dCons (dVar 6) (dCons (dVar 3) dNil)))))) (dName 4))
def s__law_sure_2f_0 : DTS ReelW :=
  (dsIf (dB (d2 smEq (dVar 2) (dC (.str "hold")))) s__law_sure_2f_0a_0 s__law_sure_2f_0b_0)
def l__law_sure_2 : DTS ReelW :=
  s__law_sure_2f_0
def s__law_sure_2 : DTS ReelW :=
  (dsFor (dSeq (dVar 1)) (dgTup 2 (dgCons (dName 5) (dgCons (dName 6) dgNil)))
   l__law_sure_2)
def s__law_sure_3 : DTS ReelW :=
  (dsRet (dFrz (dSortSet (dCons (dVar 4) dNil))))
def t__law_sure : DTS ReelW :=
  (dsSeq s__law_sure_0
    (dsSeq s__law_sure_1
    (dsSeq s__law_sure_2
    s__law_sure_3)))
def N__law_quiet : List Str := ["lamp", "log", "kind", "stay", "found", "first", "on", "off"]
def ps__law_quiet : List Str := ["lamp", "log"]
def s__law_quiet_0 : DTS ReelW :=
  (dsAsg (dVar 0) (dgTup 2 (dgCons (dName 2) (dgCons (dName 3) dgNil))))
def s__law_quiet_1 : DTS ReelW :=
  (dsPar2 4 5 (dpE (dFrz (dLst dNil)) (dpE (dC (.int 0)) dpNil)))
def s__law_quiet_2f_0 : DTS ReelW :=
  (dsAsg (d2 smAdd (dVar 4) (d2 smMul (dFrz (dLst (dCons (dTup (dCons (dVar 5) (dCons (d2 smSub (dVar 6) (dC (.int 1))) dNil))) dNil))) (dL smInt (dCons (d2 smLt (dVar 5) (dVar 6)) dNil)))) (dName 4))
def s__law_quiet_2f_1 : DTS ReelW :=
  (dsAsg (dIf (dB (d2 smEq (dVar 2) (dC (.str "hold")))) (d2 smAdd (d2 smSub (dVar 7) (dVar 3)) (dC (.int 1))) (dVar 7)) (dName 5))
def l__law_quiet_2 : DTS ReelW :=
  (dsSeq s__law_quiet_2f_0
    s__law_quiet_2f_1)
def s__law_quiet_2 : DTS ReelW :=
  (dsFor (dSeq (dVar 1)) (dgTup 2 (dgCons (dName 6) (dgCons (dName 7) dgNil)))
   l__law_quiet_2)
def s__law_quiet_3 : DTS ReelW :=
  (dsRet (d2 smAdd (dVar 4) (d2 smMul (dFrz (dLst (dCons (dTup (dCons (dVar 5) (dCons (dC (.int (1000000000))) dNil))) dNil))) (dL smInt (dCons (d2 smLe (dVar 5) (dC (.int (1000000000)))) dNil)))))
def t__law_quiet : DTS ReelW :=
  (dsSeq s__law_quiet_0
    (dsSeq s__law_quiet_1
    (dsSeq s__law_quiet_2
    s__law_quiet_3)))
def N__law_inside : List Str := ["spans", "minute", "first", "last"]
def ps__law_inside : List Str := ["spans", "minute"]
def s__law_inside_0 : DTS ReelW :=
  (dsRet (d2 smNe (dFrz (dComp (dSeqC (dVar 0)) (dgTup 2 (dgCons (dName 2) (dgCons (dName 3) dgNil))) (dB (dChain smLe smLe (dVar 2) (dVar 1) (dVar 3))) (dC (.int 1)) [2, 3])) (dFrz (dLst dNil))))
def t__law_inside : DTS ReelW :=
  s__law_inside_0
def N__law_reason : List Str := ["lamps", "logs", "k", "wrong", "still", "calls", "minute", "other", "bad", "on", "off", "first", "last", "low", "high", "at"]
def ps__law_reason : List Str := ["lamps", "logs"]
def s__law_reason_0f_0 : DTS ReelW :=
  (dsAsg (dFrz (dComp (dRg1 (dCons (dL smLen (dCons (d2 smIx (dVar 1) (dVar 2)) dNil)) dNil)) (dName 15) (dNot (dTru (dCall sp__law_fits (dCons (d2 smIx (dVar 0) (dVar 2)) (dCons (d2 smIx (d2 smIx (dVar 1) (dVar 2)) (dVar 15)) dNil))))) (dVar 15) [15])) (dName 3))
def s__law_reason_0f_1a_0 : DTS ReelW :=
  (dsRet (dTup (dCons (dC (.str "stretch")) (dCons (dVar 2) (dCons (d2 smIx (dVar 3) (dC (.int 0))) dNil)))))
def s__law_reason_0f_1 : DTS ReelW :=
  (dsIf (dB (d2 smNe (dVar 3) (dFrz (dLst dNil)))) s__law_reason_0f_1a_0 dsNext)
def l__law_reason_0 : DTS ReelW :=
  (dsSeq s__law_reason_0f_0
    s__law_reason_0f_1)
def s__law_reason_0 : DTS ReelW :=
  (dsFor (dRg1 (dCons (dL smLen (dCons (dVar 0) dNil)) dNil)) (dName 2)
   l__law_reason_0)
def s__law_reason_1 : DTS ReelW :=
  (dsPar2 4 5 (dpE (dFrz (dComp (dRg1 (dCons (dL smLen (dCons (dVar 0) dNil)) dNil)) (dName 2) dYes (dCall sp__law_quiet (dCons (d2 smIx (dVar 0) (dVar 2)) (dCons (d2 smIx (dVar 1) (dVar 2)) dNil))) [2])) (dpF (dLst dNil) dpNil)))
def s__law_reason_2f_0f_0 : DTS ReelW :=
  (dsAsg (dFrz (dComp (dRg1 (dCons (dL smLen (dCons (dVar 0) dNil)) dNil)) (dName 7) (dTru (dCall sp__law_inside (dCons (d2 smIx (dVar 4) (dVar 7)) (dCons (dVar 6) dNil)))) (dVar 7) [7])) (dName 8))
def s__law_reason_2f_0f_1a_0 : DTS ReelW :=
  (dsRet (dTup (dCons (dC (.str "sure")) (dCons (dVar 2) (dCons (dVar 6) (dCons (d2 smIx (dVar 8) (dC (.int 0))) dNil))))))
def s__law_reason_2f_0f_1 : DTS ReelW :=
  (dsIf (dB (d2 smNe (dVar 8) (dFrz (dLst dNil)))) s__law_reason_2f_0f_1a_0 dsNext)
def l__law_reason_2f_0 : DTS ReelW :=
  (dsSeq s__law_reason_2f_0f_0
    s__law_reason_2f_0f_1)
def s__law_reason_2f_0 : DTS ReelW :=
  (dsFor (dSeq (dCall sp__law_sure (dCons (d2 smIx (dVar 0) (dVar 2)) (dCons (d2 smIx (dVar 1) (dVar 2)) dNil)))) (dName 6)
   l__law_reason_2f_0)
def l__law_reason_2 : DTS ReelW :=
  s__law_reason_2f_0
def s__law_reason_2 : DTS ReelW :=
  (dsFor (dRg1 (dCons (dL smLen (dCons (dVar 0) dNil)) dNil)) (dName 2)
   l__law_reason_2)
def s__law_reason_3f_0f_0f_0f_0 : DTS ReelW :=
  (dsPar2 13 14 (dpE (dL smMax2 (dCons (dVar 9) (dCons (dVar 11) dNil))) (dpE (dL smMin2 (dCons (d2 smSub (dVar 10) (d2 smIx (d2 smIx (dVar 0) (dVar 2)) (dC (.int 1)))) (dCons (dVar 12) dNil))) dpNil)))
def s__law_reason_3f_0f_0f_0f_1a_0 : DTS ReelW :=
  (dsApp 5 (dTup (dCons (dC (.str "call")) (dCons (dVar 2) (dCons (dVar 13) (dCons (dVar 7) dNil))))))
def s__law_reason_3f_0f_0f_0f_1 : DTS ReelW :=
  (dsIf (dB (d2 smGe (d2 smAdd (d2 smSub (dVar 14) (dVar 13)) (dC (.int 1))) (d2 smIx (d2 smIx (dVar 0) (dVar 2)) (dC (.int 1))))) s__law_reason_3f_0f_0f_0f_1a_0 dsNext)
def l__law_reason_3f_0f_0f_0 : DTS ReelW :=
  (dsSeq s__law_reason_3f_0f_0f_0f_0
    s__law_reason_3f_0f_0f_0f_1)
def s__law_reason_3f_0f_0f_0 : DTS ReelW :=
  (dsFor (dSeq (d2 smIx (dVar 4) (dVar 7))) (dgTup 2 (dgCons (dName 11) (dgCons (dName 12) dgNil)))
   l__law_reason_3f_0f_0f_0)
def l__law_reason_3f_0f_0 : DTS ReelW :=
  s__law_reason_3f_0f_0f_0
def s__law_reason_3f_0f_0 : DTS ReelW :=
  (dsFor (dRg1 (dCons (dL smLen (dCons (dVar 0) dNil)) dNil)) (dName 7)
   l__law_reason_3f_0f_0)
def l__law_reason_3f_0 : DTS ReelW :=
  s__law_reason_3f_0f_0
def s__law_reason_3f_0 : DTS ReelW :=
  (dsFor (dSeq (dIf (dB (d2 smEq (d2 smIx (d2 smIx (dVar 0) (dVar 2)) (dC (.int 0))) (dC (.str "hold")))) (d2 smIx (dVar 1) (dVar 2)) (dTup dNil))) (dgTup 2 (dgCons (dName 9) (dgCons (dName 10) dgNil)))
   l__law_reason_3f_0)
def l__law_reason_3 : DTS ReelW :=
  s__law_reason_3f_0
def s__law_reason_3 : DTS ReelW :=
  (dsFor (dRg1 (dCons (dL smLen (dCons (dVar 0) dNil)) dNil)) (dName 2)
   l__law_reason_3)
def s__law_reason_4 : DTS ReelW :=
  (dsRet (dIf (dB (d2 smNe (dVar 5) (dFrz (dLst dNil)))) (dL smMin4 (dCons (dVar 5) dNil)) (dC .non)))
def t__law_reason : DTS ReelW :=
  (dsSeq s__law_reason_0
    (dsSeq s__law_reason_1
    (dsSeq s__law_reason_2
    (dsSeq s__law_reason_3
    s__law_reason_4))))
end RL
/-! text RSp -/
/-! the law side of reasons: pure proofs -/
namespace RL
open PySem PySem.Spec PyProof.Rows L2 DL LP
def quietL (l : Lamp) : Int → Lg → Lg
  | first, [] => if first ≤ 1000000000 then [(first, 1000000000)] else []
  | first, s :: g => (if first < s.1 then [(first, s.1 - 1)] else []) ++ quietL l (if l.1 = true then s.2 - l.2 + 1 else s.2) g
theorem quietL_eq (l : Lamp) : ∀ (g : Lg) (p f f' : Int), AscP p g → (∀ s ∈ g, s.1 ≤ 1000000000) → (f = f' ∨ (1000000000 < f ∧ 1000000000 < f' ∧ 1000000000 ≤ p)) → quietL l f g = quietI l f' g
  | [], p, f, f', _, _, h => by
    unfold quietL quietI
    rcases h with rfl | h
    · rfl
    · rw [if_neg (by omega), if_neg (by omega)]
  | s :: g, p, f, f', ha, hb, h => by
    have hs := hb s (List.mem_cons_self ..)
    obtain ⟨a1, a2, a3⟩ := ha
    have e : f = f' := by
      rcases h with h | h
      · exact h
      · omega
    subst e
    unfold quietL quietI
    congr 1
    refine quietL_eq l g s.2 _ _ a3 (fun x hx => hb x (List.mem_cons_of_mem _ hx)) ?_
    unfold lastI
    split
    · exact .inl rfl
    · by_cases q : s.2 - 1 ≤ 1000000000
      · left; rw [Int.min_eq_left q]; omega
      · right; rw [Int.min_eq_right (by omega)]; omega
section
variable (ds : List D) (μ : ReelW.M) (R : D → ReelW.M → Prop) (Ed : Xc → ReelW.M → Prop)
theorem pure__law_quiet (hl : ds.length = ps__law_quiet.length) (hs : sp__law_quiet ds μ R Ed) (st : staL ds = true) : t__law_quiet (fin R Ed) (startD N__law_quiet ds) μ := by
  obtain ⟨⟨k, stay⟩, g, rfl, hx, hg, hasc, hfit, h⟩ := hs
  rw [← quietL_eq (k, stay) g (-1) 0 0 hasc (fun s hs => by have f := hfit s hs; have f1 := f.le; have f2 := f.ge; dsimp only at f1 f2; omega) (.inl rfl)] at h
  have hx' := hx
  unfold LampOk at hx'
  dsimp only at hx'
  have hlen := hg.len
  show t__law_quiet (fin R Ed) [.val (lampD (k, stay)), .val (logD g), .un, .un, .un, .un, .un, .un] μ
  unfold t__law_quiet s__law_quiet_0 s__law_quiet_1 s__law_quiet_2 lampD logD
  simp_all! [staL_p]
  refine loop_t (Z := ReelW) pD (fun rem ρ μ' => ∃ (found : Lg) (first : Int) (a b : Slot), ρ = [.val (.tup [.str (kS k), .int stay]), .val (.tup (g.map pD)), .val (.str (kS k)), .val (.int stay), .val (.lst (found.map pD)), .val (.int first), a, b] ∧ μ' = μ ∧ found ++ quietL (k, stay) first rem = quietL (k, stay) 0 g ∧ found.length + rem.length ≤ 1000) ?_ ?_ ⟨[], 0, _, _, rfl, rfl, rfl, by simp; omega⟩
  · rintro ⟨on, off⟩ rem ρ μ' N ⟨found, first, a, b, rfl, rfl, e, hz⟩ hN
    unfold l__law_quiet_2 s__law_quiet_2f_0 s__law_quiet_2f_1 pD
    simp_all! [kS_hold, List.length_map]
    rw [quietL] at e
    dsimp only at e
    simp only [List.length_cons] at hz
    refine mul_bit (by simp [sizeLine]) ?_
    have key : ∀ f2 : Lg, (if first < on then [(first, on - 1)] else []) = f2 → f2.length ≤ 1 → ∀ nf, (if k = true then off - stay + 1 else off) = nf → N [.val (.tup [.str (kS k), .int stay]), .val (.tup (g.map pD)), .val (.str (kS k)), .val (.int stay), .val (.lst (found.map pD ++ f2.map pD)), .val (.int nf), .val (.int on), .val (.int off)] μ' := fun f2 e2 l2 nf e3 => by
      rw [e2, e3] at e
      exact hN _ _ ⟨found ++ f2, nf, _, _, by rw [List.map_append], rfl, by rw [List.append_assoc]; exact e, by rw [List.length_append]; omega⟩
    by_cases h1 : first < on
    · rw [if_pos (decide_eq_true h1)]
      have key2 := key [(first, on - 1)] (if_pos h1) (by simp)
      simp_all! [List.length_map, staL_p]
      refine ⟨by omega, staL_append (staL_p found) (staL_p [(first, on - 1)]), ?_⟩
      cases k with
      | true => rw [if_pos rfl]; exact key2 _ (if_pos rfl)
      | false => rw [if_neg (by decide)]; exact key2 _ (if_neg (by decide))
    · rw [if_neg (by simpa using h1)]
      have key2 := key [] (if_neg h1) (by simp)
      simp_all! [List.length_map, staL_p]
      refine ⟨by omega, staL_append (staL_p found) rfl, ?_⟩
      cases k with
      | true => rw [if_pos rfl]; exact key2 _ (if_pos rfl)
      | false => rw [if_neg (by decide)]; exact key2 _ (if_neg (by decide))
  · rintro ρ μ' ⟨found, first, a, b, rfl, rfl, e, hz⟩
    unfold s__law_quiet_3
    simp_all! [List.length_map]
    rw [quietL] at e
    refine mul_bit (by simp [sizeLine]) ?_
    by_cases h1 : first ≤ 1000000000
    · rw [if_pos (decide_eq_true h1)]
      rw [if_pos h1] at e
      have e2 : found.map pD ++ [D.tup [.int first, .int 1000000000]] = (quietL (k, stay) 0 g).map pD := by rw [← e, List.map_append]; rfl
      simp_all! [List.length_map]
      rw [e2]
      exact ⟨by simp at hz; omega, staL_p _, h⟩
    · rw [if_neg (by simpa using h1)]
      rw [if_neg h1, List.append_nil] at e
      simp_all! [List.length_map]
      refine ⟨by simp at hz; omega, ?_⟩
      rw [List.append_nil, e]
      exact ⟨staL_p _, h⟩
theorem inside_core1 (q : Lg) (m : Int) (hq : q.length ≤ 1000) (h : R (.bl (inQ q m)) μ) : t__law_inside (fin R Ed) (startD N__law_inside [.lst (q.map pD), .int m]) μ := by
  show t__law_inside (fin R Ed) [.val (.lst (q.map pD)), .val (.int m), .un, .un] μ
  unfold t__law_inside s__law_inside_0
  simp_all! [staL_p]
  refine comp_opt (Z := ReelW) pD (fun s => if s.1 ≤ m ∧ m ≤ s.2 then some (D.int 1) else none) (by rw [szl]; omega) (fun s _ kk kk' hk => ?_) (fun s _ y hy => ?_) ?_
  · unfold pD
    simp_all!
    by_cases h1 : s.1 ≤ m
    · rw [if_pos (decide_eq_true h1)]
      by_cases h2 : m ≤ s.2
      · rw [if_pos (decide_eq_true h2)]
        rw [if_pos ⟨h1, h2⟩] at hk
        exact hk
      · rw [if_neg (by simpa using h2)]
        rw [if_neg (fun z => h2 z.2)] at hk
        exact hk
    · rw [if_neg (by simpa using h1)]
      rw [if_neg (fun z => h1 z.1)] at hk
      exact hk
  · split at hy
    · cases hy; rfl
    · cases hy
  · have e3 : (!(q.filterMap fun s => if s.1 ≤ m ∧ m ≤ s.2 then some (D.int 1) else none).isEmpty) = inQ q m := by
      unfold inQ
      clear h hq
      induction q with
      | nil => rfl
      | cons s q ih =>
        rw [List.filterMap_cons, List.any_cons, ← ih]
        by_cases h1 : s.1 ≤ m ∧ m ≤ s.2
        · rw [if_pos h1]; simp [h1]
        · rw [if_neg h1]
          have : (decide (s.1 ≤ m) && decide (m ≤ s.2)) = false := by simpa using h1
          rw [this, Bool.false_or]
    rw [e3]
    exact h
theorem inside_core2 (q : Lg) (m : Int) (hq : q.length ≤ 1000) (h : R (.bl (inQ q m)) μ) : t__law_inside (fin R Ed) (startD N__law_inside [.tup (q.map pD), .int m]) μ := by
  show t__law_inside (fin R Ed) [.val (.tup (q.map pD)), .val (.int m), .un, .un] μ
  unfold t__law_inside s__law_inside_0
  simp_all! [staL_p]
  refine comp_opt (Z := ReelW) pD (fun s => if s.1 ≤ m ∧ m ≤ s.2 then some (D.int 1) else none) (by rw [szl]; omega) (fun s _ kk kk' hk => ?_) (fun s _ y hy => ?_) ?_
  · unfold pD
    simp_all!
    by_cases h1 : s.1 ≤ m
    · rw [if_pos (decide_eq_true h1)]
      by_cases h2 : m ≤ s.2
      · rw [if_pos (decide_eq_true h2)]
        rw [if_pos ⟨h1, h2⟩] at hk
        exact hk
      · rw [if_neg (by simpa using h2)]
        rw [if_neg (fun z => h2 z.2)] at hk
        exact hk
    · rw [if_neg (by simpa using h1)]
      rw [if_neg (fun z => h1 z.1)] at hk
      exact hk
  · split at hy
    · cases hy; rfl
    · cases hy
  · have e3 : (!(q.filterMap fun s => if s.1 ≤ m ∧ m ≤ s.2 then some (D.int 1) else none).isEmpty) = inQ q m := by
      unfold inQ
      clear h hq
      induction q with
      | nil => rfl
      | cons s q ih =>
        rw [List.filterMap_cons, List.any_cons, ← ih]
        by_cases h1 : s.1 ≤ m ∧ m ≤ s.2
        · rw [if_pos h1]; simp [h1]
        · rw [if_neg h1]
          have : (decide (s.1 ≤ m) && decide (m ≤ s.2)) = false := by simpa using h1
          rw [this, Bool.false_or]
    rw [e3]
    exact h
theorem pure__law_inside (hl : ds.length = ps__law_inside.length) (hs : sp__law_inside ds μ R Ed) (st : staL ds = true) : t__law_inside (fin R Ed) (startD N__law_inside ds) μ := by
  obtain ⟨q, m, rfl | rfl, hq, h⟩ := hs
  · exact inside_core1 μ R Ed q m hq h
  · exact inside_core2 μ R Ed q m hq h
theorem pure__law_sure (hl : ds.length = ps__law_sure.length) (hs : sp__law_sure ds μ R Ed) (st : staL ds = true) : t__law_sure (fin R Ed) (startD N__law_sure ds) μ := by
  obtain ⟨⟨k, stay⟩, g, rfl, hx, hg, hf, hb, hlen, h⟩ := hs
  have hx' := hx
  unfold LampOk at hx'
  dsimp only at hx'
  show t__law_sure (fin R Ed) [.val (lampD (k, stay)), .val (logD g), .un, .un, .un, .un, .un] μ
  unfold t__law_sure s__law_sure_0 s__law_sure_1 s__law_sure_2 s__law_sure_3 lampD logD
  simp_all! [staL_p]
  refine loop_t (Z := ReelW) pD (fun rem ρ μ' => ∃ (done : Lg) (found : List Int) (a b : Slot), g = done ++ rem ∧ ρ = [.val (.tup [.str (kS k), .int stay]), .val (.tup (g.map pD)), .val (.str (kS k)), .val (.int stay), .val (.lst (found.map D.int)), a, b] ∧ μ' = μ ∧ (∀ m, m ∈ found ↔ ∃ s ∈ done, SureS (k, stay) s m) ∧ found.length ≤ 62 * done.length) ?_ ?_ ⟨[], [], _, _, rfl, rfl, rfl, by simp, by simp⟩
  · rintro ⟨on, off⟩ rem ρ μ' N ⟨done, found, a, b, hg2, rfl, rfl, e, hz⟩ hN
    unfold l__law_sure_2 s__law_sure_2f_0 s__law_sure_2f_0a_0 s__law_sure_2f_0b_0 pD
    simp_all! [kS_hold, List.length_map]
    have hd : done.length ≤ 52 := by rw [hg2, List.length_append] at hlen; omega
    have hin : (on, off) ∈ g := by rw [hg2]; simp
    have fs := hf _ hin
    have fb := hb _ hin
    have bo := hg.ok _ hin
    dsimp only at fb bo
    have next : ∀ add : List Int, (∀ m, m ∈ add ↔ SureS (k, stay) (on, off) m) → add.length ≤ 62 → ∀ a b, N [.val (.tup [.str (kS k), .int stay]), .val (.tup (g.map pD)), .val (.str (kS k)), .val (.int stay), .val (.lst (found.map D.int ++ add.map D.int)), a, b] μ' := fun add ha hl a b => by
      refine hN _ _ ⟨done ++ [(on, off)], found ++ add, a, b, by rw [hg2]; simp, by rw [List.map_append], rfl, fun m => ?_, by simp; omega⟩
      rw [List.mem_append, e m, ha m]
      constructor
      · rintro (⟨s, hs, z⟩ | z)
        · exact ⟨s, List.mem_append_left _ hs, z⟩
        · exact ⟨_, List.mem_append_right _ (List.mem_singleton.mpr rfl), z⟩
      · rintro ⟨s, hs, z⟩
        rcases List.mem_append.mp hs with hs | hs
        · exact .inl ⟨s, hs, z⟩
        · rw [List.mem_singleton.mp hs] at z; exact .inr z
    cases k with
    | true =>
      rw [if_pos rfl]
      refine ⟨by omega, staL_append (staL_ints _) rfl, next [on, off - stay] (fun m => ?_) (by simp) _ _⟩
      show m ∈ [on, off - stay] ↔ (m = on ∨ m = off - stay)
      simp
    | false =>
      rw [if_neg (by decide)]
      unfold dLstRg3
      simp_all!
      have f1 := fs.st
      have f2 := fs.lt
      dsimp only at f1 f2
      have n1 : (off - on - 1) / stay < 61 := Int.ediv_lt_of_lt_mul (by omega) (by omega)
      have n0 : 0 ≤ (off - on - 1) / stay := Int.ediv_nonneg (by omega) (by omega)
      refine ⟨on, off, stay, _, rfl, RgC.pos f1 (by omega) (by omega) (by omega) (by omega) (by omega) f2, by omega, ?_⟩
      rw [List.length_map, rgC_length]
      refine ⟨by omega, staL_append (staL_ints _) (staL_ints _), next (rgC on stay _) (fun m => ?_) (by rw [rgC_length]; omega) _ _⟩
      unfold rgC
      rw [List.mem_map]
      constructor
      · rintro ⟨j, hj, rfl⟩
        rw [List.mem_range] at hj
        refine sure_pulse (i := (j : Int)) (by omega) rfl ?_
        have : (j : Int) * stay ≤ off - on - 1 := (Int.le_ediv_iff_mul_le (by omega)).mp (by omega)
        dsimp only
        omega
      · rintro ⟨i, i0, ei, hlt⟩
        dsimp only at ei hlt
        have : i ≤ (off - on - 1) / stay := (Int.le_ediv_iff_mul_le (by omega)).mpr (by omega)
        exact ⟨i.toNat, List.mem_range.mpr (by omega), by rw [ei, show ((i.toNat : Nat) : Int) = i by omega]⟩
  · rintro ρ μ' ⟨done, found, a, b, hg2, rfl, rfl, e, hz⟩
    unfold dSortSet
    simp_all!
    rw [List.append_nil] at hg2
    subst hg2
    refine ⟨_, found, rfl, rfl, by omega, fun out pw hm => ⟨staL_ints _, h out pw fun m => ?_⟩⟩
    rw [hm m, e m]
end
end RL
/-! text RRp -/
/-! the law's reason: pure proof -/
namespace RL
open PySem PySem.Spec PyProof.Rows L2 DL LP
section
variable {ls : List Lamp} {gs : List Lg} {μ : ReelW.M} {B : EndsD ReelW}
theorem zip_at {i : Nat} (h : gs.length = ls.length) (hi : i < ls.length) : ∃ x g, ls[i]? = some x ∧ gs[i]? = some g ∧ (ls.zip gs)[i]? = some (x, g) ∧ (x, g) ∈ ls.zip gs ∧ atI ls (0 + (i : Int)) = some x ∧ atI gs (0 + (i : Int)) = some g := by
  have h1 : ls[i]? = some ls[i] := List.getElem?_eq_getElem hi
  have h2 : gs[i]? = some gs[i] := List.getElem?_eq_getElem (by omega)
  have h3 : (ls.zip gs)[i]? = some (ls[i], gs[i]) := List.getElem?_zip_eq_some.mpr ⟨h1, h2⟩
  exact ⟨_, _, h1, h2, h3, List.mem_of_getElem? h3, by rw [Int.zero_add]; exact at_get h1, by rw [Int.zero_add]; exact at_get h2⟩
theorem reason_0 (ok : RsOk ls gs) (hR : ∀ r, reasonI ls gs = some r → B.rt (rsnD r) μ) (hN : firstS 0 (ls.zip gs) = none → ∀ b c, B.nx [.val (lampsD ls), .val (logsD gs), b, c, .un, .un, .un, .un, .un, .un, .un, .un, .un, .un, .un, .un] μ) :
    s__law_reason_0 B [.val (lampsD ls), .val (logsD gs), .un, .un, .un, .un, .un, .un, .un, .un, .un, .un, .un, .un, .un, .un] μ := by
  unfold s__law_reason_0 lampsD logsD
  simp_all! [List.length_map]
  have hn := ok.n
  have heq := ok.eq
  refine ⟨by omega, by omega, fun rg hrg => ?_⟩
  refine loop_rg (Z := ReelW) hrg (fun i ρ μ' => ∃ b c, ρ = [.val (lampsD ls), .val (logsD gs), b, c, .un, .un, .un, .un, .un, .un, .un, .un, .un, .un, .un, .un] ∧ μ' = μ ∧ ∀ (j : Nat) (y : Lamp × Lg), j < i → (ls.zip gs)[j]? = some y → wrongI y.1 0 y.2 = []) ?_ ?_ ⟨_, _, rfl, rfl, fun j y hj => by omega⟩
  · rintro i ρ μ' N hi ⟨b, c, rfl, rfl, hj⟩ hN2
    have hi' : i < ls.length := by omega
    obtain ⟨x, g, h1, h2, h3, h4, e1, e2⟩ := zip_at heq hi'
    have hx := ok.lo x (List.mem_of_getElem? h1)
    have hg := ok.ok g (List.mem_of_getElem? h2)
    have hx' := hx
    unfold LampOk at hx'
    unfold l__law_reason_0 s__law_reason_0f_0 lampsD logsD
    simp_all! [atI_map, e1, e2, Option.map_some]
    have el : lenD (logD g) = some (g.length : Nat) := by unfold logD lenD; simp
    rw [el]
    simp_all!
    have hlen := hg.len
    refine ⟨by omega, by omega, fun rg2 hrg2 => ?_⟩
    rw [hrg2.e, show ((g.length : Nat) : Int).toNat = g.length by omega, rangeF_en]
    refine comp_opt (Z := ReelW) _ (fun q => if fitsB x q.2 = true then none else some (.int q.1)) (by rw [enI_length, szl]; omega) (fun q hq kk kk' hk => ?_) (fun q _ y hy => ?_) ?_
    · have e3 := enI_atI hq
      have b1 := hg.ok _ (enI_mem hq)
      unfold logD
      simp_all! [atI_map, e1, e2, e3, Option.map_some, sta_p, sta_lamp]
      refine ⟨x, q.2, rfl, by omega, b1.1, ?_⟩
      simp_all!
      cases hf : fitsB x q.2
      · simpa [hf] using hk
      · simpa [hf] using hk
    · split at hy
      · cases hy
      · cases hy; rfl
    rw [wrong_filter]
    simp_all! [staL_ints]
    unfold s__law_reason_0f_1 s__law_reason_0f_1a_0
    cases e : wrongI x 0 g with
    | cons w ws =>
      simp_all! [List.map_cons, List.isEmpty_cons]
      have ef := first_at (i := 0) hj h3 e
      refine hR (.st (0 + (i : Int)) w) ?_
      unfold reasonI
      rw [ef]
    | nil =>
      simp_all! [List.map_nil, List.isEmpty_nil]
      refine hN2 _ _ ⟨_, _, rfl, rfl, fun j y hj2 hy => ?_⟩
      by_cases hji : j = i
      · subst hji
        rw [h3] at hy
        cases hy
        exact e
      · exact hj j y (by omega) hy
  · rintro ρ μ' ⟨b, c, rfl, rfl, hj⟩
    refine hN (first_none.mpr fun y hy => ?_) b c
    obtain ⟨j, hj2⟩ := List.getElem?_of_mem hy
    have : j < (ls.zip gs).length := (List.getElem?_eq_some_iff.mp hj2).1
    rw [List.length_zip] at this
    exact hj j y (by omega) hj2
def lstP (q : Lg) : D := .lst (q.map pD)
theorem staL_lstP (qs : List Lg) : staL (qs.map lstP) = true := staL_map (fun q => by unfold lstP; simp only [sta]; exact staL_p q) qs
theorem enI_map2 {α : Type} (F : α → D) : ∀ (lo : Int) (zs : List α), (enI lo zs).map (fun p => F p.2) = zs.map F
  | _, [] => rfl
  | lo, z :: zs => by rw [enI, List.map_cons, List.map_cons, enI_map2 F (lo + 1) zs]
theorem zip_en {p : Int × (Lamp × Lg)} (h : p ∈ enI 0 (ls.zip gs)) : atI ls p.1 = some p.2.1 ∧ atI gs p.1 = some p.2.2 ∧ p.2 ∈ ls.zip gs := by
  obtain ⟨j, e, h2⟩ := enI_at h
  obtain ⟨h3, h4⟩ := List.getElem?_zip_eq_some.mp h2
  rw [show p.1 = (j : Int) by omega]
  exact ⟨at_get h3, at_get h4, List.mem_of_getElem? h2⟩
theorem quiets_len (ok : RsOk ls gs) : (quietsOf ls gs).length = ls.length := by
  have := ok.eq
  unfold quietsOf
  rw [List.length_map, List.length_zip]
  omega
theorem reason_1 (ok : RsOk ls gs) (hw : firstS 0 (ls.zip gs) = none) (b c : Slot) (hN : ∀ b, B.nx [.val (lampsD ls), .val (logsD gs), b, c, .val (.lst ((quietsOf ls gs).map lstP)), .own [], .un, .un, .un, .un, .un, .un, .un, .un, .un, .un] μ) :
    s__law_reason_1 B [.val (lampsD ls), .val (logsD gs), b, c, .un, .un, .un, .un, .un, .un, .un, .un, .un, .un, .un, .un] μ := by
  unfold s__law_reason_1 lampsD logsD
  simp_all! [List.length_map]
  have hn := ok.n
  have heq := ok.eq
  refine ⟨by omega, by omega, fun rg hrg => ?_⟩
  have el : ((ls.length : Nat) : Int).toNat = (ls.zip gs).length := by rw [List.length_zip]; omega
  rw [hrg.e, el, rangeF_en]
  refine comp_fun (Z := ReelW) _ (fun p => lstP (quietI p.2.1 0 p.2.2)) (by rw [enI_length, List.length_zip, szl]; omega) (fun p hp k k' hk => ?_) (fun p _ => by unfold lstP; simp only [sta]; exact staL_p _) ?_
  · obtain ⟨e1, e2, h1⟩ := zip_en hp
    obtain ⟨m1, m2⟩ := List.of_mem_zip h1
    simp_all! [atI_map, e1, e2, Option.map_some, sta_lamp, sta_log]
    exact ⟨p.2.1, p.2.2, rfl, ok.lo _ m1, ok.ok _ m2, ok.asc _ m2, ok.fit hw h1, hk⟩
  · rw [enI_map2 (fun x : Lamp × Lg => lstP (quietI x.1 0 x.2))]
    have e : (ls.zip gs).map (fun x => lstP (quietI x.1 0 x.2)) = (quietsOf ls gs).map lstP := by unfold quietsOf; rw [List.map_map]; rfl
    rw [e]
    simp_all! [staL_lstP]
    exact hN _
def badL (qs : List Lg) (m : Int) : List Int := (enI 0 qs).filterMap fun p => if inQ p.2 m = true then some p.1 else none
theorem bad_mem {qs : List Lg} {m o : Int} : o ∈ badL qs m ↔ ∃ (j : Nat) (q : Lg), o = (j : Int) ∧ qs[j]? = some q ∧ InS q m := by
  unfold badL
  rw [List.mem_filterMap]
  constructor
  · rintro ⟨p, hp, h⟩
    obtain ⟨j, e, hq⟩ := enI_at hp
    split at h
    · rename_i hi
      cases h
      exact ⟨j, p.2, by omega, hq, inQ_iff.mp hi⟩
    · cases h
  · rintro ⟨j, q, e, hq, hi⟩
    refine ⟨(0 + (j : Int), q), enI_of hq, ?_⟩
    rw [if_pos (inQ_iff.mpr hi), e]
    simp
theorem enI_sorted {α : Type} : ∀ (lo : Int) (xs : List α), (enI lo xs).Pairwise (fun p q => p.1 < q.1) ∧ ∀ p ∈ enI lo xs, lo ≤ p.1
  | _, [] => ⟨.nil, fun p h => by cases h⟩
  | lo, x :: xs => by
    obtain ⟨h1, h2⟩ := enI_sorted (lo + 1) xs
    rw [enI]
    refine ⟨List.pairwise_cons.mpr ⟨fun q hq => by have := h2 q hq; dsimp only; omega, h1⟩, fun p hp => ?_⟩
    rcases List.mem_cons.mp hp with e | e
    · rw [e]; exact Int.le_refl _
    · have := h2 p e; omega
theorem bad_head {qs : List Lg} {m o : Int} {os : List Int} (h : badL qs m = o :: os) : ∀ o' ∈ badL qs m, o ≤ o' := by
  have pw : (badL qs m).Pairwise (· < ·) := by
    unfold badL
    refine List.Pairwise.filterMap _ ?_ (enI_sorted 0 qs).1
    intro a a' haa b hb b' hb'
    split at hb
    · split at hb'
      · cases hb; cases hb'; exact haa
      · cases hb'
    · cases hb
  rw [h] at pw ⊢
  intro o' ho'
  rcases List.mem_cons.mp ho' with e | e
  · omega
  · have := (List.pairwise_cons.mp pw).1 o' e; omega
/-- the first bad minute of a lamp is the least minute that the program finds -/
theorem sure_found (ok : RsOk ls gs) (hw : firstS 0 (ls.zip gs) = none) {x : Lamp} {g : Lg} {k : Nat} (hk : (ls.zip gs)[k]? = some (x, g)) (hj : ∀ (j : Nat) (y : Lamp × Lg), j < k → (ls.zip gs)[j]? = some y → foundI sureQ y.1 y.2 (quietsOf ls gs) = [])
    {done rem out : List Int} {m o : Int} {os : List Int} (eo : out = done ++ m :: rem) (pw : out.Pairwise (· < ·)) (hm : ∀ t, t ∈ out ↔ ∃ s ∈ g, SureS x s t) (hd : ∀ t ∈ done, badL (quietsOf ls gs) t = []) (hb : badL (quietsOf ls gs) m = o :: os) :
    betweenI sureQ (quietsOf ls gs) 0 (ls.zip gs) = some (0 + (k : Int), m, o) := by
  have hz := List.mem_of_getElem? hk
  have L := ok.sureL hw hz
  dsimp only at L
  have ms : ∃ s ∈ g, SureS x s m := (hm m).mp (by rw [eo]; simp)
  obtain ⟨j0, q0, e0, hq0, hi0⟩ := bad_mem.mp (show o ∈ badL (quietsOf ls gs) m by rw [hb]; simp)
  cases e : foundI sureQ x g (quietsOf ls gs) with
  | nil => exact absurd ⟨ms, hi0⟩ ((found_nil L).mp e q0 (List.mem_of_getElem? hq0) m)
  | cons p ps =>
    rw [bet_at hj hk e]
    obtain ⟨⟨j1, q1, e1, hq1, s1, i1⟩, lst⟩ := found_cons L e
    have le := lst j0 q0 m hq0 ⟨ms, hi0⟩
    generalize ps.foldl minP p = r at e1 s1 i1 le
    have b1 : (j1 : Int) ∈ badL (quietsOf ls gs) r.1 := bad_mem.mpr ⟨j1, q1, rfl, hq1, i1⟩
    have r1 : r.1 ∈ out := (hm _).mpr s1
    have rm : m ≤ r.1 := by
      rw [eo] at r1 pw
      rcases List.mem_append.mp r1 with z | z
      · rw [hd _ z] at b1; cases b1
      · rcases List.mem_cons.mp z with z | z
        · omega
        · have := (List.pairwise_cons.mp (List.pairwise_append.mp pw).2.1).1 _ z; omega
    unfold LeP at le
    dsimp only at le
    have er : r.1 = m := by omega
    rw [er] at b1
    have := bad_head hb _ b1
    rw [er, show r.2 = o by omega]
theorem reason_2 (ok : RsOk ls gs) (hw : firstS 0 (ls.zip gs) = none) (hR : ∀ r, reasonI ls gs = some r → B.rt (rsnD r) μ) (b c : Slot)
    (hN : betweenI sureQ (quietsOf ls gs) 0 (ls.zip gs) = none → ∀ b f g h, B.nx [.val (lampsD ls), .val (logsD gs), b, c, .val (.lst ((quietsOf ls gs).map lstP)), .own [], f, g, h, .un, .un, .un, .un, .un, .un, .un] μ) :
    s__law_reason_2 B [.val (lampsD ls), .val (logsD gs), b, c, .val (.lst ((quietsOf ls gs).map lstP)), .own [], .un, .un, .un, .un, .un, .un, .un, .un, .un, .un] μ := by
  unfold s__law_reason_2 lampsD logsD
  simp_all! [List.length_map]
  have hn := ok.n
  have heq := ok.eq
  have hql := quiets_len ok
  refine ⟨by omega, by omega, fun rg hrg => ?_⟩
  refine loop_rg (Z := ReelW) hrg (fun i ρ μ' => ∃ b f g h, ρ = [.val (lampsD ls), .val (logsD gs), b, c, .val (.lst ((quietsOf ls gs).map lstP)), .own [], f, g, h, .un, .un, .un, .un, .un, .un, .un] ∧ μ' = μ ∧ ∀ (j : Nat) (y : Lamp × Lg), j < i → (ls.zip gs)[j]? = some y → foundI sureQ y.1 y.2 (quietsOf ls gs) = []) ?_ ?_ ⟨_, _, _, _, rfl, rfl, fun j y hj => by omega⟩
  · rintro i ρ μ' N hi ⟨b, f, g0, h, rfl, rfl, hj⟩ hN2
    have hi' : i < ls.length := by omega
    obtain ⟨x, g, h1, h2, h3, h4, e1, e2⟩ := zip_at heq hi'
    have hx := ok.lo x (List.mem_of_getElem? h1)
    have hg := ok.ok g (List.mem_of_getElem? h2)
    obtain ⟨c1, c2⟩ := ok.cnt i x g h1 h2
    unfold l__law_reason_2 s__law_reason_2f_0 lampsD logsD
    simp_all! [atI_map, e1, e2, Option.map_some, sta_lamp, sta_log]
    refine ⟨x, g, rfl, hx, hg, ok.fit hw h4, c1, c2, fun out pw hm => ?_⟩
    simp_all! [staL_ints]
    refine loop_t (Z := ReelW) D.int (fun rem ρ μ2 => ∃ (done : List Int) (f g h : Slot), ρ = [.val (lampsD ls), .val (logsD gs), .val (.int (0 + (i : Int))), c, .val (.lst ((quietsOf ls gs).map lstP)), .own [], f, g, h, .un, .un, .un, .un, .un, .un, .un] ∧ μ2 = μ' ∧ out = done ++ rem ∧ ∀ t ∈ done, badL (quietsOf ls gs) t = []) ?_ ?_ ⟨[], _, _, _, rfl, rfl, rfl, by simp⟩
    · rintro m rem ρ μ2 N ⟨done, f, g1, h, rfl, rfl, eo, hd⟩ hN3
      unfold l__law_reason_2f_0 s__law_reason_2f_0f_0 lampsD
      simp_all! [List.length_map]
      refine ⟨by omega, by omega, fun rg2 hrg2 => ?_⟩
      rw [hrg2.e, show ((ls.length : Nat) : Int).toNat = (quietsOf ls gs).length by omega, rangeF_en]
      refine comp_opt (Z := ReelW) _ (fun p => if inQ p.2 m = true then some (.int p.1) else none) (by rw [enI_length, szl]; omega) (fun p hp kk kk' hk => ?_) (fun p _ y hy => ?_) ?_
      · have e3 := enI_atI hp
        have hq := enI_mem hp
        obtain ⟨y, hy, rfl'⟩ := mem_quiets.mp hq
        have hql2 : p.2.length ≤ 1000 := by
          rw [rfl']
          have := quietI_len y.1 y.2 0
          have := (ok.ok y.2 (List.of_mem_zip hy).2).len
          omega
        simp_all! [atI_map, e3, Option.map_some, lstP, staL_p]
        refine ⟨p.2, m, .inl rfl, hql2, ?_⟩
        simp_all!
        cases hf : inQ p.2 m
        · simpa [hf] using hk
        · simpa [hf] using hk
      · split at hy
        · cases hy; rfl
        · cases hy
      have eb : (enI 0 (quietsOf ls gs)).filterMap (fun p => if inQ p.2 m = true then some (D.int p.1) else none) = (badL (quietsOf ls gs) m).map D.int := by
        unfold badL
        rw [List.map_filterMap]
        congr 1
        funext p
        split <;> rfl
      rw [eb]
      simp_all! [staL_ints]
      unfold s__law_reason_2f_0f_1 s__law_reason_2f_0f_1a_0
      cases e : badL (quietsOf ls gs) m with
      | cons o os =>
        simp_all! [List.map_cons, List.isEmpty_cons]
        have ef := sure_found ok hw h3 hj eo pw hm hd e
        refine hR (.two "sure" (0 + (i : Int)) m o) ?_
        unfold reasonI
        rw [hw]
        dsimp only
        rw [ef]
        rfl
      | nil =>
        simp_all! [List.map_nil, List.isEmpty_nil]
        refine hN3 _ _ ⟨done ++ [m], _, _, _, rfl, rfl, by rw [eo]; simp, fun t ht => ?_⟩
        rcases List.mem_append.mp ht with z | z
        · exact hd t z
        · rw [List.mem_singleton.mp z]; exact e
    · rintro ρ μ2 ⟨done, f, g1, h, rfl, rfl, eo, hd⟩
      refine hN2 _ _ ⟨_, _, _, _, rfl, rfl, fun j y hj2 hy => ?_⟩
      by_cases hji : j = i
      · subst hji
        rw [h3] at hy
        cases hy
        rw [List.append_nil] at eo
        subst eo
        refine (found_nil (ok.sureL hw h4)).mpr fun q hq m ⟨hs, hin⟩ => ?_
        obtain ⟨j2, hj2⟩ := List.getElem?_of_mem hq
        have := hd m ((hm m).mpr hs)
        have h5 : (j2 : Int) ∈ badL (quietsOf ls gs) m := bad_mem.mpr ⟨j2, q, rfl, hj2, hin⟩
        rw [this] at h5
        cases h5
      · exact hj j y (by omega) hy
  · rintro ρ μ' ⟨b, f, g, h, rfl, rfl, hj⟩
    refine hN (bet_none.mpr fun y hy => ?_) b f g h
    obtain ⟨j, hj2⟩ := List.getElem?_of_mem hy
    have : j < (ls.zip gs).length := (List.getElem?_eq_some_iff.mp hj2).1
    rw [List.length_zip] at this
    exact hj j y (by omega) hj2
def cD (c : I3) : D := q4D "call" c
theorem staL_cD (C : List I3) : staL (C.map cD) = true := staL_map (fun _ => rfl) C
def Uni (C0 : List I3) (P : I3 → Prop) (C : List I3) : Prop := ∀ c, c ∈ C ↔ c ∈ C0 ∨ P c
def P3 (x : Lamp) (s : Int × Int) (k o : Int) (q : Lg) (c : I3) : Prop := c.1 = k ∧ c.2.2 = o ∧ ∃ t ∈ q, CallS x s t c.2.1
theorem calls_3 (f6 c : Slot) {i : Nat} {x : Lamp} {s : Int × Int} {o : Nat} {q : Lg} (e1 : atI ls (0 + (i : Int)) = some x) (e3 : atI (quietsOf ls gs) (0 + (o : Int)) = some q) {C0 : List I3} (hC : C0.length + q.length ≤ 8000000) (h k l m n : Slot)
    (hN : ∀ C k l m n, Uni C0 (P3 x s (0 + (i : Int)) (0 + (o : Int)) q) C → C.length ≤ C0.length + q.length → B.nx [.val (lampsD ls), .val (logsD gs), .val (.int (0 + (i : Int))), c, .val (.lst ((quietsOf ls gs).map lstP)), .own (C.map cD), f6, .val (.int (0 + (o : Int))), h, .val (.int s.1), .val (.int s.2), k, l, m, n, .un] μ) :
    s__law_reason_3f_0f_0f_0 B [.val (lampsD ls), .val (logsD gs), .val (.int (0 + (i : Int))), c, .val (.lst ((quietsOf ls gs).map lstP)), .own (C0.map cD), f6, .val (.int (0 + (o : Int))), h, .val (.int s.1), .val (.int s.2), k, l, m, n, .un] μ := by
  unfold s__law_reason_3f_0f_0f_0 lampsD
  simp_all! [atI_map, e3, Option.map_some, lstP, staL_p]
  refine loop_t (Z := ReelW) pD (fun rem ρ μ' => ∃ (done : Lg) (C : List I3) (k l m n : Slot), ρ = [.val (lampsD ls), .val (logsD gs), .val (.int (0 + (i : Int))), c, .val (.lst ((quietsOf ls gs).map lstP)), .own (C.map cD), f6, .val (.int (0 + (o : Int))), h, .val (.int s.1), .val (.int s.2), k, l, m, n, .un] ∧ μ' = μ ∧ q = done ++ rem ∧ Uni C0 (P3 x s (0 + (i : Int)) (0 + (o : Int)) done) C ∧ C.length ≤ C0.length + done.length) ?_ ?_ ⟨[], C0, _, _, _, _, rfl, rfl, rfl, fun c => by simp [P3], by simp⟩
  · rintro ⟨first, last⟩ rem ρ μ' N ⟨done, C, k, l, m, n, rfl, rfl, eq, hU, hl⟩ hN2
    have hdl : done.length ≤ q.length := by rw [eq, List.length_append]; omega
    unfold l__law_reason_3f_0f_0f_0 s__law_reason_3f_0f_0f_0f_0 s__law_reason_3f_0f_0f_0f_1 s__law_reason_3f_0f_0f_0f_1a_0 lampsD
    simp_all! [atI_map, e1, Option.map_some, lampD, pD, List.length_map]
    have key : ∀ C' : List I3, Uni C (P3 x s (0 + (i : Int)) (0 + (o : Int)) [(first, last)]) C' → C'.length ≤ C.length + 1 → ∀ k l m n, N [.val (lampsD ls), .val (logsD gs), .val (.int (0 + (i : Int))), c, .val (.lst ((quietsOf ls gs).map lstP)), .own (C'.map cD), f6, .val (.int (0 + (o : Int))), h, .val (.int s.1), .val (.int s.2), k, l, m, n, .un] μ' := fun C' hU' hl' k l m n => by
      refine hN2 _ _ ⟨done ++ [(first, last)], C', k, l, m, n, rfl, rfl, by rw [eq]; simp, fun a => ?_, by simp; omega⟩
      rw [hU' a, hU a]
      unfold P3
      constructor
      · rintro ((z | ⟨z1, z2, t, ht, z3⟩) | ⟨z1, z2, t, ht, z3⟩)
        · exact .inl z
        · exact .inr ⟨z1, z2, t, List.mem_append_left _ ht, z3⟩
        · exact .inr ⟨z1, z2, t, List.mem_append_right _ ht, z3⟩
      · rintro (z | ⟨z1, z2, t, ht, z3⟩)
        · exact .inl (.inl z)
        · rcases List.mem_append.mp ht with ht | ht
          · exact .inl (.inr ⟨z1, z2, t, ht, z3⟩)
          · exact .inr ⟨z1, z2, t, ht, z3⟩
    by_cases hc : x.2 ≤ min (s.2 - x.2) last - max s.1 first + 1
    · rw [if_pos (decide_eq_true hc)]
      have := key (C ++ [(0 + (i : Int), max s.1 first, 0 + (o : Int))]) (fun a => by
        rw [List.mem_append, List.mem_singleton]
        unfold P3 CallS
        constructor
        · rintro (z | rfl)
          · exact .inl z
          · exact .inr ⟨rfl, rfl, (first, last), List.mem_singleton.mpr rfl, rfl, hc⟩
        · rintro (z | ⟨z1, z2, t, ht, z3, z4⟩)
          · exact .inl z
          · right
            obtain ⟨a1, a2, a3⟩ := a
            rw [List.mem_singleton.mp ht] at z3
            dsimp only at z1 z2 z3
            rw [z1, z2, z3]) (by simp)
      rw [List.map_append] at this
      exact ⟨by omega, this _ _ _ _⟩
    · rw [if_neg (by simpa using hc)]
      exact key C (fun a => by
        unfold P3 CallS
        constructor
        · exact .inl
        · rintro (z | ⟨z1, z2, t, ht, z3, z4⟩)
          · exact z
          · rw [List.mem_singleton.mp ht] at z4
            exact absurd z4 hc) (by omega) _ _ _ _
  · rintro ρ μ' ⟨done, C, k, l, m, n, rfl, rfl, eq, hU, hl⟩
    rw [List.append_nil] at eq
    subst eq
    exact hN C k l m n hU hl
def P2 (qs : List Lg) (x : Lamp) (s : Int × Int) (k : Int) (c : I3) : Prop := c.1 = k ∧ ∃ (j : Nat) (q : Lg), c.2.2 = (j : Int) ∧ qs[j]? = some q ∧ ∃ t ∈ q, CallS x s t c.2.1
theorem quiet_101 (ok : RsOk ls gs) {q : Lg} (h : q ∈ quietsOf ls gs) : q.length ≤ 101 := by
  obtain ⟨y, hy, rfl⟩ := mem_quiets.mp h
  have := quietI_len y.1 y.2 0
  have := (ok.ok y.2 (List.of_mem_zip hy).2).len
  omega
theorem calls_2 (ok : RsOk ls gs) (f6 c : Slot) {i : Nat} {x : Lamp} {s : Int × Int} (e1 : atI ls (0 + (i : Int)) = some x) {C0 : List I3} (hC : C0.length + 1616 ≤ 8000000) (g h k l m n : Slot)
    (hN : ∀ C g k l m n, Uni C0 (P2 (quietsOf ls gs) x s (0 + (i : Int))) C → C.length ≤ C0.length + 1616 → B.nx [.val (lampsD ls), .val (logsD gs), .val (.int (0 + (i : Int))), c, .val (.lst ((quietsOf ls gs).map lstP)), .own (C.map cD), f6, g, h, .val (.int s.1), .val (.int s.2), k, l, m, n, .un] μ) :
    s__law_reason_3f_0f_0 B [.val (lampsD ls), .val (logsD gs), .val (.int (0 + (i : Int))), c, .val (.lst ((quietsOf ls gs).map lstP)), .own (C0.map cD), f6, g, h, .val (.int s.1), .val (.int s.2), k, l, m, n, .un] μ := by
  unfold s__law_reason_3f_0f_0 lampsD
  simp_all! [List.length_map]
  have hn := ok.n
  have hql := quiets_len ok
  refine ⟨by omega, by omega, fun rg hrg => ?_⟩
  refine loop_rg (Z := ReelW) hrg (fun o ρ μ' => ∃ (C : List I3) (g k l m n : Slot), ρ = [.val (lampsD ls), .val (logsD gs), .val (.int (0 + (i : Int))), c, .val (.lst ((quietsOf ls gs).map lstP)), .own (C.map cD), f6, g, h, .val (.int s.1), .val (.int s.2), k, l, m, n, .un] ∧ μ' = μ ∧ Uni C0 (P2 ((quietsOf ls gs).take o) x s (0 + (i : Int))) C ∧ C.length ≤ C0.length + 101 * o) ?_ ?_ ⟨C0, _, _, _, _, _, rfl, rfl, fun c => by simp [P2], by simp⟩
  · rintro o ρ μ' N ho ⟨C, g, k, l, m, n, rfl, rfl, hU, hl⟩ hN2
    have ho' : o < (quietsOf ls gs).length := by omega
    have hq := List.getElem?_eq_getElem ho'
    generalize (quietsOf ls gs)[o] = q at hq
    have h101 := quiet_101 ok (List.mem_of_getElem? hq)
    unfold l__law_reason_3f_0f_0
    simp_all!
    refine calls_3 (ls := ls) (gs := gs) f6 c e1 (by rw [Int.zero_add]; exact at_get hq) (C0 := C) (by omega) _ _ _ _ _ fun C' k l m n hU' hl' => ?_
    refine hN2 _ _ ⟨C', _, k, l, m, n, rfl, rfl, fun a => ?_, by omega⟩
    rw [hU' a, hU a]
    unfold P2 P3
    constructor
    · rintro ((z | ⟨z1, j, q2, z2, z3, z4⟩) | ⟨z1, z2, z3⟩)
      · exact .inl z
      · refine .inr ⟨z1, j, q2, z2, ?_, z4⟩
        rw [List.getElem?_take] at z3 ⊢
        split at z3
        · rw [if_pos (by omega)]; exact z3
        · cases z3
      · refine .inr ⟨z1, o, q, by omega, ?_, z3⟩
        rw [List.getElem?_take, if_pos (by omega)]
        exact hq
    · rintro (z | ⟨z1, j, q2, z2, z3, z4⟩)
      · exact .inl (.inl z)
      · rw [List.getElem?_take] at z3
        split at z3
        · by_cases hj : j = o
          · subst hj
            rw [hq] at z3
            cases z3
            exact .inr ⟨z1, by omega, z4⟩
          · refine .inl (.inr ⟨z1, j, q2, z2, ?_, z4⟩)
            rw [List.getElem?_take, if_pos (by omega)]
            exact z3
        · cases z3
  · rintro ρ μ' ⟨C, g, k, l, m, n, rfl, rfl, hU, hl⟩
    refine hN C g k l m n ?_ (by omega)
    rw [List.take_of_length_le (by omega)] at hU
    exact hU
def P1 (qs : List Lg) (x : Lamp) (g : Lg) (k : Int) (c : I3) : Prop := ∃ s ∈ g, P2 qs x s k c
theorem calls_1 (ok : RsOk ls gs) (f6 c : Slot) {i : Nat} {x : Lamp} {g : Lg} (e1 : atI ls (0 + (i : Int)) = some x) (e2 : atI gs (0 + (i : Int)) = some g) (hg : g.length ≤ 52) {C0 : List I3} (hC : C0.length + 84032 ≤ 7000000) (g1 h o p k l m n : Slot)
    (hN : ∀ C g1 o p k l m n, Uni C0 (fun c => x.1 = true ∧ P1 (quietsOf ls gs) x g (0 + (i : Int)) c) C → C.length ≤ C0.length + 84032 → B.nx [.val (lampsD ls), .val (logsD gs), .val (.int (0 + (i : Int))), c, .val (.lst ((quietsOf ls gs).map lstP)), .own (C.map cD), f6, g1, h, o, p, k, l, m, n, .un] μ) :
    s__law_reason_3f_0 B [.val (lampsD ls), .val (logsD gs), .val (.int (0 + (i : Int))), c, .val (.lst ((quietsOf ls gs).map lstP)), .own (C0.map cD), f6, g1, h, o, p, k, l, m, n, .un] μ := by
  obtain ⟨kd, stay⟩ := x
  have loop : ∀ (gg : Lg), gg.length ≤ 52 → (∀ C : List I3, Uni C0 (P1 (quietsOf ls gs) (kd, stay) gg (0 + (i : Int))) C → Uni C0 (fun c => kd = true ∧ P1 (quietsOf ls gs) (kd, stay) g (0 + (i : Int)) c) C) →
      loopD (dgTup 2 (dgCons (dName 9) (dgCons (dName 10) dgNil))) l__law_reason_3f_0 { nx := B.nx, rt := B.rt, ex := B.ex, bk := B.bk, ct := B.ct } (gg.map pD) [.val (lampsD ls), .val (logsD gs), .val (.int (0 + (i : Int))), c, .val (.lst ((quietsOf ls gs).map lstP)), .own (C0.map cD), f6, g1, h, o, p, k, l, m, n, .un] μ := fun gg hgg conv => by
    refine loop_t (Z := ReelW) pD (fun rem ρ μ' => ∃ (done : Lg) (C : List I3) (g1 o p k l m n : Slot), ρ = [.val (lampsD ls), .val (logsD gs), .val (.int (0 + (i : Int))), c, .val (.lst ((quietsOf ls gs).map lstP)), .own (C.map cD), f6, g1, h, o, p, k, l, m, n, .un] ∧ μ' = μ ∧ gg = done ++ rem ∧ Uni C0 (P1 (quietsOf ls gs) (kd, stay) done (0 + (i : Int))) C ∧ C.length ≤ C0.length + 1616 * done.length) ?_ ?_ ⟨[], C0, _, _, _, _, _, _, _, rfl, rfl, rfl, fun c => by simp [P1], by simp⟩
    · rintro s rem ρ μ' N ⟨done, C, g1, o, p, k, l, m, n, rfl, rfl, eq, hU, hl⟩ hN2
      have hdl : done.length + rem.length + 1 ≤ 52 := by rw [eq, List.length_append, List.length_cons] at hgg; omega
      unfold l__law_reason_3f_0 pD
      simp_all!
      refine calls_2 ok f6 c e1 (C0 := C) (s := s) (by omega) _ _ _ _ _ _ fun C' g1 k l m n hU' hl' => ?_
      refine hN2 _ _ ⟨done ++ [s], C', g1, _, _, k, l, m, n, rfl, rfl, by rw [eq]; simp, fun a => ?_, by simp; omega⟩
      rw [hU' a, hU a]
      unfold P1
      constructor
      · rintro ((z | ⟨t, ht, z⟩) | z)
        · exact .inl z
        · exact .inr ⟨t, List.mem_append_left _ ht, z⟩
        · exact .inr ⟨s, List.mem_append_right _ (List.mem_singleton.mpr rfl), z⟩
      · rintro (z | ⟨t, ht, z⟩)
        · exact .inl (.inl z)
        · rcases List.mem_append.mp ht with ht | ht
          · exact .inl (.inr ⟨t, ht, z⟩)
          · rw [List.mem_singleton.mp ht] at z; exact .inr z
    · rintro ρ μ' ⟨done, C, g1, o, p, k, l, m, n, rfl, rfl, eq, hU, hl⟩
      rw [List.append_nil] at eq
      subst eq
      exact hN C g1 o p k l m n (conv C hU) (by omega)
  unfold s__law_reason_3f_0 lampsD logsD
  simp_all! [atI_map, e1, e2, Option.map_some, lampD, kS_hold]
  cases kd with
  | true =>
    simp_all! [staL_p, logD]
    exact loop g hg fun C hU c => by rw [hU c]; simp
  | false =>
    simp_all!
    exact loop [] (by simp) fun C hU c => by rw [hU c]; simp [P1]
def P0 (zs : List (Lamp × Lg)) (qs : List Lg) (c : I3) : Prop := ∃ (i : Nat) (x : Lamp) (g : Lg), zs[i]? = some (x, g) ∧ x.1 = true ∧ P1 qs x g (i : Int) c
theorem reason_3 (ok : RsOk ls gs) (b c f6 g1 h : Slot)
    (hN : ∀ (C : List I3) (b g1 o p k l m n : Slot), (∀ a, a ∈ C ↔ P0 (ls.zip gs) (quietsOf ls gs) a) → B.nx [.val (lampsD ls), .val (logsD gs), b, c, .val (.lst ((quietsOf ls gs).map lstP)), .own (C.map cD), f6, g1, h, o, p, k, l, m, n, .un] μ) :
    s__law_reason_3 B [.val (lampsD ls), .val (logsD gs), b, c, .val (.lst ((quietsOf ls gs).map lstP)), .own [], f6, g1, h, .un, .un, .un, .un, .un, .un, .un] μ := by
  unfold s__law_reason_3 lampsD
  simp_all! [List.length_map]
  have hn := ok.n
  have heq := ok.eq
  refine ⟨by omega, by omega, fun rg hrg => ?_⟩
  refine loop_rg (Z := ReelW) hrg (fun i ρ μ' => ∃ (C : List I3) (b g1 o p k l m n : Slot), ρ = [.val (lampsD ls), .val (logsD gs), b, c, .val (.lst ((quietsOf ls gs).map lstP)), .own (C.map cD), f6, g1, h, o, p, k, l, m, n, .un] ∧ μ' = μ ∧ (∀ a, a ∈ C ↔ P0 ((ls.zip gs).take i) (quietsOf ls gs) a) ∧ C.length ≤ 84032 * i) ?_ ?_ ⟨[], _, _, _, _, _, _, _, _, rfl, rfl, fun a => by simp [P0], by simp⟩
  · rintro i ρ μ' N hi ⟨C, b, g1, o, p, k, l, m, n, rfl, rfl, hU, hl⟩ hN2
    have hi' : i < ls.length := by omega
    obtain ⟨x, g, h1, h2, h3, h4, e1, e2⟩ := zip_at heq hi'
    unfold l__law_reason_3
    simp_all!
    refine calls_1 (ls := ls) (gs := gs) ok f6 c e1 e2 (ok.cnt i x g h1 h2).2 (C0 := C) (by omega) _ _ _ _ _ _ _ _ fun C' g1 o p k l m n hU' hl' => ?_
    refine hN2 _ _ ⟨C', _, g1, o, p, k, l, m, n, rfl, rfl, fun a => ?_, by omega⟩
    rw [hU' a, hU a]
    unfold P0
    constructor
    · rintro (⟨j, y, g2, z1, z2, z3⟩ | ⟨z2, z3⟩)
      · rw [List.getElem?_take] at z1
        split at z1
        · exact ⟨j, y, g2, by rw [List.getElem?_take, if_pos (by omega)]; exact z1, z2, z3⟩
        · cases z1
      · exact ⟨i, x, g, by rw [List.getElem?_take, if_pos (by omega)]; exact h3, z2, by rw [Int.zero_add] at z3; exact z3⟩
    · rintro ⟨j, y, g2, z1, z2, z3⟩
      rw [List.getElem?_take] at z1
      split at z1
      · by_cases hj : j = i
        · subst hj
          rw [h3] at z1
          cases z1
          exact .inr ⟨z2, by rw [Int.zero_add]; exact z3⟩
        · exact .inl ⟨j, y, g2, by rw [List.getElem?_take, if_pos (by omega)]; exact z1, z2, z3⟩
      · cases z1
  · rintro ρ μ' ⟨C, b, g1, o, p, k, l, m, n, rfl, rfl, hU, hl⟩
    refine hN C b g1 o p k l m n fun a => ?_
    rw [hU a, List.take_of_length_le (by rw [List.length_zip]; omega)]
theorem call_S (ok : RsOk ls gs) {i : Nat} {x : Lamp} {g : Lg} (h : (ls.zip gs)[i]? = some (x, g)) {j : Nat} {q : Lg} (hq : (quietsOf ls gs)[j]? = some q) {m : Int} : (x.1 = true ∧ ∃ s ∈ g, ∃ t ∈ q, CallS x s t m) → P0 (ls.zip gs) (quietsOf ls gs) ((i : Int), m, (j : Int)) :=
  fun ⟨hk, s, hs, t, ht, hc⟩ => ⟨i, x, g, h, hk, s, hs, rfl, j, q, rfl, hq, t, ht, hc⟩
theorem call_found (ok : RsOk ls gs) (hw : firstS 0 (ls.zip gs) = none) {C : List I3} (hU : ∀ a, a ∈ C ↔ P0 (ls.zip gs) (quietsOf ls gs) a) {q : I3} (hq : q ∈ C) (hle : ∀ r ∈ C, LeT q r) : betweenI callQ (quietsOf ls gs) 0 (ls.zip gs) = some q := by
  obtain ⟨i, x, g, h1, h2, s, hs, hc1, j, qq, e2, h3, t, ht, hc⟩ := (hU q).mp hq
  have hz := List.mem_of_getElem? h1
  have L := ok.callL hw hz
  dsimp only at L
  have hb : ∀ (j : Nat) (y : Lamp × Lg), j < i → (ls.zip gs)[j]? = some y → foundI callQ y.1 y.2 (quietsOf ls gs) = [] := fun j2 y hj hy => by
    obtain ⟨y1, y2⟩ := y
    refine (found_nil (ok.callL hw (List.mem_of_getElem? hy))).mpr fun q2 hq2 m hS => ?_
    obtain ⟨j3, hj3⟩ := List.getElem?_of_mem hq2
    have := hle _ ((hU _).mpr (call_S ok hy hj3 hS))
    unfold LeT at this
    dsimp only at this
    omega
  cases e : foundI callQ x g (quietsOf ls gs) with
  | nil => exact absurd ⟨h2, s, hs, t, ht, hc⟩ ((found_nil L).mp e qq (List.mem_of_getElem? h3) q.2.1)
  | cons p ps =>
    rw [bet_at hb h1 e]
    obtain ⟨⟨j1, q1, e1, hq1, sS⟩, lst⟩ := found_cons L e
    have l1 := lst j qq q.2.1 h3 ⟨h2, s, hs, t, ht, hc⟩
    have l2 := hle _ ((hU _).mpr (call_S ok h1 hq1 sS))
    generalize ps.foldl minP p = r at e1 sS l1 l2
    obtain ⟨a, b, c⟩ := q
    unfold LeT LeP at l2
    unfold LeP at l1
    dsimp only at hc1 e2 l1 l2
    have z1 : 0 + (i : Int) = a := by omega
    have z2 : r.1 = b := by omega
    have z3 : r.2 = c := by omega
    rw [z1, z2, z3]
end
section
variable (ds : List D) (μ : ReelW.M) (R : D → ReelW.M → Prop) (Ed : Xc → ReelW.M → Prop)
theorem pure__law_reason (hl : ds.length = ps__law_reason.length) (hs : sp__law_reason ds μ R Ed) (st : staL ds = true) : t__law_reason (fin R Ed) (startD N__law_reason ds) μ := by
  obtain ⟨ls, gs, rfl, ok, h⟩ := hs
  have hR : ∀ r, reasonI ls gs = some r → R (rsnD r) μ := fun r e => by rw [e] at h; exact h
  show t__law_reason (fin R Ed) [.val (lampsD ls), .val (logsD gs), .un, .un, .un, .un, .un, .un, .un, .un, .un, .un, .un, .un, .un, .un] μ
  unfold t__law_reason
  unfold dsSeq
  refine reason_0 ok hR fun hw b c => ?_
  refine reason_1 ok hw b c fun b => ?_
  refine reason_2 ok hw hR b c fun hb b f g h2 => ?_
  refine reason_3 ok b c f g h2 fun C b g1 o p k l m n hU => ?_
  unfold s__law_reason_4
  cases C with
  | nil =>
    simp_all! [List.map_nil, List.isEmpty_nil]
    have e : reasonI ls gs = none := by
      unfold reasonI
      rw [hw]
      dsimp only
      rw [hb]
      dsimp only
      rw [bet_none.mpr fun y hy => ?_]
      · rfl
      · obtain ⟨i, hi⟩ := List.getElem?_of_mem hy
        obtain ⟨y1, y2⟩ := y
        refine (found_nil (ok.callL hw hy)).mpr fun q2 hq2 m2 hS => ?_
        obtain ⟨j3, hj3⟩ := List.getElem?_of_mem hq2
        have := (hU _).mpr (call_S ok hi hj3 hS)
        cases this
    rw [e] at h
    exact h
  | cons q0 qs =>
    simp_all! [List.map_cons, List.isEmpty_cons]
    refine ⟨_, "call", q0, qs, rfl, rfl, fun q hq hle => ⟨rfl, ?_⟩⟩
    have e := call_found ok hw hU hq hle
    refine hR (.two "call" q.1 q.2.1 q.2.2) ?_
    unfold reasonI
    rw [hw]
    dsimp only
    rw [hb]
    dsimp only
    rw [e]
    rfl
end
end RL
/-! text RVs -/
/-! verdicts: what laws ask of them (tame answers) -/
namespace RL
open PySem PySem.Spec PyProof.Rows L2 DL LP
theorem okL_p : ∀ g : Lg, okL (g.map pD) = true
  | [] => rfl
  | s :: g => by rw [List.map_cons, okL, okL_p g]; rfl
theorem pyL_p : ∀ g : Lg, pyL (g.map pD) = g.map tpD
  | [] => rfl
  | s :: g => by rw [List.map_cons, List.map_cons, pyL, pyL_p g]; rfl
theorem lay_p : ∀ g : Lg, PyData.canLayAll0 (g.map tpD) = true
  | [] => rfl
  | s :: g => by rw [List.map_cons, PyData.canLayAll0, lay_p g]; rfl
theorem shaped_log (g : Lg) : SeqAt.shaped (pyD (logD g)) = true := by
  unfold logD
  rw [pyD, pyL_p]
  unfold SeqAt.shaped
  have := depth_pairs g
  simp only [PyData.canLay0, lay_p, Bool.true_and, decide_eq_true_eq, PyData.depth]
  exact decide_eq_true (by omega)
theorem eq_log (g : Lg) : eqD (logD g) (logD g) = true := by
  unfold eqD
  exact PySem.SeqAt.eqv_refl _ (SeqAt.canLay_of_shaped (shaped_log g))
theorem ne_log {g : Lg} {R : D → Prop} (h : R (.bl false)) : smNe (logD g) (logD g) R := by
  have c : okD (logD g) = true := by unfold logD; simp only [okD]; exact okL_p g
  refine .inr ⟨⟨c, c, shaped_log g, shaped_log g⟩, ?_⟩
  rw [eq_log]
  exact h
section
variable {ls : List Lamp} {gs : List Lg}
theorem RsOk.scn (ok : RsOk ls gs) : Scn ls gs := ⟨by have := ok.n; omega, ok.eq, fun l hl => by have := ok.lo l hl; unfold LampOk at this; exact ⟨by omega, by omega⟩, fun g hg => by have := (ok.ok g hg).len; omega, fun g hg s hs => by
  have := (ok.ok g hg).ok s hs
  exact ⟨by omega, by omega, by omega, by omega⟩⟩
theorem RsOk.len52 (ok : RsOk ls gs) {g : Lg} (hg : g ∈ gs) : g.length ≤ 52 := by
  obtain ⟨j, hj⟩ := List.getElem?_of_mem hg
  have h1 : j < ls.length := by have := (List.getElem?_eq_some_iff.mp hj).1; have := ok.eq; omega
  exact (ok.cnt j _ g (List.getElem?_eq_getElem h1) hj).2
theorem tm_lamps (ok : RsOk ls gs) : DL.Tm 49 2 (lampsD ls) := (tmL_le (n := 3) (fun x hx => tm_lamp (by have := ok.lo x hx; unfold LampOk at this; unfold BI; omega)) ok.n (Nat.le_refl _)).tup
theorem tm_logs (ok : RsOk ls gs) : DL.Tm 2513 3 (logsD gs) := (tmL_le (n := 157) (m := 16) (fun g hg => tm_log 52 (ok.ok g hg).bp (ok.len52 hg)) (by have := ok.n; have := ok.eq; omega) (Nat.le_refl _)).tup
theorem tm_two2 (ok : RsOk ls gs) : DL.Tm 2563 4 (.lst [lampsD ls, logsD gs]) := (tm_two ((tm_lamps ok).mono (Nat.le_refl _) (by omega)) (tm_logs ok)).lst
theorem ints2 {a b c : Int} (ha : BI a) (hb : BI b) (hc : BI c) {w : Str} (hw : DL.Tm 1 0 (.str w)) : DL.Tm 5 1 (.tup [.str w, .int a, .int b, .int c]) := (TmL.cons hw (TmL.cons (Tm.int ha) (tm_two (Tm.int hb) (Tm.int hc)))).tup
theorem bet_mem {f : Lamp → Lg → Lg → Option Int} {qs : List Lg} : ∀ {r : List (Lamp × Lg)} {i : Int} {q : Int × Int × Int}, betweenI f qs i r = some q → i ≤ q.1 ∧ q.1 < i + r.length ∧ ∃ x ∈ r, q.2 ∈ foundI f x.1 x.2 qs
  | [], _, _, h => by cases h
  | (l, g) :: r, i, q, h => by
    rw [betweenI] at h
    cases e : foundI f l g qs with
    | nil =>
      rw [e] at h
      obtain ⟨h1, h2, x, hx, h3⟩ := bet_mem h
      rw [List.length_cons]
      exact ⟨by omega, by omega, x, List.mem_cons_of_mem _ hx, h3⟩
    | cons p ps =>
      rw [e] at h
      cases h
      rw [List.length_cons]
      refine ⟨by dsimp only; omega, by dsimp only; omega, (l, g), List.mem_cons_self .., ?_⟩
      rw [e]
      exact (fold_minP ps p).1
theorem first_mem : ∀ {r : List (Lamp × Lg)} {i : Int} {q : Int × Int}, firstS i r = some q → i ≤ q.1 ∧ q.1 < i + r.length ∧ ∃ x ∈ r, q.2 ∈ wrongI x.1 0 x.2
  | [], _, _, h => by cases h
  | (l, g) :: r, i, q, h => by
    rw [firstS] at h
    cases e : wrongI l 0 g with
    | nil =>
      rw [e] at h
      obtain ⟨h1, h2, x, hx, h3⟩ := first_mem h
      rw [List.length_cons]
      exact ⟨by omega, by omega, x, List.mem_cons_of_mem _ hx, h3⟩
    | cons p ps =>
      rw [e] at h
      cases h
      rw [List.length_cons]
      refine ⟨by dsimp only; omega, by dsimp only; omega, (l, g), List.mem_cons_self .., ?_⟩
      rw [e]
      exact List.mem_cons_self ..
theorem RsOk.qb (ok : RsOk ls gs) (hw : firstS 0 (ls.zip gs) = none) {q : Lg} (hq : q ∈ quietsOf ls gs) : ∀ s ∈ q, 0 ≤ s.1 ∧ s.1 ≤ s.2 ∧ s.2 ≤ 1000000000 := by
  obtain ⟨x, hx, rfl⟩ := mem_quiets.mp hq
  refine quiet_ok (Int.le_refl _) fun s hs => ?_
  have := ok.fit hw hx s hs
  have h1 := this.lt
  have h2 := this.le
  have h3 := this.ge
  have := ascP_mem (ok.asc' hx) s hs
  omega
theorem found_b {f : Lamp → Lg → Lg → Option Int} {S : Lg → Int → Prop} {x : Lamp × Lg} {q : Int × Int} (ok : RsOk ls gs) (L : ∀ q ∈ quietsOf ls gs, Least (S q) (f x.1 x.2 q)) (hS : ∀ q ∈ quietsOf ls gs, ∀ m, S q m → -10000000000 ≤ m ∧ m ≤ 10000000000) (h : q ∈ foundI f x.1 x.2 (quietsOf ls gs)) : BI q.1 ∧ BI q.2 := by
  obtain ⟨m, o⟩ := q
  obtain ⟨j, q, e, h1, h2⟩ := found_mem.mp h
  have hq := List.mem_of_getElem? h1
  have l := L q hq
  rw [h2] at l
  have b := hS q hq m l.1
  have hj := (List.getElem?_eq_some_iff.mp h1).1
  have := quiets_len ok
  have := ok.n
  exact ⟨by unfold BI; dsimp only; omega, by unfold BI; dsimp only; omega⟩
theorem tm_rsn (ok : RsOk ls gs) {r : Rsn} (h : reasonI ls gs = some r) : DL.Tm 5 1 (rsnD r) := by
  have hz : (ls.zip gs).length ≤ 16 := by rw [List.length_zip]; have := ok.n; omega
  unfold reasonI at h
  split at h
  · rename_i q e
    cases h
    obtain ⟨h1, h2, x, hx, h3⟩ := first_mem e
    have h4 := wrongI_mem h3
    have := (ok.ok x.2 (List.of_mem_zip hx).2).len
    have t0 : DL.Tm 1 0 (.str "stretch") := ⟨by decide, Nat.le_refl _, Nat.le_refl _⟩
    exact ((TmL.cons t0 (tm_two (Tm.int (i := q.1) (by omega)) (Tm.int (i := q.2) (by omega)))).tup).mono (by omega) (Nat.le_refl _)
  · rename_i hw
    split at h
    · rename_i q e
      cases h
      obtain ⟨h1, h2, x, hx, h3⟩ := bet_mem e
      obtain ⟨b1, b2⟩ := found_b ok (ok.sureL hw hx) (fun t ht m hm => by
        obtain ⟨_, s, hs, z1, z2⟩ := hm
        have := ok.qb hw ht s hs
        omega) h3
      exact ints2 (w := "sure") (by unfold BI; omega) b1 b2 ⟨by decide, Nat.le_refl _, Nat.le_refl _⟩
    · cases e : betweenI callQ (quietsOf ls gs) 0 (ls.zip gs) with
      | none => rw [e] at h; cases h
      | some q =>
        rw [e] at h
        cases h
        obtain ⟨h1, h2, x, hx, h3⟩ := bet_mem e
        obtain ⟨b1, b2⟩ := found_b ok (ok.callL hw hx) (fun t ht m hm => by
          obtain ⟨_, s, hs, u, hu, z1, z2⟩ := hm
          have := ok.qb hw ht u hu
          have := (ok.ok x.2 (List.of_mem_zip hx).2).ok s hs
          omega) h3
        exact ints2 (w := "call") (by unfold BI; omega) b1 b2 ⟨by decide, Nat.le_refl _, Nat.le_refl _⟩
theorem sorted_one {a b c : Lg} (h1 : a.Perm c) (h2 : b.Perm c) (p1 : a.Pairwise LeP) (p2 : b.Pairwise LeP) : a = b :=
  List.Perm.eq_of_pairwise (fun x y _ _ h k => by unfold LeP at h k; exact Prod.ext (by omega) (by omega)) p1 p2 (h1.trans h2.symm)
theorem tm_mot {ss : Lg} (hl : ss.length ≤ 359) (hs : SpOk ss) : DL.Tm 1443 3 (.tup [.str "motions", runsD (motI (freeI 0 ss))]) := by
  have t0 : DL.Tm 1 0 (.str "motions") := ⟨by decide, Nat.le_refl _, Nat.le_refl _⟩
  have fo := free_ok ss 0 hs (Int.le_refl _)
  have hlen := free_len ss 0
  refine ((tm_two (t0.mono (Nat.le_refl _) (by omega)) (tm_runs 360 (fun r hr => ?_) (by unfold motI; rw [List.length_map]; omega))).tup).mono (by omega) (by omega)
  obtain ⟨q, hq, rfl⟩ := List.mem_map.mp hr
  have := fo q hq
  exact ⟨by unfold BI; dsimp only; omega, by unfold BI; dsimp only; omega, by unfold BI; dsimp only; omega⟩
end
end RL
/-! text EQD -/
/-! when typed data are equal -/
namespace DL
open PySem PySem.Spec PyProof.Rows L2
section
variable {α : Type} [DecidableEq α] {f : α → D}
theorem eqv_map (hf : ∀ a b, eqD (f a) (f b) = decide (a = b)) : ∀ xs ys : List α, PyData.eqvAll (pyL (xs.map f)) (pyL (ys.map f)) = decide (xs = ys)
  | [], [] => by simp [pyL, PyData.eqvAll]
  | [], y :: ys => by simp [pyL, PyData.eqvAll]
  | x :: xs, [] => by simp [pyL, PyData.eqvAll]
  | x :: xs, y :: ys => by
    have h := hf x y
    unfold eqD at h
    simp only [List.map_cons, pyL, PyData.eqvAll]
    rw [h, eqv_map hf xs ys]
    simp
theorem eqD_tup (hf : ∀ a b, eqD (f a) (f b) = decide (a = b)) (xs ys : List α) : eqD (.tup (xs.map f)) (.tup (ys.map f)) = decide (xs = ys) := by
  unfold eqD
  rw [pyD, pyD, PyData.eqv]
  exact eqv_map hf xs ys
theorem eqD_lst (hf : ∀ a b, eqD (f a) (f b) = decide (a = b)) (xs ys : List α) : eqD (.lst (xs.map f)) (.lst (ys.map f)) = decide (xs = ys) := by
  unfold eqD
  rw [pyD, pyD, PyData.eqv]
  exact eqv_map hf xs ys
end
theorem eqD_pD (s t : Int × Int) : eqD (pD s) (pD t) = decide (s = t) := by
  obtain ⟨a, b⟩ := s
  obtain ⟨c, d⟩ := t
  have h : eqD (.tup ([a, b].map D.int)) (.tup ([c, d].map D.int)) = decide ([a, b] = [c, d]) := eqD_tup (fun _ _ => eqD_ii) _ _
  show eqD (.tup [.int a, .int b]) (.tup [.int c, .int d]) = _
  rw [List.map_cons, List.map_cons, List.map_nil, List.map_cons, List.map_cons, List.map_nil] at h
  rw [h]
  simp
theorem eqD_log (g h : Lg) : eqD (logD g) (logD h) = decide (g = h) := eqD_tup eqD_pD g h
theorem eqD_logs (gs hs : List Lg) : eqD (.tup (gs.map logD)) (.tup (hs.map logD)) = decide (gs = hs) := eqD_tup eqD_log gs hs
def tupI (ms : List Int) : D := .tup (ms.map D.int)
theorem eqD_tupI (a b : List Int) : eqD (tupI a) (tupI b) = decide (a = b) := eqD_tup (fun _ _ => eqD_ii) a b
theorem inP_tupI (a : List Int) (bs : List (List Int)) : inP (tupI a) (bs.map tupI) = decide (a ∈ bs) := by
  unfold inP
  rw [List.any_map]
  rw [Bool.eq_iff_iff, List.any_eq_true]
  simp only [Function.comp, eqD_tupI, decide_eq_true_eq]
  exact ⟨fun ⟨x, h, e⟩ => e ▸ h, fun h => ⟨a, h, rfl⟩⟩
theorem shaped_of {d : D} (h0 : (pyD d).canLay0 = true) (h : (pyD d).depth ≤ 64) : SeqAt.shaped (pyD d) = true := by
  unfold SeqAt.shaped
  rw [h0]
  simp [h]
mutual
/-- integers, texts and tuples or lists of them: may be compared -/
def plnD : D → Bool
  | .non => true | .bl _ => true | .int _ => true | .str s => (pyD (.str s)).canLay0
  | .tup xs => plnL xs
  | .lst xs => plnL xs
  | _ => false
def plnL : List D → Bool
  | [] => true
  | d :: ds => plnD d && plnL ds
end
mutual
theorem pln_ok : ∀ d, plnD d = true → okD d = true ∧ (pyD d).canLay0 = true
  | .non, _ => ⟨rfl, rfl⟩
  | .bl _, _ => ⟨rfl, rfl⟩
  | .int _, _ => ⟨rfl, rfl⟩
  | .str _, h => ⟨rfl, h⟩
  | .tup xs, h => by
    rw [plnD] at h
    have := pln_okL xs h
    simp only [okD, pyD, PyData.canLay0]
    exact this
  | .lst xs, h => by
    rw [plnD] at h
    have := pln_okL xs h
    simp only [okD, pyD, PyData.canLay0]
    exact this
theorem pln_okL : ∀ ds, plnL ds = true → okL ds = true ∧ PyData.canLayAll0 (pyL ds) = true
  | [], _ => ⟨rfl, rfl⟩
  | d :: ds, h => by
    rw [plnL, Bool.and_eq_true] at h
    have h1 := pln_ok d h.1
    have h2 := pln_okL ds h.2
    simp only [okL, pyL, PyData.canLayAll0, Bool.and_eq_true]
    exact ⟨⟨h1.1, h2.1⟩, h1.2, h2.2⟩
end
theorem plnL_map {α : Type} {f : α → D} (h : ∀ a, plnD (f a) = true) : ∀ xs : List α, plnL (xs.map f) = true
  | [] => rfl
  | x :: xs => by rw [List.map_cons, plnL, h, plnL_map h xs]; rfl
theorem pln_pD (s : Int × Int) : plnD (pD s) = true := rfl
theorem pln_log (g : Lg) : plnD (logD g) = true := by unfold logD; rw [plnD]; exact plnL_map pln_pD g
theorem pln_logs (gs : List Lg) : plnD (.tup (gs.map logD)) = true := by rw [plnD]; exact plnL_map pln_log gs
theorem pln_tupI (ms : List Int) : plnD (tupI ms) = true := by unfold tupI; rw [plnD]; exact plnL_map (fun _ => rfl) ms
theorem pln_tupIs (bs : List (List Int)) : plnD (.lst (bs.map tupI)) = true := by rw [plnD]; exact plnL_map pln_tupI bs
theorem dep_map {α : Type} {f : α → D} {n : Nat} (h : ∀ a, (pyD (f a)).depth ≤ n) : ∀ xs : List α, PyData.depthAll (pyL (xs.map f)) ≤ n
  | [] => by simp [pyL, PyData.depthAll]
  | x :: xs => by
    have := h x
    have := dep_map h xs
    simp only [List.map_cons, pyL, PyData.depthAll]
    omega
theorem dep_log (g : Lg) : (pyD (logD g)).depth ≤ 2 := by
  unfold logD
  simp only [pyD, PyData.depth]
  have := dep_map (f := pD) (n := 1) (fun s => by simp [pD, pyD, pyL, PyData.depth, PyData.depthAll]) g
  omega
theorem dep_logs (gs : List Lg) : (pyD (.tup (gs.map logD))).depth ≤ 3 := by
  simp only [pyD, PyData.depth]
  have := dep_map dep_log gs
  omega
theorem dep_tupI (ms : List Int) : (pyD (tupI ms)).depth ≤ 1 := by
  unfold tupI
  simp only [pyD, PyData.depth]
  have := dep_map (f := D.int) (n := 0) (fun s => by simp [pyD, PyData.depth]) ms
  omega
theorem dep_tupIs (bs : List (List Int)) : (pyD (.lst (bs.map tupI))).depth ≤ 2 := by
  simp only [pyD, PyData.depth]
  have := dep_map dep_tupI bs
  omega
theorem cmp_pln {a b : D} (ha : plnD a = true) (hb : plnD b = true) (da : (pyD a).depth ≤ 64) (db : (pyD b).depth ≤ 64) : cmpOk a b :=
  ⟨(pln_ok a ha).1, (pln_ok b hb).1, shaped_of (pln_ok a ha).2 da, shaped_of (pln_ok b hb).2 db⟩
theorem eq_logs {gs hs : List Lg} {R : D → Prop} (h : R (.bl (decide (gs = hs)))) : smEq (.tup (gs.map logD)) (.tup (hs.map logD)) R :=
  .inr ⟨cmp_pln (pln_logs _) (pln_logs _) (by have := dep_logs gs; omega) (by have := dep_logs hs; omega), by rw [eqD_logs]; exact h⟩
theorem notin_sets {a : List Int} {bs : List (List Int)} {R : D → Prop} (h : R (.bl (!decide (a ∈ bs)))) : smNotInP (tupI a) (.lst (bs.map tupI)) R :=
  ⟨_, rfl, cmp_pln (pln_tupI _) (pln_tupIs _) (by have := dep_tupI a; omega) (by have := dep_tupIs bs; omega), by rw [inP_tupI]; exact h⟩
end DL
/-! text K32s -/
namespace K32
open PySem PySem.Spec PyProof.Rows L2 DL LP PO
open RL (AscI AscP LampOk play IsMs)
def optT : Option (List Int) → D
  | none => .non
  | some ms => tupI ms
def leastI (x y : Lamp) : Option (List Int) := if x.2 ≠ y.2 then some [0] else if x.1 ≠ y.1 ∧ 1 < x.2 then some [0, 1] else none
def rows4 : List (List Int) := [[], [0], [1], [2], [3], [0, 1], [0, 2], [0, 3], [1, 2], [1, 3], [2, 3], [0, 1, 2], [0, 1, 3], [0, 2, 3], [1, 2, 3], [0, 1, 2, 3]]
def dueI (x y : Lamp) (rs : List (List Int)) : Option (List Int) := rs.find? fun r => decide (play x r ≠ play y r)
def sp_least_example : SpD PoolW := fun ds μ R _ => ∃ x y, ds = [lampD x, lampD y] ∧ R (optT (leastI x y)) μ
def sp__law_tuples : SpD PoolW := fun ds μ R _ => ds = [.int 4] ∧ R (.lst (rows4.map tupI)) μ
def sp__law_due : SpD PoolW := fun ds μ R _ => ∃ x y rs, ds = [lampD x, lampD y, .lst (rs.map tupI)] ∧ (∀ r ∈ rs, r.length ≤ 100) ∧ R (optT (dueI x y rs)) μ
def sp_law : SpD PoolW := fun ds μ R _ => ∃ ns, ds = [.scr ns] ∧ ns.length ≤ 63 ∧ μ = none ∧ ∀ μ', R (.bl true) μ'
theorem law_start : ∀ ns : List Int, ns.length ≤ 63 → (∀ z ∈ ns, Builtin.Int.intBits z ≤ 1048576) → sp_law [.scr ns] none (fun d _ => d = .bl true) fun _ _ => False := fun ns h _ => ⟨ns, rfl, h, rfl, fun q => rfl⟩
end K32
/-! text K32t -/
/-! the readings of the defs: printed by gen/mk.py -/
namespace K32
open PySem PySem.Spec PyProof.Rows L2 DL PO
def N_least_example : List Str := ["one", "other"]
def ps_least_example : List Str := ["one", "other"]
def s_least_example_0 : DTS PoolW :=
  (dsIf (dB (d2 smNe (d2 smIx (dVar 0) (dC (.int 1))) (d2 smIx (dVar 1) (dC (.int 1))))) (dsRet (dTup (dCons (dC (.int 0)) dNil))) dsNext)
def s_least_example_1 : DTS PoolW :=
  (dsRet (dIf (dAnd (dB (d2 smNe (d2 smIx (dVar 0) (dC (.int 0))) (d2 smIx (dVar 1) (dC (.int 0))))) (dB (d2 smGt (d2 smIx (dVar 0) (dC (.int 1))) (dC (.int 1))))) (dTup (dCons (dC (.int 0)) (dCons (dC (.int 1)) dNil))) (dC .non)))
def t_least_example : DTS PoolW :=
  (dsSeq s_least_example_0
    s_least_example_1)
theorem sc_least_example : FnScope N_least_example ps_least_example (defScope (top 1)) := ⟨rfl, rfl, rfl, by decide +kernel, rfl, by decide +kernel, by decide +kernel⟩
theorem sc__law_pool : FnScope N__law_pool ps__law_pool (defScope (top 3)) := ⟨rfl, rfl, rfl, by decide +kernel, rfl, by decide +kernel, by decide +kernel⟩
theorem sc__law_lamp : FnScope N__law_lamp ps__law_lamp (defScope (top 5)) := ⟨rfl, rfl, rfl, by decide +kernel, rfl, by decide +kernel, by decide +kernel⟩
theorem sc__law_play : FnScope N__law_play ps__law_play (defScope (top 6)) := ⟨rfl, rfl, rfl, by decide +kernel, rfl, by decide +kernel, by decide +kernel⟩
theorem sc__law_sets : FnScope N__law_sets ps__law_sets (defScope (top 7)) := ⟨rfl, rfl, rfl, by decide +kernel, rfl, by decide +kernel, by decide +kernel⟩
theorem sc__law_same : FnScope N__law_same ps__law_same (defScope (top 8)) := ⟨rfl, rfl, rfl, by decide +kernel, rfl, by decide +kernel, by decide +kernel⟩
def N__law_tuples : List Str := ["upto", "found", "row", "size", "minutes"]
def ps__law_tuples : List Str := ["upto"]
def s__law_tuples_0 : DTS PoolW :=
  (dsAsg (dFrz (dComp (dSeqC (dCall sp__law_sets (dCons (dVar 0) dNil))) (dName 2) dYes (dTup (dCons (dL smLen (dCons (dVar 2) dNil)) (dCons (dL smTuple (dCons (dVar 2) dNil)) dNil))) [2])) (dName 1))
def s__law_tuples_1 : DTS PoolW :=
  (dsRet (dFrz (dComp (dSeqC (dL smSortD (dCons (dVar 1) dNil))) (dgTup 2 (dgCons (dName 3) (dgCons (dName 4) dgNil))) dYes (dVar 4) [3, 4])))
def t__law_tuples : DTS PoolW :=
  (dsSeq s__law_tuples_0
    s__law_tuples_1)
theorem sc__law_tuples : FnScope N__law_tuples ps__law_tuples (defScope (top 9)) := ⟨rfl, rfl, rfl, by decide +kernel, rfl, by decide +kernel, by decide +kernel⟩
def N__law_due : List Str := ["one", "other", "rows", "row"]
def ps__law_due : List Str := ["one", "other", "rows"]
def s__law_due_0f_0 : DTS PoolW :=
  (dsIf (dB (d2 smNe (dCall sp__law_play (dCons (dVar 0) (dCons (dVar 3) dNil))) (dCall sp__law_play (dCons (dVar 1) (dCons (dVar 3) dNil))))) (dsRet (dVar 3)) dsNext)
def l__law_due_0 : DTS PoolW :=
  s__law_due_0f_0
def s__law_due_0 : DTS PoolW :=
  (dsFor (dSeq (dVar 2)) (dName 3)
   l__law_due_0)
def s__law_due_1 : DTS PoolW :=
  (dsRet (dC .non))
def t__law_due : DTS PoolW :=
  (dsSeq s__law_due_0
    s__law_due_1)
theorem sc__law_due : FnScope N__law_due ps__law_due (defScope (top 10)) := ⟨rfl, rfl, rfl, by decide +kernel, rfl, by decide +kernel, by decide +kernel⟩
def N_law : List Str := ["script", "pool", "lamps", "rows", "one", "other", "due", "turn", "seen_text", "stay"]
def ps_law : List Str := ["script"]
def s_law_0 : DTS PoolW :=
  (dsAsg (dCall sp__law_pool (dCons (dVar 0) dNil)) (dName 1))
def s_law_1 : DTS PoolW :=
  (dsAsg (d2 smAdd (dFrz (dComp (dRg2 (dCons (dC (.int 1)) (dCons (dC (.int 5)) dNil))) (dName 9) dYes (dTup (dCons (dC (.str "hold")) (dCons (dVar 9) dNil))) [9])) (dFrz (dComp (dRg2 (dCons (dC (.int 1)) (dCons (dC (.int 5)) dNil))) (dName 9) dYes (dTup (dCons (dC (.str "pulse")) (dCons (dVar 9) dNil))) [9]))) (dName 2))
def s_law_2 : DTS PoolW :=
  (dsAsg (dCall sp__law_tuples (dCons (dC (.int 4)) dNil)) (dName 3))
def s_law_3f_0f_0 : DTS PoolW :=
  (dsAsg (dCall sp__law_due (dCons (dVar 4) (dCons (dVar 5) (dCons (dVar 3) dNil)))) (dName 6))
def s_law_3f_0f_1 : DTS PoolW :=
  (dsIf (dNot (dTru (dCall sp__law_same (dCons (dFrz (dLst (dCons (dCall sp_least_example (dCons (dVar 4) (dCons (dVar 5) dNil))) (dCons (dCall sp_least_example (dCons (dVar 4) (dCons (dVar 5) dNil))) dNil)))) (dCons (dFrz (dLst (dCons (dVar 6) (dCons (dVar 6) dNil)))) dNil))))) (dsRet (dC (.bl false))) dsNext)
def l_law_3f_0 : DTS PoolW :=
  (dsSeq s_law_3f_0f_0
    s_law_3f_0f_1)
def s_law_3f_0 : DTS PoolW :=
  (dsFor (dSeq (dVar 2)) (dName 5)
   l_law_3f_0)
def l_law_3 : DTS PoolW :=
  s_law_3f_0
def s_law_3 : DTS PoolW :=
  (dsFor (dSeq (dVar 2)) (dName 4)
   l_law_3)
def s_law_4f_0 : DTS PoolW :=
  (dsPar2 4 5 (dpE (dCall sp__law_lamp (dCons (dVar 1) (dCons (d2 smIx (dFrz (dLst (dCons (dC (.int 9)) (dCons (dC (.int (1000000000))) dNil)))) (dCall sp__law_dip (dCons (dVar 1) (dCons (dC (.int 2)) dNil)))) dNil))) (dpE (dCall sp__law_lamp (dCons (dVar 1) (dCons (dC (.int (1000000000))) dNil))) dpNil)))
def s_law_4f_1 : DTS PoolW :=
  (dsAsg (d2 smIx (dFrz (dLst (dCons (dVar 5) (dCons (dVar 4) (dCons (dTup (dCons (d2 smIx (dVar 5) (dC (.int 0))) (dCons (d2 smIx (dVar 4) (dC (.int 1))) dNil))) (dCons (dTup (dCons (dC (.str "pulse")) (dCons (d2 smIx (dVar 4) (dC (.int 1))) dNil))) dNil)))))) (dCall sp__law_dip (dCons (dVar 1) (dCons (dC (.int 4)) dNil)))) (dName 5))
def s_law_4f_2 : DTS PoolW :=
  (dsPar2 8 6 (dpE (dL smShow (dCons (dFrz (dLst (dCons (dVar 4) (dCons (dVar 5) dNil)))) dNil)) (dpE (dCall sp__law_due (dCons (dVar 4) (dCons (dVar 5) (dCons (dCut (dVar 3) dNoPart (dPart (dC (.int 11)))) dNil)))) dpNil)))
def s_law_4f_3 : DTS PoolW :=
  (dsIf (dOr (dNot (dTru (dCall sp__law_same (dCons (dCall sp_least_example (dCons (dVar 4) (dCons (dVar 5) dNil))) (dCons (dVar 6) dNil))))) (dB (d2 smNe (dL smShow (dCons (dFrz (dLst (dCons (dVar 4) (dCons (dVar 5) dNil)))) dNil)) (dVar 8)))) (dsRet (dC (.bl false))) dsNext)
def l_law_4 : DTS PoolW :=
  (dsSeq s_law_4f_0
    (dsSeq s_law_4f_1
    (dsSeq s_law_4f_2
    s_law_4f_3)))
def s_law_4 : DTS PoolW :=
  (dsFor (dRg1 (dCons (dC (.int 20)) dNil)) (dName 7)
   l_law_4)
def s_law_5 : DTS PoolW :=
  (dsRet (dC (.bl true)))
def t_law : DTS PoolW :=
  (dsSeq s_law_0
    (dsSeq s_law_1
    (dsSeq s_law_2
    (dsSeq s_law_3
    (dsSeq s_law_4
    s_law_5)))))
theorem sc_law : FnScope N_law ps_law (defScope (top 11)) := ⟨rfl, rfl, rfl, by decide +kernel, rfl, by decide +kernel, by decide +kernel⟩
end K32
/-! text K32u -/
/-! the defs read by the rules: printed by gen/mk.py -/
namespace K32
open PySem PySem.Spec PyProof.Rows L2 DL PO
section
variable {P : Program} {w : World} {K : PySem.W.Frag} {mg : Str → Option Value} {base : Heap} {f : Addr} {fd : FuncData}
theorem b_least_example (cdv : Value) (A : Around) (outer : List PySem.Env) (s : Shared) (H : Hp) (E : XK) (hr : Room 0 (A.deeper (envOfC "least_example" (defScope (top 1)) s.heap.objs.size f cdv))) (gu : (A.deeper (envOfC "least_example" (defScope (top 1)) s.heap.objs.size f cdv)).guards = some []) :
    DSs PoolW (Fm.one (cxOf (L2.CX P w) P w K mg base N_least_example "least_example" (defScope (top 1)) f cdv A outer s H E)) (fun cls d _ H' => E cls d H') (defBody (top 1)) t_least_example := by
  have un := hr.un
  exact (dss_cons (ds_if (db_cmp (od_ne (fun _ => un_of hr)) (dx_ix (dx_var fun _ => pv 0) dx_int) (dx_ix (dx_var fun _ => pv 1) dx_int) (nomark _)) (dss_one (ds_ret (dx_tup (da_cons dx_int da_nil)))) dss_nil)
    (dss_one (ds_ret (dx_if (dw_b (dw_and (db_cmp (od_ne (fun _ => un_of hr)) (dx_ix (dx_var fun _ => pv 0) dx_int) (dx_ix (dx_var fun _ => pv 1) dx_int) (nomark _)) (dw_and1 (db_cmp od_gt (dx_ix (dx_var fun _ => pv 0) dx_int) dx_int (nomark _))))) (dx_tup (da_cons dx_int (da_cons dx_int da_nil))) dx_non))))
theorem b__law_pool (m_abs : mg "abs" = none) (m_int : mg "int" = none) (m_len : mg "len" = none) (cdv : Value) (A : Around) (outer : List PySem.Env) (s : Shared) (H : Hp) (E : XK) (hr : Room 0 (A.deeper (envOfC "_law_pool" (defScope (top 3)) s.heap.objs.size f cdv))) (gu : (A.deeper (envOfC "_law_pool" (defScope (top 3)) s.heap.objs.size f cdv)).guards = some []) :
    DSs PoolW (Fm.one (cxOf (L2.CX P w) P w K mg base N__law_pool "_law_pool" (defScope (top 3)) f cdv A outer s H E)) (fun cls d _ H' => E cls d H') (defBody (top 3)) t__law_pool := by
  have un := hr.un
  exact (dss_cons (ds_set (dx_op od_add dx_int (dx_op od_mul dx_int (dx_callB cd_len (fun _ => rfl) (fun _ => m_len) (by decide +kernel) (da_cons (dx_var fun _ => pv 0) da_nil)))) (fun _ => sc__law_pool.nd) (fun _ => rfl) (fun _ => .inl rfl))
    (dss_cons (ds_for (fun _ => passes_of rfl) (fun _ => rfl) (di_seq (dx_cut (dx_var fun _ => pv 0) do_none (do_some dx_int))) (dg_name (fun _ => sc__law_pool.nd) (fun _ => rfl) (fun _ => .inl rfl))
   (dss_one (ds_set (dx_op od_mod (dx_op od_add (dx_op od_add (dx_op od_mul (dx_var fun _ => pv 1) dx_int) (dx_op od_mod (dx_callB cd_abs (fun _ => rfl) (fun _ => m_abs) (by decide +kernel) (da_cons (dx_var fun _ => pv 2) da_nil)) dx_int)) (dx_op od_mul dx_int (dx_callTy cd_int (fun _ => rfl) (fun _ => m_int) (by decide +kernel) (da_cons (dx_cmp od_lt (dx_var fun _ => pv 2) dx_int (nomark _)) da_nil)))) dx_int) (fun _ => sc__law_pool.nd) (fun _ => rfl) (fun _ => .inl rfl))))
    (dss_one (ds_retPool (df_comp (own := [("cell", 2)]) (fun _ => rfl) (fun _ => sc__law_pool.nd) (dic_seq (dx_cut (dx_var fun _ => pv 0) do_none (do_some dx_int))) (fun _ => blkOk_by (N := N__law_pool) (sc := defScope (top 3)) (by decide +kernel)) (dg_name (fun _ => sc__law_pool.nd) (fun _ => rfl) (fun _ => .inl rfl)) (by decide) (dts_one (db_cmp od_ge (dx_callB cd_abs (fun _ => rfl) (fun _ => m_abs) (by decide +kernel) (da_cons (dx_var fun _ => pv 2) da_nil)) (dx_kpow (v := 1000000000000000000) dx_int dx_int (by show _ ∧ _; decide)) (nomark _))) (dx_callB cd_abs (fun _ => rfl) (fun _ => m_abs) (by decide +kernel) (da_cons (dx_var fun _ => pv 2) da_nil))) (da_cons dx_int (da_cons (dx_var fun _ => pv 1) da_nil))))))
theorem b__law_lamp {f__law_dip : Addr} {fd__law_dip : FuncData} (n__law_dip : Kn P w K mg base "_law_dip" 1 ps__law_dip f__law_dip fd__law_dip (spOf K PoolW 2 sp__law_dip)) (cdv : Value) (A : Around) (outer : List PySem.Env) (s : Shared) (H : Hp) (E : XK) (hr : Room 1 (A.deeper (envOfC "_law_lamp" (defScope (top 5)) s.heap.objs.size f cdv))) (gu : (A.deeper (envOfC "_law_lamp" (defScope (top 5)) s.heap.objs.size f cdv)).guards = some []) :
    DSs PoolW (Fm.one (cxOf (L2.CX P w) P w K mg base N__law_lamp "_law_lamp" (defScope (top 5)) f cdv A outer s H E)) (fun cls d _ H' => E cls d H') (defBody (top 5)) t__law_lamp := by
  have un := hr.un
  exact (dss_one (ds_ret (dx_tup (da_cons (dx_ix (dx_frz (df_lst (da_cons dx_str (da_cons dx_str da_nil)))) (dx_call (fun _ => n__law_dip.G) (fun _ => hr.mono (by decide)) (fun _ => gu) (fun _ => rfl) (fun _ => n__law_dip.m) (fun _ => n__law_dip.kp) (fun _ => n__law_dip.bd) (fun _ => takes_of rfl rfl rfl rfl) (da_cons (dx_var fun _ => pv 0) (da_cons dx_int da_nil)))) (da_cons (dx_op od_add dx_int (dx_call (fun _ => n__law_dip.G) (fun _ => hr.mono (by decide)) (fun _ => gu) (fun _ => rfl) (fun _ => n__law_dip.m) (fun _ => n__law_dip.kp) (fun _ => n__law_dip.bd) (fun _ => takes_of rfl rfl rfl rfl) (da_cons (dx_var fun _ => pv 0) (da_cons (dx_var fun _ => pv 1) da_nil)))) da_nil)))))
theorem b__law_play (m_tuple : mg "tuple" = none) (m_zip : mg "zip" = none) (cdv : Value) (A : Around) (outer : List PySem.Env) (s : Shared) (H : Hp) (E : XK) (hr : Room 0 (A.deeper (envOfC "_law_play" (defScope (top 6)) s.heap.objs.size f cdv))) (gu : (A.deeper (envOfC "_law_play" (defScope (top 6)) s.heap.objs.size f cdv)).guards = some []) :
    DSs PoolW (Fm.one (cxOf (L2.CX P w) P w K mg base N__law_play "_law_play" (defScope (top 6)) f cdv A outer s H E)) (fun cls d _ H' => E cls d H') (defBody (top 6)) t__law_play := by
  have un := hr.un
  exact (dss_cons (ds_asg (dx_var fun _ => pv 0) (dg_tup (fun _ => rfl) (dgs_cons (dg_name (fun _ => sc__law_play.nd) (fun _ => rfl) (fun _ => .inl rfl)) (dgs_cons (dg_name (fun _ => sc__law_play.nd) (fun _ => rfl) (fun _ => .inl rfl)) dgs_nil))))
    (dss_cons (ds_par2 (fun _ => rfl) (fun _ => sc__law_play.nd) (fun _ => rfl) (fun _ => rfl) (by decide) (fun _ => rfl) (fun _ => rfl) (dp_f (df_lst da_nil) (dp_f (df_lst da_nil) dp_nil)) (fun _ => by rfl))
    (dss_cons (ds_for (fun _ => passes_of rfl) (fun _ => rfl) (di_seq (dx_var fun _ => pv 1)) (dg_name (fun _ => sc__law_play.nd) (fun _ => rfl) (fun _ => .inl rfl))
   (dss_one (ds_if (dw_b (dw_or (db_cmp (od_eq (fun _ => un_of hr)) (dx_var fun _ => pv 5) (dx_frz (df_lst da_nil)) (nomark _)) (dw_or1 (db_cmp od_gt (dx_var fun _ => pv 6) (dx_ix (dx_var fun _ => pv 5) (dx_kneg dx_int)) (nomark _))))) (dss_cons (ds_app (dx_var fun _ => pv 6) (fun _ => pv 4))
    (dss_one (ds_app (dx_op od_add (dx_var fun _ => pv 6) (dx_var fun _ => pv 3)) (fun _ => pv 5)))) (dss_one (ds_if (dw_b (dw_or (db_cmp (od_eq (fun _ => un_of hr)) (dx_var fun _ => pv 2) dx_str (nomark _)) (dw_or1 (db_cmp (od_eq (fun _ => un_of hr)) (dx_var fun _ => pv 6) (dx_ix (dx_var fun _ => pv 5) (dx_kneg dx_int)) (nomark _))))) (dss_one (ds_setOwn (dx_op od_add (dx_var fun _ => pv 6) (dx_var fun _ => pv 3)) (dx_kneg dx_int) (fun _ => pv 5) (fun _ _ h => pg_sub (pv 5) h set_list))) dss_nil)))))
    (dss_one (ds_ret (dx_callTy cd_tuple (fun _ => rfl) (fun _ => m_tuple) (by decide +kernel) (da_cons (dx_frz (df_comp (own := [("on", 7), ("off", 8)]) (fun _ => rfl) (fun _ => sc__law_play.nd) (dic_zip (fun _ => rfl) (fun _ => m_zip) (da_cons (dx_var fun _ => pv 4) (da_cons (dx_var fun _ => pv 5) da_nil))) (fun _ => blkOk_by (N := N__law_play) (sc := defScope (top 6)) (by decide +kernel)) (dg_tup (fun _ => rfl) (dgs_cons (dg_name (fun _ => sc__law_play.nd) (fun _ => rfl) (fun _ => .inl rfl)) (dgs_cons (dg_name (fun _ => sc__law_play.nd) (fun _ => rfl) (fun _ => .inl rfl)) dgs_nil))) (by decide) dts_nil (dx_tup (da_cons (dx_var fun _ => pv 7) (da_cons (dx_var fun _ => pv 8) da_nil))))) da_nil)))))))
theorem b__law_sets (m_range : mg "range" = none) (cdv : Value) (A : Around) (outer : List PySem.Env) (s : Shared) (H : Hp) (E : XK) (hr : Room 0 (A.deeper (envOfC "_law_sets" (defScope (top 7)) s.heap.objs.size f cdv))) (gu : (A.deeper (envOfC "_law_sets" (defScope (top 7)) s.heap.objs.size f cdv)).guards = some []) :
    DSs PoolW (Fm.one (cxOf (L2.CX P w) P w K mg base N__law_sets "_law_sets" (defScope (top 7)) f cdv A outer s H E)) (fun cls d _ H' => E cls d H') (defBody (top 7)) t__law_sets := by
  have un := hr.un
  exact (dss_cons (ds_set (dx_frz (df_lst (da_cons (dx_frz (df_lst da_nil)) da_nil))) (fun _ => sc__law_sets.nd) (fun _ => rfl) (fun _ => .inl rfl))
    (dss_cons (ds_for (fun _ => passes_of rfl) (fun _ => rfl) (di_rg1 (fun _ => rfl) (fun _ => m_range) (da_cons (dx_var fun _ => pv 0) da_nil)) (dg_name (fun _ => sc__law_sets.nd) (fun _ => rfl) (fun _ => .inr rfl))
   (dss_one (ds_set (dx_op od_add (dx_var fun _ => pv 1) (dx_frz (df_comp (own := [("row", 3)]) (fun _ => rfl) (fun _ => sc__law_sets.nd) (dic_seq (dx_var fun _ => pv 1)) (fun _ => blkOk_by (N := N__law_sets) (sc := defScope (top 7)) (by decide +kernel)) (dg_name (fun _ => sc__law_sets.nd) (fun _ => rfl) (fun _ => .inl rfl)) (by decide) dts_nil (dx_op od_add (dx_var fun _ => pv 3) (dx_frz (df_lst (da_cons (dx_var fun _ => pv 2) da_nil))))))) (fun _ => sc__law_sets.nd) (fun _ => rfl) (fun _ => .inl rfl))))
    (dss_one (ds_ret (dx_var fun _ => pv 1)))))
theorem b__law_same {sq : SpD PoolW} {lq : Nat} {f__law_same : Addr} {fd__law_same : FuncData} (n__law_same : Kn P w K mg base "_law_same" lq ps__law_same f__law_same fd__law_same (spOf K PoolW 2 sq)) (m_bool : mg "bool" = none) (m_int : mg "int" = none) (m_isinstance : mg "isinstance" = none) (m_len : mg "len" = none) (m_list : mg "list" = none) (m_range : mg "range" = none) (m_str : mg "str" = none) (m_tuple : mg "tuple" = none) (cdv : Value) (A : Around) (outer : List PySem.Env) (s : Shared) (H : Hp) (E : XK) (hr : Room lq (A.deeper (envOfC "_law_same" (defScope (top 8)) s.heap.objs.size f cdv))) (gu : (A.deeper (envOfC "_law_same" (defScope (top 8)) s.heap.objs.size f cdv)).guards = some []) :
    DSs PoolW (Fm.one (cxOf (L2.CX P w) P w K mg base N__law_same "_law_same" (defScope (top 8)) f cdv A outer s H E)) (fun cls d _ H' => E cls d H') (defBody (top 8)) (t__law_same sq) := by
  have un := hr.un
  exact (dss_cons (ds_if (dw_b (dw_and (db_tru (dx_isTT (cs := ["list", "tuple"]) (by decide) (by decide) (fun _ => rfl) (fun _ => m_isinstance) (dx_var fun _ => pv 0) (fun _ => (pa_cons (pe_bltn (v := .ty "list") rfl m_list (by decide +kernel) rfl (by decide) (by decide)) (pa_cons (pe_bltn (v := .ty "tuple") rfl m_tuple (by decide +kernel) rfl (by decide) (by decide)) pa_nil)))) (fun _ _ => rfl)) (dw_and1 (db_tru (dx_isTT (cs := ["list", "tuple"]) (by decide) (by decide) (fun _ => rfl) (fun _ => m_isinstance) (dx_var fun _ => pv 1) (fun _ => (pa_cons (pe_bltn (v := .ty "list") rfl m_list (by decide +kernel) rfl (by decide) (by decide)) (pa_cons (pe_bltn (v := .ty "tuple") rfl m_tuple (by decide +kernel) rfl (by decide) (by decide)) pa_nil)))) (fun _ _ => rfl))))) (dss_cons (ds_if (dw_b (dw_or (db_cmp (od_ne (fun _ => un_of hr)) (dx_callB cd_isi (fun _ => rfl) (fun _ => m_isinstance) (by decide +kernel) (da_cons (dx_var fun _ => pv 0) (da_cons (dx_ty (fun _ => rfl) (fun _ => m_list) (by decide +kernel)) da_nil))) (dx_callB cd_isi (fun _ => rfl) (fun _ => m_isinstance) (by decide +kernel) (da_cons (dx_var fun _ => pv 1) (da_cons (dx_ty (fun _ => rfl) (fun _ => m_list) (by decide +kernel)) da_nil))) (nomark _)) (dw_or1 (db_cmp (od_ne (fun _ => un_of hr)) (dx_callB cd_len (fun _ => rfl) (fun _ => m_len) (by decide +kernel) (da_cons (dx_var fun _ => pv 0) da_nil)) (dx_callB cd_len (fun _ => rfl) (fun _ => m_len) (by decide +kernel) (da_cons (dx_var fun _ => pv 1) da_nil)) (nomark _))))) (dss_one (ds_ret dx_bl)) dss_nil)
    (dss_one (ds_ret (dx_cmp (od_eq (fun _ => un_of hr)) (dx_frz (df_comp (own := [("k", 2)]) (fun _ => rfl) (fun _ => sc__law_same.nd) (DI.c (di_rg1 (fun _ => rfl) (fun _ => m_range) (da_cons (dx_callB cd_len (fun _ => rfl) (fun _ => m_len) (by decide +kernel) (da_cons (dx_var fun _ => pv 0) da_nil)) da_nil))) (fun _ => blkOk_by (N := N__law_same) (sc := defScope (top 8)) (by decide +kernel)) (dg_name (fun _ => sc__law_same.nd) (fun _ => rfl) (fun _ => .inl rfl)) (by decide) (dts_one (db_not (db_tru (dx_call (fun _ => n__law_same.G) (fun _ => hr) (fun _ => gu) (fun _ => rfl) (fun _ => n__law_same.m) (fun _ => n__law_same.kp) (fun _ => n__law_same.bd) (fun _ => takes0) (da_cons (dx_ix (dx_var fun _ => pv 0) (dx_var fun _ => pv 2)) (da_cons (dx_ix (dx_var fun _ => pv 1) (dx_var fun _ => pv 2)) da_nil))) (fun _ _ => rfl)))) (dx_var fun _ => pv 2))) (dx_frz (df_lst da_nil)) (nomark _))))) dss_nil)
    (dss_cons (ds_if (dw_b (dw_or (db_cmp (od_ne (fun _ => un_of hr)) (dx_callB cd_isi (fun _ => rfl) (fun _ => m_isinstance) (by decide +kernel) (da_cons (dx_var fun _ => pv 0) (da_cons (dx_ty (fun _ => rfl) (fun _ => m_bool) (by decide +kernel)) da_nil))) (dx_callB cd_isi (fun _ => rfl) (fun _ => m_isinstance) (by decide +kernel) (da_cons (dx_var fun _ => pv 1) (da_cons (dx_ty (fun _ => rfl) (fun _ => m_bool) (by decide +kernel)) da_nil))) (nomark _)) (dw_or1 (db_cmp (od_ne (fun _ => un_of hr)) (dx_callB cd_isi (fun _ => rfl) (fun _ => m_isinstance) (by decide +kernel) (da_cons (dx_var fun _ => pv 0) (da_cons (dx_ty (fun _ => rfl) (fun _ => m_int) (by decide +kernel)) da_nil))) (dx_callB cd_isi (fun _ => rfl) (fun _ => m_isinstance) (by decide +kernel) (da_cons (dx_var fun _ => pv 1) (da_cons (dx_ty (fun _ => rfl) (fun _ => m_int) (by decide +kernel)) da_nil))) (nomark _))))) (dss_one (ds_ret dx_bl)) dss_nil)
    (dss_one (ds_ret (dx_and (dx_cmp (od_eq (fun _ => un_of hr)) (dx_callB cd_isi (fun _ => rfl) (fun _ => m_isinstance) (by decide +kernel) (da_cons (dx_var fun _ => pv 0) (da_cons (dx_ty (fun _ => rfl) (fun _ => m_str) (by decide +kernel)) da_nil))) (dx_callB cd_isi (fun _ => rfl) (fun _ => m_isinstance) (by decide +kernel) (da_cons (dx_var fun _ => pv 1) (da_cons (dx_ty (fun _ => rfl) (fun _ => m_str) (by decide +kernel)) da_nil))) (nomark _)) (dx_and (dx_cmp (od_eq (fun _ => un_of hr)) (dx_cmp od_is (dx_var fun _ => pv 0) dx_non (nomark _)) (dx_cmp od_is (dx_var fun _ => pv 1) dx_non (nomark _)) (nomark _)) (dx_one (dx_cmp (od_eq (fun _ => un_of hr)) (dx_var fun _ => pv 0) (dx_var fun _ => pv 1) (nomark _)))))))))
theorem b__law_tuples {f__law_sets : Addr} {fd__law_sets : FuncData} (n__law_sets : Kn P w K mg base "_law_sets" 1 ps__law_sets f__law_sets fd__law_sets (spOf K PoolW 1 sp__law_sets)) (m_len : mg "len" = none) (m_repr : mg "repr" = none) (m_sorted : mg "sorted" = none) (m_tuple : mg "tuple" = none) (sb : ∃ mm, base.Ns sysModules mm) (cdv : Value) (A : Around) (outer : List PySem.Env) (s : Shared) (H : Hp) (E : XK) (hr : Room 1 (A.deeper (envOfC "_law_tuples" (defScope (top 9)) s.heap.objs.size f cdv))) (gu : (A.deeper (envOfC "_law_tuples" (defScope (top 9)) s.heap.objs.size f cdv)).guards = some []) :
    DSs PoolW (Fm.one (cxOf (L2.CX P w) P w K mg base N__law_tuples "_law_tuples" (defScope (top 9)) f cdv A outer s H E)) (fun cls d _ H' => E cls d H') (defBody (top 9)) t__law_tuples := by
  have un := hr.un
  exact (dss_cons (ds_setLc (own := [("row", 2)]) (fun _ => rfl) (fun _ => sc__law_tuples.nd) (fun _ => rfl) (fun _ => rfl) (fun _ => rfl) (dic_seq (dx_call (fun _ => n__law_sets.G) (fun _ => hr.mono (by decide)) (fun _ => gu) (fun _ => rfl) (fun _ => n__law_sets.m) (fun _ => n__law_sets.kp) (fun _ => n__law_sets.bd) (fun _ => takes_of rfl rfl rfl rfl) (da_cons (dx_var fun _ => pv 0) da_nil))) (fun _ => blkOk_by (N := N__law_tuples) (sc := defScope (top 9)) (by decide +kernel)) (dg_name (fun _ => sc__law_tuples.nd) (fun _ => rfl) (fun _ => .inl rfl)) (by decide) dts_nil (dx_tup (da_cons (dx_callB cd_len (fun _ => rfl) (fun _ => m_len) (by decide +kernel) (da_cons (dx_var fun _ => pv 2) da_nil)) (da_cons (dx_callTy cd_tuple (fun _ => rfl) (fun _ => m_tuple) (by decide +kernel) (da_cons (dx_var fun _ => pv 2) da_nil)) da_nil))))
    (dss_one (ds_ret (dx_frz (df_comp (own := [("size", 3), ("minutes", 4)]) (fun _ => rfl) (fun _ => sc__law_tuples.nd) (dic_seq (dx_callB (cd_sortD (fun _ => sb) (fun _ => un_of65 hr)) (fun _ => rfl) (fun _ => m_sorted) (by decide +kernel) (da_cons (dx_var fun _ => pv 1) da_nil))) (fun _ => blkOk_by (N := N__law_tuples) (sc := defScope (top 9)) (by decide +kernel)) (dg_tup (fun _ => rfl) (dgs_cons (dg_name (fun _ => sc__law_tuples.nd) (fun _ => rfl) (fun _ => .inl rfl)) (dgs_cons (dg_name (fun _ => sc__law_tuples.nd) (fun _ => rfl) (fun _ => .inl rfl)) dgs_nil))) (by decide) dts_nil (dx_var fun _ => pv 4))))))
theorem b__law_due {f__law_play : Addr} {fd__law_play : FuncData} (n__law_play : Kn P w K mg base "_law_play" 1 ps__law_play f__law_play fd__law_play (spOf K PoolW 2 sp__law_play)) (cdv : Value) (A : Around) (outer : List PySem.Env) (s : Shared) (H : Hp) (E : XK) (hr : Room 1 (A.deeper (envOfC "_law_due" (defScope (top 10)) s.heap.objs.size f cdv))) (gu : (A.deeper (envOfC "_law_due" (defScope (top 10)) s.heap.objs.size f cdv)).guards = some []) :
    DSs PoolW (Fm.one (cxOf (L2.CX P w) P w K mg base N__law_due "_law_due" (defScope (top 10)) f cdv A outer s H E)) (fun cls d _ H' => E cls d H') (defBody (top 10)) t__law_due := by
  have un := hr.un
  exact (dss_cons (ds_for (fun _ => passes_of rfl) (fun _ => rfl) (di_seq (dx_var fun _ => pv 2)) (dg_name (fun _ => sc__law_due.nd) (fun _ => rfl) (fun _ => .inl rfl))
   (dss_one (ds_if (db_cmp (od_ne (fun _ => un_of hr)) (dx_call (fun _ => n__law_play.G) (fun _ => hr.mono (by decide)) (fun _ => gu) (fun _ => rfl) (fun _ => n__law_play.m) (fun _ => n__law_play.kp) (fun _ => n__law_play.bd) (fun _ => takes_of rfl rfl rfl rfl) (da_cons (dx_var fun _ => pv 0) (da_cons (dx_var fun _ => pv 3) da_nil))) (dx_call (fun _ => n__law_play.G) (fun _ => hr.mono (by decide)) (fun _ => gu) (fun _ => rfl) (fun _ => n__law_play.m) (fun _ => n__law_play.kp) (fun _ => n__law_play.bd) (fun _ => takes_of rfl rfl rfl rfl) (da_cons (dx_var fun _ => pv 1) (da_cons (dx_var fun _ => pv 3) da_nil))) (nomark _)) (dss_one (ds_ret (dx_var fun _ => pv 3))) dss_nil)))
    (dss_one (ds_ret dx_non)))
theorem b_law {f__law_pool : Addr} {fd__law_pool : FuncData} (n__law_pool : Kn P w K mg base "_law_pool" 1 ps__law_pool f__law_pool fd__law_pool (spOf K PoolW 1 sp__law_pool)) {f__law_tuples : Addr} {fd__law_tuples : FuncData} (n__law_tuples : Kn P w K mg base "_law_tuples" 2 ps__law_tuples f__law_tuples fd__law_tuples (spOf K PoolW 1 sp__law_tuples)) {f__law_due : Addr} {fd__law_due : FuncData} (n__law_due : Kn P w K mg base "_law_due" 2 ps__law_due f__law_due fd__law_due (spOf K PoolW 3 sp__law_due)) {f__law_same : Addr} {fd__law_same : FuncData} (n__law_same : Kn P w K mg base "_law_same" 6 ps__law_same f__law_same fd__law_same (spOf K PoolW 2 sp__law_same)) {f_least_example : Addr} {fd_least_example : FuncData} (n_least_example : Kn P w K mg base "least_example" 1 ps_least_example f_least_example fd_least_example (spOf K PoolW 2 sp_least_example)) {f__law_lamp : Addr} {fd__law_lamp : FuncData} (n__law_lamp : Kn P w K mg base "_law_lamp" 2 ps__law_lamp f__law_lamp fd__law_lamp (spOf K PoolW 2 sp__law_lamp)) {f__law_dip : Addr} {fd__law_dip : FuncData} (n__law_dip : Kn P w K mg base "_law_dip" 1 ps__law_dip f__law_dip fd__law_dip (spOf K PoolW 2 sp__law_dip)) (m_range : mg "range" = none) (m_repr : mg "repr" = none) (sb : ∃ mm, base.Ns sysModules mm) (cdv : Value) (A : Around) (outer : List PySem.Env) (s : Shared) (H : Hp) (E : XK) (hr : Room 6 (A.deeper (envOfC "law" (defScope (top 11)) s.heap.objs.size f cdv))) (gu : (A.deeper (envOfC "law" (defScope (top 11)) s.heap.objs.size f cdv)).guards = some []) :
    DSs PoolW (Fm.one (cxOf (L2.CX P w) P w K mg base N_law "law" (defScope (top 11)) f cdv A outer s H E)) (fun cls d _ H' => E cls d H') (defBody (top 11)) t_law := by
  have un := hr.un
  exact (dss_cons (ds_set (dx_call (fun _ => n__law_pool.G) (fun _ => hr.mono (by decide)) (fun _ => gu) (fun _ => rfl) (fun _ => n__law_pool.m) (fun _ => n__law_pool.kp) (fun _ => n__law_pool.bd) (fun _ => takes_of rfl rfl rfl rfl) (da_cons (dx_var fun _ => pv 0) da_nil)) (fun _ => sc_law.nd) (fun _ => rfl) (fun _ => .inl rfl))
    (dss_cons (ds_set (dx_op od_add (dx_frz (df_comp (own := [("stay", 9)]) (fun _ => rfl) (fun _ => sc_law.nd) (DI.c (di_rg2 (fun _ => rfl) (fun _ => m_range) (da_cons dx_int (da_cons dx_int da_nil)))) (fun _ => blkOk_by (N := N_law) (sc := defScope (top 11)) (by decide +kernel)) (dg_name (fun _ => sc_law.nd) (fun _ => rfl) (fun _ => .inl rfl)) (by decide) dts_nil (dx_tup (da_cons dx_str (da_cons (dx_var fun _ => pv 9) da_nil))))) (dx_frz (df_comp (own := [("stay", 9)]) (fun _ => rfl) (fun _ => sc_law.nd) (DI.c (di_rg2 (fun _ => rfl) (fun _ => m_range) (da_cons dx_int (da_cons dx_int da_nil)))) (fun _ => blkOk_by (N := N_law) (sc := defScope (top 11)) (by decide +kernel)) (dg_name (fun _ => sc_law.nd) (fun _ => rfl) (fun _ => .inl rfl)) (by decide) dts_nil (dx_tup (da_cons dx_str (da_cons (dx_var fun _ => pv 9) da_nil)))))) (fun _ => sc_law.nd) (fun _ => rfl) (fun _ => .inl rfl))
    (dss_cons (ds_set (dx_call (fun _ => n__law_tuples.G) (fun _ => hr.mono (by decide)) (fun _ => gu) (fun _ => rfl) (fun _ => n__law_tuples.m) (fun _ => n__law_tuples.kp) (fun _ => n__law_tuples.bd) (fun _ => takes_of rfl rfl rfl rfl) (da_cons dx_int da_nil)) (fun _ => sc_law.nd) (fun _ => rfl) (fun _ => .inl rfl))
    (dss_cons (ds_for (fun _ => passes_of rfl) (fun _ => rfl) (di_seq (dx_var fun _ => pv 2)) (dg_name (fun _ => sc_law.nd) (fun _ => rfl) (fun _ => .inl rfl))
   (dss_one (ds_for (fun _ => passes_of rfl) (fun _ => rfl) (di_seq (dx_var fun _ => pv 2)) (dg_name (fun _ => sc_law.nd) (fun _ => rfl) (fun _ => .inl rfl))
   (dss_cons (ds_set (dx_call (fun _ => n__law_due.G) (fun _ => hr.mono (by decide)) (fun _ => gu) (fun _ => rfl) (fun _ => n__law_due.m) (fun _ => n__law_due.kp) (fun _ => n__law_due.bd) (fun _ => takes_of rfl rfl rfl rfl) (da_cons (dx_var fun _ => pv 4) (da_cons (dx_var fun _ => pv 5) (da_cons (dx_var fun _ => pv 3) da_nil)))) (fun _ => sc_law.nd) (fun _ => rfl) (fun _ => .inl rfl))
    (dss_one (ds_if (db_not (db_tru (dx_call (fun _ => n__law_same.G) (fun _ => hr.mono (by decide)) (fun _ => gu) (fun _ => rfl) (fun _ => n__law_same.m) (fun _ => n__law_same.kp) (fun _ => n__law_same.bd) (fun _ => takes_of rfl rfl rfl rfl) (da_cons (dx_frz (df_lst (da_cons (dx_call (fun _ => n_least_example.G) (fun _ => hr.mono (by decide)) (fun _ => gu) (fun _ => rfl) (fun _ => n_least_example.m) (fun _ => n_least_example.kp) (fun _ => n_least_example.bd) (fun _ => takes_of rfl rfl rfl rfl) (da_cons (dx_var fun _ => pv 4) (da_cons (dx_var fun _ => pv 5) da_nil))) (da_cons (dx_call (fun _ => n_least_example.G) (fun _ => hr.mono (by decide)) (fun _ => gu) (fun _ => rfl) (fun _ => n_least_example.m) (fun _ => n_least_example.kp) (fun _ => n_least_example.bd) (fun _ => takes_of rfl rfl rfl rfl) (da_cons (dx_var fun _ => pv 4) (da_cons (dx_var fun _ => pv 5) da_nil))) da_nil)))) (da_cons (dx_frz (df_lst (da_cons (dx_var fun _ => pv 6) (da_cons (dx_var fun _ => pv 6) da_nil)))) da_nil))) (fun _ _ => rfl))) (dss_one (ds_ret dx_bl)) dss_nil))))))
    (dss_cons (ds_for (fun _ => passes_of rfl) (fun _ => rfl) (di_rg1 (fun _ => rfl) (fun _ => m_range) (da_cons dx_int da_nil)) (dg_name (fun _ => sc_law.nd) (fun _ => rfl) (fun _ => .inl rfl))
   (dss_cons (ds_par2 (fun _ => rfl) (fun _ => sc_law.nd) (fun _ => rfl) (fun _ => rfl) (by decide) (fun _ => rfl) (fun _ => rfl) (dp_e (dx_call (fun _ => n__law_lamp.G) (fun _ => hr.mono (by decide)) (fun _ => gu) (fun _ => rfl) (fun _ => n__law_lamp.m) (fun _ => n__law_lamp.kp) (fun _ => n__law_lamp.bd) (fun _ => takes_of rfl rfl rfl rfl) (da_cons (dx_var fun _ => pv 1) (da_cons (dx_ix (dx_frz (df_lst (da_cons dx_int (da_cons (dx_kpow (v := 1000000000) dx_int dx_int (by show _ ∧ _; decide)) da_nil)))) (dx_call (fun _ => n__law_dip.G) (fun _ => hr.mono (by decide)) (fun _ => gu) (fun _ => rfl) (fun _ => n__law_dip.m) (fun _ => n__law_dip.kp) (fun _ => n__law_dip.bd) (fun _ => takes_of rfl rfl rfl rfl) (da_cons (dx_var fun _ => pv 1) (da_cons dx_int da_nil)))) da_nil))) (dp_e (dx_call (fun _ => n__law_lamp.G) (fun _ => hr.mono (by decide)) (fun _ => gu) (fun _ => rfl) (fun _ => n__law_lamp.m) (fun _ => n__law_lamp.kp) (fun _ => n__law_lamp.bd) (fun _ => takes_of rfl rfl rfl rfl) (da_cons (dx_var fun _ => pv 1) (da_cons (dx_kpow (v := 1000000000) dx_int dx_int (by show _ ∧ _; decide)) da_nil))) dp_nil)) (fun _ => by rfl))
    (dss_cons (ds_set (dx_ix (dx_frz (df_lst (da_cons (dx_var fun _ => pv 5) (da_cons (dx_var fun _ => pv 4) (da_cons (dx_tup (da_cons (dx_ix (dx_var fun _ => pv 5) dx_int) (da_cons (dx_ix (dx_var fun _ => pv 4) dx_int) da_nil))) (da_cons (dx_tup (da_cons dx_str (da_cons (dx_ix (dx_var fun _ => pv 4) dx_int) da_nil))) da_nil)))))) (dx_call (fun _ => n__law_dip.G) (fun _ => hr.mono (by decide)) (fun _ => gu) (fun _ => rfl) (fun _ => n__law_dip.m) (fun _ => n__law_dip.kp) (fun _ => n__law_dip.bd) (fun _ => takes_of rfl rfl rfl rfl) (da_cons (dx_var fun _ => pv 1) (da_cons dx_int da_nil)))) (fun _ => sc_law.nd) (fun _ => rfl) (fun _ => .inl rfl))
    (dss_cons (ds_par2 (fun _ => rfl) (fun _ => sc_law.nd) (fun _ => rfl) (fun _ => rfl) (by decide) (fun _ => rfl) (fun _ => rfl) (dp_e (dx_callB (cd_repr (fun _ => sb) (fun _ => gu) (fun _ => un_of65 hr)) (fun _ => rfl) (fun _ => m_repr) (by decide +kernel) (da_cons (dx_frz (df_lst (da_cons (dx_var fun _ => pv 4) (da_cons (dx_var fun _ => pv 5) da_nil)))) da_nil)) (dp_e (dx_call (fun _ => n__law_due.G) (fun _ => hr.mono (by decide)) (fun _ => gu) (fun _ => rfl) (fun _ => n__law_due.m) (fun _ => n__law_due.kp) (fun _ => n__law_due.bd) (fun _ => takes_of rfl rfl rfl rfl) (da_cons (dx_var fun _ => pv 4) (da_cons (dx_var fun _ => pv 5) (da_cons (dx_cut (dx_var fun _ => pv 3) do_none (do_some dx_int)) da_nil)))) dp_nil)) (fun _ => by rfl))
    (dss_one (ds_if (dw_b (dw_or (db_not (db_tru (dx_call (fun _ => n__law_same.G) (fun _ => hr.mono (by decide)) (fun _ => gu) (fun _ => rfl) (fun _ => n__law_same.m) (fun _ => n__law_same.kp) (fun _ => n__law_same.bd) (fun _ => takes_of rfl rfl rfl rfl) (da_cons (dx_call (fun _ => n_least_example.G) (fun _ => hr.mono (by decide)) (fun _ => gu) (fun _ => rfl) (fun _ => n_least_example.m) (fun _ => n_least_example.kp) (fun _ => n_least_example.bd) (fun _ => takes_of rfl rfl rfl rfl) (da_cons (dx_var fun _ => pv 4) (da_cons (dx_var fun _ => pv 5) da_nil))) (da_cons (dx_var fun _ => pv 6) da_nil))) (fun _ _ => rfl))) (dw_or1 (db_cmp (od_ne (fun _ => un_of hr)) (dx_callB (cd_repr (fun _ => sb) (fun _ => gu) (fun _ => un_of65 hr)) (fun _ => rfl) (fun _ => m_repr) (by decide +kernel) (da_cons (dx_frz (df_lst (da_cons (dx_var fun _ => pv 4) (da_cons (dx_var fun _ => pv 5) da_nil)))) da_nil)) (dx_var fun _ => pv 8) (nomark _))))) (dss_one (ds_ret dx_bl)) dss_nil))))))
    (dss_one (ds_ret dx_bl)))))))
end
end K32
/-! text K32q -/
namespace K32
open PySem PySem.Spec PyProof.Rows L2 DL LP PO
open RL (AscI AscP LampOk play playR stepR IsMs)
open PySem.W (AllAlike Sortable dataLe EachIs)
def encP (r : List Int) : D := .tup [.int r.length, tupI r]
def leR (a b : List Int) : Bool := dataLe false pyD (encP a) (encP b)
theorem sort4 : (setsR 4).mergeSort leR = rows4 := by
  have T : PySem.W.TotalLe leR := PySem.W.sortLe_total (PyProof.Rows.listOrd PyProof.Rows.itemOrd) false fun r : List Int => PySem.W.keyToks (pyD (encP r))
  have hp : ((setsR 4).mergeSort leR).Perm (setsR 4) := List.mergeSort_perm ..
  have hq : rows4.Perm (setsR 4) := by decide +kernel
  have p1 : ((setsR 4).mergeSort leR).Pairwise fun a b => leR a b = true := List.pairwise_mergeSort (fun a b c => T.trans a b c) (fun a b => by rw [Bool.or_eq_true]; exact T.total a b) _
  have p2 : rows4.Pairwise fun a b => leR a b = true := by decide +kernel
  have anti : ∀ a ∈ setsR 4, ∀ b ∈ setsR 4, leR a b = true → leR b a = true → a = b := by decide +kernel
  exact List.Perm.eq_of_pairwise (fun x y hx hy h k => anti x (hp.mem_iff.mp hx) y (hq.mem_iff.mp hy) h k) p1 p2 (hp.trans hq.symm)
theorem rows_sorted : ((setsR 4).map encP).mergeSort (dataLe false pyD) = rows4.map encP := by
  rw [← sort4]
  exact (List.map_mergeSort (f := encP) (r := leR) (fun a _ b _ => rfl)).symm
theorem alike4 : AllAlike (((setsR 4).map encP).map pyD) := by
  intro d hd d' hd'
  have h : ((((setsR 4).map encP).map pyD).all fun d => (((setsR 4).map encP).map pyD).all fun d' => PySem.W.alike d d') = true := by decide +kernel
  exact List.all_eq_true.mp (List.all_eq_true.mp h d hd) d' hd'
theorem sortable4 : Sortable (((setsR 4).map encP).map pyD) := .inl fun d hd => by
  obtain ⟨x, hx, rfl⟩ := List.mem_map.mp hd
  obtain ⟨r, _, rfl⟩ := List.mem_map.mp hx
  exact ⟨_, _, rfl⟩
theorem play2 (x : Lamp) (a b : Int) : play x [a, b] = if a + x.2 < b then [(a, a + x.2), (b, b + x.2)] else if x.1 = true ∨ b = a + x.2 then [(a, b + x.2)] else [(a, a + x.2)] := by
  show (stepR x ((a, a + x.2) :: []) b).reverse = _
  rw [PO.stepR_map]
  split
  · rfl
  · split <;> rfl
theorem play1 (x : Lamp) (a : Int) : play x [a] = [(a, a + x.2)] := rfl
theorem play0 (x : Lamp) : play x [] = [] := rfl
theorem due_least (x y : Lamp) (hx : 1 ≤ x.2) (hy : 1 ≤ y.2) : dueI x y (rows4.take 11) = leastI x y := by
  have e : rows4.take 11 = [[], [0], [1], [2], [3], [0, 1], [0, 2], [0, 3], [1, 2], [1, 3], [2, 3]] := rfl
  unfold dueI leastI
  rw [e]
  obtain ⟨k, s⟩ := x
  obtain ⟨k', s'⟩ := y
  dsimp only at hx hy
  by_cases c : s = s'
  · subst c
    have n1 : ∀ a, decide (play (k, s) [a] ≠ play (k', s) [a]) = false := fun a => by rw [play1, play1]; simp
    have n0 : decide (play (k, s) [] ≠ play (k', s) []) = false := by rw [play0, play0]; simp
    rw [List.find?_cons, n0, List.find?_cons, n1, List.find?_cons, n1, List.find?_cons, n1, List.find?_cons, n1]
    by_cases d : k = k'
    · subst d
      have n2 : ∀ a b, decide (play (k, s) [a, b] ≠ play (k, s) [a, b]) = false := fun a b => by simp
      simp only [List.find?_cons, n2, List.find?_nil]
      rw [if_neg (by simp), if_neg (by simp)]
    · rw [if_neg (by simp)]
      by_cases h1 : 1 < s
      · have y2 : decide (play (k, s) [0, 1] ≠ play (k', s) [0, 1]) = true := by
          rw [play2, play2]
          dsimp only
          have h0 : ¬ (0 + s < 1) := by omega
          have h01 : ¬ (1 : Int) = 0 + s := by omega
          rw [if_neg h0, if_neg h0]
          refine decide_eq_true ?_
          cases k <;> cases k'
          · exact absurd rfl d
          · rw [if_neg (by rintro (z | z); cases z; exact h01 z), if_pos (.inl rfl)]
            intro z
            have := congrArg (fun g : Lg => (g.map Prod.snd)) z
            simp at this
            omega
          · rw [if_pos (.inl rfl), if_neg (by rintro (z | z); cases z; exact h01 z)]
            intro z
            have := congrArg (fun g : Lg => (g.map Prod.snd)) z
            simp at this
            omega
          · exact absurd rfl d
        rw [List.find?_cons, y2, if_pos ⟨d, h1⟩]
      · have hs : s = 1 := by omega
        subst hs
        rw [if_neg (by simp)]
        cases k <;> cases k' <;> decide +kernel
  · rw [if_pos c]
    have n0 : decide (play (k, s) [] ≠ play (k', s') []) = false := by rw [play0, play0]; simp
    have y1 : decide (play (k, s) [0] ≠ play (k', s') [0]) = true := by rw [play1, play1]; simp; omega
    rw [List.find?_cons, n0, List.find?_cons, y1]
def lamps8 : List Lamp := [(true, 1), (true, 2), (true, 3), (true, 4), (false, 1), (false, 2), (false, 3), (false, 4)]
theorem due_small : ∀ x ∈ lamps8, ∀ y ∈ lamps8, dueI x y rows4 = leastI x y := by decide +kernel
end K32
/-! text K32p -/
namespace K32
open PySem PySem.Spec PyProof.Rows L2 DL LP PO
open RL (AscI AscP LampOk play IsMs at_natZ)
section
variable (ds : List D) (μ : PoolW.M) (R : D → PoolW.M → Prop) (Ed : Xc → PoolW.M → Prop)
theorem pure_least_example (hl : ds.length = ps_least_example.length) (hs : sp_least_example ds μ R Ed) (st : staL ds = true) : t_least_example (fin R Ed) (startD N_least_example ds) μ := by
  obtain ⟨⟨k, s⟩, ⟨k', s'⟩, rfl, h⟩ := hs
  show t_least_example (fin R Ed) [.val (lampD (k, s)), .val (lampD (k', s'))] μ
  unfold t_least_example s_least_example_0 s_least_example_1
  rw [show lampD (k, s) = .tup [.str (kS k), .int s] from rfl, show lampD (k', s') = .tup [.str (kS k'), .int s'] from rfl]
  unfold leastI at h
  dsimp only at h
  have e0 : ∀ k s, atI [D.str (kS k), D.int s] 0 = some (.str (kS k)) := fun _ _ => rfl
  have e1 : ∀ k s, atI [D.str (kS k), D.int s] 1 = some (.int s) := fun _ _ => rfl
  simp_all! [e0, e1]
  by_cases c : s = s'
  · subst c
    rw [if_neg (by simp)]
    rw [if_neg (by simp)] at h
    by_cases d : k = k'
    · subst d
      rw [if_neg (by simp)] at h
      cases k <;> exact h
    · by_cases h1 : 1 < s
      · rw [if_pos ⟨d, h1⟩] at h
        cases k <;> cases k' <;> first | exact absurd rfl d | (rw [if_pos (by decide), if_pos (decide_eq_true h1)]; exact h)
      · rw [if_neg (fun z => h1 z.2)] at h
        cases k <;> cases k' <;> first | exact absurd rfl d | (rw [if_pos (by decide), if_neg (by simpa using h1)]; exact h)
  · rw [if_pos (by simpa using c)]
    rw [if_pos c] at h
    exact h
theorem sta_tupI (r : List Int) : sta (tupI r) = true := by unfold tupI; simp only [sta]; exact staL_ints r
theorem sta_enc (r : List Int) : sta (encP r) = true := by unfold encP; simp only [sta, staL, sta_tupI, Bool.and_self]
theorem pure__law_tuples (hl : ds.length = ps__law_tuples.length) (hs : sp__law_tuples ds μ R Ed) (st : staL ds = true) : t__law_tuples (fin R Ed) (startD N__law_tuples ds) μ := by
  obtain ⟨rfl, h⟩ := hs
  show t__law_tuples (fin R Ed) [.val (.int 4), .un, .un, .un, .un] μ
  unfold t__law_tuples s__law_tuples_0
  obtain ⟨u, hu⟩ : ∃ u, u = s__law_tuples_1 := ⟨_, rfl⟩
  rw [← hu]
  simp_all!
  refine ⟨4, rfl, by omega, ?_⟩
  simp_all!
  refine comp_fun (Z := PoolW) intsL encP (by rw [szl, setsR_len]; decide) (fun r hr f f' hf => ?_) (fun r _ => ?_) ?_
  · rw [show intsL r = .lst (r.map D.int) from rfl]
    simp_all!
    refine ⟨staL_ints r, ?_⟩
    rw [List.length_map]
    exact hf
  · exact sta_enc r
  · refine ⟨staL_map sta_enc _, ?_⟩
    rw [hu]
    unfold s__law_tuples_1
    simp_all!
    refine ⟨.lst ((setsR 4).map encP), (setsR 4).map encP, rfl, rfl, alike4, sortable4, by rw [szl, List.length_map, setsR_len]; decide, fun d hd => ?_, ?_⟩
    · have : ((setsR 4).map encP).all (fun d => shD d && decide ((pyD d).depth ≤ 60)) = true := by decide +kernel
      have := List.all_eq_true.mp this d hd
      simp only [Bool.and_eq_true, decide_eq_true_eq] at this
      exact this
    · rw [rows_sorted]
      refine ⟨rows4.map encP, rfl, ?_⟩
      refine comp_fun (Z := PoolW) encP tupI (by rw [szl]; decide) (fun r hr f f' hf => ?_) (fun r _ => sta_tupI r) ?_
      · rw [show encP r = .tup [.int r.length, tupI r] from rfl]
        have s1 := sta_tupI r
        simp_all! [s1]
        exact hf
      · exact ⟨staL_map sta_tupI _, h⟩
theorem pure__law_due (hl : ds.length = ps__law_due.length) (hs : sp__law_due ds μ R Ed) (st : staL ds = true) : t__law_due (fin R Ed) (startD N__law_due ds) μ := by
  obtain ⟨x, y, rs, rfl, hr, h⟩ := hs
  show t__law_due (fin R Ed) [.val (lampD x), .val (lampD y), .val (.lst (rs.map tupI)), .un] μ
  unfold t__law_due s__law_due_0
  simp_all!
  refine ⟨staL_map sta_tupI _, ?_⟩
  refine loop_t (Z := PoolW) tupI (fun rem ρ μ' => ∃ a : Slot, ρ = [.val (lampD x), .val (lampD y), .val (.lst (rs.map tupI)), a] ∧ μ' = μ ∧ (∀ r ∈ rem, r.length ≤ 100) ∧ dueI x y rem = dueI x y rs) ?_ ?_ ⟨_, rfl, rfl, hr, rfl⟩
  · rintro r rem ρ μ' N ⟨a, rfl, rfl, hrl, hd⟩ hN
    have hl1 := hrl r (List.mem_cons_self ..)
    have s1 := sta_tupI r
    have sx := sta_lamp x
    have sy := sta_lamp y
    simp_all!
    unfold l__law_due_0 s__law_due_0f_0
    simp_all! [s1, sx, sy]
    refine ⟨x, r, _, rfl, .inr rfl, by omega, ?_⟩
    refine ⟨y, r, _, rfl, .inr rfl, by omega, ?_⟩
    refine (?_ : smNe (.tup ((play x r).map pD)) (.tup ((play y r).map pD)) _)
    refine .inr ⟨cmp_pln (pln_log _) (pln_log _) (by have := dep_log (play x r); unfold logD at this; omega) (by have := dep_log (play y r); unfold logD at this; omega), ?_⟩
    have eq := eqD_log (play x r) (play y r)
    unfold logD at eq
    rw [eq]
    refine ⟨_, rfl, ?_⟩
    by_cases c : play x r = play y r
    · rw [if_neg (by simp [c])]
      refine hN _ _ ⟨_, rfl, rfl, fun q hq => hrl q (List.mem_cons_of_mem _ hq), ?_⟩
      rw [← hd]
      unfold dueI
      rw [List.find?_cons_of_neg (by simp [c])]
    · rw [if_pos (by simp [c])]
      have e : dueI x y (r :: rem) = some r := by unfold dueI; rw [List.find?_cons_of_pos (by simp [c])]
      rw [← hd, e] at h
      exact h
  · rintro ρ μ' ⟨a, rfl, rfl, _, hd⟩
    unfold s__law_due_1
    simp_all!
    rw [← hd] at h
    exact h
end
theorem nodesL_ints : ∀ xs : List Int, nodesL (xs.map D.int) = xs.length
  | [] => rfl
  | x :: xs => by rw [List.map_cons, nodesL, nodesL_ints xs, List.length_cons, nodes]; omega
theorem depL_ints : ∀ xs : List Int, depL (xs.map D.int) = 0
  | [] => rfl
  | x :: xs => by rw [List.map_cons, depL, depL_ints xs]; rfl
theorem smDL_ints : ∀ xs : List Int, smDL (xs.map D.int) = true
  | [] => rfl
  | x :: xs => by rw [List.map_cons, smDL, smDL_ints xs]; rfl
theorem sm_opt (o : Option (List Int)) (h : ∀ ms, o = some ms → ms.length ≤ 100) : SmP 4 (optT o) ∧ nodes (optT o) ≤ 200 ∧ sta (optT o) = true := by
  cases o with
  | none => exact ⟨⟨rfl, by simp [optT, dep], by simp [optT, nodes]⟩, by simp [optT, nodes], rfl⟩
  | some ms =>
    have hl := h ms rfl
    have n1 : nodes (tupI ms) = 1 + ms.length := by unfold tupI; rw [nodes, nodesL_ints]
    exact ⟨⟨by show smD (tupI ms) = true; unfold tupI; rw [smD]; exact smDL_ints ms, by show dep (tupI ms) ≤ 4; unfold tupI; rw [dep, depL_ints]; omega, by show nodes (tupI ms) ≤ 1000000; omega⟩, by show nodes (tupI ms) ≤ 200; omega, sta_tupI ms⟩
theorem least_len (x y : Lamp) : ∀ ms, leastI x y = some ms → ms.length ≤ 100 := fun ms h => by
  unfold leastI at h
  split at h
  · cases h; simp
  · split at h
    · cases h; simp
    · cases h
section
variable (ns : List Int) (p : Addr) (B : EndsD PoolW)
theorem same_call {d : D} {μ : PoolW.M} {R : D → PoolW.M → Prop} {E : Xc → PoolW.M → Prop} (S : SmP 5 d) (h : R (.bl true) μ) : sp__law_same [d, d] μ R E := ⟨d, rfl, S, h⟩
theorem rows_ok : ∀ r ∈ rows4, r.length ≤ 100 := fun r h => by
  have : (rows4.all fun r => decide (r.length ≤ 100)) = true := by decide +kernel
  exact of_decide_eq_true (List.all_eq_true.mp this r h)
theorem inner (x y : Lamp) (hx : x ∈ lamps8) (hy : y ∈ lamps8) (l : Addr) (f g h i : Slot) (hN : ∀ f, B.nx [.val (.scr ns), .val (.op (.ref p)), .val (.lst (lamps8.map lampD)), .val (.lst (rows4.map tupI)), .val (lampD x), .val (lampD y), f, g, h, i] (pst p l)) : l_law_3f_0 B [.val (.scr ns), .val (.op (.ref p)), .val (.lst (lamps8.map lampD)), .val (.lst (rows4.map tupI)), .val (lampD x), .val (lampD y), f, g, h, i] (pst p l) := by
  have sx := sta_lamp x
  have sy := sta_lamp y
  have sr : staL (rows4.map tupI) = true := staL_map sta_tupI _
  have hd := due_small x hx y hy
  obtain ⟨q1, q2, q3⟩ := sm_opt (leastI x y) (least_len x y)
  unfold l_law_3f_0 s_law_3f_0f_0
  obtain ⟨u, hu⟩ : ∃ u, u = s_law_3f_0f_1 := ⟨_, rfl⟩
  rw [← hu]
  simp_all! [sx, sy, sr]
  refine ⟨x, y, rows4, rfl, rows_ok, ?_⟩
  rw [hd, hu]
  generalize hz : optT (leastI x y) = z at q1 q2 q3
  refine ⟨q3, ?_⟩
  unfold s_law_3f_0f_1
  simp_all! [sx, sy, q3]
  refine ⟨x, y, rfl, ?_⟩
  rw [hz]
  refine ⟨x, y, rfl, ?_⟩
  rw [hz]
  simp_all! [q3]
  refine same_call ⟨by simp only [smD, smDL, q1.s, Bool.and_self], by have := q1.k; simp only [dep, depL]; omega, by simp only [nodes, nodesL]; omega⟩ ?_
  refine ⟨true, rfl, ?_⟩
  rw [if_neg (by decide)]
  exact hN _
theorem turn (k' : Nat) (l : Addr) (d e f h i : Slot) (hN : ∀ d e f h l', B.nx [.val (.scr ns), .val (.op (.ref p)), .val (.lst (lamps8.map lampD)), .val (.lst (rows4.map tupI)), d, e, f, .val (.int (0 + (k' : Int))), h, i] (pst p l')) : l_law_4 B [.val (.scr ns), .val (.op (.ref p)), .val (.lst (lamps8.map lampD)), .val (.lst (rows4.map tupI)), d, e, f, .val (.int (0 + (k' : Int))), h, i] (pst p l) := by
  have sr : staL (rows4.map tupI) = true := staL_map sta_tupI _
  have main : ∀ (x y : Lamp) (l' : Addr) (f h : Slot), 1 ≤ x.2 → x.2 ≤ 1000000000 → 1 ≤ y.2 → y.2 ≤ 1000000000 → dsSeq s_law_4f_2 s_law_4f_3 B [.val (.scr ns), .val (.op (.ref p)), .val (.lst (lamps8.map lampD)), .val (.lst (rows4.map tupI)), .val (lampD x), .val (lampD y), f, .val (.int (0 + (k' : Int))), h, i] (pst p l') := by
    intro x y l' f h x0 x1 y0 y1
    have sx := sta_lamp x
    have sy := sta_lamp y
    have t2 : DL.Tm 7 2 (.lst [lampD x, lampD y]) := (tm_two (tm_lamp (by unfold BI; omega)) (tm_lamp (by unfold BI; omega))).lst
    obtain ⟨q1, q2, q3⟩ := sm_opt (leastI x y) (least_len x y)
    have hd := due_least x y x0 y0
    have ec : cutL (rows4.map tupI) none (some 11) = (rows4.take 11).map tupI := rfl
    have sc : staL ((rows4.take 11).map tupI) = true := staL_map sta_tupI _
    unfold s_law_4f_2
    obtain ⟨u, hu⟩ : ∃ u, u = s_law_4f_3 := ⟨_, rfl⟩
    rw [← hu]
    simp_all! [sx, sy]
    refine show_of t2 (by omega) (by omega) ?_
    rw [ec]
    simp_all! [sc]
    refine ⟨x, y, rows4.take 11, rfl, fun r hr => rows_ok r (List.mem_of_mem_take hr), ?_⟩
    rw [hd, hu]
    generalize hz : optT (leastI x y) = z at q1 q2 q3
    simp_all! [q3]
    unfold s_law_4f_3
    simp_all! [sx, sy, q3]
    refine ⟨x, y, rfl, ?_⟩
    rw [hz]
    refine ⟨q3, ?_⟩
    refine same_call ⟨q1.s, by have := q1.k; omega, q1.n⟩ ?_
    refine ⟨true, rfl, ?_⟩
    rw [if_neg (by decide)]
    refine show_of t2 (by omega) (by omega) ?_
    simp_all!
    exact hN _ _ _ _ _
  obtain ⟨u, hu⟩ : ∃ u, u = dsSeq s_law_4f_2 s_law_4f_3 := ⟨_, rfl⟩
  unfold l_law_4 s_law_4f_0
  rw [← hu] at main ⊢
  obtain ⟨u2, hu2⟩ : ∃ v, v = dsSeq s_law_4f_1 u := ⟨_, rfl⟩
  rw [← hu2]
  have two : ∀ (E E' : Xc → PoolW.M → Prop) (b : Int) (l1 : Addr), 1 ≤ b → b ≤ 1000000000 → sp__law_lamp [.op (.ref p), .int b] (pst p l1) (fun d μ => sta d = true ∧ sp__law_lamp [.op (.ref p), .int 1000000000] μ (fun d' μ' => sta d' = true ∧ u2 B [.val (.scr ns), .val (.op (.ref p)), .val (.lst (lamps8.map lampD)), .val (.lst (rows4.map tupI)), .val d, .val d', f, .val (.int (0 + (k' : Int))), h, i] μ') E) E' := by
    intro E E' b l1 b0 b1
    refine ⟨p, l1, b, rfl, rfl, b0, b1, fun x l2 hx => ⟨sta_lamp x, ?_⟩⟩
    refine ⟨p, l2, 1000000000, rfl, rfl, by omega, by omega, fun y l3 hy => ⟨sta_lamp y, ?_⟩⟩
    rw [hu2]
    unfold s_law_4f_1
    have x0 : 1 ≤ x.2 := hx.1
    have x1 : x.2 ≤ 1000000000 := Int.le_trans hx.2 b1
    have y0 : 1 ≤ y.2 := hy.1
    have y1 : y.2 ≤ 1000000000 := hy.2
    obtain ⟨kx, ax⟩ := x
    obtain ⟨ky, ay⟩ := y
    rw [show lampD (kx, ax) = .tup [.str (kS kx), .int ax] from rfl, show lampD (ky, ay) = .tup [.str (kS ky), .int ay] from rfl]
    have e0 : ∀ k s, atI [D.str (kS k), D.int s] 0 = some (.str (kS k)) := fun _ _ => rfl
    have e1 : ∀ k s, atI [D.str (kS k), D.int s] 1 = some (.int s) := fun _ _ => rfl
    simp_all! [q_dip, e0, e1]
    intro m l4 m0 m1
    rcases (show m = 0 ∨ m = 1 ∨ m = 2 ∨ m = 3 by omega) with rfl | rfl | rfl | rfl
    · exact ⟨_, rfl, rfl, main (kx, ax) (ky, ay) l4 f h x0 x1 y0 y1⟩
    · exact ⟨_, rfl, rfl, main (kx, ax) (kx, ax) l4 f h x0 x1 x0 x1⟩
    · exact ⟨_, rfl, rfl, main (kx, ax) (ky, ax) l4 f h x0 x1 x0 x1⟩
    · exact ⟨_, rfl, rfl, main (kx, ax) (false, ax) l4 f h x0 x1 x0 x1⟩
  simp_all! [q_dip]
  intro m l1 m0 m1
  rcases (show m = 0 ∨ m = 1 by omega) with rfl | rfl
  · exact ⟨_, rfl, rfl, two _ _ 9 l1 (by omega) (by omega)⟩
  · exact ⟨_, rfl, rfl, two _ _ 1000000000 l1 (by omega) (by omega)⟩
theorem last (l : Addr) (d e f g h i : Slot) (hN : ∀ d e f g h l', B.nx [.val (.scr ns), .val (.op (.ref p)), .val (.lst (lamps8.map lampD)), .val (.lst (rows4.map tupI)), d, e, f, g, h, i] (pst p l')) : s_law_4 B [.val (.scr ns), .val (.op (.ref p)), .val (.lst (lamps8.map lampD)), .val (.lst (rows4.map tupI)), d, e, f, g, h, i] (pst p l) := by
  unfold s_law_4
  simp_all!
  intro rg hrg
  refine loop_rg (Z := PoolW) hrg (fun k ρ μ => ∃ d e f g h l', ρ = [.val (.scr ns), .val (.op (.ref p)), .val (.lst (lamps8.map lampD)), .val (.lst (rows4.map tupI)), d, e, f, g, h, i] ∧ μ = pst p l') ?_ ?_ ⟨_, _, _, _, _, l, rfl, rfl⟩
  · rintro k ρ μ N hi ⟨a, b, c, d, e, l', rfl, rfl⟩ hN
    simp_all!
    exact turn ns p _ k l' _ _ _ _ _ fun a b c d l2 => hN _ _ ⟨a, b, c, _, d, l2, rfl, rfl⟩
  · rintro ρ μ ⟨a, b, c, d, e, l', rfl, rfl⟩
    exact hN _ _ _ _ _ _
theorem nested (l : Addr) (d e f g h i : Slot) (hN : ∀ d e f, B.nx [.val (.scr ns), .val (.op (.ref p)), .val (.lst (lamps8.map lampD)), .val (.lst (rows4.map tupI)), d, e, f, g, h, i] (pst p l)) : s_law_3 B [.val (.scr ns), .val (.op (.ref p)), .val (.lst (lamps8.map lampD)), .val (.lst (rows4.map tupI)), d, e, f, g, h, i] (pst p l) := by
  have sl : staL (lamps8.map lampD) = true := staL_map sta_lamp _
  unfold s_law_3
  simp_all! [sl]
  refine loop_t (Z := PoolW) lampD (fun rem ρ μ => ∃ d e f, ρ = [.val (.scr ns), .val (.op (.ref p)), .val (.lst (lamps8.map lampD)), .val (.lst (rows4.map tupI)), d, e, f, g, h, i] ∧ μ = pst p l ∧ ∀ x ∈ rem, x ∈ lamps8) ?_ ?_ ⟨_, _, _, rfl, rfl, fun _ h => h⟩
  · rintro x rem ρ μ N ⟨a, b, c, rfl, rfl, hm⟩ hN
    have hx := hm x (List.mem_cons_self ..)
    have sx := sta_lamp x
    simp_all! [sx]
    unfold l_law_3 s_law_3f_0
    simp_all! [sl]
    refine loop_t (Z := PoolW) lampD (fun rem ρ μ => ∃ e f, ρ = [.val (.scr ns), .val (.op (.ref p)), .val (.lst (lamps8.map lampD)), .val (.lst (rows4.map tupI)), .val (lampD x), e, f, g, h, i] ∧ μ = pst p l ∧ ∀ x ∈ rem, x ∈ lamps8) ?_ ?_ ⟨_, _, rfl, rfl, fun _ h => h⟩
    · rintro y rem' ρ μ N2 ⟨b, c, rfl, rfl, hm'⟩ hN2
      have hy := hm' y (List.mem_cons_self ..)
      have sy := sta_lamp y
      simp_all! [sy]
      exact inner ns p _ x y hx hy l _ _ _ _ fun f => hN2 _ _ ⟨_, f, rfl, rfl, fun x hx => hm' x (List.mem_cons_of_mem _ hx)⟩
    · rintro ρ μ ⟨b, c, rfl, rfl, _⟩
      exact hN _ _ ⟨_, b, c, rfl, rfl, fun x hx => hm x (List.mem_cons_of_mem _ hx)⟩
  · rintro ρ μ ⟨a, b, c, rfl, rfl, _⟩
    exact hN _ _ _
end
theorem pure_law (ds : List D) (μ : PoolW.M) (R : D → PoolW.M → Prop) (Ed : Xc → PoolW.M → Prop) (hl : ds.length = ps_law.length) (hs : sp_law ds μ R Ed) (st : staL ds = true) : t_law (fin R Ed) (startD N_law ds) μ := by
  obtain ⟨ns, rfl, hn, rfl, h⟩ := hs
  show t_law (fin R Ed) [.val (.scr ns), .un, .un, .un, .un, .un, .un, .un, .un, .un] none
  unfold t_law s_law_0
  obtain ⟨u, hu⟩ : ∃ u, u = dsSeq s_law_1 (dsSeq s_law_2 (dsSeq s_law_3 (dsSeq s_law_4 s_law_5))) := ⟨_, rfl⟩
  rw [← hu]
  simp_all!
  refine ⟨ns, rfl, hn, rfl, fun p l => ?_⟩
  simp_all!
  rw [hu]
  unfold s_law_1
  obtain ⟨u2, hu2⟩ : ∃ u, u = dsSeq s_law_2 (dsSeq s_law_3 (dsSeq s_law_4 s_law_5)) := ⟨_, rfl⟩
  rw [← hu2]
  simp_all!
  have fin8 : (u2 (fin R Ed) [.val (.scr ns), .val (.op (.ref p)), .val (.lst (lamps8.map lampD)), .un, .un, .un, .un, .un, .un, .un] (pst p l)) := by
    rw [hu2]
    unfold s_law_2
    obtain ⟨u3, hu3⟩ : ∃ u, u = dsSeq s_law_3 (dsSeq s_law_4 s_law_5) := ⟨_, rfl⟩
    rw [← hu3]
    simp_all!
    refine ⟨rfl, staL_map sta_tupI _, ?_⟩
    rw [hu3]
    refine nested ns p _ l _ _ _ _ _ _ fun d e f => ?_
    refine last ns p _ l _ _ _ _ _ _ fun d e f g h' l' => ?_
    unfold s_law_5
    simp_all!
    exact h _
  have r4 : rangeF 1 4 = ([1, 2, 3, 4] : List Int).map D.int := rfl
  have l4 : ([1, 2, 3, 4] : List Int).length ≤ sizeLine := by rw [szl]; decide
  intro rg hrg
  rw [hrg.e]
  show compD _ _ _ _ _ _ (rangeF 1 4) [] _
  rw [r4]
  refine comp_fun (Z := PoolW) D.int (fun s => lampD (true, s)) l4 (fun r hr f f' hf => ?_) (fun _ _ => rfl) ?_
  · simp_all!
    exact hf
  intro rg2 hrg2
  rw [hrg2.e]
  show compD _ _ _ _ _ _ (rangeF 1 4) [] _
  rw [r4]
  refine comp_fun (Z := PoolW) D.int (fun s => lampD (false, s)) l4 (fun r hr f f' hf => ?_) (fun _ _ => rfl) ?_
  · simp_all!
    exact hf
  exact ⟨by decide, rfl, fin8⟩
end K32
/-! text K32b -/
namespace K32
open PySem PySem.Spec PyProof.Rows L2 DL
section
variable {P : Program} {w : World} {K : PySem.W.Frag} {mg : Str → Option Value} {base : Heap} {f : Addr} {fd : FuncData}
theorem modb {m : Int} (x : Int) (h : 0 < m) (h2 : m ≤ 2 ^ 64) : -(2 ^ 64) < x % m ∧ x % m < 2 ^ 64 := by
  have p1 := Int.emod_nonneg x (Int.ne_of_gt h)
  have p2 := Int.emod_lt_of_pos x h
  omega
theorem sc_dip : FnScope ["pool", "many", "great", "digit", "rest", "mix"] ["pool", "many"] (defScope (top 4)) := ⟨rfl, rfl, rfl, by decide +kernel, rfl, by decide +kernel, by decide +kernel⟩
theorem draw_ok (F : Fun K "_law_dip" "_law_dip" (top 4) f fd) (m_int : mg "int" = none) : FnG P w K mg base 1 f fd ["pool", "many"] (spOf K PoolW 2 sp_dip) := by
  refine fn_g F sc_dip (fun vs H Q E q => q.1) fun cdv A outer s H vs Q E hr gu h => ⟨_, pss_cons (ps_if (pt_cmpR (op_neD (un_of hr)) (pe_ix ix_list (pv 0) pe_int (fun _ _ => rfl)) (pe_lst pa_nil) (nomark _))
     (pss_cons (ps_set (i := 2) sc_dip.nd rfl (.inl rfl) (pe_ix ix_list (pv 0) pe_int (fun _ _ => rfl)))
     (pss_cons (ps_par (i := 3) (j := 4) rfl sc_dip.nd rfl rfl (by decide) rfl rfl (pa_cons (pe_op op_mod (pe_ix ix_list (pv 2) pe_int (fun _ _ => rfl)) (pv 1)) (pa_cons (pe_op op_fdivW (pe_ix ix_list (pv 2) pe_int (fun _ _ => rfl)) (pv 1)) pa_nil)) (by rfl))
     (pss_cons (ps_asg (pe_op op_cat (pe_op op_rep (pe_lst (pa_cons (pv 4) pa_nil)) (pe_callTy call_int1 rfl m_int (by decide +kernel) (pa_cons (pe_cmpR op_gt (pv 4) pe_int (nomark _)) pa_nil))) (pe_slice sl_list (pv 2) (po_some pe_int) po_none)) (pg_sub (pv 0) pe_int set_list))
     (pss_one (ps_ret (pv 3)))))) pss_nil)
   (pss_cons (ps_asg (pe_op op_add (pe_ix ix_list (pv 0) pe_int (fun _ _ => rfl)) pe_int) (pg_sub (pv 0) pe_int set_list))
   (pss_cons (ps_set (i := 5) sc_dip.nd rfl (.inl rfl) (pe_op op_mod (pe_op op_add (pe_ix ix_list (pv 0) pe_int (fun _ _ => rfl)) (pe_op op_mul (pe_ix ix_list (pv 0) pe_int (fun _ _ => rfl)) pe_int)) pe_int))
   (pss_cons (ps_set (i := 5) sc_dip.nd rfl (.inl rfl) (pe_op op_mod (pe_op op_mul (pe_op op_mod (pe_op op_mul (pv 5) (pv 5)) pe_int) (pe_op op_add (pe_op op_mod (pe_ix ix_list (pv 0) pe_int (fun _ _ => rfl)) pe_int) pe_int)) pe_int))
   (pss_one (ps_ret (pe_op op_mod (pe_op op_fdivW (pv 5) pe_int) (pv 1))))))), ?_⟩
  obtain ⟨hlen, ds, μ, S, R, Ed, ok, rd, st, ⟨p, l, many, rfl, rfl, hm0, hm1, hR⟩, hQ, hE⟩ := h
  obtain ⟨v0, vs1, rfl, r0, v1, vs2, rfl, r1, rfl⟩ := rd
  cases r0
  cases r1
  have hret : ∀ (H' : Hp) (m : Int) (l' : Addr), DrPl p l H H' → PoolAt p l' H' → (l' = l ∨ H l' = none) → 0 ≤ m → m < many → Q (.int m) H' := fun H' m l' d j n h0 h1 => hQ (.int m) (.int m) (pst p l') S H' (d.ext ok j n) rfl rfl (hR m l' h0 h1)
  obtain ⟨deep, times, mix, h1, h2, hd, npl, ht0⟩ := ok.j
  refine ⟨_, rfl, p, _, 0, .ref l, rfl, rfl, SqL.of h1, rfl, Nat.zero_le _, fun t ht => ?_⟩
  have n1 : p ≠ t := ne_of_none h1 ht
  have n2 : l ≠ t := ne_of_none h2 ht
  have dr1 := (DrPl.refl (p := p) (l := l) (H := H)).new (o := .lst []) ht
  have g1 := (upd_ne (H := H) (o := .lst []) n1).trans h1
  have g2 := (upd_ne (H := H) (o := .lst []) n2).trans h2
  refine ⟨.list (deep.map .int), .list [], .lst (SqL.of g2) (dp_ints deep), .lst (SqL.of upd_same) .nil, shaped_intsP deep, shaped_intsP [], _, rfl, ?_⟩
  cases deep with
  | nil =>
    refine itF (by simp [PyData.eqv, PyData.eqvAll]) ?_
    refine ⟨_, rfl, p, _, 1, .int times, rfl, rfl, SqL.of g1, rfl, _, _, rfl, rfl, _, rfl, p, _, 1, 1, rfl, rfl, g1, rfl, ?_⟩
    have dr2 := dr1.upd (o := .lst [.ref l, .int (times + 1), .int mix])
    have k1 : upd (upd H t (.lst [])) p (.lst [.ref l, .int (times + 1), .int mix]) p = some (.lst [.ref l, .int (times + 1), .int mix]) := upd_same
    have k2 := (upd_ne (H := upd H t (.lst [])) (o := .lst [.ref l, .int (times + 1), .int mix]) (Ne.symm npl)).trans g2
    refine ⟨_, rfl, p, _, 2, .int mix, rfl, rfl, SqL.of k1, rfl, _, rfl, p, _, 1, .int (times + 1), rfl, rfl, SqL.of k1, rfl, _, _, rfl, rfl, .inr ⟨by decide, by decide⟩, _, _, rfl, rfl, _, _, rfl, rfl, by show (0 : Int) < _; decide, ?_⟩
    refine ⟨_, rfl, _, rfl, _, _, rfl, rfl, .inl (modb _ (by decide) (by decide)), _, _, rfl, rfl, by show (0 : Int) < _; decide, _, rfl, p, _, 1, .int (times + 1), rfl, rfl, SqL.of k1, rfl, _, _, rfl, rfl, by show (0 : Int) < _; decide, _, _, rfl, rfl, _, _, rfl, rfl, .inl (modb _ (by decide) (by decide)), _, _, rfl, rfl, by show (0 : Int) < _; decide, ?_⟩
    refine ⟨_, rfl, _, _, rfl, rfl, ⟨by decide, by decide⟩, _, rfl, _, _, rfl, rfl, hm0, ?_⟩
    exact hret _ _ l dr2 ⟨[], times + 1, mix, k1, k2, by simp, npl, by omega⟩ (.inl rfl) (Int.emod_nonneg _ (Int.ne_of_gt hm0)) (Int.emod_lt_of_pos _ hm0)
  | cons great deep =>
    refine itT (by simp [PyData.eqv, PyData.eqvAll]) ?_
    have hdiv : CDivW great many := wide_div (b := 64) hm0 (by omega) (by decide) (by decide)
    refine ⟨_, rfl, p, _, 0, .ref l, rfl, rfl, SqL.of g1, rfl, ?_⟩
    refine ⟨_, rfl, l, _, 0, .int great, rfl, rfl, SqL.of g2, by unfold atI ixN; simp, _, rfl, _, _, rfl, rfl, hm0, _, rfl, l, _, 0, .int great, rfl, rfl, SqL.of g2, by unfold atI ixN; simp, _, rfl, _, _, rfl, rfl, hdiv, _, _, rfl, ?_⟩
    refine ⟨_, rfl, by show 1 ≤ sizeLine; decide, fun a ha => ?_⟩
    have dr2 := dr1.new (o := .lst [.int (great / many)]) ha
    have a1 := (upd_ne (H := upd H t (.lst [])) (o := .lst [.int (great / many)]) (ne_of_none g1 ha)).trans g1
    have a2 := (upd_ne (H := upd H t (.lst [])) (o := .lst [.int (great / many)]) (ne_of_none g2 ha)).trans g2
    have a3 : upd (upd H t (.lst [])) a (.lst [.int (great / many)]) a = some (.lst [.int (great / many)]) := upd_same
    refine ⟨_, rfl, _, _, rfl, rfl, .inr ⟨_, rfl, ?_⟩⟩
    have kk : ∃ n : Nat, n ≤ 1 ∧ (if decide ((0 : Int) < great / many) = true then (1 : Int) else 0) = n := by
      split
      · exact ⟨1, by omega, rfl⟩
      · exact ⟨0, by omega, rfl⟩
    obtain ⟨n, hn, ek⟩ := kk
    have fl : (List.replicate ((n : Int)).toNat [V.int (great / many)]).flatten = (List.replicate n (great / many)).map V.int := by
      have : n = 0 ∨ n = 1 := by omega
      rcases this with rfl | rfl <;> rfl
    refine ⟨a, n, _, rfl, congrArg V.int ek, a3, by omega, by omega, by simp; exact Nat.le_trans hn (by decide), fun b hb => ?_⟩
    rw [fl]
    have dr3 := dr2.new (o := .lst ((List.replicate n (great / many)).map V.int)) hb
    have b1 := (upd_ne (o := .lst ((List.replicate n (great / many)).map V.int)) (ne_of_none a1 hb)).trans a1
    have b2 := (upd_ne (o := .lst ((List.replicate n (great / many)).map V.int)) (ne_of_none a2 hb)).trans a2
    refine ⟨_, rfl, 1, rfl, l, _, rfl, SqL.of b2, fun c hc => ?_⟩
    have ct : cutV ((great :: deep).map V.int) (some 1) none = deep.map V.int := by
      have e1 : HT.sIx (deep.length + 1) 0 (some (1 : Int)) = 1 := by simp [HT.sIx]
      have e2 : HT.sIx (deep.length + 1) (deep.length + 1) none = deep.length + 1 := rfl
      unfold cutV
      simp only [List.map_cons, List.length_cons, List.length_map, e1, e2, List.drop_succ_cons, List.drop_zero]
      exact List.take_of_length_le (by simp)
    rw [ct] at *
    have nbc : b ≠ c := fun z => by rw [← z, upd_same] at hc; cases hc
    have dr4 := dr3.new (o := .lst (deep.map V.int)) hc
    have c1 := (upd_ne (o := .lst (deep.map V.int)) (ne_of_none b1 hc)).trans b1
    have b3 : upd (upd (upd H t (.lst [])) a (.lst [.int (great / many)])) b (.lst ((List.replicate n (great / many)).map V.int)) b = some (.lst ((List.replicate n (great / many)).map V.int)) := upd_same
    have c2 := (upd_ne (o := .lst (deep.map V.int)) nbc).trans b3
    have c3 : upd (upd (upd (upd H t (.lst [])) a (.lst [.int (great / many)])) b (.lst ((List.replicate n (great / many)).map V.int))) c (.lst (deep.map V.int)) c = some (.lst (deep.map V.int)) := upd_same
    refine ⟨b, c, _, _, rfl, rfl, c2, c3, ?_, fun d hd' => ?_⟩
    · have z64 : (64 : Nat) ≤ sizeLine := by decide
      simp only [List.length_map, List.length_replicate]
      simp only [List.length_cons] at hd
      omega
    have dr5 := dr4.new (o := .lst ((List.replicate n (great / many)).map V.int ++ deep.map V.int)) hd'
    have d1 := (upd_ne (o := .lst ((List.replicate n (great / many)).map V.int ++ deep.map V.int)) (ne_of_none c1 hd')).trans c1
    have npd : p ≠ d := ne_of_none c1 hd'
    refine ⟨_, rfl, p, _, 0, 0, rfl, rfl, d1, rfl, ?_⟩
    refine ⟨_, rfl, ?_⟩
    refine hret _ _ d dr5.upd ⟨List.replicate n (great / many) ++ deep, times, mix, upd_same, (upd_ne (Ne.symm npd)).trans (by rw [List.map_append]; exact upd_same), ?_, npd, ht0⟩ (.inr ?_) (Int.emod_nonneg _ (Int.ne_of_gt hm0)) (Int.emod_lt_of_pos _ hm0)
    · simp only [List.length_append, List.length_replicate]
      simp only [List.length_cons] at hd
      omega
    · cases e : H d with
      | none => rfl
      | some o => exact absurd hd' (dr4.there d (by rw [e]; simp))
end
end K32
/-! text K32z -/
/-! the promises joined, the end: printed by gen/endz.py -/
namespace K32
open PySem PySem.Spec PyProof.Rows L2 DL PO
section
variable {P : Program} {w : World} {K : PySem.W.Frag} {mg : Str → Option Value} {base : Heap} {f : Addr} {fd : FuncData}
theorem ok_least_example (F : Fun K "least_example" "least_example" (top 1) f fd) : FnG P w K mg base 1 f fd ps_least_example (spOf K PoolW 2 sp_least_example) :=
  fn_d (sp := sp_least_example) F sc_least_example (fun cdv A outer s H E hr gu => b_least_example cdv A outer s H E hr gu) (fun ds μ R Ed hl hs st => pure_least_example ds μ R Ed hl hs st)
theorem ok__law_pool (F : Fun K "_law_pool" "_law_pool" (top 3) f fd) (m_abs : mg "abs" = none) (m_int : mg "int" = none) (m_len : mg "len" = none) : FnG P w K mg base 1 f fd ps__law_pool (spOf K PoolW 1 sp__law_pool) :=
  fn_d (sp := sp__law_pool) F sc__law_pool (fun cdv A outer s H E hr gu => b__law_pool m_abs m_int m_len cdv A outer s H E hr gu) (fun ds μ R Ed hl hs st => pure__law_pool ds μ R Ed hl hs st)
theorem ok__law_play (F : Fun K "_law_play" "_law_play" (top 6) f fd) (m_tuple : mg "tuple" = none) (m_zip : mg "zip" = none) : FnG P w K mg base 1 f fd ps__law_play (spOf K PoolW 2 sp__law_play) :=
  fn_d (sp := sp__law_play) F sc__law_play (fun cdv A outer s H E hr gu => b__law_play m_tuple m_zip cdv A outer s H E hr gu) (fun ds μ R Ed hl hs st => pure__law_play ds μ R Ed hl hs st)
theorem ok__law_sets (F : Fun K "_law_sets" "_law_sets" (top 7) f fd) (m_range : mg "range" = none) : FnG P w K mg base 1 f fd ps__law_sets (spOf K PoolW 1 sp__law_sets) :=
  fn_d (sp := sp__law_sets) F sc__law_sets (fun cdv A outer s H E hr gu => b__law_sets m_range cdv A outer s H E hr gu) (fun ds μ R Ed hl hs st => pure__law_sets ds μ R Ed hl hs st)
theorem ok__law_lamp (F : Fun K "_law_lamp" "_law_lamp" (top 5) f fd) {f__law_dip : Addr} {fd__law_dip : FuncData} (n__law_dip : Kn P w K mg base "_law_dip" 1 ps__law_dip f__law_dip fd__law_dip (spOf K PoolW 2 sp__law_dip)) : FnG P w K mg base 2 f fd ps__law_lamp (spOf K PoolW 2 sp__law_lamp) :=
  fn_d (sp := sp__law_lamp) F sc__law_lamp (fun cdv A outer s H E hr gu => b__law_lamp n__law_dip cdv A outer s H E hr gu) (fun ds μ R Ed hl hs st => pure__law_lamp ds μ R Ed hl hs st)
theorem ok__law_tuples (F : Fun K "_law_tuples" "_law_tuples" (top 9) f fd) {f__law_sets : Addr} {fd__law_sets : FuncData} (n__law_sets : Kn P w K mg base "_law_sets" 1 ps__law_sets f__law_sets fd__law_sets (spOf K PoolW 1 sp__law_sets)) (m_len : mg "len" = none) (m_repr : mg "repr" = none) (m_sorted : mg "sorted" = none) (m_tuple : mg "tuple" = none) (sb : ∃ mm, base.Ns sysModules mm) : FnG P w K mg base 2 f fd ps__law_tuples (spOf K PoolW 1 sp__law_tuples) :=
  fn_d (sp := sp__law_tuples) F sc__law_tuples (fun cdv A outer s H E hr gu => b__law_tuples n__law_sets m_len m_repr m_sorted m_tuple sb cdv A outer s H E hr gu) (fun ds μ R Ed hl hs st => pure__law_tuples ds μ R Ed hl hs st)
theorem ok__law_due (F : Fun K "_law_due" "_law_due" (top 10) f fd) {f__law_play : Addr} {fd__law_play : FuncData} (n__law_play : Kn P w K mg base "_law_play" 1 ps__law_play f__law_play fd__law_play (spOf K PoolW 2 sp__law_play)) : FnG P w K mg base 2 f fd ps__law_due (spOf K PoolW 3 sp__law_due) :=
  fn_d (sp := sp__law_due) F sc__law_due (fun cdv A outer s H E hr gu => b__law_due n__law_play cdv A outer s H E hr gu) (fun ds μ R Ed hl hs st => pure__law_due ds μ R Ed hl hs st)
theorem ok__law_same (F : Fun K "_law_same" "_law_same" (top 8) f fd) (m_bool : mg "bool" = none) (m_int : mg "int" = none) (m_isinstance : mg "isinstance" = none) (m_len : mg "len" = none) (m_list : mg "list" = none) (m_range : mg "range" = none) (m_str : mg "str" = none) (m_tuple : mg "tuple" = none) (mm : mg "_law_same" = some (.ref f)) (kp : PySem.W.keepIn K (.ref f) = true) (bd : L2.Binds K fd ps__law_same []) : ∀ k, FnG P w K mg base k f fd ps__law_same (spOf K PoolW 2 (spN__law_same k)) := by
  intro k
  induction k with
  | zero => exact fn_zero fun _ _ _ _ q => q
  | succ k ih => exact fn_d (sp := spN__law_same (k + 1)) (t := t__law_same (spN__law_same k)) F sc__law_same (fun cdv A outer s H E hr gu => b__law_same (sq := spN__law_same k) (lq := k) ⟨ih, mm, kp, bd⟩ m_bool m_int m_isinstance m_len m_list m_range m_str m_tuple cdv A outer s H E hr gu) (fun ds μ R Ed hl hs st => pure__law_same ds μ R Ed k hl hs st)
theorem ok_law (F : Fun K "law" "law" (top 11) f fd) {f__law_pool : Addr} {fd__law_pool : FuncData} (n__law_pool : Kn P w K mg base "_law_pool" 1 ps__law_pool f__law_pool fd__law_pool (spOf K PoolW 1 sp__law_pool)) {f__law_tuples : Addr} {fd__law_tuples : FuncData} (n__law_tuples : Kn P w K mg base "_law_tuples" 2 ps__law_tuples f__law_tuples fd__law_tuples (spOf K PoolW 1 sp__law_tuples)) {f__law_due : Addr} {fd__law_due : FuncData} (n__law_due : Kn P w K mg base "_law_due" 2 ps__law_due f__law_due fd__law_due (spOf K PoolW 3 sp__law_due)) {f__law_same : Addr} {fd__law_same : FuncData} (n__law_same : Kn P w K mg base "_law_same" 6 ps__law_same f__law_same fd__law_same (spOf K PoolW 2 sp__law_same)) {f_least_example : Addr} {fd_least_example : FuncData} (n_least_example : Kn P w K mg base "least_example" 1 ps_least_example f_least_example fd_least_example (spOf K PoolW 2 sp_least_example)) {f__law_lamp : Addr} {fd__law_lamp : FuncData} (n__law_lamp : Kn P w K mg base "_law_lamp" 2 ps__law_lamp f__law_lamp fd__law_lamp (spOf K PoolW 2 sp__law_lamp)) {f__law_dip : Addr} {fd__law_dip : FuncData} (n__law_dip : Kn P w K mg base "_law_dip" 1 ps__law_dip f__law_dip fd__law_dip (spOf K PoolW 2 sp__law_dip)) (m_range : mg "range" = none) (m_repr : mg "repr" = none) (sb : ∃ mm, base.Ns sysModules mm) : FnG P w K mg base 7 f fd ps_law (spOf K PoolW 1 sp_law) :=
  fn_d (sp := sp_law) F sc_law (fun cdv A outer s H E hr gu => b_law n__law_pool n__law_tuples n__law_due n__law_same n_least_example n__law_lamp n__law_dip m_range m_repr sb cdv A outer s H E hr gu) (fun ds μ R Ed hl hs st => pure_law ds μ R Ed hl hs st)
end
theorem facts {P : Program} {w : World} {K : PySem.W.Frag} {h : Heap} {mg : Str → Option Value} {f : Addr} (X : K.In h) (G : h.Ns mainGlobals mg) (hfa : mg ("law" : Str) = some (.ref f)) (c : He.SaysD fa fn K) :
    ∃ fd : FuncData, (∀ (s : Shared) (v : Value), BindsTo s fd ⟨[v], []⟩ [("script", v)]) ∧ ∀ base : Heap, K.In base → base.Ns mainGlobals mg → (∃ mm, base.Ns sysModules mm) → FnG P w K mg base 7 f fd ["script"] (spOf K PoolW 1 sp_law) := by
  obtain ⟨fd_least_example, D_least_example⟩ := c.def_ 0 (d := dd "least_example" 1) rfl
  have F_least_example : Fun K "least_example" "least_example" (top 1) (He.fAd K ("least_example", none)) fd_least_example := He5.fun_of (kws := []) D_least_example
  have e_least_example := He.glo_ok X G (c.fact 0 (f := .glo "least_example") rfl)
  obtain ⟨fd__law_pool, D__law_pool⟩ := c.def_ 1 (d := dd "_law_pool" 3) rfl
  have F__law_pool : Fun K "_law_pool" "_law_pool" (top 3) (He.fAd K ("_law_pool", none)) fd__law_pool := He5.fun_of (kws := []) D__law_pool
  have e__law_pool := He.glo_ok X G (c.fact 1 (f := .glo "_law_pool") rfl)
  obtain ⟨fd__law_dip, D__law_dip⟩ := c.def_ 2 (d := dd "_law_dip" 4) rfl
  have F__law_dip : Fun K "_law_dip" "_law_dip" (top 4) (He.fAd K ("_law_dip", none)) fd__law_dip := He5.fun_of (kws := []) D__law_dip
  have e__law_dip := He.glo_ok X G (c.fact 2 (f := .glo "_law_dip") rfl)
  obtain ⟨fd__law_lamp, D__law_lamp⟩ := c.def_ 3 (d := dd "_law_lamp" 5) rfl
  have F__law_lamp : Fun K "_law_lamp" "_law_lamp" (top 5) (He.fAd K ("_law_lamp", none)) fd__law_lamp := He5.fun_of (kws := []) D__law_lamp
  have e__law_lamp := He.glo_ok X G (c.fact 3 (f := .glo "_law_lamp") rfl)
  obtain ⟨fd__law_play, D__law_play⟩ := c.def_ 4 (d := dd "_law_play" 6) rfl
  have F__law_play : Fun K "_law_play" "_law_play" (top 6) (He.fAd K ("_law_play", none)) fd__law_play := He5.fun_of (kws := []) D__law_play
  have e__law_play := He.glo_ok X G (c.fact 4 (f := .glo "_law_play") rfl)
  obtain ⟨fd__law_sets, D__law_sets⟩ := c.def_ 5 (d := dd "_law_sets" 7) rfl
  have F__law_sets : Fun K "_law_sets" "_law_sets" (top 7) (He.fAd K ("_law_sets", none)) fd__law_sets := He5.fun_of (kws := []) D__law_sets
  have e__law_sets := He.glo_ok X G (c.fact 5 (f := .glo "_law_sets") rfl)
  obtain ⟨fd__law_same, D__law_same⟩ := c.def_ 6 (d := dd "_law_same" 8) rfl
  have F__law_same : Fun K "_law_same" "_law_same" (top 8) (He.fAd K ("_law_same", none)) fd__law_same := He5.fun_of (kws := []) D__law_same
  have e__law_same := He.glo_ok X G (c.fact 6 (f := .glo "_law_same") rfl)
  obtain ⟨fd__law_tuples, D__law_tuples⟩ := c.def_ 7 (d := dd "_law_tuples" 9) rfl
  have F__law_tuples : Fun K "_law_tuples" "_law_tuples" (top 9) (He.fAd K ("_law_tuples", none)) fd__law_tuples := He5.fun_of (kws := []) D__law_tuples
  have e__law_tuples := He.glo_ok X G (c.fact 7 (f := .glo "_law_tuples") rfl)
  obtain ⟨fd__law_due, D__law_due⟩ := c.def_ 8 (d := dd "_law_due" 10) rfl
  have F__law_due : Fun K "_law_due" "_law_due" (top 10) (He.fAd K ("_law_due", none)) fd__law_due := He5.fun_of (kws := []) D__law_due
  have e__law_due := He.glo_ok X G (c.fact 8 (f := .glo "_law_due") rfl)
  obtain ⟨fd_law, D_law⟩ := c.def_ 9 (d := dd "law" 11) rfl
  have F_law : Fun K "law" "law" (top 11) (He.fAd K ("law", none)) fd_law := He5.fun_of (kws := []) D_law
  have e_law := He.glo_ok X G (c.fact 9 (f := .glo "law") rfl)
  have m_abs := He.free_ok X G (c.fact 10 (f := .free "abs") rfl)
  have m_bool := He.free_ok X G (c.fact 11 (f := .free "bool") rfl)
  have m_int := He.free_ok X G (c.fact 12 (f := .free "int") rfl)
  have m_isinstance := He.free_ok X G (c.fact 13 (f := .free "isinstance") rfl)
  have m_len := He.free_ok X G (c.fact 14 (f := .free "len") rfl)
  have m_list := He.free_ok X G (c.fact 15 (f := .free "list") rfl)
  have m_range := He.free_ok X G (c.fact 16 (f := .free "range") rfl)
  have m_repr := He.free_ok X G (c.fact 17 (f := .free "repr") rfl)
  have m_sorted := He.free_ok X G (c.fact 18 (f := .free "sorted") rfl)
  have m_str := He.free_ok X G (c.fact 19 (f := .free "str") rfl)
  have m_tuple := He.free_ok X G (c.fact 20 (f := .free "tuple") rfl)
  have m_zip := He.free_ok X G (c.fact 21 (f := .free "zip") rfl)
  have e := hfa.symm.trans e_law
  cases e
  have bl := FunD.bindsA (ps := ["script"]) D_law fun _ _ _ _ _ _ us hl => match us, hl with | [_], _ => rfl
  refine ⟨fd_law, fun s v => bl s [v] rfl, fun base _ _ sb => ?_⟩
  have n_least_example : Kn P w K mg base "least_example" 1 ps_least_example _ fd_least_example (spOf K PoolW 2 sp_least_example) := ⟨ok_least_example F_least_example, e_least_example, F_least_example.kp, F_least_example.binds (ps := ps_least_example) fun _ _ _ _ _ _ us hl => match us, hl with | [_, _], _ => rfl⟩
  have n__law_pool : Kn P w K mg base "_law_pool" 1 ps__law_pool _ fd__law_pool (spOf K PoolW 1 sp__law_pool) := ⟨ok__law_pool F__law_pool m_abs m_int m_len, e__law_pool, F__law_pool.kp, F__law_pool.binds (ps := ps__law_pool) fun _ _ _ _ _ _ us hl => match us, hl with | [_], _ => rfl⟩
  have n__law_dip : Kn P w K mg base "_law_dip" 1 ps__law_dip _ fd__law_dip (spOf K PoolW 2 sp__law_dip) := ⟨draw_ok F__law_dip m_int, e__law_dip, F__law_dip.kp, F__law_dip.binds (ps := ps__law_dip) fun _ _ _ _ _ _ us hl => match us, hl with | [_, _], _ => rfl⟩
  have n__law_play : Kn P w K mg base "_law_play" 1 ps__law_play _ fd__law_play (spOf K PoolW 2 sp__law_play) := ⟨ok__law_play F__law_play m_tuple m_zip, e__law_play, F__law_play.kp, F__law_play.binds (ps := ps__law_play) fun _ _ _ _ _ _ us hl => match us, hl with | [_, _], _ => rfl⟩
  have n__law_sets : Kn P w K mg base "_law_sets" 1 ps__law_sets _ fd__law_sets (spOf K PoolW 1 sp__law_sets) := ⟨ok__law_sets F__law_sets m_range, e__law_sets, F__law_sets.kp, F__law_sets.binds (ps := ps__law_sets) fun _ _ _ _ _ _ us hl => match us, hl with | [_], _ => rfl⟩
  have n__law_lamp : Kn P w K mg base "_law_lamp" 2 ps__law_lamp _ fd__law_lamp (spOf K PoolW 2 sp__law_lamp) := ⟨ok__law_lamp F__law_lamp n__law_dip, e__law_lamp, F__law_lamp.kp, F__law_lamp.binds (ps := ps__law_lamp) fun _ _ _ _ _ _ us hl => match us, hl with | [_, _], _ => rfl⟩
  have n__law_tuples : Kn P w K mg base "_law_tuples" 2 ps__law_tuples _ fd__law_tuples (spOf K PoolW 1 sp__law_tuples) := ⟨ok__law_tuples F__law_tuples n__law_sets m_len m_repr m_sorted m_tuple sb, e__law_tuples, F__law_tuples.kp, F__law_tuples.binds (ps := ps__law_tuples) fun _ _ _ _ _ _ us hl => match us, hl with | [_], _ => rfl⟩
  have n__law_due : Kn P w K mg base "_law_due" 2 ps__law_due _ fd__law_due (spOf K PoolW 3 sp__law_due) := ⟨ok__law_due F__law_due n__law_play, e__law_due, F__law_due.kp, F__law_due.binds (ps := ps__law_due) fun _ _ _ _ _ _ us hl => match us, hl with | [_, _, _], _ => rfl⟩
  have bd__law_same : L2.Binds K fd__law_same ps__law_same [] := (F__law_same.binds (ps := ps__law_same) fun _ _ _ _ _ _ us hl => match us, hl with | [_, _], _ => rfl)
  have n__law_same : Kn P w K mg base "_law_same" 6 ps__law_same _ fd__law_same (spOf K PoolW 2 sp__law_same) := ⟨ok__law_same F__law_same m_bool m_int m_isinstance m_len m_list m_range m_str m_tuple e__law_same F__law_same.kp bd__law_same 6, e__law_same, F__law_same.kp, bd__law_same⟩
  exact ok_law F_law n__law_pool n__law_tuples n__law_due n__law_same n_least_example n__law_lamp n__law_dip m_range m_repr sb
end K32
open PySem PySem.W PySem.Calls PyProof.Rows
theorem PySem.Challenge.cw_lampstays_k32_least_examples_holds : PySem.Challenge.rw_lampstays_k32_least_examples.Holds := by
  w_on; o_law
  refine HandSHeadRun.head_any (r := OpenLaw.row PySem.Challenge.rw_lampstays_k32_least_examples) (q := view (OpenLaw.row PySem.Challenge.rw_lampstays_k32_least_examples).prog [11]) (H := K32.hk) (ob := K32.ob) (M := 6000) (loose := K32.names) (d := HandSHeadRun.topDef (OpenLaw.row PySem.Challenge.rw_lampstays_k32_least_examples).prog 11) (kwd := []) K32.ob_eq
    (by kernel_rfl) (fun s => by kernel_rfl) K32.run (by kernel_rfl) (by kernel_rfl) (by kernel_rfl) (by rfl) (by first | assumption | decide +kernel) (by decide +kernel) ⟨rfl, rfl, rfl, rfl, rfl, by decide +kernel⟩ ?hw ?hc
  case hw => w_witness2
  case hc =>
    refine DL.walk_D (Z := DL.PoolW) (μ0 := none) DL.pool_reg0 DL.pool_J0 (l := PySem.Challenge.rw_lampstays_k32_least_examples) (n := 63) (k := 7) (x := "script") rfl (by decide) (by kernel_rfl) ⟨rfl, by decide, by decide⟩ (by kernel_rfl) ?F
    intro w mg fa h Y G hmg0
    obtain ⟨K, KX, c⟩ := Y
    have hmg : mg ("law" : PySem.Str) = some (.ref fa) := by
      have e : (HandSHeadRun.topDef (OpenLaw.row PySem.Challenge.rw_lampstays_k32_least_examples).prog 11).name = ("law" : PySem.Str) := by kernel_rfl
      rw [← e]
      exact hmg0
    obtain ⟨fd, hb, hF⟩ := K32.facts (P := (PySem.Challenge.rw_lampstays_k32_least_examples).prog) (w := w) KX G hmg c
    exact ⟨K, fd, K32.sp_law, KX, hb, K32.law_start, hF⟩
