import PyProof.Rows.All
import Wide.All
import OpenK.AllK
import Wide.FinOn
import HandS.ForMost
import HandS.Exc
import HandS.TryOnly
import HandS.ExcOwn
import HandS.WordsExc
import HandS.HeadHook1
import KE.GoesEnum
import KE.GoesZip
import KE.GoesMore
import HandS.Wide
import HandS.IsInst
import PyProof.ReprRoads
import HandS.Style
import HandS.EndBits
import HandS.More
import HandS.ExcInit
import HandS.ExcField
import HandS.ExcIs
import HandS.Head0
import HandS.Head1
import HandS.Head2
import HandS.HeadEnd
import HandS.HeadHook2
import HandS.HeadNt
import KE.KExcIs
import HandS.Star
import HandS.CallLocal
import HandS.Lambda
import HandS.EndTab
import PySem.Challenge.RW_lampstays_k13_quiet_minutes_and_calls
set_option Elab.async false
set_option linter.all false
set_option autoImplicit false
set_option maxRecDepth 100000
set_option maxHeartbeats 0
/-! text DLa -/
/-! DL: a layer of data over HandS: values as trees, lists that a def owns, one world of mutable things that is told by a state. -/
namespace DL
open PySem PySem.Spec PyProof.Rows L2

/-- data; op: a thing known by its value alone; vw: a look at a list that the def at hand owns -/
inductive D where
  | non | bl (b : Bool) | int (i : Int) | str (s : Str)
  | tup (xs : List D) | lst (xs : List D) | dct (kvs : List (Key × D)) | op (v : V) | fn (x : Str) | vw (xs : List D)
  /-- a list of ints that is read alone (the script) -/
  | scr (ns : List Int)

/-- the mutable things: a state, where they stand, what is true of them -/
structure Wld where
  M : Type
  reg : M → Addr → Prop
  J : M → Hp → Hp → Prop
  held : ∀ {μ S H a}, J μ S H → reg μ a → H a ≠ none
  loc : ∀ {μ S S' H H'}, J μ S H → Same S S' → (∀ a, reg μ a → H' a = H a) → J μ S' H'
/-- nothing is told there -/
def Fr (H : Hp) (a : Addr) : Prop := H a = none ∨ ∃ _ : Array Value, False
/-- (no condition: kept for the shape of older proofs) -/
def NT (_ : HO) : Prop := ∀ _ : Array Value, False → False
theorem NT.all {o : HO} : NT o := fun _ h => h
theorem Fr.nt {H : Hp} {a : Addr} {o : HO} {p : Prop} (f : Fr H a) (e : H a = some o) (_ : NT o := by intro _ h; cases h) : p := by
  rcases f with f | ⟨_, f⟩
  · rw [e] at f; cases f
  · exact f.elim
theorem Fr.no {H : Hp} {a : Addr} (f : Fr H a) : H a = none := by
  rcases f with f | ⟨_, f⟩
  · exact f
  · exact f.elim
theorem Fr.of {H : Hp} {a : Addr} (h : ∀ o, H a = some o → ¬ NT o) : Fr H a := by
  cases e : H a with
  | none => exact .inl e
  | some o => exact absurd NT.all (h _ e)

section
variable (K : PySem.W.Frag) (rg : Addr → Prop)
mutual
def Rd (S H : Hp) : D → V → Prop
  | .non, v => v = .non
  | .bl b, v => v = .bl b
  | .int i, v => v = .int i
  | .str s, v => v = .str s
  | .tup xs, v => ∃ a vs, v = .ref a ∧ SqT K S a vs ∧ RdL S H xs vs
  | .lst xs, v => ∃ a vs, v = .ref a ∧ S a = some (.lst vs) ∧ RdL S H xs vs
  | .dct kvs, v => ∃ a ws, v = .ref a ∧ S a = some (.dK ws) ∧ RdK S H kvs ws
  | .op x, v => v = x
  | .fn x, v => v = .ref (He.ga K x)
  | .scr ns, v => ∃ a, v = .ref a ∧ SqL K S a (ns.map V.int)
  | .vw xs, v => ∃ a vs, v = .ref a ∧ ¬ rg a ∧ H a = some (.lst vs) ∧ RdL S H xs vs
def RdL (S H : Hp) : List D → List V → Prop
  | [], vs => vs = []
  | d :: ds, vs => ∃ v r, vs = v :: r ∧ Rd S H d v ∧ RdL S H ds r
def RdK (S H : Hp) : List (Key × D) → List (Key × V) → Prop
  | [], vs => vs = []
  | (k, d) :: ds, vs => ∃ v r, vs = (k, v) :: r ∧ Rd S H d v ∧ RdK S H ds r
end
end

/-! no look at an owned list within -/
mutual
def sta : D → Bool
  | .tup xs => staL xs
  | .lst xs => staL xs
  | .dct kvs => staK kvs
  | .vw _ => false
  | .non => true | .bl _ => true | .int _ => true | .str _ => true | .op _ => true | .fn _ => true | .scr _ => true
def staL : List D → Bool
  | [] => true
  | d :: ds => sta d && staL ds
def staK : List (Key × D) → Bool
  | [] => true
  | (_, d) :: ds => sta d && staK ds
end

section
variable {K : PySem.W.Frag} {rg rg' : Addr → Prop} {S S' H H' : Hp}
theorem seqT_mono {a : Addr} {xs : List V} (e : Same S S') (h : SqT K S a xs) : SqT K S' a xs := by
  rcases h with (h | ⟨o, h⟩) | h
  · exact .inl (.inl (e _ _ h))
  · exact .inl (.inr ⟨o, e _ _ h⟩)
  · exact .inr h
theorem seqL_mono {a : Addr} {xs : List V} (e : Same S S') (h : SqL K S a xs) : SqL K S' a xs := e.seq h
/-! what is read stays, where the stable part grows and owned lists stay (the owned ones need only be there where there is a look) -/
mutual
theorem Rd.mono (e : Same S S') (k : ∀ a vs, ¬ rg a → H a = some (.lst vs) → ¬ rg' a ∧ H' a = some (.lst vs)) : ∀ (d : D) (v : V), Rd K rg S H d v → Rd K rg' S' H' d v
  | .non, _, h => h
  | .bl _, _, h => h
  | .int _, _, h => h
  | .str _, _, h => h
  | .op _, _, h => h
  | .fn _, _, h => h
  | .scr ns, _, h => by
    obtain ⟨a, e1, h1⟩ := h
    exact ⟨a, e1, e.seq h1⟩
  | .tup xs, _, h => by
    obtain ⟨a, vs, e1, h1, h2⟩ := h
    exact ⟨a, vs, e1, seqT_mono e h1, RdL.mono e k xs vs h2⟩
  | .lst xs, _, h => by
    obtain ⟨a, vs, e1, h1, h2⟩ := h
    exact ⟨a, vs, e1, e _ _ h1, RdL.mono e k xs vs h2⟩
  | .dct kvs, _, h => by
    obtain ⟨a, vs, e1, h1, h2⟩ := h
    exact ⟨a, vs, e1, e _ _ h1, RdK.mono e k kvs vs h2⟩
  | .vw xs, _, h => by
    obtain ⟨a, vs, e1, h0, h1, h2⟩ := h
    exact ⟨a, vs, e1, (k _ _ h0 h1).1, (k _ _ h0 h1).2, RdL.mono e k xs vs h2⟩
theorem RdL.mono (e : Same S S') (k : ∀ a vs, ¬ rg a → H a = some (.lst vs) → ¬ rg' a ∧ H' a = some (.lst vs)) : ∀ (ds : List D) (vs : List V), RdL K rg S H ds vs → RdL K rg' S' H' ds vs
  | [], _, h => h
  | d :: ds, _, h => by
    obtain ⟨v, r, e1, h1, h2⟩ := h
    exact ⟨v, r, e1, Rd.mono e k d v h1, RdL.mono e k ds r h2⟩
theorem RdK.mono (e : Same S S') (k : ∀ a vs, ¬ rg a → H a = some (.lst vs) → ¬ rg' a ∧ H' a = some (.lst vs)) : ∀ (ds : List (Key × D)) (vs : List (Key × V)), RdK K rg S H ds vs → RdK K rg' S' H' ds vs
  | [], _, h => h
  | (k', d) :: ds, _, h => by
    obtain ⟨v, r, e1, h1, h2⟩ := h
    exact ⟨v, r, e1, Rd.mono e k d v h1, RdK.mono e k ds r h2⟩
end
/-! stable data leans on the stable part alone -/
mutual
theorem Rd.sta (e : Same S S') : ∀ (d : D) (v : V), sta d = true → Rd K rg S H d v → Rd K rg' S' H' d v
  | .non, _, _, h => h
  | .bl _, _, _, h => h
  | .int _, _, _, h => h
  | .str _, _, _, h => h
  | .op _, _, _, h => h
  | .fn _, _, _, h => h
  | .scr ns, _, _, h => by
    obtain ⟨a, e1, h1⟩ := h
    exact ⟨a, e1, e.seq h1⟩
  | .tup xs, _, t, h => by
    obtain ⟨a, vs, e1, h1, h2⟩ := h
    exact ⟨a, vs, e1, seqT_mono e h1, RdL.sta e xs vs (by simpa only [DL.sta] using t) h2⟩
  | .lst xs, _, t, h => by
    obtain ⟨a, vs, e1, h1, h2⟩ := h
    exact ⟨a, vs, e1, e _ _ h1, RdL.sta e xs vs (by simpa only [DL.sta] using t) h2⟩
  | .dct kvs, _, t, h => by
    obtain ⟨a, vs, e1, h1, h2⟩ := h
    exact ⟨a, vs, e1, e _ _ h1, RdK.sta e kvs vs (by simpa only [DL.sta] using t) h2⟩
  | .vw _, _, t, _ => by simp [DL.sta] at t
theorem RdL.sta (e : Same S S') : ∀ (ds : List D) (vs : List V), staL ds = true → RdL K rg S H ds vs → RdL K rg' S' H' ds vs
  | [], _, _, h => h
  | d :: ds, _, t, h => by
    obtain ⟨v, r, e1, h1, h2⟩ := h
    simp only [staL, Bool.and_eq_true] at t
    exact ⟨v, r, e1, Rd.sta e d v t.1 h1, RdL.sta e ds r t.2 h2⟩
theorem RdK.sta (e : Same S S') : ∀ (ds : List (Key × D)) (vs : List (Key × V)), staK ds = true → RdK K rg S H ds vs → RdK K rg' S' H' ds vs
  | [], _, _, h => h
  | (k', d) :: ds, _, t, h => by
    obtain ⟨v, r, e1, h1, h2⟩ := h
    simp only [staK, Bool.and_eq_true] at t
    exact ⟨v, r, e1, Rd.sta e d v t.1 h1, RdK.sta e ds r t.2 h2⟩
end
theorem RdL.length : ∀ {ds : List D} {vs : List V}, RdL K rg S H ds vs → vs.length = ds.length
  | [], _, h => by cases h; rfl
  | d :: ds, _, h => by
    obtain ⟨v, r, e1, h1, h2⟩ := h
    rw [e1, List.length_cons, List.length_cons, RdL.length h2]
theorem RdL.get : ∀ {ds : List D} {vs : List V} {i : Nat} {d : D}, RdL K rg S H ds vs → ds[i]? = some d → ∃ v, vs[i]? = some v ∧ Rd K rg S H d v
  | [], _, _, _, _, e => by simp at e
  | d :: ds, _, 0, _, h, e => by
    obtain ⟨v, r, e1, h1, h2⟩ := h
    simp at e; subst e; subst e1
    exact ⟨v, rfl, h1⟩
  | d :: ds, _, i + 1, d', h, e => by
    obtain ⟨v, r, e1, h1, h2⟩ := h
    subst e1
    obtain ⟨v', q1, q2⟩ := RdL.get (i := i) (d := d') h2 (by simpa using e)
    exact ⟨v', by simpa using q1, q2⟩
theorem RdL.getV : ∀ {ds : List D} {vs : List V} {i : Nat} {v : V}, RdL K rg S H ds vs → vs[i]? = some v → ∃ d, ds[i]? = some d ∧ Rd K rg S H d v
  | [], _, _, _, h, e => by cases h; simp at e
  | d :: ds, _, 0, _, h, e => by
    obtain ⟨v, r, e1, h1, h2⟩ := h
    subst e1
    simp at e; subst e
    exact ⟨d, rfl, h1⟩
  | d :: ds, _, i + 1, v', h, e => by
    obtain ⟨v, r, e1, h1, h2⟩ := h
    subst e1
    obtain ⟨d', q1, q2⟩ := RdL.getV (i := i) (v := v') h2 (by simpa using e)
    exact ⟨d', by simpa using q1, q2⟩
theorem RdL.append : ∀ {ds es : List D} {vs ws : List V}, RdL K rg S H ds vs → RdL K rg S H es ws → RdL K rg S H (ds ++ es) (vs ++ ws)
  | [], _, _, _, h, g => by cases h; exact g
  | d :: ds, _, _, _, h, g => by
    obtain ⟨v, r, e1, h1, h2⟩ := h
    subst e1
    exact ⟨v, _, rfl, h1, RdL.append h2 g⟩
theorem RdL.one {d : D} {v : V} (h : Rd K rg S H d v) : RdL K rg S H [d] [v] := ⟨v, [], rfl, h, rfl⟩
theorem RdL.take : ∀ {ds : List D} {vs : List V} (n : Nat), RdL K rg S H ds vs → RdL K rg S H (ds.take n) (vs.take n)
  | _, _, 0, _ => by simp [RdL]
  | [], _, _ + 1, h => by cases h; simp [RdL]
  | d :: ds, _, n + 1, h => by
    obtain ⟨v, r, e1, h1, h2⟩ := h
    subst e1
    exact ⟨v, _, rfl, h1, RdL.take n h2⟩
theorem RdL.drop : ∀ {ds : List D} {vs : List V} (n : Nat), RdL K rg S H ds vs → RdL K rg S H (ds.drop n) (vs.drop n)
  | _, _, 0, h => h
  | [], _, _ + 1, h => by cases h; simp [RdL]
  | d :: ds, _, n + 1, h => by
    obtain ⟨v, r, e1, h1, h2⟩ := h
    subst e1
    exact RdL.drop n h2
theorem RdL.reverse : ∀ {ds : List D} {vs : List V}, RdL K rg S H ds vs → RdL K rg S H ds.reverse vs.reverse
  | [], _, h => by cases h; simp [RdL]
  | d :: ds, _, h => by
    obtain ⟨v, r, e1, h1, h2⟩ := h
    subst e1
    rw [List.reverse_cons, List.reverse_cons]
    exact (RdL.reverse h2).append (.one h1)
theorem staL_all : ∀ {ds : List D}, staL ds = true ↔ ∀ d ∈ ds, DL.sta d = true
  | [] => by simp [staL]
  | d :: ds => by simp [staL, staL_all]
theorem staL_append {ds es : List D} (h : staL ds = true) (g : staL es = true) : staL (ds ++ es) = true := by
  rw [staL_all] at *
  intro d hd
  rcases List.mem_append.mp hd with q | q
  · exact h d q
  · exact g d q
theorem staL_sub {ds es : List D} (h : staL ds = true) (g : ∀ d ∈ es, d ∈ ds) : staL es = true := by
  rw [staL_all] at *
  exact fun d hd => h d (g d hd)
end

/-! ### the state of the run -/
section
variable (Z : Wld)
structure Ok (μ : Z.M) (S H : Hp) : Prop where
  sub : Same S H
  j : Z.J μ S H
  off : ∀ a, Z.reg μ a → S a = none
  nt : ∀ a o, S a = some o → NT o
structure Ext (μ : Z.M) (S H : Hp) (μ' : Z.M) (S' H' : Hp) : Prop where
  ok : Ok Z μ' S' H'
  keep : ∀ a o, ¬ Z.reg μ a → NT o → H a = some o → H' a = some o
  same : Same S S'
  new : ∀ a, S' a ≠ none → S a ≠ none ∨ Fr H a
  reg : ∀ a, Z.reg μ' a → Z.reg μ a ∨ Fr H a
  there : ∀ a, Fr H' a → Fr H a
end
section
variable {Z : Wld} {μ μ' μ'' : Z.M} {S H S' H' S'' H'' : Hp}
theorem Ext.refl (h : Ok Z μ S H) : Ext Z μ S H μ S H := ⟨h, fun _ _ _ _ e => e, fun _ _ e => e, fun _ e => .inl e, fun _ e => .inl e, fun _ e => e⟩
theorem Ext.trans (x : Ext Z μ S H μ' S' H') (y : Ext Z μ' S' H' μ'' S'' H'') : Ext Z μ S H μ'' S'' H'' where
  ok := y.ok
  keep := fun a o n nt e => y.keep a o (fun r => by
    rcases x.reg a r with q | q
    · exact n q
    · exact q.nt e nt) nt (x.keep a o n nt e)
  same := x.same.trans y.same
  new := fun a e => by
    rcases y.new a e with q | q
    · exact x.new a q
    · exact .inr (x.there a q)
  reg := fun a e => by
    rcases y.reg a e with q | q
    · exact x.reg a q
    · exact .inr (x.there a q)
  there := fun a e => x.there a (y.there a e)
theorem fr_upd {H : Hp} {p : Addr} {o : HO} (n : H p = none) {a : Addr} (f : Fr (upd H p o) a) : Fr H a := by
  by_cases h : a = p
  · rw [h]; exact .inl n
  · unfold Fr at f; rw [upd_ne h] at f; exact f
/-- a new stable object -/
theorem Ok.put (x : Ok Z μ S H) {p : Addr} {o : HO} (n : H p = none) (ho : NT o := by intro _ h; cases h) : Ext Z μ S H μ (upd S p o) (upd H p o) := by
  have nS : S p = none := by
    cases q : S p with
    | none => rfl
    | some u => rw [x.sub p u q] at n; cases n
  have nr : ∀ a, Z.reg μ a → a ≠ p := fun a r e => by
    have := Z.held x.j r
    rw [e] at this
    exact this n
  have sm : Same S (upd S p o) := fun a u e => by rw [upd_ne (ne_of_none e nS)]; exact e
  refine ⟨⟨fun a u e => ?_, Z.loc x.j sm fun a r => upd_ne (nr a r), fun a r => ?_, fun a u e => by
    by_cases h : a = p
    · rw [h, upd_same] at e; cases e; exact ho
    · rw [upd_ne h] at e; exact x.nt a u e⟩, fun a u _ _ e => ?_, sm, fun a e => ?_, fun a r => .inl r, fun a e => fr_upd n e⟩
  · by_cases h : a = p
    · subst h; rw [upd_same] at e ⊢; exact e
    · rw [upd_ne h] at e ⊢; exact x.sub a u e
  · rw [upd_ne (nr a r)]; exact x.off a r
  · rw [upd_ne (ne_of_none e n)]; exact e
  · by_cases h : a = p
    · subst h; exact .inr (.inl n)
    · rw [upd_ne h] at e; exact .inl e
/-- a new object that is not stable (owned) -/
theorem Ok.putOwn (x : Ok Z μ S H) {p : Addr} {o : HO} (n : H p = none) : Ext Z μ S H μ S (upd H p o) := by
  have nS : S p = none := by
    cases q : S p with
    | none => rfl
    | some u => rw [x.sub p u q] at n; cases n
  have nr : ∀ a, Z.reg μ a → a ≠ p := fun a r e => by
    have := Z.held x.j r
    rw [e] at this
    exact this n
  refine ⟨⟨fun a u e => ?_, Z.loc x.j (Same.refl S) fun a r => upd_ne (nr a r), fun a r => x.off a r, x.nt⟩, fun a u _ _ e => ?_, fun a u e => e, fun a e => .inl e, fun a r => .inl r, fun a e => fr_upd n e⟩
  · have h := x.sub a u e
    rw [upd_ne (ne_of_none h n)]; exact h
  · rw [upd_ne (ne_of_none e n)]; exact e
/-- an object that stands and is neither stable nor of the region is from now on stable -/
theorem Ok.freeze (x : Ok Z μ S H) {p : Addr} {o : HO} (n : H p = some o) (nr : ¬ Z.reg μ p) (ho : NT o := by intro _ h; cases h) : Ok Z μ (upd S p o) H := by
  have sm : Same S (upd S p o) := fun a u e => by
    by_cases h : a = p
    · subst h; rw [upd_same]; rw [← n]; exact x.sub a u e
    · rw [upd_ne h]; exact e
  refine ⟨fun a u e => ?_, Z.loc x.j sm fun _ _ => rfl, fun a r => ?_, fun a u e => by
    by_cases h : a = p
    · rw [h, upd_same] at e; cases e; exact ho
    · rw [upd_ne h] at e; exact x.nt a u e⟩
  · by_cases h : a = p
    · subst h; rw [upd_same] at e; rw [n]; exact e
    · rw [upd_ne h] at e; exact x.sub a u e
  · rw [upd_ne (fun e => nr (by rw [← e]; exact r))]; exact x.off a r
end
end DL
/-! text DLb -/
/-! DL, second part: slots, judgements, the rules of plain expressions. -/
namespace DL
open PySem PySem.Spec PyProof.Rows L2

/-- an exception as data: its class, its field if it has one -/
structure Xc where
  cls : Str
  fs : List (Str × D)
/-- a built-in class of exceptions -/
def bexc (x : Str) : Option String :=
  if x = "ValueError" then some "ValueError" else if x = "TypeError" then some "TypeError" else if x = "KeyError" then some "KeyError" else if x = "ZeroDivisionError" then some "ZeroDivisionError" else none
/-- the class of that name -/
def clsV (K : PySem.W.Frag) (x : Str) : Value := match bexc x with
  | some t => .type t
  | none => .ref (He.ga K x)
def vCls (K : PySem.W.Frag) (x : Str) : V := match bexc x with
  | some t => .ty t
  | none => .ref (He.ga K x)
section
variable (K : PySem.W.Frag) (rg : Addr → Prop)
def RdF (S H : Hp) : List (Str × D) → List (Str × V) → Prop
  | [], vs => vs = []
  | (k, d) :: ds, vs => ∃ v r, vs = (k, v) :: r ∧ sta d = true ∧ Rd K rg S H d v ∧ RdF S H ds r
def XcR (S H : Hp) (x : Xc) (cls : Value) (d : Option Addr) : Prop :=
  cls = clsV K x.cls ∧ ((x.fs = [] ∧ d = none) ∨ ∃ dd ws, d = some dd ∧ H dd = some (.xd ws) ∧ S dd = some (.xd ws) ∧ RdF K rg S H x.fs ws)
end

inductive Slot where
  | un | val (d : D) | own (xs : List D)
  /-- a caught exception: where it stands, its class, its dict, what it is -/
  | exc (a : Addr) (cls : Value) (d : Option Addr) (y : Xc)
abbrev Rho := List Slot

/-- where an owned list may not stand -/
abbrev fb (Z : Wld) (B : Hp) (μ : Z.M) : Addr → Prop := fun a => Z.reg μ a ∨ ¬ Fr B a
section
variable (K : PySem.W.Frag) (Z : Wld) (B : Hp)
def SlotR (μ : Z.M) (S H : Hp) : Slot → Option V → Prop
  | .un, _ => True
  | .val d, o => ∃ v, o = some v ∧ sta d = true ∧ Rd K (fb Z B μ) S H d v
  | .own xs, o => ∃ a vs, o = some (.ref a) ∧ H a = some (.lst vs) ∧ S a = none ∧ ¬ fb Z B μ a ∧ staL xs = true ∧ RdL K (fb Z B μ) S H xs vs
  | .exc a cls d y, o => o = some (.ref a) ∧ XcR K (fb Z B μ) S H y cls d
/-- B: the heap at the def's entry -/
structure EnvR (μ : Z.M) (S H : Hp) (ρ : Rho) (σ : L2.St) : Prop where
  len : σ.length = ρ.length
  get : ∀ (i : Nat) (s : Slot), ρ[i]? = some s → ∃ o, σ[i]? = some o ∧ SlotR K Z B μ S H s o
  apart : ∀ (i j : Nat) (xs ys : List D) (a : Addr), ρ[i]? = some (.own xs) → ρ[j]? = some (.own ys) → σ[i]? = some (some (.ref a)) → σ[j]? = some (some (.ref a)) → i = j
  dom : ∀ a, Fr H a → Fr B a
end

section
variable {K : PySem.W.Frag} {Z : Wld} {B : Hp} {μ μ' : Z.M} {S S' H H' : Hp} {ρ : Rho} {σ : L2.St}
theorem Ext.lst (x : Ext Z μ S H μ' S' H') : ∀ (a : Addr) (vs : List V), ¬ fb Z B μ a → H a = some (.lst vs) → ¬ fb Z B μ' a ∧ H' a = some (.lst vs) := fun a vs n e => by
  refine ⟨fun r => ?_, x.keep a _ (fun z => n (.inl z)) (fun _ h => by cases h) e⟩
  rcases r with r | r
  · rcases x.reg a r with q | q
    · exact n (.inl q)
    · exact q.nt e
  · exact n (.inr r)
theorem Rd.ext (x : Ext Z μ S H μ' S' H') {d : D} {v : V} (h : Rd K (fb Z B μ) S H d v) : Rd K (fb Z B μ') S' H' d v := h.mono x.same x.lst
theorem RdL.ext (x : Ext Z μ S H μ' S' H') {d : List D} {v : List V} (h : RdL K (fb Z B μ) S H d v) : RdL K (fb Z B μ') S' H' d v := h.mono x.same x.lst
theorem RdF.ext (x : Ext Z μ S H μ' S' H') : ∀ {fs : List (Str × D)} {ws : List (Str × V)}, RdF K (fb Z B μ) S H fs ws → RdF K (fb Z B μ') S' H' fs ws
  | [], _, h => h
  | (k, d) :: fs, _, h => by
    obtain ⟨v, r, e, t, h1, h2⟩ := h
    exact ⟨v, r, e, t, h1.ext x, RdF.ext x h2⟩
theorem XcR.ext (x : Ext Z μ S H μ' S' H') {y : Xc} {cls : Value} {d : Option Addr} (h : XcR K (fb Z B μ) S H y cls d) : XcR K (fb Z B μ') S' H' y cls d := by
  obtain ⟨h1, h2⟩ := h
  refine ⟨h1, h2.imp id ?_⟩
  rintro ⟨dd, ws, q1, q2, q3, q4⟩
  exact ⟨dd, ws, q1, x.ok.sub _ _ (x.same _ _ q3), x.same _ _ q3, RdF.ext x q4⟩
theorem RdF.sta {K : PySem.W.Frag} {rg rg' : Addr → Prop} {S H H' : Hp} : ∀ {fs : List (Str × D)} {ws : List (Str × V)}, RdF K rg S H fs ws → RdF K rg' S H' fs ws
  | [], _, h => h
  | (k, d) :: fs, _, h => by
    obtain ⟨v, r, e, t, h1, h2⟩ := h
    exact ⟨v, r, e, t, h1.sta (Same.refl S) _ _ t, h2.sta⟩
theorem SlotR.ext (x : Ext Z μ S H μ' S' H') {s : Slot} {o : Option V} (h : SlotR K Z B μ S H s o) : SlotR K Z B μ' S' H' s o := by
  cases s with
  | un => trivial
  | val d =>
    obtain ⟨v, e, t, r⟩ := h
    exact ⟨v, e, t, r.ext x⟩
  | own xs =>
    obtain ⟨a, vs, e, h1, h2, h3, h4, h5⟩ := h
    refine ⟨a, vs, e, (x.lst a vs h3 h1).2, ?_, (x.lst a vs h3 h1).1, h4, h5.ext x⟩
    cases q : S' a with
    | none => rfl
    | some o =>
      rcases x.new a (by rw [q]; simp) with z | z
      · exact absurd h2 z
      · exact z.nt h1
  | exc a cls d y => exact ⟨h.1, h.2.ext x⟩
theorem EnvR.ext (x : Ext Z μ S H μ' S' H') (h : EnvR K Z B μ S H ρ σ) : EnvR K Z B μ' S' H' ρ σ :=
  ⟨h.len, fun i s e => let ⟨o, q1, q2⟩ := h.get i s e; ⟨o, q1, q2.ext x⟩, h.apart, fun a e => h.dom a (x.there a e)⟩
/-- what was owned elsewhere is from now on stable -/
theorem Ext.frz (x : Ext Z μ S H μ' S' H') {p : Addr} {o : HO} (n : Fr H p) (e : H' p = some o) (nr : ¬ Z.reg μ' p) (ho : NT o := by intro _ h; cases h) : Ext Z μ S H μ' (upd S' p o) H' := by
  refine ⟨x.ok.freeze e nr ho, x.keep, fun a u q => ?_, fun a q => ?_, x.reg, x.there⟩
  · have h := x.same a u q
    have h0 := x.ok.sub a u h
    by_cases hp : a = p
    · subst hp; rw [upd_same]; rw [e] at h0; exact h0
    · rw [upd_ne hp]; exact h
  · by_cases hp : a = p
    · subst hp; exact .inr n
    · rw [upd_ne hp] at q; exact x.new a q
end

/-! ### the judgements -/
section
variable (Z : Wld)
abbrev DT0 (M : Type) := Rho → M → (D → M → Prop) → (Xc → M → Prop) → Prop
abbrev DTA0 (M : Type) := Rho → M → (List D → M → Prop) → (Xc → M → Prop) → Prop
abbrev DTT0 (M : Type) := Rho → M → (Bool → M → Prop) → (Xc → M → Prop) → Prop
abbrev DT := DT0 Z.M
abbrev DTA := DTA0 Z.M
abbrev DTT := DTT0 Z.M
end
/-- contexts that differ in nothing that a rule asks -/
structure Fm where
  ι : Type
  X : ι → Cx
  K : PySem.W.Frag
  hK : ∀ i, (X i).K = K
section
variable (Z : Wld) (F : Fm) (W : WX)
/-- what a wish for exceptions is worth -/
def Wish (B : Hp) (μ : Z.M) (S H : Hp) (σ : L2.St) (E : Xc → Z.M → Prop) : Prop :=
  ∀ (x : Xc) (μ' : Z.M) (S' H' : Hp) (cls : Value) (d : Option Addr), Ext Z μ S H μ' S' H' → XcR F.K (fb Z B μ') S' H' x cls d → E x μ' → W cls d σ H'
def DE (e : Expr) (t : DT Z) : Prop := ∃ te : TE, (∀ i, PE (F.X i) e te) ∧ ∀ (B : Hp) (ρ : Rho) (σ : L2.St) (μ : Z.M) (S H : Hp) (R : D → Z.M → Prop) (E : Xc → Z.M → Prop) (Q : VK),
  EnvR F.K Z B μ S H ρ σ → Ok Z μ S H → t ρ μ R E → Wish Z F W B μ S H σ E →
  (∀ (v : V) (d : D) (μ' : Z.M) (S' H' : Hp), Ext Z μ S H μ' S' H' → Rd F.K (fb Z B μ') S' H' d v → R d μ' → Q v H') → te σ H Q
def DA (es : List Expr) (t : DTA Z) : Prop := ∃ te : TA, (∀ i, PA (F.X i) es te) ∧ ∀ (B : Hp) (ρ : Rho) (σ : L2.St) (μ : Z.M) (S H : Hp) (R : List D → Z.M → Prop) (E : Xc → Z.M → Prop) (Q : List V → Hp → Prop),
  EnvR F.K Z B μ S H ρ σ → Ok Z μ S H → t ρ μ R E → Wish Z F W B μ S H σ E →
  (∀ (v : List V) (d : List D) (μ' : Z.M) (S' H' : Hp), Ext Z μ S H μ' S' H' → RdL F.K (fb Z B μ') S' H' d v → d.length = es.length → R d μ' → Q v H') → te σ H Q
def DB (e : Expr) (t : DTT Z) : Prop := ∃ te : TT, (∀ i, PT (F.X i) e te) ∧ ∀ (B : Hp) (ρ : Rho) (σ : L2.St) (μ : Z.M) (S H : Hp) (R : Bool → Z.M → Prop) (E : Xc → Z.M → Prop) (Q : Bool → Hp → Prop),
  EnvR F.K Z B μ S H ρ σ → Ok Z μ S H → t ρ μ R E → Wish Z F W B μ S H σ E →
  (∀ (b : Bool) (μ' : Z.M) (S' H' : Hp), Ext Z μ S H μ' S' H' → R b μ' → Q b H') → te σ H Q
def DW (e : Expr) (t : DTT Z) : Prop := ∃ te : TT, (∀ i, PW (F.X i) e te) ∧ ∀ (B : Hp) (ρ : Rho) (σ : L2.St) (μ : Z.M) (S H : Hp) (R : Bool → Z.M → Prop) (E : Xc → Z.M → Prop) (Q : Bool → Hp → Prop),
  EnvR F.K Z B μ S H ρ σ → Ok Z μ S H → t ρ μ R E → Wish Z F W B μ S H σ E →
  (∀ (b : Bool) (μ' : Z.M) (S' H' : Hp), Ext Z μ S H μ' S' H' → R b μ' → Q b H') → te σ H Q
/-- an expression that gives a new list -/
def DF (e : Expr) (t : DTA Z) : Prop := ∃ te : TE, (∀ i, PE (F.X i) e te) ∧ ∀ (B : Hp) (ρ : Rho) (σ : L2.St) (μ : Z.M) (S H : Hp) (R : List D → Z.M → Prop) (E : Xc → Z.M → Prop) (Q : VK),
  EnvR F.K Z B μ S H ρ σ → Ok Z μ S H → t ρ μ R E → Wish Z F W B μ S H σ E →
  (∀ (a : Addr) (vs : List V) (ds : List D) (μ' : Z.M) (S' H' : Hp), Ext Z μ S H μ' S' H' → Fr H a → H' a = some (.lst vs) → S' a = none → ¬ fb Z B μ' a → RdL F.K (fb Z B μ') S' H' ds vs → R ds μ' → Q (.ref a) H') → te σ H Q
end
section
variable {Z : Wld} {F : Fm} {W : WX} {B : Hp} {μ μ' : Z.M} {S H S' H' : Hp} {σ : L2.St} {E : Xc → Z.M → Prop}
theorem Wish.ext (h : Wish Z F W B μ S H σ E) (x : Ext Z μ S H μ' S' H') : Wish Z F W B μ' S' H' σ E := fun y μ2 S2 H2 cls d x2 => h y μ2 S2 H2 cls d (x.trans x2)
end

/-! ### readings by data -/
section
variable {Z : Wld}
def dVar {M : Type} (i : Nat) : DT0 M := fun ρ μ R _ => match ρ[i]? with
  | some (.val d) => R d μ
  | some (.own xs) => R (.vw xs) μ
  | _ => False
def dC {M : Type} (d : D) : DT0 M := fun _ μ R _ => R d μ
/-- an operator's answer by data alone -/
abbrev Sm2 := D → D → (D → Prop) → Prop
abbrev Sm1 := D → (D → Prop) → Prop
abbrev SmL := List D → (D → Prop) → Prop
def d2 {M : Type} (sm : Sm2) (ta tb : DT0 M) : DT0 M := fun ρ μ R E => ta ρ μ (fun a μ1 => tb ρ μ1 (fun b μ2 => sm a b fun d => R d μ2) E) E
def d1 {M : Type} (sm : Sm1) (ta : DT0 M) : DT0 M := fun ρ μ R E => ta ρ μ (fun a μ1 => sm a fun d => R d μ1) E
def dL {M : Type} (sm : SmL) (ta : DTA0 M) : DT0 M := fun ρ μ R E => ta ρ μ (fun a μ1 => sm a fun d => R d μ1) E
def dNil {M : Type} : DTA0 M := fun _ μ R _ => R [] μ
def dCons {M : Type} (ta : DT0 M) (tr : DTA0 M) : DTA0 M := fun ρ μ R E => ta ρ μ (fun a μ1 => tr ρ μ1 (fun as μ2 => R (a :: as) μ2) E) E
def dB {M : Type} (ta : DT0 M) : DTT0 M := fun ρ μ R E => ta ρ μ (fun d μ1 => ∃ b, d = .bl b ∧ R b μ1) E
def dAnd {M : Type} (t u : DTT0 M) : DTT0 M := fun ρ μ R E => t ρ μ (fun c μ1 => if c = true then u ρ μ1 R E else R false μ1) E
def dOr {M : Type} (t u : DTT0 M) : DTT0 M := fun ρ μ R E => t ρ μ (fun c μ1 => if c = true then R true μ1 else u ρ μ1 R E) E
def dNot {M : Type} (t : DTT0 M) : DTT0 M := fun ρ μ R E => t ρ μ (fun c μ1 => R (!c) μ1) E
def dAndV {M : Type} (ta tb : DT0 M) : DT0 M := fun ρ μ R E => ta ρ μ (fun d μ1 => ∃ c, d = .bl c ∧ if c = true then tb ρ μ1 R E else R (.bl false) μ1) E
def dOrV {M : Type} (ta tb : DT0 M) : DT0 M := fun ρ μ R E => ta ρ μ (fun d μ1 => ∃ c, d = .bl c ∧ if c = true then R (.bl true) μ1 else tb ρ μ1 R E) E
def dNotV {M : Type} (ta : DT0 M) : DT0 M := fun ρ μ R E => ta ρ μ (fun d μ1 => ∃ c, d = .bl c ∧ R (.bl (!c)) μ1) E
def dIf {M : Type} (t : DTT0 M) (ta tb : DT0 M) : DT0 M := fun ρ μ R E => t ρ μ (fun c μ1 => if c = true then ta ρ μ1 R E else tb ρ μ1 R E) E
def dChain {M : Type} (sm sm' : Sm2) (ta tb tc : DT0 M) : DT0 M := fun ρ μ R E => ta ρ μ (fun a μ1 => tb ρ μ1 (fun b μ2 => sm a b fun d => ∃ k, d = .bl k ∧
  if k = true then tc ρ μ2 (fun c μ3 => sm' b c fun d' => R d' μ3) E else R (.bl false) μ2) E) E
def dTup {M : Type} (ta : DTA0 M) : DT0 M := fun ρ μ R E => ta ρ μ (fun ds μ1 => ds.length ≤ sizeLine ∧ R (.tup ds) μ1) E
def dLst {M : Type} (ta : DTA0 M) : DTA0 M := fun ρ μ R E => ta ρ μ (fun ds μ1 => ds.length ≤ sizeLine ∧ R ds μ1) E
/-- a new list, kept as it is -/
def dFrz {M : Type} (ta : DTA0 M) : DT0 M := fun ρ μ R E => ta ρ μ (fun ds μ1 => R (.lst ds) μ1) E
def truD : D → Option Bool
  | .non => some false
  | .bl b => some b
  | .int i => some (i != 0)
  | .str s => if s.length ≤ sizeLine then some ((s.length : Int) != 0) else none
  | .tup xs => some (!xs.isEmpty)
  | .lst xs => some (!xs.isEmpty)
  | .vw xs => some (!xs.isEmpty)
  | .dct kvs => some (!kvs.isEmpty)
  | .op _ => none
  | .fn _ => none
  | .scr ns => some (!ns.isEmpty)
def dTru {M : Type} (ta : DT0 M) : DTT0 M := fun ρ μ R E => ta ρ μ (fun d μ1 => ∃ b, truD d = some b ∧ R b μ1) E
end

section
variable {Z : Wld} {F : Fm} {W : WX} {e a b c : Expr} {es rest : List Expr} {ta tb tc : DT Z} {tA tR : DTA Z} {t u : DTT Z} {pos : Pos}
theorem dx_var {i : Nat} {x : Str} (h : ∀ j, PE (F.X j) (.Name x pos) (tVar i)) : DE Z F W (.Name x pos) (dVar i) := by
  refine ⟨_, h, fun B ρ σ μ S H R E Q env ok h hE hQ => ?_⟩
  have hv : dVar i ρ μ R E = (match ρ[i]? with | some (.val d) => R d μ | some (.own xs) => R (.vw xs) μ | _ => False) := rfl
  rw [hv] at h
  cases q : ρ[i]? with
  | none => rw [q] at h; exact h.elim
  | some s =>
    rw [q] at h
    obtain ⟨o, e1, e2⟩ := env.get i s q
    cases s with
    | un => exact h.elim
    | val d =>
      obtain ⟨v, rfl, _, r⟩ := e2
      exact ⟨v, e1, hQ v d μ S H (.refl ok) r h⟩
    | own xs =>
      obtain ⟨p, vs, rfl, h1, h2, h3, h4, h5⟩ := e2
      exact ⟨_, e1, hQ _ (.vw xs) μ S H (.refl ok) ⟨p, vs, rfl, h3, h1, h5⟩ h⟩
    | exc a cls d y => exact h.elim
theorem dx_c {v : V} {d : D} (h : ∀ j, PE (F.X j) e (tC v)) (r : ∀ rg S H, Rd F.K rg S H d v) : DE Z F W e (dC d) :=
  ⟨_, h, fun B ρ σ μ S H R E Q env ok h hE hQ => hQ v d μ S H (.refl ok) (r _ _ _) h⟩
theorem dx_int {i : Int} {j} : DE Z F W (.Constant (.int i) j pos) (dC (.int i)) := dx_c (fun _ => pe_int) fun _ _ _ => rfl
theorem dx_bl {i : Bool} {j} : DE Z F W (.Constant (.bool i) j pos) (dC (.bl i)) := dx_c (fun _ => pe_bl) fun _ _ _ => rfl
theorem dx_non {j} : DE Z F W (.Constant .none j pos) (dC .non) := dx_c (fun _ => pe_non) fun _ _ _ => rfl
theorem dx_str {x : Str} {j} : DE Z F W (.Constant (.str x) j pos) (dC (.str x)) := dx_c (fun _ => pe_str) fun _ _ _ => rfl

/-- an operator by data -/
def OpD (Z : Wld) (F : Fm) (f : Value → Value → Sem Value) (sm : Sm2) : Prop := ∃ r : R2, (∀ i, OpR (F.X i) f r) ∧
  ∀ (rg : Addr → Prop) (μ : Z.M) (S H : Hp) (a b : D) (x y : V) (R : D → Prop) (Q : VK), Ok Z μ S H → Rd F.K rg S H a x → Rd F.K rg S H b y → sm a b R →
    (∀ (v : V) (d : D) (S' H' : Hp), Ext Z μ S H μ S' H' → Rd F.K rg S' H' d v → R d → Q v H') → r x y H Q
def UnD (Z : Wld) (F : Fm) (f : Value → Sem Value) (sm : Sm1) : Prop := ∃ r : V → Hp → VK → Prop, (∀ i, UnR (F.X i) f r) ∧
  ∀ (rg : Addr → Prop) (μ : Z.M) (S H : Hp) (a : D) (x : V) (R : D → Prop) (Q : VK), Ok Z μ S H → Rd F.K rg S H a x → sm a R →
    (∀ (v : V) (d : D) (S' H' : Hp), Ext Z μ S H μ S' H' → Rd F.K rg S' H' d v → R d → Q v H') → r x H Q
def CallD (Z : Wld) (F : Fm) (f : Value) (sm : SmL) : Prop := ∃ r : List V → Hp → VK → Prop, (∀ i, CallR (F.X i) f r) ∧
  ∀ (rg : Addr → Prop) (μ : Z.M) (S H : Hp) (as : List D) (xs : List V) (R : D → Prop) (Q : VK), Ok Z μ S H → RdL F.K rg S H as xs → sm as R →
    (∀ (v : V) (d : D) (S' H' : Hp), Ext Z μ S H μ S' H' → Rd F.K rg S' H' d v → R d → Q v H') → r xs H Q
theorem dx_op {op : Operator} {sm : Sm2} (ho : OpD Z F (binaryOp op) sm) (ha : DE Z F W a ta) (hb : DE Z F W b tb) : DE Z F W (.BinOp a op b pos) (d2 sm ta tb) := by
  obtain ⟨ta', pa, ha⟩ := ha
  obtain ⟨tb', pb, hb⟩ := hb
  obtain ⟨r, pr, hr⟩ := ho
  refine ⟨_, fun i => pe_op (pr i) (pa i) (pb i), fun B ρ σ μ S H R E Q env ok h hE hQ => ?_⟩
  refine ha B ρ σ μ S H _ E _ env ok h hE fun v d μ1 S1 H1 x1 r1 h1 => ?_
  refine hb B ρ σ μ1 S1 H1 _ E _ (env.ext x1) x1.ok h1 (hE.ext x1) fun v2 dd μ2 S2 H2 x2 r2 h2 => ?_
  exact hr (fb Z B _) μ2 S2 H2 d dd v v2 _ Q x2.ok (r1.ext x2) r2 h2 fun v3 d3 S3 H3 x3 r3 h3 => hQ v3 d3 μ2 S3 H3 (x1.trans (x2.trans x3)) r3 h3
theorem dx_un {op : UnaryOp} {sm : Sm1} (ho : UnD Z F (unaryOp op) sm) (ha : DE Z F W a ta) : DE Z F W (.UnaryOp op a pos) (d1 sm ta) := by
  obtain ⟨ta', pa, ha⟩ := ha
  obtain ⟨r, pr, hr⟩ := ho
  refine ⟨_, fun i => pe_un (pr i) (pa i), fun B ρ σ μ S H R E Q env ok h hE hQ => ?_⟩
  refine ha B ρ σ μ S H _ E _ env ok h hE fun v d μ1 S1 H1 x1 r1 h1 => ?_
  exact hr (fb Z B _) μ1 S1 H1 d v _ Q x1.ok r1 h1 fun v3 d3 S3 H3 x3 r3 h3 => hQ v3 d3 μ1 S3 H3 (x1.trans x3) r3 h3
theorem dx_cmp {op : CmpOp} {sm : Sm2} (ho : OpD Z F (compareOp op) sm) (ha : DE Z F W a ta) (hb : DE Z F W b tb) (hm : behindInMarks op b = false) : DE Z F W (.Compare a [op] [b] pos) (d2 sm ta tb) := by
  obtain ⟨ta', pa, ha⟩ := ha
  obtain ⟨tb', pb, hb⟩ := hb
  obtain ⟨r, pr, hr⟩ := ho
  refine ⟨_, fun i => pe_cmpR (pr i) (pa i) (pb i) hm, fun B ρ σ μ S H R E Q env ok h hE hQ => ?_⟩
  refine ha B ρ σ μ S H _ E _ env ok h hE fun v d μ1 S1 H1 x1 r1 h1 => ?_
  refine hb B ρ σ μ1 S1 H1 _ E _ (env.ext x1) x1.ok h1 (hE.ext x1) fun v2 dd μ2 S2 H2 x2 r2 h2 => ?_
  exact hr (fb Z B _) μ2 S2 H2 d dd v v2 _ Q x2.ok (r1.ext x2) r2 h2 fun v3 d3 S3 H3 x3 r3 h3 => hQ v3 d3 μ2 S3 H3 (x1.trans (x2.trans x3)) r3 h3
theorem Rd.bl_inv {rg : Addr → Prop} {S H : Hp} {k : Bool} {v : V} (h : Rd F.K rg S H (.bl k) v) : v = .bl k := h
theorem db_cmp {op : CmpOp} {sm : Sm2} (ho : OpD Z F (compareOp op) sm) (ha : DE Z F W a ta) (hb : DE Z F W b tb) (hm : behindInMarks op b = false) : DB Z F W (.Compare a [op] [b] pos) (dB (d2 sm ta tb)) := by
  obtain ⟨ta', pa, ha⟩ := ha
  obtain ⟨tb', pb, hb⟩ := hb
  obtain ⟨r, pr, hr⟩ := ho
  refine ⟨_, fun i => pt_cmpR (pr i) (pa i) (pb i) hm, fun B ρ σ μ S H R E Q env ok h hE hQ => ?_⟩
  refine ha B ρ σ μ S H _ E _ env ok h hE fun v d μ1 S1 H1 x1 r1 h1 => ?_
  refine hb B ρ σ μ1 S1 H1 _ E _ (env.ext x1) x1.ok h1 (hE.ext x1) fun v2 dd μ2 S2 H2 x2 r2 h2 => ?_
  refine hr (fb Z B _) μ2 S2 H2 d dd v v2 _ _ x2.ok (r1.ext x2) r2 h2 fun v3 d3 S3 H3 x3 r3 h3 => ?_
  obtain ⟨k, rfl, h3⟩ := h3
  exact ⟨k, r3, hQ k μ2 S3 H3 (x1.trans (x2.trans x3)) h3⟩
theorem dx_chain {op op' : CmpOp} {sm sm' : Sm2} (ho : OpD Z F (compareOp op) sm) (ho' : OpD Z F (compareOp op') sm') (ha : DE Z F W a ta) (hb : DE Z F W b tb) (hc : DE Z F W c tc)
    (hm : lastMarks [op, op'] [b, c] = false) : DE Z F W (.Compare a [op, op'] [b, c] pos) (dChain sm sm' ta tb tc) := by
  obtain ⟨ta', pa, ha⟩ := ha
  obtain ⟨tb', pb, hb⟩ := hb
  obtain ⟨tc', pc, hc⟩ := hc
  obtain ⟨r, pr, hr⟩ := ho
  obtain ⟨r', pr', hr'⟩ := ho'
  refine ⟨_, fun i => pe_chain (pr i) (pr' i) (pa i) (pb i) (pc i) hm, fun B ρ σ μ S H R E Q env ok h hE hQ => ?_⟩
  refine ha B ρ σ μ S H _ E _ env ok h hE fun v d μ1 S1 H1 x1 r1 h1 => ?_
  refine hb B ρ σ μ1 S1 H1 _ E _ (env.ext x1) x1.ok h1 (hE.ext x1) fun v2 dd μ2 S2 H2 x2 r2 h2 => ?_
  have x12 := x1.trans x2
  refine hr (fb Z B _) μ2 S2 H2 d dd v v2 _ _ x2.ok (r1.ext x2) r2 h2 fun v3 d3 S3 H3 x3 r3 h3 => ?_
  obtain ⟨k, rfl, h3⟩ := h3
  have x123 := x12.trans x3
  refine ⟨k, r3, ?_⟩
  cases k with
  | false => exact hQ _ (.bl false) μ2 S3 H3 x123 rfl h3
  | true =>
    refine hc B ρ σ μ2 S3 H3 _ E _ (env.ext x123) x3.ok h3 (hE.ext x123) fun v4 d4 μ4 S4 H4 x4 r4 h4 => ?_
    exact hr' (fb Z B _) μ4 S4 H4 dd d4 v2 v4 _ Q x4.ok (r2.ext (x3.trans x4)) r4 h4 fun v5 d5 S5 H5 x5 r5 h5 => hQ v5 d5 μ4 S5 H5 (x123.trans (x4.trans x5)) r5 h5
theorem db_chain {op op' : CmpOp} {sm sm' : Sm2} (ho : OpD Z F (compareOp op) sm) (ho' : OpD Z F (compareOp op') sm') (ha : DE Z F W a ta) (hb : DE Z F W b tb) (hc : DE Z F W c tc)
    (hm : lastMarks [op, op'] [b, c] = false) : DB Z F W (.Compare a [op, op'] [b, c] pos) (dB (dChain sm sm' ta tb tc)) := by
  obtain ⟨ta', pa, ha⟩ := ha
  obtain ⟨tb', pb, hb⟩ := hb
  obtain ⟨tc', pc, hc⟩ := hc
  obtain ⟨r, pr, hr⟩ := ho
  obtain ⟨r', pr', hr'⟩ := ho'
  refine ⟨_, fun i => pt_chain (pr i) (pr' i) (pa i) (pb i) (pc i) hm, fun B ρ σ μ S H R E Q env ok h hE hQ => ?_⟩
  refine ha B ρ σ μ S H _ E _ env ok h hE fun v d μ1 S1 H1 x1 r1 h1 => ?_
  refine hb B ρ σ μ1 S1 H1 _ E _ (env.ext x1) x1.ok h1 (hE.ext x1) fun v2 dd μ2 S2 H2 x2 r2 h2 => ?_
  have x12 := x1.trans x2
  refine hr (fb Z B _) μ2 S2 H2 d dd v v2 _ _ x2.ok (r1.ext x2) r2 h2 fun v3 d3 S3 H3 x3 r3 h3 => ?_
  obtain ⟨k, rfl, h3⟩ := h3
  have x123 := x12.trans x3
  refine ⟨k, r3, ?_⟩
  cases k with
  | false =>
    obtain ⟨k2, e2, h3⟩ := h3
    cases e2
    exact ⟨_, rfl, hQ false μ2 S3 H3 x123 h3⟩
  | true =>
    refine hc B ρ σ μ2 S3 H3 _ E _ (env.ext x123) x3.ok h3 (hE.ext x123) fun v4 d4 μ4 S4 H4 x4 r4 h4 => ?_
    refine hr' (fb Z B _) μ4 S4 H4 dd d4 v2 v4 _ _ x4.ok (r2.ext (x3.trans x4)) r4 h4 fun v5 d5 S5 H5 x5 r5 h5 => ?_
    obtain ⟨k5, rfl, h5⟩ := h5
    exact ⟨k5, r5, hQ k5 μ4 S5 H5 (x123.trans (x4.trans x5)) h5⟩

/-! ### and, or, not, if -/
theorem dw_and1 (ha : DB Z F W a t) : DW Z F W (.BoolOp .And [a] pos) t := let ⟨te, p, h⟩ := ha; ⟨te, fun i => pw_and1 (p i), h⟩
theorem dw_or1 (ha : DB Z F W a t) : DW Z F W (.BoolOp .Or [a] pos) t := let ⟨te, p, h⟩ := ha; ⟨te, fun i => pw_or1 (p i), h⟩
theorem dw_and (ha : DB Z F W a t) (hb : DW Z F W (.BoolOp .And (b :: rest) pos) u) : DW Z F W (.BoolOp .And (a :: b :: rest) pos) (dAnd t u) := by
  obtain ⟨ta', pa, ha⟩ := ha
  obtain ⟨tb', pb, hb⟩ := hb
  refine ⟨_, fun i => pw_and (pa i) (pb i), fun B ρ σ μ S H R E Q env ok h hE hQ => ?_⟩
  refine ha B ρ σ μ S H _ E _ env ok h hE fun k μ1 S1 H1 x1 h1 => ?_
  cases k with
  | true => exact hb B ρ σ μ1 S1 H1 _ E _ (env.ext x1) x1.ok h1 (hE.ext x1) fun k2 μ2 S2 H2 x2 h2 => hQ k2 μ2 S2 H2 (x1.trans x2) h2
  | false => exact hQ false μ1 S1 H1 x1 h1
theorem dw_or (ha : DB Z F W a t) (hb : DW Z F W (.BoolOp .Or (b :: rest) pos) u) : DW Z F W (.BoolOp .Or (a :: b :: rest) pos) (dOr t u) := by
  obtain ⟨ta', pa, ha⟩ := ha
  obtain ⟨tb', pb, hb⟩ := hb
  refine ⟨_, fun i => pw_or (pa i) (pb i), fun B ρ σ μ S H R E Q env ok h hE hQ => ?_⟩
  refine ha B ρ σ μ S H _ E _ env ok h hE fun k μ1 S1 H1 x1 h1 => ?_
  cases k with
  | false => exact hb B ρ σ μ1 S1 H1 _ E _ (env.ext x1) x1.ok h1 (hE.ext x1) fun k2 μ2 S2 H2 x2 h2 => hQ k2 μ2 S2 H2 (x1.trans x2) h2
  | true => exact hQ true μ1 S1 H1 x1 h1
theorem dw_b (h : DW Z F W e t) : DB Z F W e t := let ⟨te, p, h⟩ := h; ⟨te, fun i => (p i).pt, h⟩
theorem db_not (ha : DB Z F W a t) : DB Z F W (.UnaryOp .Not a pos) (dNot t) := by
  obtain ⟨ta', pa, ha⟩ := ha
  exact ⟨_, fun i => pt_not (pa i), fun B ρ σ μ S H R E Q env ok h hE hQ => ha B ρ σ μ S H _ E _ env ok h hE fun k μ1 S1 H1 x1 h1 => hQ (!k) μ1 S1 H1 x1 h1⟩
theorem db_val (ha : DE Z F W a ta) (he : ∀ i whole, isTrue a (F.X i).env whole = (do let v ← whole; standAt a.pos; holding [v] (truthy v))) : DB Z F W a (dB ta) := by
  obtain ⟨ta', pa, ha⟩ := ha
  refine ⟨_, fun i => pt_val (pa i) (he i), fun B ρ σ μ S H R E Q env ok h hE hQ => ha B ρ σ μ S H _ E _ env ok h hE fun v d μ1 S1 H1 x1 r1 h1 => ?_⟩
  obtain ⟨k, rfl, h1⟩ := h1
  exact ⟨k, r1, hQ k μ1 S1 H1 x1 h1⟩
theorem truD_ok {d : D} {v : V} {k : Bool} {rg : Addr → Prop} {S H : Hp} (sub : Same S H) (r : Rd F.K rg S H d v) (h : truD d = some k) : TruV F.K v H k := by
  cases d with
  | non => cases r; cases h; rfl
  | bl b => cases r; cases h; rfl
  | int i => cases r; cases h; rfl
  | str s =>
    cases r
    simp only [truD] at h
    split at h
    · rename_i hz
      cases h
      exact ⟨hz, rfl⟩
    · cases h
  | tup xs =>
    obtain ⟨a, vs, rfl, h1, h2⟩ := r
    cases h
    refine .inr (.inl ⟨vs, seqT_mono sub h1, ?_⟩)
    have := h2.length
    cases xs <;> cases vs <;> simp_all
  | lst xs =>
    obtain ⟨a, vs, rfl, h1, h2⟩ := r
    cases h
    refine .inl ⟨vs, SqL.of (sub _ _ h1), ?_⟩
    have := h2.length
    cases xs <;> cases vs <;> simp_all
  | vw xs =>
    obtain ⟨a, vs, rfl, h0, h1, h2⟩ := r
    cases h
    refine .inl ⟨vs, SqL.of h1, ?_⟩
    have := h2.length
    cases xs <;> cases vs <;> simp_all
  | dct kvs =>
    obtain ⟨a, vs, rfl, h1, h2⟩ := r
    cases h
    refine .inr (.inr ⟨vs, sub _ _ h1, ?_⟩)
    cases kvs with
    | nil => cases h2; rfl
    | cons p q =>
      obtain ⟨k, d⟩ := p
      obtain ⟨v, r, rfl, _⟩ := h2
      rfl
  | op _ => cases h
  | fn _ => cases h
  | scr ns =>
    obtain ⟨a, rfl, h1⟩ := r
    cases h
    exact .inl ⟨_, sub.seq h1, by cases ns <;> rfl⟩
theorem db_tru (ha : DE Z F W a ta) (he : ∀ i whole, isTrue a (F.X i).env whole = (do let v ← whole; standAt a.pos; holding [v] (truthy v))) : DB Z F W a (dTru ta) := by
  obtain ⟨ta', pa, ha⟩ := ha
  refine ⟨fun σ H Q => ta' σ H fun x H' => ∃ k, TruV F.K x H' k ∧ Q k H', fun i => by rw [← F.hK i]; exact pt_truth (pa i) (he i), fun B ρ σ μ S H R E Q env ok h hE hQ => ?_⟩
  refine ha B ρ σ μ S H _ E _ env ok h hE fun v d μ1 S1 H1 x1 r1 h1 => ?_
  obtain ⟨k, e, h1⟩ := h1
  exact ⟨k, truD_ok x1.ok.sub r1 e, hQ k μ1 S1 H1 x1 h1⟩
theorem dx_one {op} (h : DE Z F W a ta) : DE Z F W (.BoolOp op [a] pos) ta := let ⟨te, p, h⟩ := h; ⟨te, fun i => pe_one (p i), h⟩
theorem dx_and (ha : DE Z F W a ta) (hb : DE Z F W (.BoolOp .And (b :: rest) pos) tb) : DE Z F W (.BoolOp .And (a :: b :: rest) pos) (dAndV ta tb) := by
  obtain ⟨ta', pa, ha⟩ := ha
  obtain ⟨tb', pb, hb⟩ := hb
  refine ⟨_, fun i => pe_and (pa i) (pb i), fun B ρ σ μ S H R E Q env ok h hE hQ => ?_⟩
  refine ha B ρ σ μ S H _ E _ env ok h hE fun v d μ1 S1 H1 x1 r1 h1 => ?_
  obtain ⟨k, rfl, h1⟩ := h1
  refine ⟨k, r1, ?_⟩
  cases k with
  | true => exact hb B ρ σ μ1 S1 H1 _ E _ (env.ext x1) x1.ok h1 (hE.ext x1) fun v2 d2 μ2 S2 H2 x2 r2 h2 => hQ v2 d2 μ2 S2 H2 (x1.trans x2) r2 h2
  | false => exact hQ _ (.bl false) μ1 S1 H1 x1 rfl h1
theorem dx_or (ha : DE Z F W a ta) (hb : DE Z F W (.BoolOp .Or (b :: rest) pos) tb) : DE Z F W (.BoolOp .Or (a :: b :: rest) pos) (dOrV ta tb) := by
  obtain ⟨ta', pa, ha⟩ := ha
  obtain ⟨tb', pb, hb⟩ := hb
  refine ⟨_, fun i => pe_or (pa i) (pb i), fun B ρ σ μ S H R E Q env ok h hE hQ => ?_⟩
  refine ha B ρ σ μ S H _ E _ env ok h hE fun v d μ1 S1 H1 x1 r1 h1 => ?_
  obtain ⟨k, rfl, h1⟩ := h1
  refine ⟨k, r1, ?_⟩
  cases k with
  | false => exact hb B ρ σ μ1 S1 H1 _ E _ (env.ext x1) x1.ok h1 (hE.ext x1) fun v2 d2 μ2 S2 H2 x2 r2 h2 => hQ v2 d2 μ2 S2 H2 (x1.trans x2) r2 h2
  | true => exact hQ _ (.bl true) μ1 S1 H1 x1 rfl h1
theorem dx_not (ha : DE Z F W a ta) : DE Z F W (.UnaryOp .Not a pos) (dNotV ta) := by
  obtain ⟨ta', pa, ha⟩ := ha
  refine ⟨_, fun i => pe_not (pa i), fun B ρ σ μ S H R E Q env ok h hE hQ => ha B ρ σ μ S H _ E _ env ok h hE fun v d μ1 S1 H1 x1 r1 h1 => ?_⟩
  obtain ⟨k, rfl, h1⟩ := h1
  exact ⟨k, r1, hQ _ (.bl (!k)) μ1 S1 H1 x1 rfl h1⟩
theorem dx_if (hc : DB Z F W c t) (ha : DE Z F W a ta) (hb : DE Z F W b tb) : DE Z F W (.IfExp c a b pos) (dIf t ta tb) := by
  obtain ⟨tc', pc, hc⟩ := hc
  obtain ⟨ta', pa, ha⟩ := ha
  obtain ⟨tb', pb, hb⟩ := hb
  refine ⟨_, fun i => pe_ifExp (pc i) (pa i) (pb i), fun B ρ σ μ S H R E Q env ok h hE hQ => ?_⟩
  refine hc B ρ σ μ S H _ E _ env ok h hE fun k μ1 S1 H1 x1 h1 => ?_
  cases k with
  | true => exact ha B ρ σ μ1 S1 H1 _ E _ (env.ext x1) x1.ok h1 (hE.ext x1) fun v2 d2 μ2 S2 H2 x2 r2 h2 => hQ v2 d2 μ2 S2 H2 (x1.trans x2) r2 h2
  | false => exact hb B ρ σ μ1 S1 H1 _ E _ (env.ext x1) x1.ok h1 (hE.ext x1) fun v2 d2 μ2 S2 H2 x2 r2 h2 => hQ v2 d2 μ2 S2 H2 (x1.trans x2) r2 h2

/-! ### arguments, displays, calls of built-ins -/
theorem da_nil : DA Z F W [] dNil := ⟨_, fun _ => pa_nil, fun B ρ σ μ S H R E Q env ok h hE hQ => hQ [] [] μ S H (.refl ok) rfl rfl h⟩
theorem da_cons (ha : DE Z F W e ta) (hr : DA Z F W es tR) (hs : ∀ i, starEach (e :: es) (F.X i).env = (false, eval e (F.X i).env) :: starEach es (F.X i).env := by intro _; rfl) : DA Z F W (e :: es) (dCons ta tR) := by
  obtain ⟨ta', pa, ha⟩ := ha
  obtain ⟨tb', pb, hb⟩ := hr
  refine ⟨_, fun i => pa_cons (pa i) (pb i) (hs i), fun B ρ σ μ S H R E Q env ok h hE hQ => ?_⟩
  refine ha B ρ σ μ S H _ E _ env ok h hE fun v d μ1 S1 H1 x1 r1 h1 => ?_
  exact hb B ρ σ μ1 S1 H1 _ E _ (env.ext x1) x1.ok h1 (hE.ext x1) fun vs ds μ2 S2 H2 x2 r2 l2 h2 => hQ (v :: vs) (d :: ds) μ2 S2 H2 (x1.trans x2) ⟨v, vs, rfl, r1.ext x2, r2⟩ (by rw [List.length_cons, List.length_cons, l2]) h2
theorem dx_tup {k} (h : DA Z F W es tA) : DE Z F W (.Tuple es k pos) (dTup tA) := by
  obtain ⟨ta', pa, ha⟩ := h
  refine ⟨_, fun i => pe_tup (pa i), fun B ρ σ μ S H R E Q env ok h hE hQ => ?_⟩
  refine ha B ρ σ μ S H _ E _ env ok h hE fun vs ds μ1 S1 H1 x1 r1 _ h1 => ⟨by rw [r1.length]; exact h1.1, fun p hp => ?_⟩
  have x2 := x1.ok.put (o := .tup vs) hp
  exact hQ _ (.tup ds) μ1 _ _ (x1.trans x2) ⟨p, vs, rfl, SqT.of upd_same, r1.ext x2⟩ h1.2
theorem df_lst (h : DA Z F W es tA) : DF Z F W (.List es pos) (dLst tA) := by
  obtain ⟨ta', pa, ha⟩ := h
  refine ⟨_, fun i => pe_lst (pa i), fun B ρ σ μ S H R E Q env ok h hE hQ => ?_⟩
  refine ha B ρ σ μ S H _ E _ env ok h hE fun vs ds μ1 S1 H1 x1 r1 _ h1 => ⟨by rw [r1.length]; exact h1.1, fun p hp => ?_⟩
  have x2 := x1.ok.putOwn (o := .lst vs) hp
  have hp0 : Fr H p := x1.there p (.inl hp)
  have hS : S1 p = none := by
    cases q : S1 p with
    | none => rfl
    | some o => rw [x1.ok.sub p o q] at hp; cases hp
  exact hQ p vs ds μ1 _ _ (x1.trans x2) hp0 upd_same hS (fun r => r.elim (fun r => Z.held x1.ok.j r hp) fun r => r (env.dom p hp0)) (r1.ext x2) h1.2
theorem dx_frz (h : DF Z F W e tA) : DE Z F W e (dFrz tA) := by
  obtain ⟨ta', pa, ha⟩ := h
  refine ⟨_, pa, fun B ρ σ μ S H R E Q env ok h hE hQ => ?_⟩
  refine ha B ρ σ μ S H _ E _ env ok h hE fun a vs ds μ1 S1 H1 x1 n1 e1 s1 g1 r1 h1 => ?_
  have x2 := x1.frz n1 e1 fun r => g1 (.inl r)
  refine hQ _ (.lst ds) μ1 _ _ x2 ⟨a, vs, rfl, upd_same, ?_⟩ h1
  exact r1.mono (fun b o q => by rw [upd_ne (ne_of_none q s1)]; exact q) fun b ws n q => ⟨n, q⟩
theorem dx_callB {x : Str} {id : String} {sm : SmL} {p : Pos} (hc : CallD Z F (.builtin id) sm) (hg : ∀ i, Gl (F.X i) x) (hm : ∀ i, (F.X i).mg x = none) (hv : bootBuiltins x = some (.builtin id)) (ha : DA Z F W (e :: es) tA)
    (hn : x ≠ "__name__" := by decide) (hdb : (x == ("__debug__" : Str)) = false := by decide)
    (he : ∀ i, starEach (e :: es) (F.X i).env = (false, eval e (F.X i).env) :: starEach es (F.X i).env := by intro _; rfl) (hpl : ∀ i, (backTo pos (starEach es (F.X i).env)).any (·.1) = false := by intro _; rfl) : DE Z F W (.Call (.Name x p) (e :: es) [] pos) (dL sm tA) := by
  obtain ⟨ta', pa, ha⟩ := ha
  obtain ⟨r, pr, hr⟩ := hc
  refine ⟨_, fun i => pe_callB (pr i) (hg i) (hm i) hv (pa i) hn hdb (he i) (hpl i), fun B ρ σ μ S H R E Q env ok h hE hQ => ?_⟩
  refine ha B ρ σ μ S H _ E _ env ok h hE fun vs ds μ1 S1 H1 x1 r1 _ h1 => ?_
  exact hr (fb Z B _) μ1 S1 H1 ds vs _ Q x1.ok r1 h1 fun v3 d3 S3 H3 x3 r3 h3 => hQ v3 d3 μ1 S3 H3 (x1.trans x3) r3 h3
theorem dx_callTy {x : Str} {id : String} {sm : SmL} {p : Pos} (hc : CallD Z F (.type id) sm) (hg : ∀ i, Gl (F.X i) x) (hm : ∀ i, (F.X i).mg x = none) (hv : bootBuiltins x = some (.type id)) (ha : DA Z F W (e :: es) tA)
    (hn : x ≠ "__name__" := by decide) (hdb : (x == ("__debug__" : Str)) = false := by decide)
    (he : ∀ i, starEach (e :: es) (F.X i).env = (false, eval e (F.X i).env) :: starEach es (F.X i).env := by intro _; rfl) (hpl : ∀ i, (backTo pos (starEach es (F.X i).env)).any (·.1) = false := by intro _; rfl) : DE Z F W (.Call (.Name x p) (e :: es) [] pos) (dL sm tA) := by
  obtain ⟨ta', pa, ha⟩ := ha
  obtain ⟨r, pr, hr⟩ := hc
  refine ⟨_, fun i => pe_callTy (pr i) (hg i) (hm i) hv (pa i) hn hdb (he i) (hpl i), fun B ρ σ μ S H R E Q env ok h hE hQ => ?_⟩
  refine ha B ρ σ μ S H _ E _ env ok h hE fun vs ds μ1 S1 H1 x1 r1 _ h1 => ?_
  exact hr (fb Z B _) μ1 S1 H1 ds vs _ Q x1.ok r1 h1 fun v3 d3 S3 H3 x3 r3 h3 => hQ v3 d3 μ1 S3 H3 (x1.trans x3) r3 h3
end
end DL
/-! text DLc -/
/-! DL, third part: what is walked, targets, statements, loops, comprehensions, the promise of a def. -/
namespace DL
open PySem PySem.Spec PyProof.Rows L2

/-! ### data without lists; a look taken as a list -/
mutual
def nl : D → Bool
  | .non => true | .bl _ => true | .int _ => true | .str _ => true | .op _ => true | .fn _ => true
  | .tup xs => nlL xs
  | .lst _ => false | .dct _ => false | .vw _ => false | .scr _ => false
def nlL : List D → Bool
  | [] => true
  | d :: ds => nl d && nlL ds
end
mutual
def fr : D → D
  | .tup xs => .tup (frL xs)
  | .lst xs => .lst (frL xs)
  | .vw xs => .lst (frL xs)
  | .dct kvs => .dct (frK kvs)
  | .non => .non | .bl b => .bl b | .int i => .int i | .str s => .str s | .op v => .op v | .fn x => .fn x | .scr ns => .scr ns
def frL : List D → List D
  | [] => []
  | d :: ds => fr d :: frL ds
def frK : List (Key × D) → List (Key × D)
  | [] => []
  | (k, d) :: ds => (k, fr d) :: frK ds
end
mutual
theorem sta_fr : ∀ d : D, sta (fr d) = true
  | .tup xs => by simp only [fr, sta]; exact staL_fr xs
  | .lst xs => by simp only [fr, sta]; exact staL_fr xs
  | .vw xs => by simp only [fr, sta]; exact staL_fr xs
  | .dct kvs => by simp only [fr, sta]; exact staK_fr kvs
  | .non => rfl | .bl _ => rfl | .int _ => rfl | .str _ => rfl | .op _ => rfl | .fn _ => rfl | .scr _ => rfl
theorem staL_fr : ∀ ds : List D, staL (frL ds) = true
  | [] => rfl
  | d :: ds => by simp only [frL, staL, sta_fr d, staL_fr ds, Bool.and_self]
theorem staK_fr : ∀ ds : List (Key × D), staK (frK ds) = true
  | [] => rfl
  | (k, d) :: ds => by simp only [frK, staK, sta_fr d, staK_fr ds, Bool.and_self]
end
mutual
theorem fr_sta : ∀ d : D, sta d = true → fr d = d
  | .tup xs, h => by simp only [sta] at h; simp only [fr, frL_sta xs h]
  | .lst xs, h => by simp only [sta] at h; simp only [fr, frL_sta xs h]
  | .vw xs, h => by simp [sta] at h
  | .dct kvs, h => by simp only [sta] at h; simp only [fr, frK_sta kvs h]
  | .non, _ => rfl | .bl _, _ => rfl | .int _, _ => rfl | .str _, _ => rfl | .op _, _ => rfl | .fn _, _ => rfl | .scr _, _ => rfl
theorem frL_sta : ∀ ds : List D, staL ds = true → frL ds = ds
  | [], _ => rfl
  | d :: ds, h => by
    simp only [staL, Bool.and_eq_true] at h
    simp only [frL, fr_sta d h.1, frL_sta ds h.2]
theorem frK_sta : ∀ ds : List (Key × D), staK ds = true → frK ds = ds
  | [], _ => rfl
  | (k, d) :: ds, h => by
    simp only [staK, Bool.and_eq_true] at h
    simp only [frK, fr_sta d h.1, frK_sta ds h.2]
end
mutual
theorem sta_nl : ∀ d : D, nl d = true → sta d = true
  | .tup xs, h => by simp only [nl] at h; simp only [sta]; exact staL_nl xs h
  | .lst _, h => by simp [nl] at h
  | .vw _, h => by simp [nl] at h
  | .dct _, h => by simp [nl] at h
  | .scr _, h => by simp [nl] at h
  | .non, _ => rfl | .bl _, _ => rfl | .int _, _ => rfl | .str _, _ => rfl | .op _, _ => rfl | .fn _, _ => rfl
theorem staL_nl : ∀ ds : List D, nlL ds = true → staL ds = true
  | [], _ => rfl
  | d :: ds, h => by
    simp only [nlL, Bool.and_eq_true] at h
    simp only [staL, sta_nl d h.1, staL_nl ds h.2, Bool.and_self]
end

section
variable {K : PySem.W.Frag} {Z : Wld} {B : Hp} {μ μ' : Z.M} {S S' H H' : Hp}
open Classical in
/-- all that is new since B and is a list is taken as stable -/
noncomputable def frz (Z : Wld) (B : Hp) (μ : Z.M) (S H : Hp) : Hp := fun a => if ¬ fb Z B μ a ∧ (∃ vs, H a = some (.lst vs)) ∧ S a = none then H a else S a
theorem frz_or (a : Addr) : (frz Z B μ S H a = S a) ∨ (¬ fb Z B μ a ∧ (∃ vs, H a = some (.lst vs)) ∧ S a = none ∧ frz Z B μ S H a = H a) := by
  unfold frz
  split
  · rename_i h; exact .inr ⟨h.1, h.2.1, h.2.2, rfl⟩
  · exact .inl rfl
theorem frz_same : Same S (frz Z B μ S H) := fun a o e => by
  rcases frz_or (Z := Z) (B := B) (μ := μ) (S := S) (H := H) a with q | ⟨_, _, n, _⟩
  · rw [q]; exact e
  · rw [n] at e; cases e
theorem frz_ok (x : Ok Z μ S H) : Ok Z μ (frz Z B μ S H) H := by
  refine ⟨fun a o e => ?_, Z.loc x.j frz_same fun _ _ => rfl, fun a r => ?_, fun a o e => by
    rcases frz_or (Z := Z) (B := B) (μ := μ) (S := S) (H := H) a with q | ⟨_, ⟨vs, h⟩, _, q⟩
    · rw [q] at e; exact x.nt a o e
    · rw [q, h] at e; cases e; exact fun _ h => by cases h⟩
  · rcases frz_or (Z := Z) (B := B) (μ := μ) (S := S) (H := H) a with q | ⟨_, _, _, q⟩
    · rw [q] at e; exact x.sub a o e
    · rw [q] at e; exact e
  · rcases frz_or (Z := Z) (B := B) (μ := μ) (S := S) (H := H) a with q | ⟨n, _⟩
    · rw [q]; exact x.off a r
    · exact absurd (.inl r) n
theorem frz_lst (x : Ok Z μ S H) {a : Addr} {vs : List V} (n : ¬ fb Z B μ a) (e : H a = some (.lst vs)) : frz Z B μ S H a = some (.lst vs) := by
  unfold frz
  split
  · exact e
  · rename_i h
    cases q : S a with
    | none => exact absurd ⟨n, ⟨vs, e⟩, q⟩ h
    | some o => rw [x.sub a o q] at e; rw [e]
mutual
theorem Rd.frz (x : Ok Z μ S H) : ∀ (d : D) (v : V), Rd K (fb Z B μ) S H d v → Rd K (fb Z B μ) (frz Z B μ S H) H (fr d) v
  | .tup xs, _, h => by
    obtain ⟨a, vs, e1, h1, h2⟩ := h
    simp only [fr]
    exact ⟨a, vs, e1, seqT_mono frz_same h1, RdL.frz x xs vs h2⟩
  | .lst xs, _, h => by
    obtain ⟨a, vs, e1, h1, h2⟩ := h
    simp only [fr]
    exact ⟨a, vs, e1, frz_same _ _ h1, RdL.frz x xs vs h2⟩
  | .vw xs, _, h => by
    obtain ⟨a, vs, e1, h0, h1, h2⟩ := h
    simp only [fr]
    exact ⟨a, vs, e1, frz_lst x h0 h1, RdL.frz x xs vs h2⟩
  | .dct kvs, _, h => by
    obtain ⟨a, vs, e1, h1, h2⟩ := h
    simp only [fr]
    exact ⟨a, vs, e1, frz_same _ _ h1, RdK.frz x kvs vs h2⟩
  | .non, _, h => h
  | .bl _, _, h => h
  | .int _, _, h => h
  | .str _, _, h => h
  | .op _, _, h => h
  | .fn _, _, h => h
  | .scr ns, _, h => by
    obtain ⟨a, e1, h1⟩ := h
    exact ⟨a, e1, frz_same.seq h1⟩
theorem RdL.frz (x : Ok Z μ S H) : ∀ (ds : List D) (vs : List V), RdL K (fb Z B μ) S H ds vs → RdL K (fb Z B μ) (frz Z B μ S H) H (frL ds) vs
  | [], _, h => h
  | d :: ds, _, h => by
    obtain ⟨v, r, e1, h1, h2⟩ := h
    exact ⟨v, r, e1, Rd.frz x d v h1, RdL.frz x ds r h2⟩
theorem RdK.frz (x : Ok Z μ S H) : ∀ (ds : List (Key × D)) (vs : List (Key × V)), RdK K (fb Z B μ) S H ds vs → RdK K (fb Z B μ) (frz Z B μ S H) H (frK ds) vs
  | [], _, h => h
  | (k, d) :: ds, _, h => by
    obtain ⟨v, r, e1, h1, h2⟩ := h
    exact ⟨v, r, e1, Rd.frz x d v h1, RdK.frz x ds r h2⟩
end
/-! data without lists stands also where the lists are no longer told -/
mutual
theorem Rd.thaw (k : ∀ a vs, S a = some (.tup vs) → S' a = some (.tup vs)) (kf : ∀ a o vs, S a = some (.frz o (.tup vs)) → S' a = some (.frz o (.tup vs))) {rg rg' : Addr → Prop} : ∀ (d : D) (v : V), nl d = true → Rd K rg S H d v → Rd K rg' S' H' d v
  | .tup xs, _, t, h => by
    obtain ⟨a, vs, e1, h1, h2⟩ := h
    refine ⟨a, vs, e1, ?_, RdL.thaw k kf xs vs (by simpa only [nl] using t) h2⟩
    rcases h1 with (h1 | ⟨o, h1⟩) | h1
    · exact .inl (.inl (k _ _ h1))
    · exact .inl (.inr ⟨o, kf _ _ _ h1⟩)
    · exact .inr h1
  | .lst _, _, t, _ => by simp [nl] at t
  | .vw _, _, t, _ => by simp [nl] at t
  | .dct _, _, t, _ => by simp [nl] at t
  | .scr _, _, t, _ => by simp [nl] at t
  | .non, _, _, h => h
  | .bl _, _, _, h => h
  | .int _, _, _, h => h
  | .str _, _, _, h => h
  | .op _, _, _, h => h
  | .fn _, _, _, h => h
theorem RdL.thaw (k : ∀ a vs, S a = some (.tup vs) → S' a = some (.tup vs)) (kf : ∀ a o vs, S a = some (.frz o (.tup vs)) → S' a = some (.frz o (.tup vs))) {rg rg' : Addr → Prop} : ∀ (ds : List D) (vs : List V), nlL ds = true → RdL K rg S H ds vs → RdL K rg' S' H' ds vs
  | [], _, _, h => h
  | d :: ds, _, t, h => by
    obtain ⟨v, r, e1, h1, h2⟩ := h
    simp only [nlL, Bool.and_eq_true] at t
    exact ⟨v, r, e1, Rd.thaw k kf d v t.1 h1, RdL.thaw k kf ds r t.2 h2⟩
end
end

/-! ### the run of a def, what is wanted behind a statement -/
section
variable (F : Fm) (Z : Wld)
structure Run (μ0 : Z.M) (S0 H0 : Hp) (ρ : Rho) (σ : L2.St) (μ : Z.M) (S H : Hp) : Prop where
  env : EnvR F.K Z H0 μ S H ρ σ
  ext : Ext Z μ0 S0 H0 μ S H
structure EndsD0 (M : Type) where
  nx : Rho → M → Prop
  rt : D → M → Prop
  ex : Xc → Rho → M → Prop := fun _ _ _ => False
  bk : Rho → M → Prop := fun _ _ => False
  ct : Rho → M → Prop := fun _ _ => False
abbrev EndsD := EndsD0 Z.M
abbrev DTS0 (M : Type) := EndsD0 M → Rho → M → Prop
abbrev DTS := DTS0 Z.M
end
section
variable (Z : Wld) (F : Fm) (W : WX)
/-- the ends by data and the ends of the layer below -/
structure Lk (μ0 : Z.M) (S0 H0 S : Hp) (B : EndsD Z) (L : L2.Ends) : Prop where
  nx : ∀ ρ' σ' μ' S' H', Run F Z μ0 S0 H0 ρ' σ' μ' S' H' → Same S S' → B.nx ρ' μ' → L.nx σ' H'
  bk : ∀ ρ' σ' μ' S' H', Run F Z μ0 S0 H0 ρ' σ' μ' S' H' → Same S S' → B.bk ρ' μ' → L.bk σ' H'
  ct : ∀ ρ' σ' μ' S' H', Run F Z μ0 S0 H0 ρ' σ' μ' S' H' → Same S S' → B.ct ρ' μ' → L.ct σ' H'
  rt : ∀ (v : V) (d : D) μ' S' H', Ext Z μ0 S0 H0 μ' S' H' → sta d = true → Rd F.K (fb Z H0 μ') S' H' d v → B.rt d μ' → L.rt v H'
  ex : ∀ (x : Xc) ρ' σ' μ' S' H' cls dd, Run F Z μ0 S0 H0 ρ' σ' μ' S' H' → Same S S' → XcR F.K (fb Z H0 μ') S' H' x cls dd → B.ex x ρ' μ' → W cls dd σ' H'
def DS (st : Stmt) (t : DTS Z) : Prop := ∃ ts : TS, (∀ i, PS (F.X i) st ts) ∧ ∀ μ0 S0 H0 ρ σ μ S H (B : EndsD Z) (L : L2.Ends), Run F Z μ0 S0 H0 ρ σ μ S H → t B ρ μ → Lk Z F W μ0 S0 H0 S B L → ts L σ H
def DSs (st : List Stmt) (t : DTS Z) : Prop := ∃ ts : TS, (∀ i, PSs (F.X i) st ts) ∧ ∀ μ0 S0 H0 ρ σ μ S H (B : EndsD Z) (L : L2.Ends), Run F Z μ0 S0 H0 ρ σ μ S H → t B ρ μ → Lk Z F W μ0 S0 H0 S B L → ts L σ H
/-- a target; ix: the slots that it fills -/
abbrev DG := D → Rho → (Rho → Prop) → Prop
def DGJ (tg : Expr) (ix : List Nat) (g : DG) : Prop := ∃ tg' : TG, (∀ i, PG (F.X i) tg tg') ∧ ∀ (B : Hp) (d : D) (v : V) ρ σ (μ : Z.M) S H (R : Rho → Prop) (Q : L2.St → Hp → Prop),
  EnvR F.K Z B μ S H ρ σ → Ok Z μ S H → Rd F.K (fb Z B μ) S H d v → g d ρ R → (∀ ρ' σ', EnvR F.K Z B μ S H ρ' σ' → R ρ' → (∀ vs : List Nat, (∀ i ∈ ix, i ∈ vs) → wipe σ' vs = wipe σ vs) → Q σ' H) → tg' v σ H Q
abbrev DGs := List D → Rho → (Rho → Prop) → Prop
def DGJs (tgs : List Expr) (ix : List Nat) (g : DGs) : Prop := ∃ tg' : TGs, (∀ i, PGs (F.X i) tgs tg') ∧ ∀ (B : Hp) (d : List D) (v : List V) ρ σ (μ : Z.M) S H (R : Rho → Prop) (Q : L2.St → Hp → Prop),
  EnvR F.K Z B μ S H ρ σ → Ok Z μ S H → RdL F.K (fb Z B μ) S H d v → g d ρ R → (∀ ρ' σ', EnvR F.K Z B μ S H ρ' σ' → R ρ' → (∀ vs : List Nat, (∀ i ∈ ix, i ∈ vs) → wipe σ' vs = wipe σ vs) → Q σ' H) → tg' v σ H Q
/-- J walks ds -/
def Wk (K : PySem.W.Frag) (J : It) (ds : List D) (B : Hp) (μ : Z.M) (S H : Hp) : Prop :=
  ∀ i, (i < ds.length → J.go i H) ∧ (ds.length = i → J.stop i H) ∧ ∀ x H' d, ds[i]? = some d → J.yld i H x H' → ∃ S', Ext Z μ S H μ S' H' ∧ Rd K (fb Z B μ) S' H' d x
def DI (tg e : Expr) (t : DTA Z) : Prop := ∃ wi : TI, (∀ i, PI (F.X i) tg e wi) ∧ ∀ (B : Hp) (ρ : Rho) (σ : L2.St) (μ : Z.M) (S H : Hp) (R : List D → Z.M → Prop) (E : Xc → Z.M → Prop) (Q : It → Hp → Prop),
  EnvR F.K Z B μ S H ρ σ → Ok Z μ S H → t ρ μ R E → Wish Z F W B μ S H σ E →
  (∀ (J : It) (ds : List D) (μ' : Z.M) (S' H' : Hp), Ext Z μ S H μ' S' H' → (∀ μ2 S2 H2, Ok Z μ2 S2 H2 → Same S' S2 → Wk Z F.K J ds B μ2 S2 H2) → R ds μ' → Q J H') → wi σ H Q
def DIc (tg e : Expr) (t : DTA Z) : Prop := ∃ wi : TI, (∀ i, PI (F.X i) tg e wi) ∧ ∀ (B : Hp) (ρ : Rho) (σ : L2.St) (μ : Z.M) (S H : Hp) (R : List D → Z.M → Prop) (E : Xc → Z.M → Prop) (Q : It → Hp → Prop),
  EnvR F.K Z B μ S H ρ σ → Ok Z μ S H → t ρ μ R E → Wish Z F W B μ S H σ E →
  (∀ (J : It) (ds : List D) (μ' : Z.M) (S' H' : Hp), Ext Z μ S H μ' S' H' → (∀ μ2 S2 H2, Ext Z μ' S' H' μ2 S2 H2 → Wk Z F.K J ds B μ2 S2 H2) → R ds μ' → Q J H') → wi σ H Q
end
section
variable {Z : Wld} {F : Fm} {W : WX} {μ0 μ μ' : Z.M} {S0 H0 S H S' H' : Hp} {ρ : Rho} {σ : L2.St} {B : EndsD Z} {L : L2.Ends}
theorem Run.up (r : Run F Z μ0 S0 H0 ρ σ μ S H) (x : Ext Z μ S H μ' S' H') : Run F Z μ0 S0 H0 ρ σ μ' S' H' := ⟨r.env.ext x, r.ext.trans x⟩
theorem Run.ok (r : Run F Z μ0 S0 H0 ρ σ μ S H) : Ok Z μ S H := r.ext.ok
theorem Lk.wish (k : Lk Z F W μ0 S0 H0 S B L) (r : Run F Z μ0 S0 H0 ρ σ μ S H) : Wish Z F W H0 μ S H σ (fun x μ' => B.ex x ρ μ') :=
  fun x μ' S' H' cls d e q h => k.ex x ρ σ μ' S' H' cls d (r.up e) e.same q h
theorem Lk.same (k : Lk Z F W μ0 S0 H0 S B L) (e : Same S S') : Lk Z F W μ0 S0 H0 S' B L :=
  ⟨fun ρ' σ' μ' S2 H' r s h => k.nx ρ' σ' μ' S2 H' r (e.trans s) h, fun ρ' σ' μ' S2 H' r s h => k.bk ρ' σ' μ' S2 H' r (e.trans s) h, fun ρ' σ' μ' S2 H' r s h => k.ct ρ' σ' μ' S2 H' r (e.trans s) h, k.rt,
    fun x ρ' σ' μ' S2 H' cls dd r s h => k.ex x ρ' σ' μ' S2 H' cls dd r (e.trans s) h⟩
theorem Lk.with {nx' : Rho → Z.M → Prop} {nx2 : L2.St → Hp → Prop} (k : Lk Z F W μ0 S0 H0 S B L) (h : ∀ ρ' σ' μ' S' H', Run F Z μ0 S0 H0 ρ' σ' μ' S' H' → Same S S' → nx' ρ' μ' → nx2 σ' H') :
    Lk Z F W μ0 S0 H0 S { B with nx := nx' } { L with nx := nx2 } := ⟨h, k.bk, k.ct, k.rt, k.ex⟩
theorem DI.c {tg e : Expr} {t : DTA Z} (h : DI Z F W tg e t) : DIc Z F W tg e t := by
  obtain ⟨wi, p, h⟩ := h
  exact ⟨wi, p, fun B ρ σ μ S H R E Q env ok ht hE hQ => h B ρ σ μ S H R E Q env ok ht hE fun J ds μ' S' H' x hw hr => hQ J ds μ' S' H' x (fun μ2 S2 H2 x2 => hw μ2 S2 H2 x2.ok x2.same) hr⟩
end

/-! ### readings of statements by data -/
section
variable {Z : Wld}
def dsNext {M : Type} : DTS0 M := fun B ρ μ => B.nx ρ μ
def dsBreak {M : Type} : DTS0 M := fun B ρ μ => B.bk ρ μ
def dsCont {M : Type} : DTS0 M := fun B ρ μ => B.ct ρ μ
def dsSeq {M : Type} (t u : DTS0 M) : DTS0 M := fun B ρ μ => t { B with nx := u B } ρ μ
def dsDrop {M : Type} (te : DT0 M) : DTS0 M := fun B ρ μ => te ρ μ (fun _ μ' => B.nx ρ μ') fun x μ' => B.ex x ρ μ'
def dsRet {M : Type} (te : DT0 M) : DTS0 M := fun B ρ μ => te ρ μ (fun d μ' => sta d = true ∧ B.rt d μ') fun x μ' => B.ex x ρ μ'
/-- a return that lets an owned list out -/
def dsRetF {M : Type} (te : DT0 M) : DTS0 M := fun B ρ μ => te ρ μ (fun d μ' => B.rt (fr d) μ') fun x μ' => B.ex x ρ μ'
def dsRetN {M : Type} : DTS0 M := fun B ρ μ => B.rt .non μ
def dsIf {M : Type} (c : DTT0 M) (t u : DTS0 M) : DTS0 M := fun B ρ μ => c ρ μ (fun b μ' => if b = true then t B ρ μ' else u B ρ μ') fun x μ' => B.ex x ρ μ'
def dsAsg {M : Type} (te : DT0 M) (g : DG) : DTS0 M := fun B ρ μ => te ρ μ (fun d μ' => g d ρ fun ρ' => B.nx ρ' μ') fun x μ' => B.ex x ρ μ'
/-- a name becomes the owner of a new list -/
def dsOwn {M : Type} (i : Nat) (te : DTA0 M) : DTS0 M := fun B ρ μ => te ρ μ (fun ds μ' => staL ds = true ∧ B.nx (ρ.set i (.own ds)) μ') fun x μ' => B.ex x ρ μ'
def dName (i : Nat) : DG := fun d ρ R => sta d = true ∧ R (ρ.set i (.val d))
def dgTup (n : Nat) (g : DGs) : DG := fun d ρ R => ∃ ds, (d = .tup ds ∨ d = .lst ds) ∧ ds.length = n ∧ g ds ρ R
def dgNil : DGs := fun ds ρ R => ds = [] ∧ R ρ
def dgCons (g : DG) (u : DGs) : DGs := fun ds ρ R => ∃ d r, ds = d :: r ∧ g d ρ fun ρ' => u r ρ' R
def dsAug {M : Type} (i : Nat) (te : DT0 M) (sm : Sm2) : DTS0 M := fun B ρ μ => ∃ d, ρ[i]? = some (.val d) ∧ te ρ μ (fun y μ' => sm d y fun z => sta z = true ∧ B.nx (ρ.set i (.val z)) μ') fun x μ' => B.ex x ρ μ'
def loopD {M : Type} (g : DG) (tb : DTS0 M) (B : EndsD0 M) : List D → Rho → M → Prop
  | [], ρ, μ => B.nx ρ μ
  | d :: ds, ρ, μ => g d ρ fun ρ' => tb { B with nx := loopD g tb B ds, ct := loopD g tb B ds, bk := B.nx } ρ' μ
def dsFor {M : Type} (ti : DTA0 M) (g : DG) (tb : DTS0 M) : DTS0 M := fun B ρ μ => ti ρ μ (fun ds μ' => loopD g tb B ds ρ μ') fun x μ' => B.ex x ρ μ'
def whileD {M : Type} (c : DTT0 M) (tb : DTS0 M) (B : EndsD0 M) : Nat → Rho → M → Prop
  | 0, _, _ => False
  | n + 1, ρ, μ => c ρ μ (fun b μ' => if b = true then tb { B with nx := whileD c tb B n, ct := whileD c tb B n, bk := B.nx } ρ μ' else B.nx ρ μ') fun x μ' => B.ex x ρ μ'
def dsWhile {M : Type} (c : DTT0 M) (tb : DTS0 M) : DTS0 M := fun B ρ μ => ∃ n, whileD c tb B n ρ μ
/-- the owner's list grows -/
def dsApp {M : Type} (i : Nat) (te : DT0 M) : DTS0 M := fun B ρ μ => ∃ xs, ρ[i]? = some (.own xs) ∧ te ρ μ (fun d μ' => sta d = true ∧ xs.length < sizeLine ∧ B.nx (ρ.set i (.own (xs ++ [d]))) μ') fun x μ' => B.ex x ρ μ'
def dsExt {M : Type} (i : Nat) (te : DT0 M) : DTS0 M := fun B ρ μ => ∃ xs, ρ[i]? = some (.own xs) ∧ te ρ μ (fun d μ' => ∃ ys, d = .lst ys ∧ staL ys = true ∧ xs.length + ys.length ≤ sizeLine ∧ B.nx (ρ.set i (.own (xs ++ ys))) μ') fun x μ' => B.ex x ρ μ'
/-- x[k] = e, x an owner -/
def dsSet {M : Type} (i : Nat) (tk te : DT0 M) : DTS0 M := fun B ρ μ => ∃ xs, ρ[i]? = some (.own xs) ∧ te ρ μ (fun d μ' => sta d = true ∧ tk ρ μ' (fun y μ2 => ∃ k j, y = .int k ∧ ixN xs.length k = some j ∧ B.nx (ρ.set i (.own (xs.set j d))) μ2) fun x μ2 => B.ex x ρ μ2) fun x μ' => B.ex x ρ μ'
def wipeR (ρ : Rho) : List Nat → Rho
  | [] => ρ
  | v :: vs => (wipeR ρ vs).set v .un
def compD {M : Type} (g : DG) (tt : DTT0 M) (te : DT0 M) (R : List D → M → Prop) (E : Xc → M → Prop) (ρ : Rho) : List D → List D → M → Prop
  | [], acc, μ => R acc μ
  | d :: ds, acc, μ => g d ρ fun ρ' => tt ρ' μ (fun b μ' => if b = true then te ρ' μ' (fun y μ2 => sta y = true ∧ acc.length < sizeLine ∧ compD g tt te R E ρ ds (acc ++ [y]) μ2) (fun _ _ => False) else compD g tt te R E ρ ds acc μ') fun _ _ => False
def dComp {M : Type} (ti : DTA0 M) (g : DG) (tt : DTT0 M) (te : DT0 M) (vs : List Nat) : DTA0 M := fun ρ μ R E => ti ρ μ (fun ds μ' => compD g tt te R E (wipeR ρ vs) ds [] μ') E
def dYes {M : Type} : DTT0 M := fun _ μ R _ => R true μ
end

/-! ### slots stored -/
section
variable {K : PySem.W.Frag} {Z : Wld} {B : Hp} {μ : Z.M} {S H : Hp} {ρ : Rho} {σ : L2.St}
theorem EnvR.put (h : EnvR K Z B μ S H ρ σ) {i : Nat} {d : D} {v : V} (t : sta d = true) (r : Rd K (fb Z B μ) S H d v) : EnvR K Z B μ S H (ρ.set i (.val d)) (σ.set i (some v)) := by
  refine ⟨by rw [List.length_set, List.length_set, h.len], fun j s e => ?_, fun j k xs ys a e1 e2 e3 e4 => ?_, h.dom⟩
  · by_cases hj : i = j
    · subst hj
      have hi : i < ρ.length := by
        have := (List.getElem?_eq_some_iff.mp e).1
        rwa [List.length_set] at this
      rw [List.getElem?_set_self hi] at e
      cases e
      exact ⟨_, List.getElem?_set_self (by rw [h.len]; exact hi), v, rfl, t, r⟩
    · rw [List.getElem?_set_ne hj] at e ⊢
      exact h.get j s e
  · have own : ∀ {m : Nat} {zs : List D}, (ρ.set i (.val d))[m]? = some (.own zs) → i ≠ m ∧ ρ[m]? = some (.own zs) := fun {m zs} e => by
      by_cases hm : i = m
      · subst hm
        have hi : i < ρ.length := by
          have := (List.getElem?_eq_some_iff.mp e).1
          rwa [List.length_set] at this
        rw [List.getElem?_set_self hi] at e
        cases e
      · rw [List.getElem?_set_ne hm] at e
        exact ⟨hm, e⟩
    obtain ⟨n1, q1⟩ := own e1
    obtain ⟨n2, q2⟩ := own e2
    rw [List.getElem?_set_ne n1] at e3
    rw [List.getElem?_set_ne n2] at e4
    exact h.apart j k xs ys a q1 q2 e3 e4
/-- any slot but an owner's -/
theorem EnvR.putS (h : EnvR K Z B μ S H ρ σ) {i : Nat} {s : Slot} {o : Option V} (hs : SlotR K Z B μ S H s o) (no : ∀ xs, s ≠ .own xs) : EnvR K Z B μ S H (ρ.set i s) (σ.set i o) := by
  have inb : ∀ {m : Nat} {s' : Slot}, i = m → (ρ.set i s)[m]? = some s' → s' = s ∧ (σ.set i o)[m]? = some o := fun {m s'} e q => by
    subst e
    have hi : i < ρ.length := by
      have := (List.getElem?_eq_some_iff.mp q).1
      rwa [List.length_set] at this
    rw [List.getElem?_set_self hi] at q
    cases q
    exact ⟨rfl, List.getElem?_set_self (by rw [h.len]; exact hi)⟩
  refine ⟨by rw [List.length_set, List.length_set, h.len], fun j s' e => ?_, fun j k xs ys a e1 e2 e3 e4 => ?_, h.dom⟩
  · by_cases hj : i = j
    · obtain ⟨rfl, q⟩ := inb hj e
      exact ⟨o, q, hs⟩
    · rw [List.getElem?_set_ne hj] at e ⊢
      exact h.get j s' e
  · by_cases hj : i = j
    · exact absurd (inb hj e1).1.symm (no xs)
    · by_cases hk : i = k
      · exact absurd (inb hk e2).1.symm (no ys)
      · rw [List.getElem?_set_ne hj] at e1 e3
        rw [List.getElem?_set_ne hk] at e2 e4
        exact h.apart j k xs ys a e1 e2 e3 e4
theorem EnvR.putExc (h : EnvR K Z B μ S H ρ σ) {i : Nat} {a : Addr} {cls : Value} {d : Option Addr} {y : Xc} {v : V} (hs : SlotR K Z B μ S H (.exc a cls d y) (some v)) : EnvR K Z B μ S H (ρ.set i (.exc a cls d y)) (σ.set i (some v)) :=
  h.putS hs fun xs z => by cases z
/-- a new owner: its list stands where no owner's does -/
theorem EnvR.putOwn (h : EnvR K Z B μ S H ρ σ) {i : Nat} {ds : List D} {a : Addr} {vs : List V} (e : H a = some (.lst vs)) (n : S a = none) (nf : ¬ fb Z B μ a) (t : staL ds = true) (r : RdL K (fb Z B μ) S H ds vs)
    (apart : ∀ (j : Nat) (xs : List D), ρ[j]? = some (.own xs) → σ[j]? ≠ some (some (.ref a))) : EnvR K Z B μ S H (ρ.set i (.own ds)) (σ.set i (some (.ref a))) := by
  refine ⟨by rw [List.length_set, List.length_set, h.len], fun j s e' => ?_, fun j k xs ys b e1 e2 e3 e4 => ?_, h.dom⟩
  · by_cases hj : i = j
    · subst hj
      have hi : i < ρ.length := by
        have := (List.getElem?_eq_some_iff.mp e').1
        rwa [List.length_set] at this
      rw [List.getElem?_set_self hi] at e'
      cases e'
      exact ⟨_, List.getElem?_set_self (by rw [h.len]; exact hi), a, vs, rfl, e, n, nf, t, r⟩
    · rw [List.getElem?_set_ne hj] at e' ⊢
      exact h.get j s e'
  · by_cases hj : i = j
    · by_cases hk : i = k
      · rw [← hj, ← hk]
      · subst hj
        rw [List.getElem?_set_ne hk] at e2 e4
        have hi : i < σ.length := by
          have := (List.getElem?_eq_some_iff.mp e3).1
          rwa [List.length_set] at this
        rw [List.getElem?_set_self hi] at e3
        cases e3
        exact absurd e4 (apart k ys e2)
    · rw [List.getElem?_set_ne hj] at e1 e3
      by_cases hk : i = k
      · subst hk
        have hi : i < σ.length := by
          have := (List.getElem?_eq_some_iff.mp e4).1
          rwa [List.length_set] at this
        rw [List.getElem?_set_self hi] at e4
        cases e4
        exact absurd e3 (apart j xs e1)
      · rw [List.getElem?_set_ne hk] at e2 e4
        exact h.apart j k xs ys b e1 e2 e3 e4
/-- the heap changes at an owner's list alone -/
theorem EnvR.grow (h : EnvR K Z B μ S H ρ σ) {i : Nat} {xs ys : List D} {a : Addr} {vs ws : List V} (hi : ρ[i]? = some (.own xs)) (hs : σ[i]? = some (some (.ref a))) (e : H a = some (.lst vs)) (n : S a = none) (nf : ¬ fb Z B μ a)
    (t : staL ys = true) (r : RdL K (fb Z B μ) S H ys ws) : EnvR K Z B μ S (upd H a (.lst ws)) (ρ.set i (.own ys)) σ := by
  have hiρ := (List.getElem?_eq_some_iff.mp hi).1
  have stab : ∀ {d : D} {v : V}, DL.sta d = true → Rd K (fb Z B μ) S H d v → Rd K (fb Z B μ) S (upd H a (.lst ws)) d v := fun t r => r.sta (Same.refl S) _ _ t
  refine ⟨by rw [List.length_set, h.len], fun j s e' => ?_, fun j k xs' ys' b e1 e2 e3 e4 => ?_, fun b q => ?_⟩
  · by_cases hj : i = j
    · subst hj
      rw [List.getElem?_set_self hiρ] at e'
      cases e'
      exact ⟨_, hs, a, ws, rfl, upd_same, n, nf, t, RdL.sta (Same.refl S) _ _ t r⟩
    · rw [List.getElem?_set_ne hj] at e'
      obtain ⟨o, q1, q2⟩ := h.get j s e'
      refine ⟨o, q1, ?_⟩
      cases s with
      | un => trivial
      | val d =>
        obtain ⟨v, z1, z2, z3⟩ := q2
        exact ⟨v, z1, z2, stab z2 z3⟩
      | own zs =>
        obtain ⟨b, us, z1, z2, z3, z4, z5, z6⟩ := q2
        have hb : b ≠ a := fun z => by
          subst z
          subst z1
          exact hj (h.apart i j xs zs b hi e' hs q1)
        exact ⟨b, us, z1, by rw [upd_ne hb]; exact z2, z3, z4, z5, RdL.sta (Same.refl S) _ _ z5 z6⟩
      | exc b cls dd y =>
        obtain ⟨z1, z2, z3⟩ := q2
        refine ⟨z1, z2, z3.imp id ?_⟩
        rintro ⟨d2, us, q1', q2', q3', q4'⟩
        exact ⟨d2, us, q1', by rw [upd_ne (ne_of_none q3' n)]; exact q2', q3', q4'.sta⟩
  · have own : ∀ {m : Nat} {zs : List D}, (ρ.set i (.own ys))[m]? = some (.own zs) → ∃ zs', ρ[m]? = some (.own zs') := fun {m zs} e => by
      by_cases hm : i = m
      · subst hm; exact ⟨xs, hi⟩
      · rw [List.getElem?_set_ne hm] at e
        exact ⟨zs, e⟩
    obtain ⟨z1, q1⟩ := own e1
    obtain ⟨z2, q2⟩ := own e2
    exact h.apart j k z1 z2 b q1 q2 e3 e4
  · by_cases hb : b = a
    · subst hb; rw [Fr, upd_same] at q; exact (show False by rcases q with q | ⟨_, q⟩ <;> cases q).elim
    · rw [Fr, upd_ne hb] at q; exact h.dom b q
theorem EnvR.wipe (h : EnvR K Z B μ S H ρ σ) : ∀ vs : List Nat, EnvR K Z B μ S H (wipeR ρ vs) (L2.wipe σ vs)
  | [] => h
  | v :: vs => by
    have ih := EnvR.wipe h vs
    unfold wipeR L2.wipe
    refine ⟨by rw [List.length_set, List.length_set, ih.len], fun j s e => ?_, fun j k xs ys a e1 e2 e3 e4 => ?_, ih.dom⟩
    · by_cases hj : v = j
      · subst hj
        have hi : v < (wipeR ρ vs).length := by
          have := (List.getElem?_eq_some_iff.mp e).1
          rwa [List.length_set] at this
        rw [List.getElem?_set_self hi] at e
        cases e
        exact ⟨_, List.getElem?_set_self (by rw [ih.len]; exact hi), trivial⟩
      · rw [List.getElem?_set_ne hj] at e ⊢
        exact ih.get j s e
    · have own : ∀ {m : Nat} {zs : List D}, ((wipeR ρ vs).set v .un)[m]? = some (.own zs) → v ≠ m ∧ (wipeR ρ vs)[m]? = some (.own zs) := fun {m zs} e => by
        by_cases hm : v = m
        · subst hm
          have hi : v < (wipeR ρ vs).length := by
            have := (List.getElem?_eq_some_iff.mp e).1
            rwa [List.length_set] at this
          rw [List.getElem?_set_self hi] at e
          cases e
        · rw [List.getElem?_set_ne hm] at e
          exact ⟨hm, e⟩
      obtain ⟨n1, q1⟩ := own e1
      obtain ⟨n2, q2⟩ := own e2
      rw [List.getElem?_set_ne n1] at e3
      rw [List.getElem?_set_ne n2] at e4
      exact ih.apart j k xs ys a q1 q2 e3 e4
end
end DL
/-! text DLd -/
/-! DL, fourth part: the rules of statements, loops, comprehensions. -/
namespace DL
open PySem PySem.Spec PyProof.Rows L2
section
variable {Z : Wld} {F : Fm} {W : WX} {e a b c : Expr} {es rest : List Expr} {ta tb tc te : DT Z} {tA tR : DTA Z} {tt : DTT Z} {t u : DTS Z} {pos : Pos} {st : Stmt} {sts : List Stmt} {g : DG} {ix : List Nat}
theorem dss_nil : DSs Z F W [] dsNext := ⟨_, fun _ => pss_nil, fun μ0 S0 H0 ρ σ μ S H B L r h k => k.nx _ _ _ _ _ r (Same.refl _) h⟩
theorem dss_cons (h1 : DS Z F W st t) (h2 : DSs Z F W sts u) : DSs Z F W (st :: sts) (dsSeq t u) := by
  obtain ⟨t1, p1, h1⟩ := h1
  obtain ⟨t2, p2, h2⟩ := h2
  refine ⟨_, fun i => pss_cons (p1 i) (p2 i), fun μ0 S0 H0 ρ σ μ S H B L r h k => ?_⟩
  exact h1 μ0 S0 H0 ρ σ μ S H _ _ r h (k.with fun ρ' σ' μ' S' H' r' s' h' => h2 μ0 S0 H0 ρ' σ' μ' S' H' _ _ r' h' (k.same s'))
theorem dss_one (h1 : DS Z F W st t) : DSs Z F W [st] t := let ⟨t1, p1, h1⟩ := h1; ⟨_, fun i => pss_one (p1 i), h1⟩
theorem ds_pass : DS Z F W (.Pass pos) dsNext := ⟨_, fun _ => ps_pass, fun μ0 S0 H0 ρ σ μ S H B L r h k => k.nx _ _ _ _ _ r (Same.refl _) h⟩
theorem ds_break : DS Z F W (.Break pos) dsBreak := ⟨_, fun _ => ps_break, fun μ0 S0 H0 ρ σ μ S H B L r h k => k.bk _ _ _ _ _ r (Same.refl _) h⟩
theorem ds_cont : DS Z F W (.Continue pos) dsCont := ⟨_, fun _ => ps_continue, fun μ0 S0 H0 ρ σ μ S H B L r h k => k.ct _ _ _ _ _ r (Same.refl _) h⟩
theorem ds_expr (h : DE Z F W e ta) (hs : ∀ i, swapsWith e none pos.line (F.X i).env = pure false := by intro _; rfl) : DS Z F W (.Expr e pos) (dsDrop ta) := by
  obtain ⟨te, p, h⟩ := h
  refine ⟨_, fun i => ps_expr (p i) (hs i), fun μ0 S0 H0 ρ σ μ S H B L r ht k => ?_⟩
  exact h H0 ρ σ μ S H _ _ _ r.env r.ok ht (k.wish r) fun v d μ' S' H' x _ hd => k.nx _ _ _ _ _ (r.up x) x.same hd
theorem ds_ret (h : DE Z F W e ta) : DS Z F W (.Return (some e) pos) (dsRet ta) := by
  obtain ⟨te, p, h⟩ := h
  refine ⟨_, fun i => ps_ret (p i), fun μ0 S0 H0 ρ σ μ S H B L r ht k => ?_⟩
  exact h H0 ρ σ μ S H _ _ _ r.env r.ok ht (k.wish r) fun v d μ' S' H' x rd hd => k.rt v d μ' S' H' (r.ext.trans x) hd.1 rd hd.2
theorem Ext.frzAll {μ0 μ : Z.M} {S0 H0 S H : Hp} (x : Ext Z μ0 S0 H0 μ S H) : Ext Z μ0 S0 H0 μ (DL.frz Z H0 μ S H) H := by
  refine ⟨frz_ok x.ok, x.keep, x.same.trans frz_same, fun a q => ?_, x.reg, x.there⟩
  rcases frz_or (Z := Z) (B := H0) (μ := μ) (S := S) (H := H) a with z | ⟨n, _⟩
  · rw [z] at q; exact x.new a q
  · refine .inr ?_
    exact Classical.byContradiction fun w => n (.inr w)
theorem ds_retF (h : DE Z F W e ta) : DS Z F W (.Return (some e) pos) (dsRetF ta) := by
  obtain ⟨te, p, h⟩ := h
  refine ⟨_, fun i => ps_ret (p i), fun μ0 S0 H0 ρ σ μ S H B L r ht k => ?_⟩
  refine h H0 ρ σ μ S H _ _ _ r.env r.ok ht (k.wish r) fun v d μ' S' H' x rd hd => ?_
  have x2 := r.ext.trans x
  exact k.rt v (fr d) μ' _ H' x2.frzAll (sta_fr d) (rd.frz x2.ok) hd
theorem ds_retN : DS Z F W (.Return none pos) dsRetN := ⟨_, fun _ => ps_retN, fun μ0 S0 H0 ρ σ μ S H B L r h k => k.rt .non .non μ S H r.ext rfl rfl h⟩
theorem ds_if {x y : List Stmt} (hc : DB Z F W c tt) (ha : DSs Z F W x t) (hb : DSs Z F W y u) : DS Z F W (.If c x y pos) (dsIf tt t u) := by
  obtain ⟨tc, pc, hc⟩ := hc
  obtain ⟨t1, p1, ha⟩ := ha
  obtain ⟨t2, p2, hb⟩ := hb
  refine ⟨_, fun i => ps_if (pc i) (p1 i) (p2 i), fun μ0 S0 H0 ρ σ μ S H B L r ht k => ?_⟩
  refine hc H0 ρ σ μ S H _ _ _ r.env r.ok ht (k.wish r) fun v μ' S' H' x h => ?_
  cases v with
  | true => exact ha μ0 S0 H0 ρ σ μ' S' H' B L (r.up x) h (k.same x.same)
  | false => exact hb μ0 S0 H0 ρ σ μ' S' H' B L (r.up x) h (k.same x.same)
theorem ds_asg {tg : Expr} (h : DE Z F W e ta) (hg : DGJ Z F tg ix g) (hs : ∀ i, swapsWithSole [tg] e pos.line (F.X i).env = pure false := by intro _; rfl) (hw : ∀ i, swappedStores [tg] e (F.X i).env = pure none := by intro _; rfl) (h1 : ∀ i, (assignEach [tg] (F.X i).env).map (·.2) = [assign tg (F.X i).env] := by intro _; rfl) :
    DS Z F W (.Assign [tg] e pos) (dsAsg ta g) := by
  obtain ⟨te, p, h⟩ := h
  obtain ⟨tg', pg, hg⟩ := hg
  refine ⟨_, fun i => ps_asg (p i) (pg i) (hs i) (hw i) (h1 i), fun μ0 S0 H0 ρ σ μ S H B L r ht k => ?_⟩
  refine h H0 ρ σ μ S H _ _ _ r.env r.ok ht (k.wish r) fun v d μ' S' H' x rd hd => ?_
  exact hg H0 d v ρ σ μ' S' H' _ _ (r.env.ext x) x.ok rd hd fun ρ' σ' env' h' _ => k.nx _ _ _ _ _ ⟨env', r.ext.trans x⟩ x.same h'
theorem ds_set {i : Nat} {x : Str} {pos' : Pos} (h : DE Z F W e ta) (hN : ∀ j, (F.X j).N.Nodup) (hi : ∀ j, (F.X j).N[i]? = some x) (hx : ∀ j, Loc (F.X j).env.scope x)
    (hs : ∀ j, swapsWith e (some (.Name x pos')) pos.line (F.X j).env = pure false := by intro _; rfl) (hf : ∀ j, (F.X j).fn x = true ∨ (F.X j).env.scope.names.lookup x = some .local := by first | exact fun _ => .inl rfl | exact fun _ => .inr rfl) :
    DS Z F W (.Assign [.Name x pos'] e pos) (dsAsg ta (dName i)) := by
  obtain ⟨te, p, h⟩ := h
  refine ⟨_, fun j => ps_set (hN j) (hi j) (hx j) (p j) (hs j) (hf j), fun μ0 S0 H0 ρ σ μ S H B L r ht k => ?_⟩
  refine h H0 ρ σ μ S H _ _ _ r.env r.ok ht (k.wish r) fun v d μ' S' H' x rd hd => ?_
  exact k.nx _ _ _ _ _ ⟨(r.env.ext x).put hd.1 rd, r.ext.trans x⟩ x.same hd.2
theorem ds_own {i : Nat} {x : Str} {pos' : Pos} (h : DF Z F W e tA) (hN : ∀ j, (F.X j).N.Nodup) (hi : ∀ j, (F.X j).N[i]? = some x) (hx : ∀ j, Loc (F.X j).env.scope x)
    (hs : ∀ j, swapsWith e (some (.Name x pos')) pos.line (F.X j).env = pure false := by intro _; rfl) (hf : ∀ j, (F.X j).fn x = true ∨ (F.X j).env.scope.names.lookup x = some .local := by first | exact fun _ => .inl rfl | exact fun _ => .inr rfl) :
    DS Z F W (.Assign [.Name x pos'] e pos) (dsOwn i tA) := by
  obtain ⟨te, p, h⟩ := h
  refine ⟨_, fun j => ps_set (hN j) (hi j) (hx j) (p j) (hs j) (hf j), fun μ0 S0 H0 ρ σ μ S H B L r ht k => ?_⟩
  refine h H0 ρ σ μ S H _ _ _ r.env r.ok ht (k.wish r) fun a vs ds μ' S' H' x n e1 s1 f1 rd hd => ?_
  refine k.nx _ _ _ _ _ ⟨(r.env.ext x).putOwn e1 s1 f1 hd.1 rd fun j xs q1 q2 => ?_, r.ext.trans x⟩ x.same hd.2
  obtain ⟨o, z1, z2⟩ := r.env.get j _ q1
  rw [q2] at z1
  cases z1
  obtain ⟨a', vs', z3, z4, _⟩ := z2
  cases z3
  exact n.nt z4
/-! ### targets -/
theorem wipe_set {σ : L2.St} {i : Nat} {v : Option V} : ∀ {vs : List Nat}, i ∈ vs → wipe (σ.set i v) vs = wipe σ vs
  | [], h => by cases h
  | j :: vs, h => by
    unfold wipe
    by_cases hm : i ∈ vs
    · rw [wipe_set hm]
    · have e : i = j := by
        rcases List.mem_cons.mp h with z | z
        · exact z
        · exact absurd z hm
      subst e
      have : ∀ (ws : List Nat), i ∉ ws → ∀ τ : L2.St, wipe (τ.set i v) ws = (wipe τ ws).set i v := by
        intro ws
        induction ws with
        | nil => intro _ τ; rfl
        | cons w ws ih =>
          intro hw τ
          unfold wipe
          rw [ih (fun z => hw (List.mem_cons_of_mem _ z))]
          rw [List.set_comm _ _ (fun z => hw (by rw [z]; exact List.mem_cons_self))]
      rw [this vs hm, List.set_set]
theorem dg_name {i : Nat} {x : Str} (hN : ∀ j, (F.X j).N.Nodup) (hi : ∀ j, (F.X j).N[i]? = some x) (hx : ∀ j, Loc (F.X j).env.scope x)
    (hf : ∀ j, (F.X j).fn x = true ∨ (F.X j).env.scope.names.lookup x = some .local := by first | exact fun _ => .inl rfl | exact fun _ => .inr rfl) : DGJ Z F (.Name x pos) [i] (dName i) := by
  refine ⟨_, fun j => pg_name (hN j) (hi j) (hx j) (hf j), fun B d v ρ σ μ S H R Q env ok rd h k => ?_⟩
  exact k _ _ (env.put h.1 rd) h.2 fun vs hv => wipe_set (hv i (by simp))
theorem dgs_nil : DGJs Z F [] [] dgNil := ⟨_, fun _ => pgs_nil, fun B d v ρ σ μ S H R Q env ok rd h k => by
  obtain ⟨rfl, h⟩ := h
  cases rd
  exact ⟨rfl, k ρ σ env h fun _ _ => rfl⟩⟩
theorem dgs_cons {iy : List Nat} {v : DGs} (h1 : DGJ Z F e ix g) (h2 : DGJs Z F es iy v) (hs : ∀ i, (assignEach (e :: es) (F.X i).env).map (·.2) = assign e (F.X i).env :: (assignEach es (F.X i).env).map (·.2) := by intro _; rfl) : DGJs Z F (e :: es) (ix ++ iy) (dgCons g v) := by
  obtain ⟨t1, p1, h1⟩ := h1
  obtain ⟨t2, p2, h2⟩ := h2
  refine ⟨_, fun i => pgs_cons (p1 i) (p2 i) (hs i), fun B d w ρ σ μ S H R Q env ok rd h k => ?_⟩
  obtain ⟨d0, r0, rfl, h⟩ := h
  obtain ⟨v0, vr, rfl, rd1, rd2⟩ := rd
  refine ⟨v0, vr, rfl, h1 B d0 v0 ρ σ μ S H _ _ env ok rd1 h fun ρ' σ' env' h' w' => ?_⟩
  exact h2 B r0 vr ρ' σ' μ S H _ _ env' ok rd2 h' fun ρ2 σ2 env2 h2 w2 => k ρ2 σ2 env2 h2 fun vs hv => (w2 vs fun i hi => hv i (List.mem_append_right _ hi)).trans (w' vs fun i hi => hv i (List.mem_append_left _ hi))
theorem pg_or {X : Cx} {tg : Expr} {a b : TG} (p : PG X tg a) (q : PG X tg b) : PG X tg (fun v σ H Q => a v σ H Q ∨ b v σ H Q) :=
  ⟨fun pins s σ H v u Q I r h => h.elim (fun h => p.run pins s σ H v u Q I r h) fun h => q.run pins s σ H v u Q I r h⟩
theorem dg_tup {k n : Nat} {v : DGs} (hc : ∀ i, (F.X i).calm = true) (h : DGJs Z F es ix v)
    (hn : ∀ i, (assignEach es (F.X i).env).length = n := by intro _; rfl) (hst : ∀ i, (assignEach es (F.X i).env).findIdx? (·.1) = none := by intro _; rfl) : DGJ Z F (.Tuple es k pos) ix (dgTup n v) := by
  obtain ⟨t1, p1, h1⟩ := h
  refine ⟨fun v σ H Q => gTup F.K n t1 v σ H Q ∨ gLst F.K n t1 v σ H Q, fun i => by rw [← F.hK i]; exact pg_or (pg_tup (hc i) (p1 i) (hn i) (hst i)) (pg_lst (hc i) (p1 i) (hn i) (hst i)), fun B d w ρ σ μ S H R Q env ok rd h k => ?_⟩
  obtain ⟨ds, e, hl, h⟩ := h
  rcases e with rfl | rfl
  · obtain ⟨a, vs, rfl, h2, h3⟩ := rd
    exact .inl ⟨a, vs, rfl, seqT_mono ok.sub h2, by rw [h3.length]; exact hl, h1 B ds vs ρ σ μ S H _ _ env ok h3 h k⟩
  · obtain ⟨a, vs, rfl, h2, h3⟩ := rd
    exact .inr ⟨a, vs, rfl, SqL.of (ok.sub _ _ h2), by rw [h3.length]; exact hl, h1 B ds vs ρ σ μ S H _ _ env ok h3 h k⟩
/-- x op= e -/
def IpD (Z : Wld) (F : Fm) (op : Operator) (sm : Sm2) : Prop := ∃ r : TIp, (∀ i, PIp (F.X i) op r) ∧
  ∀ (rg : Addr → Prop) (μ : Z.M) (S H : Hp) (a b : D) (x y : V) (R : D → Prop) (Q : VK), Ok Z μ S H → Rd F.K rg S H a x → Rd F.K rg S H b y → sm a b R →
    (∀ (v : V) (d : D), Rd F.K rg S H d v → R d → Q v H) → r x y H Q
theorem ip_int {op : Operator} {f : Int → Int → Int} (h : ∀ i, PIp (F.X i) op (ipI f)) : IpD Z F op (fun a b R => ∃ i j, a = .int i ∧ b = .int j ∧ R (.int (f i j))) := by
  refine ⟨_, h, fun rg μ S H a b x y R Q ok ra rb hs k => ?_⟩
  obtain ⟨i, j, rfl, rfl, hs⟩ := hs
  exact ⟨i, j, ra, rb, k _ (.int (f i j)) rfl hs⟩
def smAddI : Sm2 := fun a b R => ∃ i j, a = .int i ∧ b = .int j ∧ R (.int (i + j))
def smSubI : Sm2 := fun a b R => ∃ i j, a = .int i ∧ b = .int j ∧ R (.int (i - j))
theorem ipd_add : IpD Z F .Add smAddI := ip_int fun _ => ip_add
theorem ipd_sub : IpD Z F .Sub smSubI := ip_int fun _ => ip_sub
theorem ds_aug {i : Nat} {x : Str} {op : Operator} {sm : Sm2} {pos' : Pos} (h : DE Z F W e ta) (ho : IpD Z F op sm) (hN : ∀ j, (F.X j).N.Nodup) (hi : ∀ j, (F.X j).N[i]? = some x) (hx : ∀ j, Loc (F.X j).env.scope x)
    (hf : ∀ j, (F.X j).fn x = true ∨ (F.X j).env.scope.names.lookup x = some .local := by first | exact fun _ => .inl rfl | exact fun _ => .inr rfl) :
    DS Z F W (.AugAssign (.Name x pos') op e pos) (dsAug i ta sm) := by
  obtain ⟨te, p, h⟩ := h
  obtain ⟨r, pr, hr⟩ := ho
  refine ⟨_, fun j => ps_aug (hN j) (hi j) (hx j) (p j) (pr j) (hf j), fun μ0 S0 H0 ρ σ μ S H B L rn ht k => ?_⟩
  obtain ⟨d, hd, ht⟩ := ht
  obtain ⟨o, z1, z2⟩ := rn.env.get i _ hd
  obtain ⟨v0, rfl, st0, rd0⟩ := z2
  refine ⟨v0, z1, h H0 ρ σ μ S H _ _ _ rn.env rn.ok ht (k.wish rn) fun v y μ' S' H' x rd hy => ?_⟩
  exact hr _ μ' S' H' d y v0 v _ _ x.ok (rd0.ext x) rd hy fun v2 z r2 h2 => k.nx _ _ _ _ _ ⟨(rn.env.ext x).put h2.1 r2, rn.ext.trans x⟩ x.same h2.2

/-! ### loops -/
theorem ds_for {tg iter : Expr} {body : List Stmt} (hp : ∀ i, PassesOwn (model (F.X i).prog (F.X i).w) (F.X i).A (F.X i).env (F.X i).xe) (hc : ∀ i, (F.X i).calm = true) (hi : DI Z F W tg iter tA) (hg : DGJ Z F tg ix g) (hb : DSs Z F W body t)
    (hs : ∀ i x, foldedSetIterable iter (F.X i).env x = pure x := by intro _ _; rfl) : DS Z F W (.For tg iter body [] pos) (dsFor tA g t) := by
  obtain ⟨wi, pi, hi⟩ := hi
  obtain ⟨tg', pg, hg⟩ := hg
  obtain ⟨tb, pb, hb⟩ := hb
  refine ⟨_, fun i => ps_for (hp i) (hc i) (pi i) (pg i) (pb i) (hs i), fun μ0 S0 H0 ρ σ μ S H B L r ht k => ?_⟩
  refine hi H0 ρ σ μ S H _ _ _ r.env r.ok ht (k.wish r) fun J ds μ1 S1 H1 x1 hw h1 => ?_
  refine ⟨fun i m σ' H' => m = ds.length - i ∧ i ≤ ds.length ∧ ∃ ρ' μ' S', Run F Z μ0 S0 H0 ρ' σ' μ' S' H' ∧ Same S1 S' ∧ loopD g t B (ds.drop i) ρ' μ', ⟨ds.length, by simp, Nat.zero_le _, ρ, μ1, S1, r.up x1, Same.refl _, h1⟩, ?_⟩
  rintro i m σ' H' ⟨rfl, hi', ρ', μ', S', r', s', h'⟩
  obtain ⟨w1, w2, w3⟩ := hw μ' S' H' r'.ok s' i
  by_cases hlt : i < ds.length
  · have hd : ds.drop i = ds[i] :: ds.drop (i + 1) := List.drop_eq_getElem_cons hlt
    rw [hd] at h'
    refine .inr ⟨w1 hlt, fun σ2 H2 => ∃ ρ2 μ2 S2, Run F Z μ0 S0 H0 ρ2 σ2 μ2 S2 H2 ∧ Same S1 S2 ∧ loopD g t B (ds.drop (i + 1)) ρ2 μ2, fun σ2 H2 q => ⟨ds.length - (i + 1), by omega, rfl, hlt, q⟩, fun x H2 y => ?_⟩
    obtain ⟨S2, x2, rd⟩ := w3 x H2 ds[i] (List.getElem?_eq_getElem hlt) y
    refine hg H0 ds[i] x ρ' σ' μ' S2 H2 _ _ (r'.env.ext x2) x2.ok rd h' fun ρ2 σ2 env2 h2 _ => ?_
    have s2 : Same S1 S2 := s'.trans x2.same
    have sS : Same S S2 := x1.same.trans s2
    refine hb μ0 S0 H0 ρ2 σ2 μ' S2 H2 _ _ ⟨env2, r'.ext.trans x2⟩ h2 ⟨fun ρ3 σ3 μ3 S3 H3 r3 s3 h3 => ⟨ρ3, μ3, S3, r3, s2.trans s3, h3⟩, fun ρ3 σ3 μ3 S3 H3 r3 s3 h3 => k.nx _ _ _ _ _ r3 (sS.trans s3) h3, fun ρ3 σ3 μ3 S3 H3 r3 s3 h3 => ⟨ρ3, μ3, S3, r3, s2.trans s3, h3⟩, k.rt, fun y ρ3 σ3 μ3 S3 H3 cls dd r3 s3 q3 h3 => k.ex y ρ3 σ3 μ3 S3 H3 cls dd r3 (sS.trans s3) q3 h3⟩
  · have e : i = ds.length := by omega
    subst e
    rw [List.drop_length] at h'
    exact .inl ⟨w2 rfl, k.nx _ _ _ _ _ r' (x1.same.trans s') h'⟩
theorem ds_while {body : List Stmt} (hp : ∀ i, PassesOwn (model (F.X i).prog (F.X i).w) (F.X i).A (F.X i).env (F.X i).xe) (hc : DB Z F W c tt) (hb : DSs Z F W body t) : DS Z F W (.While c body [] pos) (dsWhile tt t) := by
  obtain ⟨tc, pc, hc⟩ := hc
  obtain ⟨tb, pb, hb⟩ := hb
  refine ⟨_, fun i => ps_while (hp i) (pc i) (pb i), fun μ0 S0 H0 ρ σ μ S H B L r ht k => ?_⟩
  obtain ⟨n, ht⟩ := ht
  refine ⟨fun m σ' H' => ∃ ρ' μ' S', Run F Z μ0 S0 H0 ρ' σ' μ' S' H' ∧ Same S S' ∧ whileD tt t B m ρ' μ', ⟨n, ρ, μ, S, r, Same.refl _, ht⟩, ?_⟩
  rintro m σ' H' ⟨ρ', μ', S', r', s', h'⟩
  cases m with
  | zero => exact h'.elim
  | succ m =>
    refine hc H0 ρ' σ' μ' S' H' _ _ _ r'.env r'.ok h' ((k.same s').wish r') fun v μ2 S2 H2 x2 h2 => ?_
    have s2 : Same S S2 := s'.trans x2.same
    cases v with
    | true =>
      rw [if_pos rfl]
      refine ⟨fun σ3 H3 => ∃ ρ3 μ3 S3, Run F Z μ0 S0 H0 ρ3 σ3 μ3 S3 H3 ∧ Same S S3 ∧ whileD tt t B m ρ3 μ3, fun σ3 H3 q => ⟨m, Nat.lt_succ_self m, q⟩, ?_⟩
      exact hb μ0 S0 H0 ρ' σ' μ2 S2 H2 _ _ (r'.up x2) h2 ⟨fun ρ3 σ3 μ3 S3 H3 r3 s3 h3 => ⟨ρ3, μ3, S3, r3, s2.trans s3, h3⟩, fun ρ3 σ3 μ3 S3 H3 r3 s3 h3 => k.nx _ _ _ _ _ r3 (s2.trans s3) h3, fun ρ3 σ3 μ3 S3 H3 r3 s3 h3 => ⟨ρ3, μ3, S3, r3, s2.trans s3, h3⟩, k.rt, fun y ρ3 σ3 μ3 S3 H3 cls dd r3 s3 q3 h3 => k.ex y ρ3 σ3 μ3 S3 H3 cls dd r3 (s2.trans s3) q3 h3⟩
    | false =>
      rw [if_neg Bool.false_ne_true]
      exact k.nx _ _ _ _ _ (r'.up x2) s2 h2

/-! ### what changes an owner's list -/
theorem Run.grow {μ0 μ : Z.M} {S0 H0 S H : Hp} {ρ : Rho} {σ : L2.St} {i : Nat} {xs ys : List D} {a : Addr} {vs ws : List V} (r : Run F Z μ0 S0 H0 ρ σ μ S H) (hi : ρ[i]? = some (.own xs)) (hs : σ[i]? = some (some (.ref a)))
    (e : H a = some (.lst vs)) (n : S a = none) (nf : ¬ fb Z H0 μ a) (t : staL ys = true) (rd : RdL F.K (fb Z H0 μ) S H ys ws) : Run F Z μ0 S0 H0 (ρ.set i (.own ys)) σ μ S (upd H a (.lst ws)) := by
  refine ⟨r.env.grow hi hs e n nf t rd, ?_⟩
  have x := r.ext
  have h0 : Fr H0 a := Classical.byContradiction fun w => nf (.inr w)
  refine ⟨⟨fun b o q => ?_, Z.loc x.ok.j (Same.refl S) fun b q => ?_, x.ok.off, x.ok.nt⟩, fun b o q1 nt q2 => ?_, x.same, x.new, x.reg, fun b q => ?_⟩
  · have hb : b ≠ a := fun z => by rw [z, n] at q; cases q
    rw [upd_ne hb]; exact x.ok.sub b o q
  · exact upd_ne fun z => nf (.inl (by rw [← z]; exact q))
  · have hb : b ≠ a := fun z => by rw [z] at q2; exact h0.nt q2 nt
    rw [upd_ne hb]; exact x.keep b o q1 nt q2
  · by_cases hb : b = a
    · rw [hb]; exact h0
    · rw [Fr, upd_ne hb] at q; exact x.there b q
theorem Run.owner {μ0 μ : Z.M} {S0 H0 S H : Hp} {ρ : Rho} {σ : L2.St} {i : Nat} {xs : List D} (r : Run F Z μ0 S0 H0 ρ σ μ S H) (hi : ρ[i]? = some (.own xs)) :
    ∃ a vs, σ[i]? = some (some (.ref a)) ∧ H a = some (.lst vs) ∧ S a = none ∧ ¬ fb Z H0 μ a ∧ staL xs = true ∧ RdL F.K (fb Z H0 μ) S H xs vs := by
  obtain ⟨o, z1, z2⟩ := r.env.get i _ hi
  obtain ⟨a, vs, rfl, h⟩ := z2
  exact ⟨a, vs, z1, h⟩
theorem ds_app {i : Nat} {x : Str} {p1 apos cpos : Pos} (ha : DE Z F W e ta) (hv : ∀ j, PE (F.X j) (.Name x p1) (tVar i))
    (hbase : ∀ j, attributeBase (.Name x p1) "append" (F.X j).env (eval (.Name x p1) (F.X j).env) = eval (.Name x p1) (F.X j).env := by intro _; rfl)
    (hfew : ∀ j, ((backTo cpos (starEach [e] (F.X j).env)).all (fun x => !x.1) && (backToKw cpos (keywordEach [] (F.X j).env)).all (fun x => x.1.isSome)
      && decide (([e] : List Expr).length + ([] : List Keyword).length + (if ([] : List Keyword).isEmpty then 0 else 1) < 30)) = true := by intro _; rfl)
    (hline : (apos.endLine == cpos.line) = true := by rfl) (hs1 : ∀ j, starEach [e] (F.X j).env = (false, eval e (F.X j).env) :: starEach [] (F.X j).env := by intro _; rfl)
    (hpl : ∀ j, (backTo cpos (starEach [] (F.X j).env)).any (·.1) = false := by intro _; rfl)
    (hs : ∀ j, swapsWith (.Call (.Attribute (.Name x p1) "append" apos) [e] [] cpos) none pos.line (F.X j).env = pure false := by intro _; rfl) :
    DS Z F W (.Expr (.Call (.Attribute (.Name x p1) "append" apos) [e] [] cpos) pos) (dsApp i ta) := by
  obtain ⟨te, p, ha⟩ := ha
  refine ⟨tDrop (tBM F.K "list" rAppend (tVar i) (tCons te tNil)), fun j => ?_, fun μ0 S0 H0 ρ σ μ S H B L r ht k => ?_⟩
  · rw [← F.hK j]
    exact ps_expr (pe_bm PySem.F.plainAttrs_list PySem.F.slot_list_append PySem.F.type_list_append mt_append (hv j) (pa_cons (p j) pa_nil (hs1 j)) (hbase j) (hfew j) hline (hs1 j) (hpl j)) (hs j)
  · obtain ⟨xs, hi, ht⟩ := ht
    obtain ⟨a, vs, e1, e2, _⟩ := r.owner hi
    refine ⟨_, e1, .inl ⟨rfl, _, SqL.of e2⟩, ?_⟩
    refine ha H0 ρ σ μ S H _ _ _ r.env r.ok ht (k.wish r) fun v d μ' S' H' x rd hd => ?_
    have r' := r.up x
    obtain ⟨a', vs', e1', e2', e3', e4', e5', e6'⟩ := r'.owner hi
    rw [e1] at e1'
    cases e1'
    refine ⟨a, vs', v, rfl, rfl, e2', by rw [e6'.length]; exact hd.2.1, ?_⟩
    exact k.nx _ _ _ _ _ (r'.grow hi e1 e2' e3' e4' (staL_append e5' (by simp [staL, hd.1])) (e6'.append (.one rd))) x.same hd.2.2
theorem ds_ext {i : Nat} {x : Str} {p1 apos cpos : Pos} (ha : DE Z F W e ta) (hv : ∀ j, PE (F.X j) (.Name x p1) (tVar i))
    (hbase : ∀ j, attributeBase (.Name x p1) "extend" (F.X j).env (eval (.Name x p1) (F.X j).env) = eval (.Name x p1) (F.X j).env := by intro _; rfl)
    (hfew : ∀ j, ((backTo cpos (starEach [e] (F.X j).env)).all (fun x => !x.1) && (backToKw cpos (keywordEach [] (F.X j).env)).all (fun x => x.1.isSome)
      && decide (([e] : List Expr).length + ([] : List Keyword).length + (if ([] : List Keyword).isEmpty then 0 else 1) < 30)) = true := by intro _; rfl)
    (hline : (apos.endLine == cpos.line) = true := by rfl) (hs1 : ∀ j, starEach [e] (F.X j).env = (false, eval e (F.X j).env) :: starEach [] (F.X j).env := by intro _; rfl)
    (hpl : ∀ j, (backTo cpos (starEach [] (F.X j).env)).any (·.1) = false := by intro _; rfl)
    (hs : ∀ j, swapsWith (.Call (.Attribute (.Name x p1) "extend" apos) [e] [] cpos) none pos.line (F.X j).env = pure false := by intro _; rfl) :
    DS Z F W (.Expr (.Call (.Attribute (.Name x p1) "extend" apos) [e] [] cpos) pos) (dsExt i ta) := by
  obtain ⟨te, p, ha⟩ := ha
  refine ⟨tDrop (tBM F.K "list" rExtend (tVar i) (tCons te tNil)), fun j => ?_, fun μ0 S0 H0 ρ σ μ S H B L r ht k => ?_⟩
  · rw [← F.hK j]
    exact ps_expr (pe_bm PySem.F.plainAttrs_list PySem.F.slot_list_extend PySem.F.type_list_extend mt_extend (hv j) (pa_cons (p j) pa_nil (hs1 j)) (hbase j) (hfew j) hline (hs1 j) (hpl j)) (hs j)
  · obtain ⟨xs, hi, ht⟩ := ht
    obtain ⟨a, vs, e1, e2, _⟩ := r.owner hi
    refine ⟨_, e1, .inl ⟨rfl, _, SqL.of e2⟩, ?_⟩
    refine ha H0 ρ σ μ S H _ _ _ r.env r.ok ht (k.wish r) fun v d μ' S' H' x rd hd => ?_
    obtain ⟨ys, rfl, hy, hz, hd⟩ := hd
    obtain ⟨b, ws, rfl, hb, hr⟩ := rd
    have r' := r.up x
    obtain ⟨a', vs', e1', e2', e3', e4', e5', e6'⟩ := r'.owner hi
    rw [e1] at e1'
    cases e1'
    refine ⟨a, b, vs', ws, rfl, rfl, e2', x.ok.sub _ _ hb, by rw [e6'.length, hr.length]; exact hz, ?_⟩
    exact k.nx _ _ _ _ _ (r'.grow hi e1 e2' e3' e4' (staL_append e5' hy) (e6'.append hr)) x.same hd
theorem RdL.set {K : PySem.W.Frag} {rg : Addr → Prop} {S H : Hp} {d : D} {v : V} (r : Rd K rg S H d v) : ∀ {ds : List D} {vs : List V} (j : Nat), RdL K rg S H ds vs → RdL K rg S H (ds.set j d) (vs.set j v)
  | [], _, _, h => by cases h; simp [RdL]
  | d0 :: ds, _, 0, h => by
    obtain ⟨v0, w, rfl, h1, h2⟩ := h
    exact ⟨v, w, rfl, r, h2⟩
  | d0 :: ds, _, j + 1, h => by
    obtain ⟨v0, w, rfl, h1, h2⟩ := h
    exact ⟨v0, _, rfl, h1, RdL.set r j h2⟩
theorem ds_setOwn {i : Nat} {x : Str} {ek : Expr} {tk : DT Z} {p1 tpos : Pos} (ha : DE Z F W e ta) (hk : DE Z F W ek tk) (hv : ∀ j, PE (F.X j) (.Name x p1) (tVar i))
    (hg : ∀ (j : F.ι) (tk' : TE), PE (F.X j) ek tk' → PG (F.X j) (.Subscript (.Name x p1) ek tpos) (gSub (tVar i) tk' rSetL))
    (hs : ∀ i, swapsWithSole [.Subscript (.Name x p1) ek tpos] e pos.line (F.X i).env = pure false := by intro _; rfl) (hw : ∀ i, swappedStores [.Subscript (.Name x p1) ek tpos] e (F.X i).env = pure none := by intro _; rfl)
    (h1 : ∀ i, (assignEach [.Subscript (.Name x p1) ek tpos] (F.X i).env).map (·.2) = [assign (.Subscript (.Name x p1) ek tpos) (F.X i).env] := by intro _; rfl) :
    DS Z F W (.Assign [.Subscript (.Name x p1) ek tpos] e pos) (dsSet i tk ta) := by
  obtain ⟨te, p, ha⟩ := ha
  obtain ⟨tk', pk, hk⟩ := hk
  refine ⟨_, fun j => ps_asg (p j) (hg j tk' (pk j)) (hs j) (hw j) (h1 j), fun μ0 S0 H0 ρ σ μ S H B L r ht k => ?_⟩
  obtain ⟨xs, hi, ht⟩ := ht
  refine ha H0 ρ σ μ S H _ _ _ r.env r.ok ht (k.wish r) fun v d μ' S' H' x rd hd => ?_
  have r' := r.up x
  obtain ⟨a, vs, e1, e2, _⟩ := r'.owner hi
  refine ⟨_, e1, ?_⟩
  refine hk H0 ρ σ μ' S' H' _ _ _ r'.env r'.ok hd.2 ((k.same x.same).wish r') fun v2 d2 μ2 S2 H2 x2 rd2 hd2 => ?_
  obtain ⟨k0, j, rfl, hj, hn⟩ := hd2
  have r2 := r'.up x2
  obtain ⟨a', vs', e1', e2', e3', e4', e5', e6'⟩ := r2.owner hi
  rw [e1] at e1'
  cases e1'
  refine ⟨a, vs', k0, j, rfl, rd2, e2', by rw [e6'.length]; exact hj, ?_⟩
  refine k.nx _ _ _ _ _ (r2.grow hi e1 e2' e3' e4' ?_ (RdL.set (rd.ext x2) j e6')) (x.same.trans x2.same) hn
  rw [staL_all] at e5' ⊢
  intro y hy
  rcases List.mem_or_eq_of_mem_set hy with z | z
  · exact e5' y z
  · rw [z]; exact hd.1
end
end DL
/-! text DLi -/
/-! DL: enumerate and zip over lists and tuples in any mix. -/
namespace DL
open PySem PySem.Spec PyProof.Rows L2

/-- a list or a tuple -/
inductive Sk where
  | l | t
def SqK (K : PySem.W.Frag) (H : Hp) : Sk → Addr → List V → Prop
  | .l, a, xs => SqL K H a xs
  | .t, a, xs => SqT K H a xs
def IterK (h : Heap) : Sk → Addr → Addr → Nat → Prop
  | .l, it, a, i => h.IsListIter it a i
  | .t, it, a, i => h.IsTupleIter it a i
def IsK (h : Heap) : Sk → Addr → Array Value → Prop
  | .l, a, its => h.IsList a its
  | .t, a, its => h.IsTuple a its
def begK : Sk → Addr → Obj
  | .l, a => { cls := .type "list_iterator", data := .fields #[.ref a, .int 0 0] }
  | .t, a => { cls := .type "tuple_iterator", data := .fields #[.ref a, .int 0 0] }
theorem draws_k {prog : Program} {w : World} {A : Around} (hh : A.handled = none) (k : Sk) (it a : Addr) (hne : a ≠ it) (items : Array Value) :
    Draws prog w A it [it, a] items.size (fun i v => items[i]? = some v) (fun i h => IterK h k it a i ∧ IsK h k a items) := by
  cases k with
  | l => exact Draws.list hh it a hne items
  | t => exact Draws.tuple hh it a hne items
theorem begins_k (k : Sk) (a : Addr) (items : Array Value) : Begins (.ref a) (begK k a) fun h => IsK h k a items := by
  cases k with
  | l => exact begins_list a items
  | t => exact begins_tuple a items
theorem iterK_beg {h : Heap} {k : Sk} {it a : Addr} (e : h.get? it = some (begK k a)) : IterK h k it a 0 := by
  cases k with
  | l => exact ⟨_, e, rfl, rfl⟩
  | t => exact ⟨_, e, rfl, rfl⟩
theorem IterK.at {h h' : Heap} {k : Sk} {it a : Addr} {i : Nat} (x : IterK h k it a i) (e : ∀ o, h.get? it = some o → h'.get? it = some o) : IterK h' k it a i := by
  cases k with
  | l => exact Heap.IsListIter.at x e
  | t => exact Heap.IsTupleIter.at x e
theorem IterK.get {h : Heap} {k : Sk} {it a : Addr} {i : Nat} (x : IterK h k it a i) : ∃ o, h.get? it = some o ∧ (o.cls = .type "list_iterator" ∨ o.cls = .type "tuple_iterator") ∧ ∀ v, o.data ≠ .cell v := by
  cases k with
  | l => obtain ⟨o, e, c, d⟩ := x; exact ⟨o, e, .inl c, fun v q => by rw [d] at q; cases q⟩
  | t => obtain ⟨o, e, c, d⟩ := x; exact ⟨o, e, .inr c, fun v q => by rw [d] at q; cases q⟩
theorem IsK.ne {h : Heap} {k k' : Sk} {it a b : Addr} {i : Nat} {items : Array Value} (x : IterK h k it a i) (y : IsK h k' b items) : b ≠ it := by
  obtain ⟨o, e, c, _⟩ := x.get
  intro z
  subst z
  cases k' with
  | l =>
    obtain ⟨o', e', c', _⟩ := y
    rw [e] at e'
    cases e'
    rw [c'] at c
    rcases c with c | c <;> (injection c with c; revert c; decide)
  | t =>
    obtain ⟨o', e', c', _⟩ := y
    rw [e] at e'
    cases e'
    rw [c'] at c
    rcases c with c | c <;> (injection c with c; revert c; decide)
section
variable {X : Cx} {pins : List (Addr × Obj)} {σ : L2.St} {H : Hp} {s : Shared} {k : Sk} {a : Addr} {xs ys : List V}
theorem seq_at (I : Inv X pins σ H s) (h : SqK X.K H k a xs) : ∃ its : List Value, Vals xs its ∧ IsK s.heap k a its.toArray ∧ a < s.heap.objs.size := by
  cases k with
  | l => obtain ⟨its, rv, p, _⟩ := I.list h; exact ⟨its, rv, p.isList, p.lt⟩
  | t => obtain ⟨its, rv, p, _⟩ := I.tuple h; exact ⟨its, rv, p, p.lt⟩
theorem seq_inj (I : Inv X pins σ H s) (h : SqK X.K H k a xs) (h' : SqK X.K H k a ys) : xs = ys := by
  cases k with
  | l => exact I.list_inj h h'
  | t => exact I.tuple_inj h h'
end
/-! ### enumerate -/
def ItEK (K : PySem.W.Frag) (k : Sk) (a : Addr) : It :=
  ⟨fun i H => ∃ (xs : List V) (x : V), SqK K H k a xs ∧ xs[i]? = some x, fun i H v H' => ∃ T x, v = .ref T ∧ H T = none ∧ H' = upd H T (.tup [.int (i : Nat), x]) ∧ ∀ xs, SqK K H k a xs → xs[i]? = some x, fun i H => ∃ xs : List V, SqK K H k a xs ∧ xs.length = i⟩
theorem turn_enumK {P : Program} {w : World} {K : PySem.W.Frag} {elts : List Expr} {kk : Nat} {tpos : Pos} (k : Sk) (a e it : Addr) :
    Turn P w K (.Tuple elts kk tpos) (ItEK K k a) [e, it] e (fun i h => (∃ old, IsEnum h e it ((i : Nat) : Int) old) ∧ IterK h k it a i ∧ e ≠ it ∧ e ≠ a) where
  mem := by simp
  obj := fun i h st b hb => by
    obtain ⟨⟨old, he⟩, hi, _⟩ := st
    obtain ⟨o, ho, _, hd⟩ := hi.get
    have e' : b = e ∨ b = it := by simpa using hb
    rcases e' with z | z
    · rw [z]; exact ⟨_, he, fun v q => nomatch q⟩
    · rw [z]; exact ⟨o, ho, hd⟩
  keep := fun i h h' st k => let ⟨⟨old, he⟩, hi, hne, hna⟩ := st; ⟨⟨old, k e (by simp) _ he⟩, hi.at fun o q => k it (by simp) o q, hne, hna⟩
  item := by
    intro X hP hw hK hc i pins s σ H E I hf st hg
    subst hP hw hK
    obtain ⟨⟨old, he⟩, hit, hne, hna⟩ := st
    obtain ⟨xs, x, hq, hx⟩ := hg
    obtain ⟨its, rv, p, hal⟩ := seq_at I hq
    obtain ⟨u, hu, ru⟩ := rv.get hx
    have hel : e < s.heap.objs.size := Heap.lt_size he
    have hil : it < s.heap.objs.size := by obtain ⟨_, q, _⟩ := hit.get; exact Heap.lt_size q
    have hh : X.A.in1.handled = none := I.ok.hd hc
    have hlt : i < its.toArray.size := by
      have := (List.getElem?_eq_some_iff.mp hu).1
      simpa using this
    refine wpAny_pyNext_enum_itemC (draws_k hh k it a (IsK.ne hit p) its.toArray) he ⟨hit, p⟩ hlt hne (by simp [hne, hna]) fun x' h' tk hx' ho st' hT hsz hk => ?_
    obtain ⟨hit', p'⟩ := st'
    have ex : x' = u := by
      have : its.toArray[i]? = some u := by simpa using hu
      rw [hx'] at this
      exact Option.some.inj this
    subst ex
    refine ⟨_, rfl, wpAny_letOwnedTupleGo_enum (s := { s with heap := h', toks := tk + 1 }) ho fun h'' he' sb => ?_⟩
    have hT2 : h''.get? s.heap.objs.size = some { cls := .type "tuple", data := .seq #[.int i tk, x'] } := (sb.2 _ (Nat.ne_of_gt hel)).trans hT
    have new : ObjOk X.prog X.w (upd H s.heap.objs.size (.tup [.int (i : Nat), x])) h'' s.heap.objs.size (.tup [.int (i : Nat), x]) :=
      ⟨by show 2 ≤ sizeLine; decide, [.int i tk, x'], .cons ⟨_, rfl⟩ (.cons ru .nil), ⟨_, hT2, rfl, _, rfl⟩⟩
    have I1 : Inv X pins σ (upd H s.heap.objs.size (.tup [.int (i : Nat), x])) { s with heap := h'', toks := tk + 1 } :=
      I.turnedNew (ch := [e, it]) (fun b ob hb q => (sb.2 b (fun z => hb (by simp [z]))).trans (hk b ob (fun z => hb (by simp [z])) (fun z => hb (by simp [z])) q)) hf (Nat.le_refl _) new
    refine ⟨.ref s.heap.objs.size, _, I1, rfl, ⟨_, x, rfl, I.hok.fresh (Nat.le_refl _), rfl, fun ys hy => by rw [seq_inj I hy hq]; exact hx⟩, ⟨⟨x', ?_⟩, hit'.at fun o q => (sb.2 it (Ne.symm hne)).trans q, hne, hna⟩, fun b hb => ?_⟩
    · have e1 : ((i + 1 : Nat) : Int) = (i : Int) + 1 := by omega
      rw [e1]; exact he'
    · have hb' : b < s.heap.objs.size := by
        have e' : b = e ∨ b = it := by simpa using hb
        rcases e' with z | z
        · rw [z]; exact hel
        · rw [z]; exact hil
      rw [upd_ne (Nat.ne_of_lt hb')]
      exact (hf b hb).1
  done := by
    intro X hP hw hK hc i pins s σ H E I hf st hg
    subst hP hw hK
    obtain ⟨⟨old, he⟩, hit, hne, hna⟩ := st
    obtain ⟨xs, hq, hx⟩ := hg
    obtain ⟨its, rv, p, hal⟩ := seq_at I hq
    obtain ⟨f0, f1, f2, f3, f4, f5⟩ := hf it (by simp)
    have hl := rv.length
    have hh : X.A.in1.handled = none := I.ok.hd hc
    have hn : its.toArray.size = i := by simp; omega
    subst hn
    exact wpAny_pyNext_enum_endD (draws_k hh k it a (IsK.ne hit p) its.toArray) he ⟨hit, p⟩ fun h' eb => ⟨rfl, I.turned (t' := s.toks) (fun b o hb q => eb b o hb q) f0 f1 f3 f4 f5⟩
  self := fun A i s Q E st h => let ⟨⟨_, he⟩, _⟩ := st; wpAny_pyIter_enum he h
def iEnumK (K : PySem.W.Frag) (ta : TA) : TI := fun σ H R => ta σ H fun vs H1 => ∃ k a xs, vs = [.ref a] ∧ SqK K H1 k a xs ∧ R (ItEK K k a) H1
open Sem (wp) in
set_option maxHeartbeats 1000000 in
theorem meets_enumerate_newB1 {v : Value} {o : Obj} {H : Heap → Prop} (B : Begins v o H) :
    Meets (Builtin.«enumerate.__new__» ⟨[.type "enumerate", v], []⟩) (fun _ R s => H s.heap ∧
      R (.ok (.ret (.ref (s.heap.push o).objs.size))) { s with heap := (s.heap.push o).push { cls := .type "enumerate", data := .fields #[.none, .bool false, .ref s.heap.objs.size, rawInt 0, .none, .none] } }) :=
  .of_wp fun prog w A R s h => by
    obtain ⟨hp, g, d, tk, os⟩ := s; obtain ⟨h1, h⟩ := h
    have hsub := sub_enumerate
    have q1 : ∀ {A' : Around} {E : Value → Shared → Prop} {Q : Value → Shared → Prop}, Q (.ref hp.objs.size) ⟨hp.push o, g, d, tk, os⟩ → wpAny (model prog w) A' (pyIter v) Q E ⟨hp, g, d, tk, os⟩ :=
      fun q => B.iter prog w _ _ ⟨hp, g, d, tk, os⟩ _ h1 q
    wp_walk using q1
    refine wpAny_stack_any fun st => wpAny_pure ?_
    split
    · rename_i c _ _ _ _ _
      cases (c == Value.type "enumerate")
      · wp_walk using q1
        exact ⟨_, rfl, h⟩
      · wp_walk using q1
        exact ⟨_, rfl, h⟩
    · wp_walk using q1
      exact ⟨_, rfl, h⟩
theorem callE {prog : Program} {w : World} {A : Around} {E : Value → Shared → Prop} {s : Shared} {v : Value} {o : Obj} {G : Heap → Prop} {Q : Value → Shared → Prop} (B : Begins v o G) (h1 : G s.heap)
    (h : ∀ h', IsEnum h' (s.heap.objs.size + 1) s.heap.objs.size 0 .none → h'.get? s.heap.objs.size = some o → h'.objs.size = s.heap.objs.size + 2 →
      (∀ b o, s.heap.get? b = some o → h'.get? b = some o) → Q (.ref (s.heap.objs.size + 1)) { s with heap := h' }) :
    wpAny (model prog w) A (call (.type "enumerate") [v]) Q E s := by
  refine callType_new F.called_enumerate (by decide) (F.typeCall_enumerate_1 _) (F.newCall_enumerate_1 _) (fun obj => F.args_object_init_2 obj _) F.entry_enumerate_new
    (meets_enumerate_newB1 B) ⟨h1, ?_⟩
  have hz : (s.heap.push o).objs.size = s.heap.objs.size + 1 := Heap.size_push ..
  show _ ∧ _
  rw [hz]
  have he : IsEnum ((s.heap.push o).push { cls := .type "enumerate", data := .fields #[.none, .bool false, .ref s.heap.objs.size, rawInt 0, .none, .none] }) (s.heap.objs.size + 1) s.heap.objs.size 0 .none := by
    have := Heap.get?_push_size (s.heap.push o) (o := { cls := .type "enumerate", data := .fields #[.none, .bool false, .ref s.heap.objs.size, rawInt 0, .none, .none] }) rfl
    rw [hz] at this; exact this
  exact ⟨⟨_, he, rfl⟩, h _ he (Heap.get?_push_of_some _ (Heap.get?_push_size _ B.free)) (by rw [Heap.size_push, hz]) fun b o x => Heap.get?_push_of_some _ (Heap.get?_push_of_some _ x)⟩
theorem pi_enumK {X : Cx} {e : Expr} {ta : TA} {p pos tpos : Pos} {elts : List Expr} {kk : Nat} (hg : Gl X "enumerate") (hm : X.mg "enumerate" = none) (ha : PA X [e] ta) (hs : starEach [e] X.env = [(false, eval e X.env)] := by rfl) :
    PI X (.Tuple elts kk tpos) (.Call (.Name "enumerate" p) [e] [] pos) (iEnumK X.K ta) := by
  refine ⟨fun pins s σ H R I h => ?_⟩
  refine Call_ (ld_blt I hg hm boot_enumerate (PyProof.Rows.callWith_type1 (thn (ha.run pos pins s σ H _ I h) fun us s1 ⟨vs, H1, I1, r1, q1⟩ => ?_) hs rfl))
  obtain ⟨k, a, xs, ex, hq, q⟩ := q1
  subst ex
  cases r1 with
  | cons r rr =>
    cases rr
    cases r
    obtain ⟨its, rv, p', hal⟩ := seq_at I1 hq
    refine callE (begins_k k a its.toArray) p' fun h' he hit hsz hk => wpAny_pyIter_enum he ?_
    have I2 : Inv X pins σ H1 { s1 with heap := h' } := I1.kept (t' := s1.toks) hk
    refine ⟨s1.heap.objs.size + 1, [s1.heap.objs.size + 1, s1.heap.objs.size], _, _, H1, rfl, I2, turn_enumK k a (s1.heap.objs.size + 1) s1.heap.objs.size, ⟨⟨.none, he⟩, iterK_beg hit, Nat.succ_ne_self _, ?_⟩, fun b hb => ?_, q⟩
    · exact Nat.ne_of_gt (Nat.lt_succ_of_lt hal)
    have e' : b = s1.heap.objs.size + 1 ∨ b = s1.heap.objs.size := by simpa using hb
    have hle : s1.heap.objs.size ≤ b := by
      rcases e' with z | z
      · rw [z]; exact Nat.le_add_right _ _
      · rw [z]; exact Nat.le_refl _
    exact I1.fpOk hle (I1.hok.fresh hle)
/-! ### zip -/
def ItZK (K : PySem.W.Frag) (k1 k2 : Sk) (a b : Addr) : It :=
  ⟨fun i H => ∃ (xs ys : List V) (x y : V), SqK K H k1 a xs ∧ SqK K H k2 b ys ∧ xs[i]? = some x ∧ ys[i]? = some y,
    fun i H v H' => ∃ T x y, v = .ref T ∧ H T = none ∧ H' = upd H T (.tup [x, y]) ∧ (∀ xs, SqK K H k1 a xs → xs[i]? = some x) ∧ ∀ ys, SqK K H k2 b ys → ys[i]? = some y,
    fun i H => ∃ xs ys : List V, SqK K H k1 a xs ∧ SqK K H k2 b ys ∧ i = min xs.length ys.length⟩
theorem turn_zipK {P : Program} {w : World} {K : PySem.W.Frag} {elts : List Expr} {kk : Nat} {tpos : Pos} {k1 k2 : Sk} {a b z TI TO i1 i2 : Addr} (D : ZipSep2 z TI TO i1 i2 [i1, a] [i2, b]) :
    Turn P w K (.Tuple elts kk tpos) (ItZK K k1 k2 a b) [z, TI, TO, i1, i2] z (fun i h => IsZip h z TI TO .none ∧ IsTupOf2 h TI (.ref i1) (.ref i2) ∧ (∃ x y, IsTupOf2 h TO x y) ∧ IterK h k1 i1 a i ∧ IterK h k2 i2 b i) where
  mem := by simp
  obj := fun i h st c hc => by
    obtain ⟨hz, hTI, ⟨x, y, hTO⟩, h1, h2⟩ := st
    obtain ⟨o1, e1, _, d1⟩ := h1.get
    obtain ⟨o2, e2, _, d2⟩ := h2.get
    have e' : c = z ∨ c = TI ∨ c = TO ∨ c = i1 ∨ c = i2 := by simpa using hc
    rcases e' with q | q | q | q | q
    · rw [q]; exact ⟨_, hz, fun v q => nomatch q⟩
    · rw [q]; exact ⟨_, hTI, fun v q => nomatch q⟩
    · rw [q]; exact ⟨_, hTO, fun v q => nomatch q⟩
    · rw [q]; exact ⟨o1, e1, d1⟩
    · rw [q]; exact ⟨o2, e2, d2⟩
  keep := fun i h h' st k => by
    obtain ⟨hz, hTI, ⟨x, y, hTO⟩, h1, h2⟩ := st
    exact ⟨k z (by simp) _ hz, k TI (by simp) _ hTI, ⟨x, y, k TO (by simp) _ hTO⟩, h1.at fun o q => k i1 (by simp) o q, h2.at fun o q => k i2 (by simp) o q⟩
  item := by
    intro X hP hw hK hc i pins s σ H E I hf st hg
    subst hP hw hK
    obtain ⟨hz, hTI, ⟨x0, y0, hTO⟩, h1, h2⟩ := st
    obtain ⟨xs, ys, x, y, hqx, hqy, hx, hy⟩ := hg
    obtain ⟨its, rv, p, _⟩ := seq_at I hqx
    obtain ⟨its2, rv2, p2, _⟩ := seq_at I hqy
    obtain ⟨u, hu, ru⟩ := rv.get hx
    obtain ⟨u2, hu2, ru2⟩ := rv2.get hy
    have hzl : z < s.heap.objs.size := Heap.lt_size hz
    have hh : X.A.in1.handled = none := I.ok.hd hc
    have hu' : its.toArray[i]? = some u := by simpa using hu
    have hu2' : its2.toArray[i]? = some u2 := by simpa using hu2
    have hlt1 : i < its.toArray.size := by simpa using (List.getElem?_eq_some_iff.mp hu).1
    have hlt2 : i < its2.toArray.size := by simpa using (List.getElem?_eq_some_iff.mp hu2).1
    have d1 := draws_k (prog := X.prog) (w := X.w) hh k1 i1 a (IsK.ne h1 p) its.toArray
    have d2 := draws_k (prog := X.prog) (w := X.w) hh k2 i2 b (IsK.ne h2 p2) its2.toArray
    refine wpAny_pyNext_zipD2_item D d1 d2 hz hTI hTO ⟨h1, p⟩ ⟨h2, p2⟩ hlt1 hlt2 fun w1 w2 h' tk y1 y2 z' TO' st1' st2' hT hsz hk => ?_
    obtain ⟨h1', p1'⟩ := st1'
    obtain ⟨h2', p2'⟩ := st2'
    have e1 : w1 = u := Option.some.inj (y1.symm.trans hu')
    have e2 : w2 = u2 := Option.some.inj (y2.symm.trans hu2')
    subst e1
    subst e2
    refine ⟨_, rfl, wpAny_letOwnedTupleGo_zip (s := { s with heap := h', toks := tk }) z' fun h'' z'' sb => ?_⟩
    have hT2 : h''.get? s.heap.objs.size = some { cls := .type "tuple", data := .seq #[w1, w2] } := (sb.2 _ (Nat.ne_of_gt hzl)).trans hT
    have new : ObjOk X.prog X.w (upd H s.heap.objs.size (.tup [x, y])) h'' s.heap.objs.size (.tup [x, y]) :=
      ⟨by show 2 ≤ sizeLine; decide, [w1, w2], .cons ru (.cons ru2 .nil), ⟨_, hT2, rfl, _, rfl⟩⟩
    have I1 : Inv X pins σ (upd H s.heap.objs.size (.tup [x, y])) { s with heap := h'', toks := tk } :=
      I.turnedNew (t' := tk) (ch := [z, TI, TO, i1, i2]) (fun c o hb q => (sb.2 c (fun q' => hb (by simp [q']))).trans (hk c o (fun q' => hb (by simp [q'])) (fun q' => hb (by simp [q'])) (fun q' => hb (by simp [q'])) (fun q' => hb (by simp [q'])) q)) hf (Nat.le_refl _) new
    have i1z : i1 ≠ z := fun q => D.zf1 (by rw [q]; simp)
    have i2z : i2 ≠ z := fun q => D.zf2 (by rw [q]; simp)
    have TIi1 := D.TIi1
    have TIi2 := D.TIi2
    refine ⟨.ref s.heap.objs.size, _, I1, rfl, ⟨_, x, y, rfl, I.hok.fresh (Nat.le_refl _), rfl, fun l hl => by rw [seq_inj I hl hqx]; exact hx, fun l hl => by rw [seq_inj I hl hqy]; exact hy⟩, ⟨z'', ?_, ⟨w1, w2, ?_⟩, ?_, ?_⟩, fun c hcm => ?_⟩
    · exact (sb.2 _ D.TIz).trans (hk _ _ D.TIz D.TITO TIi1 TIi2 hTI)
    · exact (sb.2 _ D.TOz).trans TO'
    · exact h1'.at fun o q => (sb.2 _ i1z).trans q
    · exact h2'.at fun o q => (sb.2 _ i2z).trans q
    · have hlt : c < s.heap.objs.size := by
        have e' : c = z ∨ c = TI ∨ c = TO ∨ c = i1 ∨ c = i2 := by simpa using hcm
        rcases e' with q | q | q | q | q
        · rw [q]; exact hzl
        · rw [q]; exact Heap.lt_size hTI
        · rw [q]; exact Heap.lt_size hTO
        · rw [q]; obtain ⟨_, e1, _⟩ := h1.get; exact Heap.lt_size e1
        · rw [q]; obtain ⟨_, e2, _⟩ := h2.get; exact Heap.lt_size e2
      rw [upd_ne (Nat.ne_of_lt hlt)]
      exact (hf c hcm).1
  done := by
    intro X hP hw hK hc i pins s σ H E I hf st hg
    subst hP hw hK
    obtain ⟨hz, hTI, ⟨x0, y0, hTO⟩, h1, h2⟩ := st
    obtain ⟨xs, ys, hqx, hqy, hend⟩ := hg
    obtain ⟨its, rv, p, _⟩ := seq_at I hqx
    obtain ⟨its2, rv2, p2, _⟩ := seq_at I hqy
    have l1 := rv.length
    have l2 := rv2.length
    have hh : X.A.in1.handled = none := I.ok.hd hc
    have d1 := draws_k (prog := X.prog) (w := X.w) hh k1 i1 a (IsK.ne h1 p) its.toArray
    have d2 := draws_k (prog := X.prog) (w := X.w) hh k2 i2 b (IsK.ne h2 p2) its2.toArray
    have s1 : its.toArray.size = xs.length := by simp; omega
    have s2 : its2.toArray.size = ys.length := by simp; omega
    exact wpAny_pyNext_zipD2_end D d1 d2 hz hTI hTO ⟨h1, p⟩ ⟨h2, p2⟩ (by rw [s1]; omega) (by rw [s2]; omega) (by rw [s1, s2]; omega) fun h' tk hk => ⟨rfl, I.turnedL (t' := tk) (ch := [z, TI, TO, i1, i2]) (fun c o hb q =>
      hk c o (fun q' => hb (by simp [q'])) (fun q' => hb (by simp [q'])) (fun q' => hb (by simp [q'])) (fun q' => hb (by simp [q'])) q) hf⟩
  self := fun A i s Q E st h => wpAny_pyIter_zip st.1 h
def iZipK (K : PySem.W.Frag) (ta : TA) : TI := fun σ H R => ta σ H fun vs H1 => ∃ k1 k2 a b xs ys, vs = [.ref a, .ref b] ∧ SqK K H1 k1 a xs ∧ SqK K H1 k2 b ys ∧ R (ItZK K k1 k2 a b) H1
theorem pi_zipK {X : Cx} {e e2 : Expr} {ta : TA} {p pos tpos : Pos} {elts : List Expr} {kk : Nat} (hg : Gl X "zip") (hm : X.mg "zip" = none) (ha : PA X [e, e2] ta)
    (hs : starEach [e, e2] X.env = (false, eval e X.env) :: starEach [e2] X.env := by rfl) (hpl : (backTo pos (starEach [e2] X.env)).any (·.1) = false := by rfl) :
    PI X (.Tuple elts kk tpos) (.Call (.Name "zip" p) [e, e2] [] pos) (iZipK X.K ta) := by
  refine ⟨fun pins s σ H R I h => ?_⟩
  refine Call_ (ld_blt I hg hm PyProof.Rows.boot_zip (PyProof.Rows.callWith_type1 (thn (ha.run pos pins s σ H _ I h) fun us s1 ⟨vs, H1, I1, r1, q1⟩ => ?_) hs hpl))
  obtain ⟨k1, k2, a, b, xs, ys, ex, hqx, hqy, q⟩ := q1
  subst ex
  cases r1 with
  | cons r rr =>
    cases rr with
    | cons r' rr =>
      cases rr
      cases r
      cases r'
      obtain ⟨its, rv, p1, la⟩ := seq_at I1 hqx
      obtain ⟨its2, rv2, p2, lb⟩ := seq_at I1 hqy
      refine zip_begins2 (begins_k k1 a its.toArray) (begins_k k2 b its2.toArray) p1 p2 fun h' hz hTI hTO h1 h2 hsz hk => wpAny_pyIter_zip hz ?_
      have I2 : Inv X pins σ H1 { s1 with heap := h' } := I1.kept (t' := s1.toks) hk
      refine ⟨s1.heap.objs.size + 4, [s1.heap.objs.size + 4, s1.heap.objs.size + 2, s1.heap.objs.size + 3, s1.heap.objs.size, s1.heap.objs.size + 1], _, _, H1, rfl, I2, turn_zipK (zip_sep2 (fp1 := [a]) (fp2 := [b]) (fun c hc => by rw [List.mem_singleton.mp hc]; exact la) (fun c hc => by rw [List.mem_singleton.mp hc]; exact lb)), ⟨hz, hTI, ⟨_, _, hTO⟩, iterK_beg h1, iterK_beg h2⟩, fun c hcm => ?_, q⟩
      have e' : c = s1.heap.objs.size + 4 ∨ c = s1.heap.objs.size + 2 ∨ c = s1.heap.objs.size + 3 ∨ c = s1.heap.objs.size ∨ c = s1.heap.objs.size + 1 := by simpa using hcm
      have hle : s1.heap.objs.size ≤ c := by
        rcases e' with z | z | z | z | z
        · rw [z]; exact Nat.le_add_right _ _
        · rw [z]; exact Nat.le_add_right _ _
        · rw [z]; exact Nat.le_add_right _ _
        · rw [z]; exact Nat.le_refl _
        · rw [z]; exact Nat.le_add_right _ _
      exact I1.fpOk hle (I1.hok.fresh hle)
end DL
/-! text DLe -/
/-! DL, fifth part: what is walked; comprehensions; the promise of a def, its call. -/
namespace DL
open PySem PySem.Spec PyProof.Rows L2

def itemsD : D → Option (List D)
  | .tup xs => some xs
  | .lst xs => some xs
  | .scr ns => some (ns.map .int)
  | _ => none
def itemsC : D → Option (List D)
  | .tup xs => some xs
  | .lst xs => some xs
  | .vw xs => some xs
  | .scr ns => some (ns.map .int)
  | _ => none
def enumF : Nat → List D → List D
  | _, [] => []
  | i, d :: ds => .tup [.int i, d] :: enumF (i + 1) ds
def zipF : List D → List D → List D
  | d :: ds, e :: es => .tup [d, e] :: zipF ds es
  | _, _ => []
def rangeF : Int → Nat → List D
  | _, 0 => []
  | lo, n + 1 => .int lo :: rangeF (lo + 1) n
theorem enumF_length : ∀ (i : Nat) (ds : List D), (enumF i ds).length = ds.length
  | _, [] => rfl
  | i, d :: ds => by simp only [enumF, List.length_cons, enumF_length]
theorem enumF_get : ∀ (i : Nat) (ds : List D) (j : Nat), (enumF i ds)[j]? = ds[j]?.map fun d => .tup [.int ((i + j : Nat)), d]
  | _, [], j => by simp [enumF]
  | i, d :: ds, 0 => by simp [enumF]
  | i, d :: ds, j + 1 => by
    simp only [enumF, List.getElem?_cons_succ]
    rw [enumF_get (i + 1) ds j]
    congr 1
    funext d
    rw [show i + 1 + j = i + (j + 1) by omega]
theorem zipF_length : ∀ ds es : List D, (zipF ds es).length = min ds.length es.length
  | [], _ => by simp [zipF]
  | _ :: _, [] => by simp [zipF]
  | d :: ds, e :: es => by simp only [zipF, List.length_cons, zipF_length]; omega
theorem zipF_get : ∀ (ds es : List D) (j : Nat) (x : D), (zipF ds es)[j]? = some x → ∃ d e, ds[j]? = some d ∧ es[j]? = some e ∧ x = .tup [d, e]
  | [], _, j, x, h => by simp [zipF] at h
  | _ :: _, [], j, x, h => by simp [zipF] at h
  | d :: ds, e :: es, 0, x, h => by simp [zipF] at h; exact ⟨d, e, rfl, rfl, h.symm⟩
  | d :: ds, e :: es, j + 1, x, h => by simpa using zipF_get ds es j x (by simpa [zipF] using h)
theorem rangeF_length : ∀ (lo : Int) (n : Nat), (rangeF lo n).length = n
  | _, 0 => rfl
  | lo, n + 1 => by simp only [rangeF, List.length_cons, rangeF_length]
theorem rangeF_get : ∀ (lo : Int) (n j : Nat), j < n → (rangeF lo n)[j]? = some (.int (lo + j))
  | lo, 0, j, h => by omega
  | lo, n + 1, 0, h => by simp [rangeF]
  | lo, n + 1, j + 1, h => by
    simp only [rangeF, List.getElem?_cons_succ]
    rw [rangeF_get (lo + 1) n j (by omega)]
    congr 2
    omega
theorem sta_at {ds : List D} (h : staL ds = true) {i : Nat} {d : D} (e : ds[i]? = some d) : sta d = true := staL_all.mp h d (List.mem_of_getElem? e)

/-- a list or a tuple that is walked -/
def ItK (K : PySem.W.Frag) : Sk → Addr → It
  | .l, a => Itl K a
  | .t, a => Itt K a
def iSeqK (K : PySem.W.Frag) (tl : TE) : TI := fun σ H R => tl σ H fun x H1 => ∃ k a, x = .ref a ∧ (∃ xs, SqK K H1 k a xs) ∧ R (ItK K k a) H1
theorem pi_seqK {X : Cx} {tg l : Expr} {tl : TE} (hl : PE X l tl) : PI X tg l (iSeqK X.K tl) := by
  refine ⟨fun pins s σ H R I h => ?_⟩
  refine thn (hl.run pins s σ H _ I h) fun v s1 ⟨x, H1, I1, r1, q1⟩ => ?_
  obtain ⟨k, a, e, ⟨xs, hq⟩, q⟩ := q1
  subst e
  cases r1
  cases k with
  | l =>
    obtain ⟨its, rv, p, hz⟩ := I1.list hq
    refine wpAny_pyIter_list p.isList ?_
    refine ⟨s1.heap.objs.size, [s1.heap.objs.size], _, _, H1, rfl, I1.kept (t' := s1.toks) fun b o e => Heap.get?_push_of_some _ e, turn_list a _, ⟨_, Heap.get?_push_size _ rfl, rfl, rfl⟩, fun b hb => ?_, q⟩
    have e : b = s1.heap.objs.size := by simpa using hb
    subst e
    exact I1.fpOk (Nat.le_refl _) (I1.hok.fresh (Nat.le_refl _))
  | t =>
    obtain ⟨its, rv, p, hz⟩ := I1.tuple hq
    refine wpAny_pyIter_tuple (show s1.heap.IsTuple a its.toArray from p) ?_
    refine ⟨s1.heap.objs.size, [s1.heap.objs.size], _, _, H1, rfl, I1.kept (t' := s1.toks) fun b o e => Heap.get?_push_of_some _ e, turn_tuple a _, ⟨_, Heap.get?_push_size _ rfl, rfl, rfl⟩, fun b hb => ?_, q⟩
    have e : b = s1.heap.objs.size := by simpa using hb
    subst e
    exact I1.fpOk (Nat.le_refl _) (I1.hok.fresh (Nat.le_refl _))

section
variable {K : PySem.W.Frag} {rg : Addr → Prop} {S S' H H' : Hp}
theorem rdl_ints : ∀ ns : List Int, RdL K rg S H (ns.map .int) (ns.map V.int)
  | [] => rfl
  | n :: ns => ⟨.int n, ns.map V.int, rfl, rfl, rdl_ints ns⟩
/-- the object of a walked value -/
theorem items_seq {d : D} {ds : List D} {v : V} (sub : Same S H) (r : Rd K rg S H d v) (e : itemsD d = some ds) : ∃ k a vs, v = .ref a ∧ SqK K S k a vs ∧ SqK K H k a vs ∧ RdL K rg S H ds vs := by
  cases d with
  | tup xs =>
    obtain ⟨a, vs, rfl, h1, h2⟩ := r
    cases e
    exact ⟨.t, a, vs, rfl, h1, seqT_mono sub h1, h2⟩
  | lst xs =>
    obtain ⟨a, vs, rfl, h1, h2⟩ := r
    cases e
    exact ⟨.l, a, vs, rfl, SqL.of h1, SqL.of (sub _ _ h1), h2⟩
  | scr ns =>
    obtain ⟨a, rfl, h1⟩ := r
    cases e
    exact ⟨.l, a, _, rfl, h1, sub.seq h1, rdl_ints ns⟩
  | _ => cases e
theorem items_seqC {d : D} {ds : List D} {v : V} (sub : Same S H) (r : Rd K rg S H d v) (e : itemsC d = some ds) : ∃ k a vs, v = .ref a ∧ SqK K H k a vs ∧ (SqK K S k a vs ∨ (k = .l ∧ ¬ rg a ∧ H a = some (.lst vs))) ∧ RdL K rg S H ds vs := by
  cases d with
  | tup xs =>
    obtain ⟨a, vs, rfl, h1, h2⟩ := r
    cases e
    exact ⟨.t, a, vs, rfl, seqT_mono sub h1, .inl h1, h2⟩
  | lst xs =>
    obtain ⟨a, vs, rfl, h1, h2⟩ := r
    cases e
    exact ⟨.l, a, vs, rfl, SqL.of (sub _ _ h1), .inl (SqL.of h1), h2⟩
  | vw xs =>
    obtain ⟨a, vs, rfl, h0, h1, h2⟩ := r
    cases e
    exact ⟨.l, a, vs, rfl, SqL.of h1, .inr ⟨rfl, h0, h1⟩, h2⟩
  | scr ns =>
    obtain ⟨a, rfl, h1⟩ := r
    cases e
    exact ⟨.l, a, _, rfl, sub.seq h1, .inl h1, rdl_ints ns⟩
  | _ => cases e
theorem seqK_mono {k : Sk} {a : Addr} {xs : List V} (e : Same S S') (h : SqK K S k a xs) : SqK K S' k a xs := by
  cases k with
  | l =>
    rcases h with (h | ⟨o, h⟩) | h
    · exact .inl (.inl (e _ _ h))
    · exact .inl (.inr ⟨o, e _ _ h⟩)
    · exact .inr h
  | t => exact seqT_mono e h
end

section
variable {Z : Wld}
def dSeq {M : Type} (ta : DT0 M) : DTA0 M := fun ρ μ R E => ta ρ μ (fun d μ' => ∃ ds, itemsD d = some ds ∧ staL ds = true ∧ R ds μ') E
def dSeqC {M : Type} (ta : DT0 M) : DTA0 M := fun ρ μ R E => ta ρ μ (fun d μ' => ∃ ds, itemsC d = some ds ∧ R ds μ') E
def dEnum {M : Type} (ta : DT0 M) : DTA0 M := fun ρ μ R E => ta ρ μ (fun d μ' => ∃ ds, itemsD d = some ds ∧ staL ds = true ∧ R (enumF 0 ds) μ') E
def dEnumC {M : Type} (ta : DT0 M) : DTA0 M := fun ρ μ R E => ta ρ μ (fun d μ' => ∃ ds, itemsC d = some ds ∧ R (enumF 0 ds) μ') E
def dZip {M : Type} (ta : DTA0 M) : DTA0 M := fun ρ μ R E => ta ρ μ (fun as μ' => ∃ a b ds es, as = [a, b] ∧ itemsD a = some ds ∧ itemsD b = some es ∧ staL ds = true ∧ staL es = true ∧ R (zipF ds es) μ') E
def dZipC {M : Type} (ta : DTA0 M) : DTA0 M := fun ρ μ R E => ta ρ μ (fun as μ' => ∃ a b ds es, as = [a, b] ∧ itemsC a = some ds ∧ itemsC b = some es ∧ R (zipF ds es) μ') E
def dRng1 {M : Type} (ta : DTA0 M) : DTA0 M := fun ρ μ R E => ta ρ μ (fun as μ' => ∃ j : Int, as = [.int j] ∧ -(2 ^ 62) ≤ j ∧ j < 2 ^ 62 ∧ R (rangeF 0 j.toNat) μ') E
def dRng2 {M : Type} (ta : DTA0 M) : DTA0 M := fun ρ μ R E => ta ρ μ (fun as μ' => ∃ i j : Int, as = [.int i, .int j] ∧ (-(2 ^ 62) ≤ i ∧ i < 2 ^ 62 ∧ -(2 ^ 62) ≤ j ∧ j < 2 ^ 62) ∧ R (rangeF i (j - i).toNat) μ') E
end
section
variable {Z : Wld} {F : Fm} {W : WX} {tg e e2 : Expr} {ta : DT Z} {tA : DTA Z} {pos p tpos : Pos} {elts : List Expr} {kk : Nat}
theorem wk_seq {B : Hp} {k : Sk} {a : Addr} {vs : List V} {ds : List D} {μ2 : Z.M} {S2 H2 : Hp} (ok : Ok Z μ2 S2 H2) (h : SqK F.K H2 k a vs) (r : RdL F.K (fb Z B μ2) S2 H2 ds vs) : Wk Z F.K (ItK F.K k a) ds B μ2 S2 H2 := by
  intro i
  have hl := r.length
  refine ⟨fun hi => ?_, fun hi => ?_, fun x H' d hd y => ?_⟩
  · obtain ⟨v, hv, _⟩ := r.get (List.getElem?_eq_getElem hi)
    cases k with
    | l => exact ⟨vs, v, h, hv⟩
    | t => exact ⟨vs, v, h, hv⟩
  · cases k with
    | l => exact ⟨vs, h, by omega⟩
    | t => exact ⟨vs, h, by omega⟩
  · obtain ⟨v, hv, rv⟩ := r.get hd
    have : H' = H2 ∧ vs[i]? = some x := by
      cases k with
      | l => exact ⟨y.1, y.2 vs h⟩
      | t => exact ⟨y.1, y.2 vs h⟩
    obtain ⟨rfl, hx⟩ := this
    rw [hv] at hx
    cases hx
    exact ⟨S2, .refl ok, rv⟩
theorem wk_enum {B : Hp} {k : Sk} {a : Addr} {vs : List V} {ds : List D} {μ2 : Z.M} {S2 H2 : Hp} (ok : Ok Z μ2 S2 H2) (h : SqK F.K H2 k a vs) (r : RdL F.K (fb Z B μ2) S2 H2 ds vs) : Wk Z F.K (ItEK F.K k a) (enumF 0 ds) B μ2 S2 H2 := by
  intro i
  have hl := r.length
  rw [enumF_length]
  refine ⟨fun hi => ?_, fun hi => ?_, fun x H' d hd y => ?_⟩
  · obtain ⟨v, hv, _⟩ := r.get (List.getElem?_eq_getElem hi)
    exact ⟨vs, v, h, hv⟩
  · exact ⟨vs, h, by omega⟩
  · obtain ⟨T, w, rfl, hT, rfl, hw⟩ := y
    rw [enumF_get] at hd
    cases q : ds[i]? with
    | none => rw [q] at hd; cases hd
    | some d0 =>
      rw [q] at hd
      simp only [Option.map_some, Option.some.injEq] at hd
      subst hd
      obtain ⟨v, hv, rv⟩ := r.get q
      have e : v = w := Option.some.inj (hv.symm.trans (hw vs h))
      subst e
      have x2 := ok.put (o := .tup [.int (i : Nat), v]) hT
      refine ⟨_, x2, T, _, rfl, SqT.of upd_same, .int (i : Nat), [v], rfl, ?_, v, [], rfl, rv.ext x2, rfl⟩
      show V.int _ = V.int _
      rw [Nat.zero_add]
theorem wk_zip {B : Hp} {k k' : Sk} {a b : Addr} {vs ws : List V} {ds es : List D} {μ2 : Z.M} {S2 H2 : Hp} (ok : Ok Z μ2 S2 H2) (h : SqK F.K H2 k a vs) (r : RdL F.K (fb Z B μ2) S2 H2 ds vs) (h' : SqK F.K H2 k' b ws) (r' : RdL F.K (fb Z B μ2) S2 H2 es ws) :
    Wk Z F.K (ItZK F.K k k' a b) (zipF ds es) B μ2 S2 H2 := by
  intro i
  have hl := r.length
  have hl' := r'.length
  rw [zipF_length]
  refine ⟨fun hi => ?_, fun hi => ?_, fun x H' d hd y => ?_⟩
  · obtain ⟨v, hv, _⟩ := r.get (List.getElem?_eq_getElem (show i < ds.length by omega))
    obtain ⟨v', hv', _⟩ := r'.get (List.getElem?_eq_getElem (show i < es.length by omega))
    exact ⟨vs, ws, v, v', h, h', hv, hv'⟩
  · exact ⟨vs, ws, h, h', by omega⟩
  · obtain ⟨T, w, w', rfl, hT, rfl, hw, hw'⟩ := y
    obtain ⟨d0, e0, q1, q2, rfl⟩ := zipF_get ds es i d hd
    obtain ⟨v, hv, rv⟩ := r.get q1
    obtain ⟨v', hv', rv'⟩ := r'.get q2
    have e : v = w := Option.some.inj (hv.symm.trans (hw vs h))
    subst e
    have e' : v' = w' := Option.some.inj (hv'.symm.trans (hw' ws h'))
    subst e'
    have x2 := ok.put (o := .tup [v, v']) hT
    exact ⟨_, x2, T, _, rfl, SqT.of upd_same, v, [v'], rfl, rv.ext x2, v', [], rfl, rv'.ext x2, rfl⟩
theorem wk_range {B : Hp} {lo : Int} {n : Nat} {μ2 : Z.M} {S2 H2 : Hp} (ok : Ok Z μ2 S2 H2) : Wk Z F.K (Itr lo n) (rangeF lo n) B μ2 S2 H2 := by
  intro i
  rw [rangeF_length]
  refine ⟨fun hi => hi, fun hi => Nat.le_of_eq hi, fun x H' d hd y => ?_⟩
  have hi : i < n := by
    have := (List.getElem?_eq_some_iff.mp hd).1
    rwa [rangeF_length] at this
  rw [rangeF_get lo n i hi] at hd
  cases hd
  obtain ⟨rfl, rfl⟩ := y
  exact ⟨S2, .refl ok, rfl⟩

theorem di_seq (h : DE Z F W e ta) : DI Z F W tg e (dSeq ta) := by
  obtain ⟨te, p, h⟩ := h
  refine ⟨iSeqK F.K te, fun i => by rw [← F.hK i]; exact pi_seqK (p i), fun B ρ σ μ S H R E Q env ok ht hE hQ => ?_⟩
  refine h B ρ σ μ S H _ E _ env ok ht hE fun v d μ' S' H' x r hd => ?_
  obtain ⟨ds, e1, e2, hd⟩ := hd
  obtain ⟨k, a, vs, rfl, q1, q2, q3⟩ := items_seq x.ok.sub r e1
  exact ⟨k, a, rfl, ⟨vs, q2⟩, hQ _ ds μ' S' H' x (fun μ2 S2 H2 ok2 s2 => wk_seq ok2 (seqK_mono ok2.sub (seqK_mono s2 q1)) (q3.sta s2 _ _ e2)) hd⟩
theorem seqC_ext {B : Hp} {k : Sk} {a : Addr} {vs : List V} {μ' μ2 : Z.M} {S' H' S2 H2 : Hp} (x : Ext Z μ' S' H' μ2 S2 H2) (h : SqK F.K S' k a vs ∨ (k = .l ∧ ¬ fb Z B μ' a ∧ H' a = some (.lst vs))) : SqK F.K H2 k a vs := by
  rcases h with h | ⟨rfl, n, h⟩
  · exact seqK_mono x.ok.sub (seqK_mono x.same h)
  · exact SqL.of (x.lst a vs n h).2
theorem dic_seq (h : DE Z F W e ta) : DIc Z F W tg e (dSeqC ta) := by
  obtain ⟨te, p, h⟩ := h
  refine ⟨iSeqK F.K te, fun i => by rw [← F.hK i]; exact pi_seqK (p i), fun B ρ σ μ S H R E Q env ok ht hE hQ => ?_⟩
  refine h B ρ σ μ S H _ E _ env ok ht hE fun v d μ' S' H' x r hd => ?_
  obtain ⟨ds, e1, hd⟩ := hd
  obtain ⟨k, a, vs, rfl, q1, q2, q3⟩ := items_seqC x.ok.sub r e1
  exact ⟨k, a, rfl, ⟨vs, q1⟩, hQ _ ds μ' S' H' x (fun μ2 S2 H2 x2 => wk_seq x2.ok (seqC_ext x2 q2) (q3.ext x2)) hd⟩
theorem di_enum (hg : ∀ i, Gl (F.X i) "enumerate") (hm : ∀ i, (F.X i).mg "enumerate" = none) (h : DE Z F W e ta) (hs : ∀ i, starEach [e] (F.X i).env = [(false, eval e (F.X i).env)] := by intro _; rfl)
    (hs2 : ∀ i, starEach (e :: []) (F.X i).env = (false, eval e (F.X i).env) :: starEach [] (F.X i).env := by intro _; rfl) : DI Z F W (.Tuple elts kk tpos) (.Call (.Name "enumerate" p) [e] [] pos) (dEnum ta) := by
  obtain ⟨te, pe, h⟩ := h
  refine ⟨iEnumK F.K (tCons te tNil), fun i => by rw [← F.hK i]; exact pi_enumK (hg i) (hm i) (pa_cons (pe i) pa_nil (hs2 i)) (hs i), fun B ρ σ μ S H R E Q env ok ht hE hQ => ?_⟩
  refine h B ρ σ μ S H _ E _ env ok ht hE fun v d μ' S' H' x r hd => ?_
  obtain ⟨ds, e1, e2, hd⟩ := hd
  obtain ⟨k, a, vs, rfl, q1, q2, q3⟩ := items_seq x.ok.sub r e1
  exact ⟨k, a, vs, rfl, q2, hQ _ _ μ' S' H' x (fun μ2 S2 H2 ok2 s2 => wk_enum ok2 (seqK_mono ok2.sub (seqK_mono s2 q1)) (q3.sta s2 _ _ e2)) hd⟩
theorem dic_enum (hg : ∀ i, Gl (F.X i) "enumerate") (hm : ∀ i, (F.X i).mg "enumerate" = none) (h : DE Z F W e ta) (hs : ∀ i, starEach [e] (F.X i).env = [(false, eval e (F.X i).env)] := by intro _; rfl)
    (hs2 : ∀ i, starEach (e :: []) (F.X i).env = (false, eval e (F.X i).env) :: starEach [] (F.X i).env := by intro _; rfl) : DIc Z F W (.Tuple elts kk tpos) (.Call (.Name "enumerate" p) [e] [] pos) (dEnumC ta) := by
  obtain ⟨te, pe, h⟩ := h
  refine ⟨iEnumK F.K (tCons te tNil), fun i => by rw [← F.hK i]; exact pi_enumK (hg i) (hm i) (pa_cons (pe i) pa_nil (hs2 i)) (hs i), fun B ρ σ μ S H R E Q env ok ht hE hQ => ?_⟩
  refine h B ρ σ μ S H _ E _ env ok ht hE fun v d μ' S' H' x r hd => ?_
  obtain ⟨ds, e1, hd⟩ := hd
  obtain ⟨k, a, vs, rfl, q1, q2, q3⟩ := items_seqC x.ok.sub r e1
  exact ⟨k, a, vs, rfl, q1, hQ _ _ μ' S' H' x (fun μ2 S2 H2 x2 => wk_enum x2.ok (seqC_ext x2 q2) (q3.ext x2)) hd⟩
theorem di_zip (hg : ∀ i, Gl (F.X i) "zip") (hm : ∀ i, (F.X i).mg "zip" = none) (h : DA Z F W [e, e2] tA) (hs : ∀ i, starEach [e, e2] (F.X i).env = (false, eval e (F.X i).env) :: starEach [e2] (F.X i).env := by intro _; rfl)
    (hpl : ∀ i, (backTo pos (starEach [e2] (F.X i).env)).any (·.1) = false := by intro _; rfl) : DI Z F W (.Tuple elts kk tpos) (.Call (.Name "zip" p) [e, e2] [] pos) (dZip tA) := by
  obtain ⟨te, pe, h⟩ := h
  refine ⟨iZipK F.K te, fun i => by rw [← F.hK i]; exact pi_zipK (hg i) (hm i) (pe i) (hs i) (hpl i), fun B ρ σ μ S H R E Q env ok ht hE hQ => ?_⟩
  refine h B ρ σ μ S H _ E _ env ok ht hE fun v d μ' S' H' x r _ hd => ?_
  obtain ⟨d1, d2, ds, es, rfl, e1, e2, e3, e4, hd⟩ := hd
  obtain ⟨v1, r0, rfl, r1, v2, r3, rfl, r2, rfl⟩ := r
  obtain ⟨k, a, vs, rfl, q1, q2, q3⟩ := items_seq x.ok.sub r1 e1
  obtain ⟨k', b, ws, rfl, q1', q2', q3'⟩ := items_seq x.ok.sub r2 e2
  exact ⟨k, k', a, b, vs, ws, rfl, q2, q2', hQ _ _ μ' S' H' x (fun μ2 S2 H2 ok2 s2 => wk_zip ok2 (seqK_mono ok2.sub (seqK_mono s2 q1)) (q3.sta s2 _ _ e3) (seqK_mono ok2.sub (seqK_mono s2 q1')) (q3'.sta s2 _ _ e4)) hd⟩
theorem dic_zip (hg : ∀ i, Gl (F.X i) "zip") (hm : ∀ i, (F.X i).mg "zip" = none) (h : DA Z F W [e, e2] tA) (hs : ∀ i, starEach [e, e2] (F.X i).env = (false, eval e (F.X i).env) :: starEach [e2] (F.X i).env := by intro _; rfl)
    (hpl : ∀ i, (backTo pos (starEach [e2] (F.X i).env)).any (·.1) = false := by intro _; rfl) : DIc Z F W (.Tuple elts kk tpos) (.Call (.Name "zip" p) [e, e2] [] pos) (dZipC tA) := by
  obtain ⟨te, pe, h⟩ := h
  refine ⟨iZipK F.K te, fun i => by rw [← F.hK i]; exact pi_zipK (hg i) (hm i) (pe i) (hs i) (hpl i), fun B ρ σ μ S H R E Q env ok ht hE hQ => ?_⟩
  refine h B ρ σ μ S H _ E _ env ok ht hE fun v d μ' S' H' x r _ hd => ?_
  obtain ⟨d1, d2, ds, es, rfl, e1, e2, hd⟩ := hd
  obtain ⟨v1, r0, rfl, r1, v2, r3, rfl, r2, rfl⟩ := r
  obtain ⟨k, a, vs, rfl, q1, q2, q3⟩ := items_seqC x.ok.sub r1 e1
  obtain ⟨k', b, ws, rfl, q1', q2', q3'⟩ := items_seqC x.ok.sub r2 e2
  exact ⟨k, k', a, b, vs, ws, rfl, q1, q1', hQ _ _ μ' S' H' x (fun μ2 S2 H2 x2 => wk_zip x2.ok (seqC_ext x2 q2) (q3.ext x2) (seqC_ext x2 q2') (q3'.ext x2)) hd⟩
theorem di_rng1 (hg : ∀ i, Gl (F.X i) "range") (hm : ∀ i, (F.X i).mg "range" = none) (h : DA Z F W [e] tA) (hs : ∀ i, starEach [e] (F.X i).env = [(false, eval e (F.X i).env)] := by intro _; rfl) :
    DI Z F W tg (.Call (.Name "range" p) [e] [] pos) (dRng1 tA) := by
  obtain ⟨te, pe, h⟩ := h
  refine ⟨_, fun i => pi_range1 (hg i) (hm i) (pe i) (hs i), fun B ρ σ μ S H R E Q env ok ht hE hQ => ?_⟩
  refine h B ρ σ μ S H _ E _ env ok ht hE fun v d μ' S' H' x r _ hd => ?_
  obtain ⟨j, rfl, h1, h2, hd⟩ := hd
  obtain ⟨v1, r0, rfl, r1, rfl⟩ := r
  cases r1
  exact ⟨j, rfl, h1, h2, hQ _ _ μ' S' H' x (fun μ2 S2 H2 ok2 s2 => wk_range ok2) hd⟩
theorem di_rng2 (hg : ∀ i, Gl (F.X i) "range") (hm : ∀ i, (F.X i).mg "range" = none) (h : DA Z F W [e, e2] tA) (hs : ∀ i, starEach [e, e2] (F.X i).env = [(false, eval e (F.X i).env), (false, eval e2 (F.X i).env)] := by intro _; rfl)
    (hs2 : ∀ i, starEach [e2] (F.X i).env = [(false, eval e2 (F.X i).env)] := by intro _; rfl) :
    DI Z F W tg (.Call (.Name "range" p) [e, e2] [] pos) (dRng2 tA) := by
  obtain ⟨te, pe, h⟩ := h
  refine ⟨_, fun i => pi_range2 (hg i) (hm i) (pe i) (hs i) (hs2 i), fun B ρ σ μ S H R E Q env ok ht hE hQ => ?_⟩
  refine h B ρ σ μ S H _ E _ env ok ht hE fun v d μ' S' H' x r _ hd => ?_
  obtain ⟨i, j, rfl, h1, hd⟩ := hd
  obtain ⟨v1, r0, rfl, r1, v2, r3, rfl, r2, rfl⟩ := r
  cases r1
  cases r2
  exact ⟨i, j, rfl, h1, hQ _ _ μ' S' H' x (fun μ2 S2 H2 ok2 s2 => wk_range ok2) hd⟩
end
end DL
/-! text DLf -/
/-! DL, sixth part: comprehensions; the promise of a def, its call. -/
namespace DL
open PySem PySem.Spec PyProof.Rows L2

abbrev Fm.one (X : Cx) : Fm := ⟨Unit, fun _ => X, X.K, fun _ => rfl⟩
abbrev Fm.blk (F : Fm) (scope : Scope) : Fm :=
  ⟨F.ι × Shared × Hp × Addr × List (Str × Addr) × List Addr, fun j => (F.X j.1).blk j.2.1 j.2.2.1 scope (compEnvC scope j.2.2.2.2.1 j.2.2.2.1 (F.X j.1).env) j.2.2.2.2.2, F.K, fun j => F.hK j.1⟩
abbrev W0 : WX := fun _ _ _ _ => False
section
variable (Z : Wld) (F : Fm) (W : WX)
def DTs (ifs : List Expr) (t : DTT Z) : Prop := ∃ te : TT, (∀ i, PTs (F.X i) ifs te) ∧ ∀ (B : Hp) (ρ : Rho) (σ : L2.St) (μ : Z.M) (S H : Hp) (R : Bool → Z.M → Prop) (E : Xc → Z.M → Prop) (Q : Bool → Hp → Prop),
  EnvR F.K Z B μ S H ρ σ → Ok Z μ S H → t ρ μ R E → Wish Z F W B μ S H σ E →
  (∀ (b : Bool) (μ' : Z.M) (S' H' : Hp), Ext Z μ S H μ' S' H' → R b μ' → Q b H') → te σ H Q
end
section
variable {Z : Wld} {F : Fm} {W : WX} {c elt tg iter : Expr} {te : DT Z} {tA : DTA Z} {tt : DTT Z} {g : DG} {ix : List Nat} {ifs : List Expr} {pos : Pos} {scope : Scope} {own : List (Str × Nat)}
theorem dts_nil : DTs Z F W [] dYes := ⟨_, fun _ => pts_nil, fun B ρ σ μ S H R E Q env ok h hE hQ => hQ true μ S H (.refl ok) h⟩
theorem dts_one (h : DB Z F W c tt) : DTs Z F W [c] tt := let ⟨t, p, h⟩ := h; ⟨t, fun i => pts_one (p i), h⟩
/-- what a reading of an expression that gives a new list is worth -/
def DFs (Z : Wld) (F : Fm) (W : WX) (te : TE) (t : DTA Z) : Prop := ∀ (B : Hp) (ρ : Rho) (σ : L2.St) (μ : Z.M) (S H : Hp) (R : List D → Z.M → Prop) (E : Xc → Z.M → Prop) (Q : VK),
  EnvR F.K Z B μ S H ρ σ → Ok Z μ S H → t ρ μ R E → Wish Z F W B μ S H σ E →
  (∀ (a : Addr) (vs : List V) (ds : List D) (μ' : Z.M) (S' H' : Hp), Ext Z μ S H μ' S' H' → Fr H a → H' a = some (.lst vs) → S' a = none → ¬ fb Z B μ' a → RdL F.K (fb Z B μ') S' H' ds vs → R ds μ' → Q (.ref a) H') → te σ H Q
theorem comp_core (hi : DIc Z F W tg iter tA) (hg : DGJ Z (F.blk scope) tg ix g)
    (hix : ∀ i ∈ ix, i ∈ own.map (·.2)) (ht : DTs Z (F.blk scope) W0 ifs tt) (he : DE Z (F.blk scope) W0 elt te) :
    ∃ (wi : TI) (g' : TG) (tt' : TT) (te' : TE), (∀ i, PI (F.X i) tg iter wi) ∧ (∀ i, PG ((F.blk scope).X i) tg g') ∧ (∀ i, PTs ((F.blk scope).X i) ifs tt') ∧ (∀ i, PE ((F.blk scope).X i) elt te') ∧ DFs Z F W (tLc wi g' tt' te' (own.map (·.2))) (dComp tA g tt te (own.map (·.2))) := by
  obtain ⟨wi, pi, hi⟩ := hi
  obtain ⟨g', pg, hg⟩ := hg
  obtain ⟨tt', pt, ht⟩ := ht
  obtain ⟨te', pe, he⟩ := he
  refine ⟨wi, g', tt', te', pi, pg, pt, pe, fun B ρ σ μ S H R E Q env ok h hE hQ => ?_⟩
  refine hi B ρ σ μ S H _ E _ env ok h hE fun J ds μ1 S1 H1 x1 hw h1 => ?_
  intro D hD
  have hD0 : Fr H D := x1.there D (.inl hD)
  have hB : Fr B D := env.dom D hD0
  refine ⟨fun i m H' => m = ds.length - i ∧ i ≤ ds.length ∧ ∃ (μ' : Z.M) (S' : Hp) (acc : List DL.D) (av : List V), Ext Z μ1 S1 H1 μ' S' H' ∧ H' D = some (.lst av) ∧ S' D = none ∧ ¬ fb Z B μ' D ∧ RdL F.K (fb Z B μ') S' H' acc av ∧ staL acc = true ∧
      compD g tt te R E (wipeR ρ (own.map (·.2))) (ds.drop i) acc μ', ⟨ds.length, by simp, Nat.zero_le _, μ1, S1, [], [], x1.ok.putOwn hD, upd_same, ?_, ?_, rfl, rfl, h1⟩, ?_⟩
  · cases q : S1 D with
    | none => rfl
    | some o => rw [x1.ok.sub D o q] at hD; cases hD
  · rintro (r | r)
    · exact Z.held x1.ok.j r hD
    · exact r hB
  rintro i m H' ⟨rfl, hi', μ', S', acc, av, x', e', n', f', r', s', h'⟩
  obtain ⟨w1, w2, w3⟩ := hw μ' S' H' x' i
  by_cases hlt : i < ds.length
  · have hd : ds.drop i = ds[i] :: ds.drop (i + 1) := List.drop_eq_getElem_cons hlt
    rw [hd] at h'
    refine .inr ⟨w1 hlt, fun H2 => ∃ (μ2 : Z.M) (S2 : Hp) (acc2 : List DL.D) (av2 : List V), Ext Z μ1 S1 H1 μ2 S2 H2 ∧ H2 D = some (.lst av2) ∧ S2 D = none ∧ ¬ fb Z B μ2 D ∧ RdL F.K (fb Z B μ2) S2 H2 acc2 av2 ∧ staL acc2 = true ∧
      compD g tt te R E (wipeR ρ (own.map (·.2))) (ds.drop (i + 1)) acc2 μ2, fun H2 q => ⟨ds.length - (i + 1), by omega, rfl, hlt, q⟩, fun x H2 y => ?_⟩
    obtain ⟨S2, x2, rd⟩ := w3 x H2 ds[i] (List.getElem?_eq_getElem hlt) y
    have x12 := x'.trans x2
    have env2 := (((env.ext x1).ext x12)).wipe (own.map (·.2))
    refine hg B ds[i] x _ _ μ' S2 H2 _ _ env2 x2.ok rd h' fun ρ3 σ3 env3 h3 w3 => ?_
    have ew := w3 (own.map (·.2)) hix
    have ww : wipe (wipe σ (own.map (·.2))) (own.map (·.2)) = wipe σ (own.map (·.2)) := by
      have : ∀ (vs ws : List Nat), (∀ i ∈ vs, i ∈ ws) → wipe (wipe σ vs) ws = wipe σ ws := by
        intro vs
        induction vs with
        | nil => intro ws _; rfl
        | cons v vs ih =>
          intro ws hv
          show wipe ((wipe σ vs).set v none) ws = _
          rw [wipe_set (hv v List.mem_cons_self), ih ws fun i hi => hv i (List.mem_cons_of_mem _ hi)]
      exact this _ _ fun i hi => hi
    refine ⟨ew.trans ww |>.trans rfl, ?_⟩
    refine ht B ρ3 σ3 μ' S2 H2 _ _ _ env3 x2.ok h3 (fun _ _ _ _ _ _ _ _ q => q) fun b μ4 S4 H4 x4 h4 => ?_
    have x14 := x12.trans x4
    have eD4 := (x2.trans x4).lst D av f' e'
    have nD4 : S4 D = none := by
      cases q : S4 D with
      | none => rfl
      | some o =>
        rcases (x2.trans x4).new D (by rw [q]; simp) with z | z
        · exact absurd n' z
        · exact z.nt e'
    have r4 : RdL F.K (fb Z B μ4) S4 H4 acc av := r'.ext (x2.trans x4)
    cases b with
    | false => exact ⟨μ4, S4, acc, av, x14, eD4.2, nD4, eD4.1, r4, s', h4⟩
    | true =>
      rw [if_pos rfl]
      refine he B ρ3 σ3 μ4 S4 H4 _ _ _ (env3.ext x4) x4.ok h4 (fun _ _ _ _ _ _ _ _ q => q) fun v d μ5 S5 H5 x5 r5 h5 => ?_
      obtain ⟨hst, hsz, h5⟩ := h5
      have eD5 := x5.lst D av eD4.1 eD4.2
      have nD5 : S5 D = none := by
        cases q : S5 D with
        | none => rfl
        | some o =>
          rcases x5.new D (by rw [q]; simp) with z | z
          · exact absurd nD4 z
          · exact z.nt eD4.2
      have x15 := x14.trans x5
      have rr := (r4.ext x5).append (.one r5)
      have ss : staL (acc ++ [d]) = true := staL_append s' (by simp [staL, hst])
      refine ⟨av, eD5.2, by rw [r'.length]; exact hsz, μ5, S5, acc ++ [d], av ++ [v], ?_, upd_same, nD5, eD5.1, rr.sta (Same.refl S5) _ _ ss, ss, h5⟩
      refine ⟨⟨fun b o q => ?_, Z.loc x15.ok.j (Same.refl _) fun b q => upd_ne fun z => eD5.1 (.inl (by rw [← z]; exact q)), x15.ok.off, x15.ok.nt⟩, fun b o q1 nt q2 => ?_, x15.same, x15.new, x15.reg, fun b q => ?_⟩
      · have hb : b ≠ D := fun z => by rw [z, nD5] at q; cases q
        rw [upd_ne hb]; exact x15.ok.sub b o q
      · have hb : b ≠ D := fun z => by rw [z, hD] at q2; cases q2
        rw [upd_ne hb]; exact x15.keep b o q1 nt q2
      · by_cases hb : b = D
        · rw [hb]; exact .inl hD
        · rw [Fr, upd_ne hb] at q; exact x15.there b q
  · have e : i = ds.length := by omega
    subst e
    rw [List.drop_length] at h'
    exact .inl ⟨w2 rfl, hQ D av acc μ' S' H' (x1.trans x') hD0 e' n' f' r' h'⟩
theorem df_comp (hc : ∀ i, (F.X i).calm = true) (hN : ∀ i, (F.X i).N.Nodup) (hi : DIc Z F W tg iter tA) (ok : ∀ i, BlkOk (F.X i).N (F.X i).env.scope scope own) (hg : DGJ Z (F.blk scope) tg ix g)
    (hix : ∀ i ∈ ix, i ∈ own.map (·.2)) (ht : DTs Z (F.blk scope) W0 ifs tt) (he : DE Z (F.blk scope) W0 elt te) (hs : ∀ i x, foldedSetIterable iter (F.X i).env x = pure x := by intro _ _; rfl) :
    DF Z F W (.ListComp elt [⟨tg, iter, ifs, 0⟩] scope pos) (dComp tA g tt te (own.map (·.2))) := by
  obtain ⟨wi, g', tt', te', pi, pg, pt, pe, sem⟩ := comp_core hi hg hix ht he
  exact ⟨_, fun i => pe_lc (hc i) (hN i) (pi i) (ok i) (fun s H C cl fp => pg (i, s, H, C, cl, fp)) (fun s H C cl fp => pt (i, s, H, C, cl, fp)) (fun s H C cl fp => pe (i, s, H, C, cl, fp)) (hs i), sem⟩
theorem DFs.frz {te : TE} (ha : DFs Z F W te tA) : ∀ (B : Hp) (ρ : Rho) (σ : L2.St) (μ : Z.M) (S H : Hp) (R : D → Z.M → Prop) (E : Xc → Z.M → Prop) (Q : VK),
    EnvR F.K Z B μ S H ρ σ → Ok Z μ S H → dFrz tA ρ μ R E → Wish Z F W B μ S H σ E →
    (∀ (v : V) (d : D) (μ' : Z.M) (S' H' : Hp), Ext Z μ S H μ' S' H' → Rd F.K (fb Z B μ') S' H' d v → R d μ' → Q v H') → te σ H Q := fun B ρ σ μ S H R E Q env ok h hE hQ => by
  refine ha B ρ σ μ S H _ E _ env ok h hE fun a vs ds μ1 S1 H1 x1 n1 e1 s1 g1 r1 h1 => ?_
  have x2 := x1.frz n1 e1 fun r => g1 (.inl r)
  refine hQ _ (.lst ds) μ1 _ _ x2 ⟨a, vs, rfl, upd_same, ?_⟩ h1
  exact r1.mono (fun b o q => by rw [upd_ne (ne_of_none q s1)]; exact q) fun b ws n q => ⟨n, q⟩
/-- name = [..], the name a local -/
theorem ds_setLc {i : Nat} {y : Str} {py spos : Pos} (hc : ∀ i, (F.X i).calm = true) (hN : ∀ i, (F.X i).N.Nodup) (hy : ∀ j, (F.X j).N[i]? = some y) (hyl : ∀ j, (F.X j).env.scope.names.lookup y = some .local) (hk : ∀ j, (F.X j).env.scope.kind = .function)
    (hi : DIc Z F W tg iter tA) (ok : ∀ i, BlkOk (F.X i).N (F.X i).env.scope scope own) (hg : DGJ Z (F.blk scope) tg ix g)
    (hix : ∀ i ∈ ix, i ∈ own.map (·.2)) (ht : DTs Z (F.blk scope) W0 ifs tt) (he : DE Z (F.blk scope) W0 elt te) (hl : (py.line == pos.line) = true := by rfl) (hsc : (scope.names.any fun (n, k) => n == y && (k == .local || k == .cell)) = false := by decide +kernel) (hs : ∀ i x, foldedSetIterable iter (F.X i).env x = pure x := by intro _ _; rfl) :
    DS Z F W (.Assign [.Name y py] (.ListComp elt [⟨tg, iter, ifs, 0⟩] scope pos) spos) (dsAsg (dFrz (dComp tA g tt te (own.map (·.2)))) (dName i)) := by
  obtain ⟨wi, g', tt', te', pi, pg, pt, pe, sem⟩ := comp_core hi hg hix ht he
  refine ⟨_, fun j => ps_setLc (hc j) (hN j) (hy j) (hyl j) (sw_true (hk j) (hyl j) hl hsc) (pi j) (ok j) (fun s H C cl fp => pg (j, s, H, C, cl, fp)) (fun s H C cl fp => pt (j, s, H, C, cl, fp)) (fun s H C cl fp => pe (j, s, H, C, cl, fp)) (hs j), fun μ0 S0 H0 ρ σ μ S H B L r ht k => ?_⟩
  refine sem.frz H0 ρ σ μ S H _ _ _ r.env r.ok ht (k.wish r) fun v d μ' S' H' x rd hd => ?_
  exact k.nx _ _ _ _ _ ⟨(r.env.ext x).put hd.1 rd, r.ext.trans x⟩ x.same hd.2
theorem ds_ownLc {i : Nat} {y : Str} {py spos : Pos} (hc : ∀ i, (F.X i).calm = true) (hN : ∀ i, (F.X i).N.Nodup) (hy : ∀ j, (F.X j).N[i]? = some y) (hyl : ∀ j, (F.X j).env.scope.names.lookup y = some .local) (hk : ∀ j, (F.X j).env.scope.kind = .function)
    (hi : DIc Z F W tg iter tA) (ok : ∀ i, BlkOk (F.X i).N (F.X i).env.scope scope own) (hg : DGJ Z (F.blk scope) tg ix g)
    (hix : ∀ i ∈ ix, i ∈ own.map (·.2)) (ht : DTs Z (F.blk scope) W0 ifs tt) (he : DE Z (F.blk scope) W0 elt te) (hl : (py.line == pos.line) = true := by rfl) (hsc : (scope.names.any fun (n, k) => n == y && (k == .local || k == .cell)) = false := by decide +kernel) (hs : ∀ i x, foldedSetIterable iter (F.X i).env x = pure x := by intro _ _; rfl) :
    DS Z F W (.Assign [.Name y py] (.ListComp elt [⟨tg, iter, ifs, 0⟩] scope pos) spos) (dsOwn i (dComp tA g tt te (own.map (·.2)))) := by
  obtain ⟨wi, g', tt', te', pi, pg, pt, pe, sem⟩ := comp_core hi hg hix ht he
  refine ⟨_, fun j => ps_setLc (hc j) (hN j) (hy j) (hyl j) (sw_true (hk j) (hyl j) hl hsc) (pi j) (ok j) (fun s H C cl fp => pg (j, s, H, C, cl, fp)) (fun s H C cl fp => pt (j, s, H, C, cl, fp)) (fun s H C cl fp => pe (j, s, H, C, cl, fp)) (hs j), fun μ0 S0 H0 ρ σ μ S H B L r ht k => ?_⟩
  refine sem H0 ρ σ μ S H _ _ _ r.env r.ok ht (k.wish r) fun a vs ds μ' S' H' x n e1 s1 f1 rd hd => ?_
  refine k.nx _ _ _ _ _ ⟨(r.env.ext x).putOwn e1 s1 f1 hd.1 rd fun j xs q1 q2 => ?_, r.ext.trans x⟩ x.same hd.2
  obtain ⟨o, z1, z2⟩ := r.env.get j _ q1
  rw [q2] at z1
  cases z1
  obtain ⟨a', vs', z3, z4, _⟩ := z2
  cases z3
  exact n.nt z4
end

/-! ### a def's promise where no guard stands around (repr asks that) -/
structure FnG (P : Program) (w : World) (K : PySem.W.Frag) (mg : Str → Option Value) (base : Heap) (k : Nat) (f : Addr) (fd : FuncData) (ps : List Str) (sp : Sp) : Prop where
  len : ∀ vs H Q E, sp vs H Q E → vs.length = ps.length
  run : ∀ (A : Around) (outer : List PySem.Env) (s : Shared) (H : Hp) (args : Args) (us : List Value) (vs : List V) (Q : VK) (E : XK), Room k A → A.guards = some [] → Env0 P w K mg base A outer s H → BindsTo s fd args (ps.zip us) →
    Vals vs us → sp vs H Q E → codeAny (model P w) A (.call (.ref f) args) (CR (L2.CX P w) outer P w H s Q E) s
theorem FnG.mono {P : Program} {w : World} {K : PySem.W.Frag} {mg : Str → Option Value} {base : Heap} {j k : Nat} {f : Addr} {fd : FuncData} {ps : List Str} {sp : Sp} (G : FnG P w K mg base j f fd ps sp) (h : j ≤ k) : FnG P w K mg base k f fd ps sp :=
  ⟨G.len, fun A outer s H args us vs Q E hr => G.run A outer s H args us vs Q E (hr.mono h)⟩
theorem FnG.of {P : Program} {w : World} {K : PySem.W.Frag} {mg : Str → Option Value} {base : Heap} {k : Nat} {f : Addr} {fd : FuncData} {ps : List Str} {sp : Sp} (G : FnOk P w K mg base (L2.CX P w) k f fd ps sp) : FnG P w K mg base k f fd ps sp :=
  ⟨G.len, fun A outer s H args us vs Q E hr _ => G.run A outer s H args us vs Q E hr⟩
theorem fn_g {P : Program} {w : World} {K : PySem.W.Frag} {mg : Str → Option Value} {base : Heap} {k : Nat} {f : Addr} {fd : FuncData} {x qual : Str} {st : Stmt} {N ps : List Str} {sp : Sp} (F : Fun K x qual st f fd) (S : FnScope N ps (defScope st))
    (len : ∀ vs H Q E, sp vs H Q E → vs.length = ps.length)
    (hbody : ∀ (cdv : Value) (A : Around) (outer : List PySem.Env) (s : Shared) (H : Hp) (vs : List V) (Q : VK) (E : XK), Room k (A.deeper (envOfC qual (defScope st) s.heap.objs.size f cdv)) → (A.deeper (envOfC qual (defScope st) s.heap.objs.size f cdv)).guards = some [] → sp vs H Q E →
      ∃ t, PSs (cxOf (L2.CX P w) P w K mg base N qual (defScope st) f cdv A outer s H E) (defBody st) t ∧ t { nx := fun _ H' => Q .non H', rt := Q } (L2.start N vs) H) : FnG P w K mg base (k + 1) f fd ps sp := by
  obtain ⟨oc, od, kV, doc, pm, an, cdv, ct, osl, rfl, lk, hcd⟩ := F.ex
  refine ⟨len, fun A outer s H args us vs Q E hr gu e0 hb r hsp => ?_⟩
  have KX : K.In s.heap := e0.mod.kin.keeps fun b o e => (e0.bs b o e).1
  have hk : ∀ y ∈ ps.zip us, (defScope st).names.lookup y.1 = some .local ∨ ((defScope st).names.lookup y.1 = some .cell ∧ ((cellsFrom (s.heap.objs.size + 1) (defScope st).names []).lookup y.1).isSome = true) := fun ⟨n, v⟩ hy =>
    (S.par n (List.of_mem_zip hy).1).imp id fun q => ⟨q, PySem.W.cellsFrom_some _ _ _ (.inl q)⟩
  refine codeAny_call_function hr.depth (KX _ _ lk) rfl S.co S.gen rfl (PySem.W.codeRec_of KX hcd) (hb _ _ _ _ ?_)
  refine wpAny_newFunctionEnv_cells S.kind hk fun env he s1 x => ?_
  subst he
  refine ⟨(e0.mod.nolimit.keeps fun b o e => (e0.bs b o e).1).keeps x.toInCall.keep, codeAny_func ?_⟩
  obtain ⟨t, ht, hq⟩ := hbody cdv A outer s H vs Q E (hr.deeper _) gu hsp
  refine wpAny_mono (ht.run [] s1 (L2.start N vs) H _ (inv_start S hr.hd e0 (len _ _ _ _ hsp) r x) hq) (fun fl s' hs => ?_) fun e s' hs => hs
  cases fl with
  | ret u => obtain ⟨v, σ', H', J, rv, q⟩ := hs; exact ⟨v, H', J.os, J.bare, J.base, J.hok, rv, q⟩
  | next => obtain ⟨σ', H', J, q⟩ := hs; exact ⟨.non, H', J.os, J.bare, J.base, J.hok, rfl, q⟩
  | brk => obtain ⟨_, _, _, q⟩ := hs; exact False.elim q
  | cont => obtain ⟨_, _, _, q⟩ := hs; exact False.elim q
section
variable {X : Cx} {k : Nat} {f : Addr} {fd : FuncData} {ps : List Str} {sp : Sp} {E : L2.St → XK} {x : Str} {p pos : Pos} {e : Expr} {es : List Expr} {t : TA}
theorem run_g {pins : List (Addr × Obj)} {σ : L2.St} {H : Hp} {s : Shared} {Q : VK} {us : List Value} {vs : List V} (G : FnG X.prog X.w X.K X.mg X.base k f fd ps sp) (hr : Room k X.A) (gu : X.A.guards = some []) (hb : Binds X.K fd ps []) (hx : PassesAt (L2.CX X.prog X.w) X σ (E σ))
    (I : Inv X pins σ H s) (r : Vals vs us) (h : sp vs H Q (E σ)) : wpAny (model X.prog X.w) X.A (call (.ref f) us) (EP X pins σ Q) X.xe s := by
  have hl : us.length = ps.length := r.length.symm.trans (G.len _ _ _ _ h)
  have b := hb s us I.kIn (by simpa using hl)
  simp only [List.append_nil] at b
  refine wpAny_call (codeAny_mono (G.run X.A X.stack s H ⟨us, []⟩ us vs Q (E σ) hr gu I.env0 b r h) fun r s' hq => ?_)
  match r, hq with
  | .error e, hq => exact hx pins H s e s' I hq
  | .ok (.ret u), hq => exact I.after hq
  | .ok .next, hq => exact False.elim hq
  | .ok .brk, hq => exact False.elim hq
  | .ok .cont, hq => exact False.elim hq
theorem pe_callG (G : FnG X.prog X.w X.K X.mg X.base k f fd ps sp) (hr : Room k X.A) (gu : X.A.guards = some []) (hg : Gl X x) (hm : X.mg x = some (.ref f)) (hk : PySem.W.keepIn X.K (.ref f) = true) (hb : Binds X.K fd ps []) (hx : ∀ σ, PassesAt (L2.CX X.prog X.w) X σ (E σ))
    (ha : PA X (e :: es) t) (hdb : (x == ("__debug__" : Str)) = false := by decide) (he : starEach (e :: es) X.env = (false, eval e X.env) :: starEach es X.env := by rfl) (hpl : (backTo pos (starEach es X.env)).any (·.1) = false := by rfl) :
    PE X (.Call (.Name x p) (e :: es) [] pos) (tCallS sp E t) :=
  ⟨fun pins s σ H Q I h => wpAny_Call_Name_kw (ld_glob I hg hm (PySem.W.callWith_K (h₀ := X.base) I.ok.mod.kin hk (thn (ha.run pos pins s σ H _ I h) fun us s1 ⟨vs, H1, I1, r, q⟩ => ⟨I1.kIn, run_g G hr gu hb (hx σ) I1 r q⟩) he hpl) hdb)⟩
end

/-! ### the promise of a def -/
abbrev SpD0 (M : Type) := List D → M → (D → M → Prop) → (Xc → M → Prop) → Prop
abbrev SpD (Z : Wld) := SpD0 Z.M
def spOf (K : PySem.W.Frag) (Z : Wld) (n : Nat) (sp : SpD Z) : Sp := fun vs H Q E => vs.length = n ∧ ∃ (ds : List D) (μ : Z.M) (S : Hp) (R : D → Z.M → Prop) (Ed : Xc → Z.M → Prop),
  Ok Z μ S H ∧ RdL K (fb Z H μ) S H ds vs ∧ staL ds = true ∧ sp ds μ R Ed ∧
  (∀ (v : V) (d : D) (μ' : Z.M) (S' H' : Hp), Ext Z μ S H μ' S' H' → sta d = true → Rd K (fb Z H μ') S' H' d v → R d μ' → Q v H') ∧
  (∀ (x : Xc) (μ' : Z.M) (S' H' : Hp) (cls : Value) (dd : Option Addr), Ext Z μ S H μ' S' H' → XcR K (fb Z H μ') S' H' x cls dd → Ed x μ' → E cls dd H')
/-- the slots at the entry -/
def startD (N : List Str) (ds : List D) : Rho := ds.map .val ++ List.replicate (N.length - ds.length) .un
theorem start_env {K : PySem.W.Frag} {Z : Wld} {N : List Str} {ds : List D} {vs : List V} {μ : Z.M} {S H : Hp} (r : RdL K (fb Z H μ) S H ds vs) (t : staL ds = true) : EnvR K Z H μ S H (startD N ds) (L2.start N vs) := by
  have hl := r.length
  have nown : ∀ (i : Nat) (xs : List D), (startD N ds)[i]? ≠ some (.own xs) := fun i xs e => by
    have := List.mem_of_getElem? e
    unfold startD at this
    rcases List.mem_append.mp this with q | q
    · obtain ⟨d, _, z⟩ := List.mem_map.mp q
      cases z
    · have := List.eq_of_mem_replicate q
      cases this
  refine ⟨by unfold startD L2.start; simp [hl], fun i s e => ?_, fun i j xs ys a e1 _ _ _ => absurd e1 (nown i xs), fun a q => q⟩
  unfold startD at e
  unfold L2.start
  by_cases hi : i < ds.length
  · rw [List.getElem?_append_left (by simpa using hi), List.getElem?_map, List.getElem?_eq_getElem hi] at e
    rw [List.getElem?_append_left (by simp; omega), List.getElem?_map]
    obtain ⟨v, hv, rv⟩ := r.get (List.getElem?_eq_getElem hi)
    cases e
    exact ⟨some v, by rw [hv]; rfl, v, rfl, sta_at t (List.getElem?_eq_getElem hi), rv⟩
  · rw [List.getElem?_append_right (by simpa using hi)] at e
    have := List.eq_of_mem_replicate (List.mem_of_getElem? e)
    subst this
    rw [List.getElem?_append_right (by simp; omega)]
    have hz := (List.getElem?_eq_some_iff.mp e).1
    simp only [List.length_map, List.length_replicate] at hz
    exact ⟨none, List.getElem?_replicate_of_lt (by simp; omega), trivial⟩
section
variable {P : Program} {w : World} {K : PySem.W.Frag} {mg : Str → Option Value} {base : Heap} {Z : Wld}
/-- THE RULE of a def by data -/
theorem fn_d {x qual : Str} {st : Stmt} {f : Addr} {fd : FuncData} {N ps : List Str} {k : Nat} {sp : SpD Z} {t : DTS Z} (F : Fun K x qual st f fd) (S : FnScope N ps (defScope st))
    (hb : ∀ (cdv : Value) (A : Around) (outer : List PySem.Env) (s : Shared) (H : Hp) (E : XK), Room k (A.deeper (envOfC qual (defScope st) s.heap.objs.size f cdv)) → (A.deeper (envOfC qual (defScope st) s.heap.objs.size f cdv)).guards = some [] →
      DSs Z (Fm.one (cxOf (L2.CX P w) P w K mg base N qual (defScope st) f cdv A outer s H E)) (fun cls d _ H' => E cls d H') (defBody st) t)
    (h : ∀ ds μ R Ed, ds.length = ps.length → sp ds μ R Ed → staL ds = true → t { nx := fun _ μ' => R .non μ', rt := R, ex := fun x _ μ' => Ed x μ' } (startD N ds) μ) :
    FnG P w K mg base (k + 1) f fd ps (spOf K Z ps.length sp) := by
  refine fn_g F S (fun vs H Q E q => q.1) fun cdv A outer s H vs Q E hr gu q => ?_
  obtain ⟨hl, ds, μ, S0, R, Ed, ok, rd, st', hsp, hQ, hE⟩ := q
  obtain ⟨ts, pt, ht⟩ := hb cdv A outer s H E hr gu
  refine ⟨ts, pt (), ht μ S0 H _ _ μ S0 H _ _ ⟨start_env rd st', .refl ok⟩ (h ds μ R Ed (by rw [← rd.length]; exact hl) hsp st') ⟨fun ρ' σ' μ' S' H' r s h => ?_, fun _ _ _ _ _ _ _ h => h.elim, fun _ _ _ _ _ _ _ h => h.elim, fun v d μ' S' H' x s r h => hQ v d μ' S' H' x s r h, fun y ρ' σ' μ' S' H' cls dd r s q h => hE y μ' S' H' cls dd r.ext q h⟩⟩
  exact hQ .non .non μ' S' H' r.ext rfl rfl h
end
section
variable {Z : Wld} {F : Fm} {W : WX} {e : Expr} {es : List Expr} {tA : DTA Z} {x : Str} {p pos : Pos}
def dCall {M : Type} (sp : SpD0 M) (tA : DTA0 M) : DT0 M := fun ρ μ R E => tA ρ μ (fun ds μ1 => staL ds = true ∧ sp ds μ1 R E) E
theorem XcR.sta {K : PySem.W.Frag} {rg rg' : Addr → Prop} {S H : Hp} {y : Xc} {cls : Value} {d : Option Addr} (h : XcR K rg S H y cls d) : XcR K rg' S H y cls d := by
  obtain ⟨h1, h2⟩ := h
  refine ⟨h1, h2.imp id ?_⟩
  rintro ⟨dd, ws, q1, q2, q3, q4⟩
  exact ⟨dd, ws, q1, q2, q3, q4.sta⟩
theorem dx_call {k n : Nat} {f : Addr} {fd : FuncData} {ps : List Str} {sp : SpD Z} (G : ∀ i, FnG (F.X i).prog (F.X i).w (F.X i).K (F.X i).mg (F.X i).base k f fd ps (spOf F.K Z n sp)) (hr : ∀ i, Room k (F.X i).A) (gu : ∀ i, (F.X i).A.guards = some [])
    (hg : ∀ i, Gl (F.X i) x) (hm : ∀ i, (F.X i).mg x = some (.ref f)) (hk : ∀ i, PySem.W.keepIn (F.X i).K (.ref f) = true) (hb : ∀ i, Binds (F.X i).K fd ps []) (tk : ∀ i, Takes (F.X i) W) (ha : DA Z F W (e :: es) tA) (hn : (e :: es).length = n := by rfl)
    (hdb : (x == ("__debug__" : Str)) = false := by decide) (he : ∀ i, starEach (e :: es) (F.X i).env = (false, eval e (F.X i).env) :: starEach es (F.X i).env := by intro _; rfl) (hpl : ∀ i, (backTo pos (starEach es (F.X i).env)).any (·.1) = false := by intro _; rfl) :
    DE Z F W (.Call (.Name x p) (e :: es) [] pos) (dCall sp tA) := by
  obtain ⟨ta, pa, ha⟩ := ha
  refine ⟨_, fun i => pe_callG (G i) (hr i) (gu i) (hg i) (hm i) (hk i) (hb i) (fun σ => passAt (tk i) σ) (pa i) hdb (he i) (hpl i), fun B ρ σ μ S H R E Q env ok h hE hQ => ?_⟩
  refine ha B ρ σ μ S H _ E _ env ok h hE fun vs ds μ1 S1 H1 x1 r1 l1 h1 => ?_
  refine ⟨by rw [r1.length, l1, hn], ds, μ1, S1, R, E, x1.ok, r1.sta (Same.refl S1) _ _ h1.1, h1.1, h1.2, fun v d μ' S' H' x2 st rd hd => hQ v d μ' S' H' (x1.trans x2) (rd.sta (Same.refl S') _ _ st) hd, fun y μ' S' H' cls dd x2 xr hy => hE y μ' S' H' cls dd (x1.trans x2) xr.sta hy⟩
end
end DL
/-! text DLg -/
/-! DL, seventh part: operators, comparisons, subscripts, slices, built-in functions, by data. -/
namespace DL
open PySem PySem.Spec PyProof.Rows L2
/-! ### rules of the layer below that are lacking -/
section
variable {prog : Program} {w : World} {A : Around} {E : Value → Shared → Prop} {s : Shared}
theorem cat_tup0 {t b : Addr} {ws : List Value} {Q : Value → Shared → Prop} (ht : IsTup s.heap t #[]) (hb : IsTup s.heap b ws.toArray) (h : Q (.ref b) s) : wpAny (model prog w) A (binaryOp .Add (.ref t) (.ref b)) Q E s := by
  obtain ⟨⟨cls, dd, data, sl⟩, ho, hc, n, hd⟩ := id ht
  obtain ⟨⟨cls2, dd2, data2, sl2⟩, ho2, hc2, n2, hd2⟩ := id hb
  simp only at hc hd hc2 hd2
  subst hc hd hc2 hd2
  exact concat_meets ⟨_, ho, rfl⟩ ⟨_, ho2, rfl⟩ noFill_tuple_add seq_tuple_add PySem.F.slot_tuple_add PySem.F.entry_tuple_add (PySem.F.args_tuple_add_2 _ _)
    (tuple_addW0 t b #[] ws.toArray n n2 dd dd2 sl sl2 rfl) ⟨ho, ho2, h⟩
end
section
variable {X : Cx}
def rCat0 (K : PySem.W.Frag) : R2 := fun x y H Q => ∃ a b ys, x = .ref a ∧ y = .ref b ∧ SqT K H a [] ∧ SqT K H b ys ∧ Q (.ref b) H
theorem op_cat0 : OpR X (binaryOp .Add) (rCat0 X.K) := by
  intro pins s σ H x y v u Q I rx ry h
  obtain ⟨a, b, ys, rfl, rfl, ha, hb, q⟩ := h
  cases rx
  cases ry
  obtain ⟨its, r, ht, _⟩ := I.tuple ha
  obtain ⟨its2, r2, ht2, _⟩ := I.tuple hb
  cases r
  exact cat_tup0 ht ht2 ⟨.ref b, H, I, rfl, q⟩
/-- t[:], the whole: the very object -/
def rSlW (K : PySem.W.Frag) : V → Option Int → Option Int → Hp → VK → Prop := fun x lo hi H Q => ∃ a xs, x = .ref a ∧ SqT K H a xs ∧ (HT.sIx xs.length 0 lo = 0 ∧ HT.sIx xs.length xs.length hi = xs.length) ∧ Q (.ref a) H
theorem whole_tup {prog : Program} {w : World} {A : Around} {E : Value → Shared → Prop} {s : Shared} {t sl : Addr} {items : Array Value} {vl vu : Value} {lo hi : Option Int} {Q : Value → Shared → Prop} (ht : IsTup s.heap t items) (hs : s.heap.IsSliceOf sl vl vu .none) (pl : IsPart vl lo) (pu : IsPart vu hi)
    (hw : HT.sIx items.size 0 lo = 0 ∧ HT.sIx items.size items.size hi = items.size) (h : Q (.ref t) s) : wpAny (model prog w) A (getItem (.ref t) (.ref sl)) Q E s := by
  obtain ⟨os, hos, hcs, hds⟩ := id hs
  have hTs : s.TypeIs (.ref sl) "slice" := ⟨os, hos, hcs⟩
  unfold getItem
  try with_reducible refine wpAny_holding ?_
  first | refine wpAny_bind (wpAny_pure ?_) | skip
  refine wpAny_bind (wpAny_sequenceKey ht.typeIs (by decide) ?_)
  refine wpAny_bind (wpAny_callSpecial?_slot (name := Str.ofString "__getitem__") ht.typeIs PyProof.Rows.slot_tuple_getitem
    (wpAny_call_entry PyProof.Rows.slot_tuple_getitem ht.typeIs entry_tuple_getitem ?_ (args_tuple_getitem _ _)))
  show wpAny _ _ (Builtin.Tuple.tupleItemsOf (.ref t) >>= _) _ _ s
  refine wpAny_bind (tupleItemsOf_ ht ?_)
  refine wpAny_bind (wpAny_typeOf hTs ?_)
  rw [if_pos (by decide)]
  refine wpAny_bind (HT.sliceApplied_gen hs pl pu ?_)
  have hyes : ((((HT.sIx items.size 0 lo : Nat) : Int) == 0 && (1 : Int) == 1 && (HT.sIx items.size items.size hi - HT.sIx items.size 0 lo) == items.size) = true) := by
    rw [hw.1, hw.2]; simp
  show wpAny _ _ (if (((HT.sIx items.size 0 lo : Nat) : Int) == 0 && (1 : Int) == 1 && (HT.sIx items.size items.size hi - HT.sIx items.size 0 lo) == items.size) = true then _ else _) _ _ s
  rw [if_pos hyes]
  refine wpAny_bind (m := Builtin.Tuple.tupleIsExact _) ?_
  unfold Builtin.Tuple.tupleIsExact
  refine wpAny_bind (wpAny_typeOf ht.typeIs (wpAny_pure ?_))
  rw [if_pos (by simp)]
  refine wpAny_bind (wpAny_rule ?_)
  exact wpAny_bind (wpAny_pure (wpAny_pure ⟨_, rfl, wpAny_pure h⟩))
theorem sl_whole : SlR X (rSlW X.K) := by
  intro pins s σ H x v vl vu lo hi sl Q I rx hs pl pu h
  obtain ⟨a, xs, rfl, hx, hw, q⟩ := h
  cases rx
  obtain ⟨its, r, ht, hz⟩ := I.tuple hx
  have hlen : its.toArray.size = xs.length := by rw [List.size_toArray]; exact r.length.symm
  exact ⟨"tuple", _, PyProof.Rows.slot_tuple_getitem.lookup, ht.typeIs, whole_tup ht hs pl pu (by rw [hlen]; exact hw) ⟨.ref a, H, I, rfl, q⟩⟩
end

section
variable {X : Cx}
/-- lists or tuples, one of them empty -/
def rEmp (K : PySem.W.Frag) (g : Bool → Bool) : R2 := fun x y H Q => ∃ a b xs ys, x = .ref a ∧ y = .ref b ∧ ((SqL K H a xs ∧ SqL K H b ys) ∨ (SqT K H a xs ∧ SqT K H b ys)) ∧ (xs = [] ∨ ys = []) ∧ Q (.bl (g (xs.isEmpty && ys.isEmpty))) H
theorem op_empEq (hu : X.A.units + 64 < cLine) : OpR X (compareOp .Eq) (rEmp X.K fun k => k) := by
  intro pins s σ H x y v u Q I rx ry h
  obtain ⟨a, b, xs, ys, rfl, rfl, hab, he, q⟩ := h
  cases rx
  cases ry
  rcases hab with ⟨ha, hb⟩ | ⟨ha, hb⟩
  · obtain ⟨its, r1, p1, _⟩ := I.list ha
    obtain ⟨its2, r2, p2, _⟩ := I.list hb
    have l1 := r1.length
    have l2 := r2.length
    by_cases hs : its.length = its2.length
    · have z1 : its = [] := by rcases he with e | e <;> subst e <;> simp at l1 l2 <;> apply List.length_eq_zero_iff.mp <;> omega
      have z2 : its2 = [] := by subst z1; apply List.length_eq_zero_iff.mp; simpa using hs.symm
      subst z1 z2
      have x1 : xs = [] := List.length_eq_zero_iff.mp l1
      have x2 : ys = [] := List.length_eq_zero_iff.mp l2
      subst x1 x2
      exact SeqAt.RcAt.lists (e := fun _ => true) p1.isList p2.isList rfl (by omega) (fun j h1 _ => by simp at h1) _ _ _ _ ⟨.bl true, H, I, rfl, q⟩
    · refine SeqAt.RcAt.lists_lengths p1.isList p2.isList (by simpa using hs) (by omega) _ _ _ _ ⟨.bl false, H, I, rfl, ?_⟩
      have e : (xs.isEmpty && ys.isEmpty) = false := by
        cases xs <;> cases ys <;> simp at l1 l2 ⊢
        omega
      rw [e] at q
      exact q
  · obtain ⟨its, r1, p1, _⟩ := I.tuple ha
    obtain ⟨its2, r2, p2, _⟩ := I.tuple hb
    have l1 := r1.length
    have l2 := r2.length
    have z : its.length = 0 ∨ its2.length = 0 := he.imp (fun e => by rw [← l1, e]; rfl) fun e => by rw [← l2, e]; rfl
    refine SeqAt.RcAt.tuples (e := fun _ => true) (let ⟨o, a, b, n, c⟩ := p1; ⟨o, a, b, n, c⟩) (let ⟨o, a, b, n, c⟩ := p2; ⟨o, a, b, n, c⟩) (by omega) (fun j h1 h2 => by
      rw [List.size_toArray] at h1 h2
      omega) _ _ _ _ ⟨.bl (xs.isEmpty && ys.isEmpty), H, I, ?_, q⟩
    show Value.bool _ = Value.bool _
    congr 1
    rw [List.size_toArray, List.size_toArray, ← l1, ← l2]
    rcases he with e | e <;> subst e <;> first | (cases ys <;> simp) | (cases xs <;> simp)
theorem op_empNotEq (hu : X.A.units + 64 < cLine) : OpR X (compareOp .NotEq) (rEmp X.K fun k => !k) := by
  intro pins s σ H x y v u Q I rx ry h
  obtain ⟨a, b, xs, ys, rfl, rfl, hab, he, q⟩ := h
  cases rx
  cases ry
  rcases hab with ⟨ha, hb⟩ | ⟨ha, hb⟩
  · obtain ⟨its, r1, p1, _⟩ := I.list ha
    obtain ⟨its2, r2, p2, _⟩ := I.list hb
    have l1 := r1.length
    have l2 := r2.length
    by_cases hs : its.length = its2.length
    · have z1 : its = [] := by rcases he with e | e <;> subst e <;> simp at l1 l2 <;> apply List.length_eq_zero_iff.mp <;> omega
      have z2 : its2 = [] := by subst z1; apply List.length_eq_zero_iff.mp; simpa using hs.symm
      subst z1 z2
      have x1 : xs = [] := List.length_eq_zero_iff.mp l1
      have x2 : ys = [] := List.length_eq_zero_iff.mp l2
      subst x1 x2
      exact SeqAt.RcNeAt.lists (e := fun _ => true) p1.isList p2.isList rfl (by omega) (fun j h1 _ => by simp at h1) _ _ _ _ ⟨.bl false, H, I, rfl, q⟩
    · refine SeqAt.RcNeAt.lists_lengths p1.isList p2.isList (by simpa using hs) (by omega) _ _ _ _ ⟨.bl true, H, I, rfl, ?_⟩
      have e : (xs.isEmpty && ys.isEmpty) = false := by
        cases xs <;> cases ys <;> simp at l1 l2 ⊢
        omega
      rw [e] at q
      exact q
  · obtain ⟨its, r1, p1, _⟩ := I.tuple ha
    obtain ⟨its2, r2, p2, _⟩ := I.tuple hb
    have l1 := r1.length
    have l2 := r2.length
    have z : its.length = 0 ∨ its2.length = 0 := he.imp (fun e => by rw [← l1, e]; rfl) fun e => by rw [← l2, e]; rfl
    refine SeqAt.RcNeAt.tuples (e := fun _ => true) (let ⟨o, a, b, n, c⟩ := p1; ⟨o, a, b, n, c⟩) (let ⟨o, a, b, n, c⟩ := p2; ⟨o, a, b, n, c⟩) (by omega) (fun j h1 h2 => by
      rw [List.size_toArray] at h1 h2
      omega) _ _ _ _ ⟨.bl (!(xs.isEmpty && ys.isEmpty)), H, I, ?_, q⟩
    show Value.bool _ = Value.bool _
    congr 2
    rw [List.size_toArray, List.size_toArray, ← l1, ← l2]
    rcases he with e | e <;> subst e <;> first | (cases ys <;> simp) | (cases xs <;> simp)
end
/-! ### data told to the library -/
mutual
def pyD : D → PyData
  | .non => .none
  | .bl b => .bool b
  | .int i => .int i
  | .str s => .str s
  | .tup xs => .tuple (pyL xs)
  | .lst xs => .list (pyL xs)
  | .vw xs => .list (pyL xs)
  | .scr ns => .list (ns.map .int)
  | .dct kvs => .dict (pyK kvs)
  | .op _ => .none
  | .fn _ => .none
def pyL : List D → List PyData
  | [] => []
  | d :: ds => pyD d :: pyL ds
def pyK : List (Key × D) → List (PyData × PyData)
  | [] => []
  | (.inl i, d) :: ds => (.int i, pyD d) :: pyK ds
  | (.inr s, d) :: ds => (.str s, pyD d) :: pyK ds
end
/-! nothing but data within -/
mutual
def okD : D → Bool
  | .non => true | .bl _ => true | .int _ => true | .str _ => true | .scr _ => true
  | .tup xs => okL xs
  | .lst xs => okL xs
  | .vw xs => okL xs
  | .dct kvs => okK kvs
  | .op _ => false
  | .fn _ => false
def okL : List D → Bool
  | [] => true
  | d :: ds => okD d && okL ds
def okK : List (Key × D) → Bool
  | [] => true
  | (_, d) :: ds => okD d && okK ds
end
section
variable {K : PySem.W.Frag} {rg : Addr → Prop} {S H : Hp}
theorem dp_ints : ∀ ns : List Int, DpAll K H (ns.map V.int) (ns.map .int)
  | [] => .nil
  | n :: ns => .cons (.int n) (dp_ints ns)
mutual
theorem rd_dp (sub : Same S H) : ∀ (d : D) (v : V), okD d = true → (pyD d).canLay0 = true → Rd K rg S H d v → Dp K H v (pyD d)
  | .non, _, _, _, h => by cases h; exact .non
  | .bl b, _, _, _, h => by cases h; exact .bl b
  | .int i, _, _, _, h => by cases h; exact .int i
  | .str s, _, _, _, h => by cases h; exact .str s
  | .tup xs, _, t, c, h => by
    obtain ⟨a, vs, rfl, h1, h2⟩ := h
    simp only [okD] at t
    simp only [pyD, PyData.canLay0] at c ⊢
    exact .tup (seqT_mono sub h1) (rdl_dp sub xs vs t c h2)
  | .lst xs, _, t, c, h => by
    obtain ⟨a, vs, rfl, h1, h2⟩ := h
    simp only [okD] at t
    simp only [pyD, PyData.canLay0] at c ⊢
    exact .lst (SqL.of (sub _ _ h1)) (rdl_dp sub xs vs t c h2)
  | .vw xs, _, t, c, h => by
    obtain ⟨a, vs, rfl, h0, h1, h2⟩ := h
    simp only [okD] at t
    simp only [pyD, PyData.canLay0] at c ⊢
    exact .lst (SqL.of h1) (rdl_dp sub xs vs t c h2)
  | .scr ns, _, _, _, h => by
    obtain ⟨a, rfl, h1⟩ := h
    simp only [pyD]
    exact .lst (sub.seq h1) (dp_ints ns)
  | .dct kvs, _, _, c, _ => by simp [pyD, PyData.canLay0] at c
  | .op _, _, t, _, _ => by simp [okD] at t
  | .fn _, _, t, _, _ => by simp [okD] at t
theorem rdl_dp (sub : Same S H) : ∀ (ds : List D) (vs : List V), okL ds = true → PyData.canLayAll0 (pyL ds) = true → RdL K rg S H ds vs → DpAll K H vs (pyL ds)
  | [], _, _, _, h => by cases h; exact .nil
  | d :: ds, _, t, c, h => by
    obtain ⟨v, r, rfl, h1, h2⟩ := h
    simp only [okL, Bool.and_eq_true] at t
    simp only [pyL, PyData.canLayAll0, Bool.and_eq_true] at c
    simp only [pyL]
    exact .cons (rd_dp sub d v t.1 c.1 h1) (rdl_dp sub ds r t.2 c.2 h2)
end
end
/-! ### semantics of operators by data -/
def lstOf : D → Option (List D)
  | .lst xs => some xs
  | .vw xs => some xs
  | _ => none
def smAdd : Sm2 := fun a b R => match a, b with
  | .int i, .int j => R (.int (i + j))
  | .str x, .str y => x.length + y.length ≤ sizeLine ∧ R (.str (x ++ y))
  | .tup xs, .tup ys => xs.length + ys.length ≤ sizeLine ∧ R (.tup (xs ++ ys))
  | a, b => ∃ xs ys, lstOf a = some xs ∧ lstOf b = some ys ∧ xs.length + ys.length ≤ sizeLine ∧ R (.lst (xs ++ ys))
def smSub : Sm2 := fun a b R => ∃ i j, a = .int i ∧ b = .int j ∧ R (.int (i - j))
def smMul : Sm2 := fun a b R => match a, b with
  | .int i, .int j => (CMul i j ∨ CMulW i j) ∧ R (.int (i * j))
  | a, .int k => ∃ xs, lstOf a = some xs ∧ -(2 ^ 63) ≤ k ∧ k < 2 ^ 63 ∧ xs.length * k.toNat ≤ sizeLine ∧ R (.lst (List.replicate k.toNat xs).flatten)
  | _, _ => False
def smDiv : Sm2 := fun a b R => ∃ i j, a = .int i ∧ b = .int j ∧ CDivW i j ∧ R (.int (i / j))
def smMod : Sm2 := fun a b R => ∃ i j, a = .int i ∧ b = .int j ∧ 0 < j ∧ R (.int (i % j))
def smPow : Sm2 := fun a b R => ∃ i j, a = .int i ∧ b = .int j ∧ CPow i j ∧ R (.int (i ^ j.toNat))
def smC (p : Int → Int → Bool) : Sm2 := fun a b R => ∃ i j, a = .int i ∧ b = .int j ∧ R (.bl (p i j))
def smLt : Sm2 := smC fun i j => decide (i < j)
def smLe : Sm2 := smC fun i j => decide (i ≤ j)
def smGt : Sm2 := smC fun i j => decide (j < i)
def smGe : Sm2 := smC fun i j => decide (j ≤ i)
def eqD (a b : D) : Bool := PyData.eqv (pyD a) (pyD b)
def cmpOk (a b : D) : Prop := okD a = true ∧ okD b = true ∧ SeqAt.shaped (pyD a) = true ∧ SeqAt.shaped (pyD b) = true
/-- two lists, or two tuples, of which one is empty: the answer -/
def empA : D → D → Option Bool
  | .tup xs, .tup ys => if xs.isEmpty || ys.isEmpty then some (xs.isEmpty && ys.isEmpty) else none
  | a, b => match lstOf a, lstOf b with
    | some xs, some ys => if xs.isEmpty || ys.isEmpty then some (xs.isEmpty && ys.isEmpty) else none
    | _, _ => none
def smEq : Sm2 := fun a b R => match a, b with
  | .str x, .str y => R (.bl (decide (x = y)))
  | a, b => (∃ k, empA a b = some k ∧ R (.bl k)) ∨ (cmpOk a b ∧ R (.bl (eqD a b)))
def smNe : Sm2 := fun a b R => match a, b with
  | .str x, .str y => R (.bl (!decide (x = y)))
  | a, b => (∃ k, empA a b = some k ∧ R (.bl (!k))) ∨ (cmpOk a b ∧ R (.bl (!eqD a b)))
def isNon : D → Bool
  | .non => true
  | _ => false
def smIs : Sm2 := fun a b R => b = .non ∧ (∀ v, a ≠ .op v) ∧ R (.bl (isNon a))
def smIsNot : Sm2 := fun a b R => b = .non ∧ (∀ v, a ≠ .op v) ∧ R (.bl (!isNon a))
def flatD : D → Bool
  | .non => true | .bl _ => true | .int _ => true | .str _ => true
  | _ => false
def inD (x : D) (xs : List D) : Bool := xs.any fun y => eqD y x
def smIn : Sm2 := fun a b R => ∃ xs, itemsC b = some xs ∧ flatD a = true ∧ xs.all flatD = true ∧ R (.bl (inD a xs))
def smNotIn : Sm2 := fun a b R => ∃ xs, itemsC b = some xs ∧ flatD a = true ∧ xs.all flatD = true ∧ R (.bl (!inD a xs))
def smIx : Sm2 := fun a b R => ∃ i, b = .int i ∧ match a with
  | .str z => z.length ≤ sizeLine ∧ ∃ c, atI z.cps.toList i = some c ∧ R (.str ⟨#[c]⟩)
  | a => ∃ xs d, itemsC a = some xs ∧ atI xs i = some d ∧ R d
def cutL {α : Type} (xs : List α) (lo hi : Option Int) : List α := (xs.drop (HT.sIx xs.length 0 lo)).take (HT.sIx xs.length xs.length hi - HT.sIx xs.length 0 lo)
section
variable {Z : Wld} {F : Fm} {W : WX}
theorem opd_int {f : Value → Value → Sem Value} {C : Int → Int → Prop} {g : Int → Int → Int} (h : ∀ i, OpR (F.X i) f (rI C fun i j => .int (g i j))) : OpD Z F f (fun a b R => ∃ i j, a = .int i ∧ b = .int j ∧ C i j ∧ R (.int (g i j))) := by
  refine ⟨_, h, fun rg μ S H a b x y R Q ok ra rb hs k => ?_⟩
  obtain ⟨i, j, rfl, rfl, hc, hs⟩ := hs
  exact ⟨i, j, ra, rb, hc, k _ (.int (g i j)) S H (.refl ok) rfl hs⟩
theorem opd_int0 {f : Value → Value → Sem Value} {g : Int → Int → Int} (h : ∀ i, OpR (F.X i) f (rI0 fun i j => .int (g i j))) : OpD Z F f (fun a b R => ∃ i j, a = .int i ∧ b = .int j ∧ R (.int (g i j))) := by
  refine ⟨_, h, fun rg μ S H a b x y R Q ok ra rb hs k => ?_⟩
  obtain ⟨i, j, rfl, rfl, hs⟩ := hs
  exact ⟨i, j, ra, rb, k _ (.int (g i j)) S H (.refl ok) rfl hs⟩
theorem opd_c {f : Value → Value → Sem Value} {p : Int → Int → Bool} (h : ∀ i, OpR (F.X i) f (rI0 fun i j => .bl (p i j))) : OpD Z F f (smC p) := by
  refine ⟨_, h, fun rg μ S H a b x y R Q ok ra rb hs k => ?_⟩
  obtain ⟨i, j, rfl, rfl, hs⟩ := hs
  exact ⟨i, j, ra, rb, k _ (.bl (p i j)) S H (.refl ok) rfl hs⟩
theorem od_sub : OpD Z F (binaryOp .Sub) smSub := opd_int0 fun _ => op_sub
theorem od_div : OpD Z F (binaryOp .FloorDiv) smDiv := opd_int fun _ => op_fdivW
theorem od_mod : OpD Z F (binaryOp .Mod) smMod := opd_int (C := fun _ j => 0 < j) fun _ => op_mod
theorem od_pow : OpD Z F (binaryOp .Pow) smPow := opd_int fun _ => op_pow
theorem od_lt : OpD Z F (compareOp .Lt) smLt := opd_c fun _ => op_lt
theorem od_le : OpD Z F (compareOp .LtE) smLe := opd_c fun _ => op_le
theorem od_gt : OpD Z F (compareOp .Gt) smGt := opd_c fun _ => op_gt
theorem od_ge : OpD Z F (compareOp .GtE) smGe := opd_c fun _ => op_ge
theorem lstOf_at {rg : Addr → Prop} {S H : Hp} {d : D} {xs : List D} {v : V} (sub : Same S H) (r : Rd F.K rg S H d v) (e : lstOf d = some xs) : ∃ a vs, v = .ref a ∧ H a = some (.lst vs) ∧ RdL F.K rg S H xs vs := by
  cases d with
  | lst ys =>
    obtain ⟨a, vs, rfl, h1, h2⟩ := r
    cases e
    exact ⟨a, vs, rfl, sub _ _ h1, h2⟩
  | vw ys =>
    obtain ⟨a, vs, rfl, h0, h1, h2⟩ := r
    cases e
    exact ⟨a, vs, rfl, h1, h2⟩
  | _ => cases e
theorem or4 {f : Value → Value → Sem Value} {r1 r2 r3 r4 : Fm → R2} (h1 : ∀ i, OpR (F.X i) f (r1 F)) (h2 : ∀ i, OpR (F.X i) f (r2 F)) (h3 : ∀ i, OpR (F.X i) f (r3 F)) (h4 : ∀ i, OpR (F.X i) f (r4 F)) :
    ∀ i, OpR (F.X i) f (fun x y H Q => r1 F x y H Q ∨ r2 F x y H Q ∨ r3 F x y H Q ∨ r4 F x y H Q) := fun i => (h1 i).or ((h2 i).or ((h3 i).or (h4 i)))
/-- data that has grown keeps its reading where a new object comes -/
theorem RdL.new {rg : Addr → Prop} {μ : Z.M} {S H : Hp} {p : Addr} {o : HO} (ok : Ok Z μ S H) (n : H p = none) {ds : List D} {vs : List V} (r : RdL F.K rg S H ds vs) : RdL F.K rg (upd S p o) (upd H p o) ds vs :=
  r.mono (fun b u e => by rw [upd_ne (fun z => by rw [z] at e; rw [ok.sub p u e] at n; cases n)]; exact e) fun a ws nf e => ⟨nf, by rw [upd_ne (ne_of_none e n)]; exact e⟩
theorem od_add : OpD Z F (binaryOp .Add) smAdd := by
  refine ⟨fun x y H Q => (rI0 (fun i j => .int (i + j)) x y H Q) ∨ (∃ i j, x = .str i ∧ y = .str j ∧ i.length + j.length ≤ sizeLine ∧ Q (.str (i ++ j)) H) ∨ rCatT F.K x y H Q ∨ rCat0 F.K x y H Q ∨ rCat x y H Q,
    fun i => by rw [← F.hK i]; exact op_add.or (op_add_str.or (op_catT.or (op_cat0.or op_cat))), fun rg μ S H a b x y R Q ok ra rb hs k => ?_⟩
  have lists : ∀ {a b : D}, Rd F.K rg S H a x → Rd F.K rg S H b y → (∃ xs ys, lstOf a = some xs ∧ lstOf b = some ys ∧ xs.length + ys.length ≤ sizeLine ∧ R (.lst (xs ++ ys))) → rCat x y H Q := fun {a b} ra rb h => by
    obtain ⟨xs, ys, e1, e2, hz, hR⟩ := h
    obtain ⟨p, vs, rfl, q1, q2⟩ := lstOf_at ok.sub ra e1
    obtain ⟨p', ws, rfl, q1', q2'⟩ := lstOf_at ok.sub rb e2
    exact ⟨p, p', vs, ws, rfl, rfl, q1, q1', by rw [q2.length, q2'.length]; exact hz, fun t ht => k _ (.lst (xs ++ ys)) _ _ (ok.put ht) ⟨t, _, rfl, upd_same, (q2.append q2').new ok ht⟩ hR⟩
  cases a with
  | int i => cases b with
    | int j => exact .inl ⟨i, j, ra, rb, k _ (.int (i + j)) S H (.refl ok) rfl hs⟩
    | _ => obtain ⟨xs, ys, e1, _⟩ := hs; cases e1
  | str z => cases b with
    | str z2 => exact .inr (.inl ⟨z, z2, ra, rb, hs.1, k _ (.str (z ++ z2)) S H (.refl ok) rfl hs.2⟩)
    | _ => obtain ⟨xs, ys, e1, _⟩ := hs; cases e1
  | tup xs => cases b with
    | tup ys =>
      obtain ⟨p, vs, rfl, h1, h2⟩ := ra
      obtain ⟨p', ws, rfl, h1', h2'⟩ := id rb
      have q1 := seqT_mono ok.sub h1
      have q1' := seqT_mono ok.sub h1'
      by_cases hv : vs = []
      · subst hv
        have hx : xs = [] := List.length_eq_zero_iff.mp (by rw [← h2.length]; rfl)
        subst hx
        exact .inr (.inr (.inr (.inl ⟨p, p', ws, rfl, rfl, q1, q1', k _ (.tup ys) S H (.refl ok) rb hs.2⟩)))
      · refine .inr (.inr (.inl ⟨p, p', vs, ws, rfl, rfl, q1, q1', hv, by rw [h2.length, h2'.length]; exact hs.1, fun hw => ?_, fun hw t ht => ?_⟩))
        · subst hw
          have hy : ys = [] := List.length_eq_zero_iff.mp (by rw [← h2'.length]; rfl)
          subst hy
          exact k _ (.tup (xs ++ [])) S H (.refl ok) ⟨p, vs, rfl, h1, by rw [List.append_nil]; exact h2⟩ hs.2
        · exact k _ (.tup (xs ++ ys)) _ _ (ok.put ht) ⟨t, _, rfl, SqT.of upd_same, (h2.append h2').new ok ht⟩ hs.2
    | _ => obtain ⟨xs, ys, e1, _⟩ := hs; cases e1
  | _ => exact .inr (.inr (.inr (.inr (lists ra rb hs))))
theorem RdL.rep {K : PySem.W.Frag} {rg : Addr → Prop} {S H : Hp} {ds : List D} {vs : List V} (r : RdL K rg S H ds vs) : ∀ n : Nat, RdL K rg S H (List.replicate n ds).flatten (List.replicate n vs).flatten
  | 0 => rfl
  | n + 1 => by
    rw [List.replicate_succ, List.replicate_succ, List.flatten_cons, List.flatten_cons]
    exact r.append (RdL.rep r n)
theorem od_mul : OpD Z F (binaryOp .Mult) smMul := by
  refine ⟨fun x y H Q => rI CMul (fun i j => .int (i * j)) x y H Q ∨ rI CMulW (fun i j => .int (i * j)) x y H Q ∨ rRep x y H Q, fun i => op_mul.or (op_mulW.or op_rep), fun rg μ S H a b x y R Q ok ra rb hs k => ?_⟩
  cases b with
  | int j =>
    have lists : (∃ xs, lstOf a = some xs ∧ -(2 ^ 63) ≤ j ∧ j < 2 ^ 63 ∧ xs.length * j.toNat ≤ sizeLine ∧ R (.lst (List.replicate j.toNat xs).flatten)) → rRep x y H Q := fun h => by
      obtain ⟨xs, e1, h1, h2, hz, hR⟩ := h
      obtain ⟨p, vs, rfl, q1, q2⟩ := lstOf_at ok.sub ra e1
      exact ⟨p, j, vs, rfl, rb, q1, h1, h2, by rw [q2.length]; exact hz, fun t ht => k _ (.lst _) _ _ (ok.put ht) ⟨t, _, rfl, upd_same, (q2.rep _).new ok ht⟩ hR⟩
    cases a with
    | int i =>
      rcases hs.1 with c | c
      · exact .inl ⟨i, j, ra, rb, c, k _ (.int (i * j)) S H (.refl ok) rfl hs.2⟩
      · exact .inr (.inl ⟨i, j, ra, rb, c, k _ (.int (i * j)) S H (.refl ok) rfl hs.2⟩)
    | _ => exact .inr (.inr (lists hs))
  | _ => cases a <;> exact hs.elim
theorem emp_rd {rg : Addr → Prop} {S H : Hp} {a b : D} {x y : V} {k : Bool} (sub : Same S H) (ra : Rd F.K rg S H a x) (rb : Rd F.K rg S H b y) (e : empA a b = some k) :
    ∃ p q vs ws, x = .ref p ∧ y = .ref q ∧ ((SqL F.K H p vs ∧ SqL F.K H q ws) ∨ (SqT F.K H p vs ∧ SqT F.K H q ws)) ∧ (vs = [] ∨ ws = []) ∧ (vs.isEmpty && ws.isEmpty) = k := by
  have ln : ∀ {vs : List V} {xs : List D}, RdL F.K rg S H xs vs → vs.isEmpty = xs.isEmpty := fun {vs xs} r => by
    have := r.length
    cases vs <;> cases xs <;> simp at this ⊢
  have em : ∀ {vs : List V} {xs : List D}, RdL F.K rg S H xs vs → xs.isEmpty = true → vs = [] := fun {vs xs} r h => by
    have := ln r
    rw [h] at this
    exact List.isEmpty_iff.mp this
  have lists : (∃ xs ys, lstOf a = some xs ∧ lstOf b = some ys ∧ (if xs.isEmpty || ys.isEmpty then some (xs.isEmpty && ys.isEmpty) else none) = some k) → ∃ p q vs ws, x = .ref p ∧ y = .ref q ∧ ((SqL F.K H p vs ∧ SqL F.K H q ws) ∨ (SqT F.K H p vs ∧ SqT F.K H q ws)) ∧ (vs = [] ∨ ws = []) ∧ (vs.isEmpty && ws.isEmpty) = k := fun ⟨xs, ys, e1, e2, e3⟩ => by
    obtain ⟨p, vs, rfl, q1, q2⟩ := lstOf_at sub ra e1
    obtain ⟨p', ws, rfl, q1', q2'⟩ := lstOf_at sub rb e2
    split at e3
    · rename_i h
      rw [Bool.or_eq_true] at h
      cases e3
      exact ⟨p, p', vs, ws, rfl, rfl, .inl ⟨SqL.of q1, SqL.of q1'⟩, h.imp (em q2) (em q2'), by rw [ln q2, ln q2']⟩
    · cases e3
  by_cases ht : (∃ xs, a = .tup xs) ∧ ∃ ys, b = .tup ys
  · obtain ⟨⟨xs, rfl⟩, ys, rfl⟩ := ht
    obtain ⟨p, vs, rfl, q1, q2⟩ := ra
    obtain ⟨p', ws, rfl, q1', q2'⟩ := rb
    have e3 : (if xs.isEmpty || ys.isEmpty then some (xs.isEmpty && ys.isEmpty) else none) = some k := e
    split at e3
    · rename_i h
      rw [Bool.or_eq_true] at h
      cases e3
      exact ⟨p, p', vs, ws, rfl, rfl, .inr ⟨seqT_mono sub q1, seqT_mono sub q1'⟩, h.imp (em q2) (em q2'), by rw [ln q2, ln q2']⟩
    · cases e3
  · refine lists ?_
    have e2 : (match lstOf a, lstOf b with
      | some xs, some ys => if xs.isEmpty || ys.isEmpty then some (xs.isEmpty && ys.isEmpty) else none
      | _, _ => none) = some k := by
      cases a <;> first | exact e | (cases b <;> first | exact e | exact absurd ⟨⟨_, rfl⟩, _, rfl⟩ ht)
    cases ea : lstOf a with
    | none => rw [ea] at e2; cases e2
    | some xs => cases eb : lstOf b with
      | none => rw [ea, eb] at e2; cases e2
      | some ys => rw [ea, eb] at e2; exact ⟨xs, ys, rfl, rfl, e2⟩
theorem od_eq (hu : ∀ i, (F.X i).A.units + 64 < cLine) : OpD Z F (compareOp .Eq) smEq := by
  refine ⟨fun x y H Q => rEq x y H Q ∨ rEmp F.K (fun k => k) x y H Q ∨ rEqD F.K x y H Q, fun i => by rw [← F.hK i]; exact op_eq.or ((op_empEq (hu i)).or (op_eqD (hu i))), fun rg μ S H a b x y R Q ok ra rb hs k => ?_⟩
  have two : ((∃ k, empA a b = some k ∧ R (.bl (k))) ∨ (cmpOk a b ∧ R (.bl (eqD a b)))) → rEq x y H Q ∨ rEmp F.K (fun k => k) x y H Q ∨ rEqD F.K x y H Q := fun h => by
    rcases h with ⟨j, e, hR⟩ | ⟨⟨o1, o2, s1, s2⟩, hs⟩
    · obtain ⟨p, q, vs, ws, e1, e2, e3, e4, e5⟩ := emp_rd ok.sub ra rb e
      exact .inr (.inl ⟨p, q, vs, ws, e1, e2, e3, e4, by rw [e5]; exact k _ (.bl (j)) S H (.refl ok) rfl hR⟩)
    · exact .inr (.inr ⟨pyD a, pyD b, rd_dp ok.sub a x o1 (SeqAt.canLay_of_shaped s1) ra, rd_dp ok.sub b y o2 (SeqAt.canLay_of_shaped s2) rb, s1, s2, k _ (.bl (eqD a b)) S H (.refl ok) rfl hs⟩)
  cases a with
  | str z => cases b with
    | str z2 =>
      cases ra
      cases rb
      refine .inl ⟨rfl, k _ (.bl (decide (z = z2))) S H (.refl ok) ?_ hs⟩
      show V.bl _ = V.bl _
      congr 1
      simp
    | _ => exact two hs
  | _ => exact two hs
theorem od_ne (hu : ∀ i, (F.X i).A.units + 64 < cLine) : OpD Z F (compareOp .NotEq) smNe := by
  refine ⟨fun x y H Q => rNe x y H Q ∨ rEmp F.K (fun k => !k) x y H Q ∨ rNeD F.K x y H Q, fun i => by rw [← F.hK i]; exact op_ne.or ((op_empNotEq (hu i)).or (op_neD (hu i))), fun rg μ S H a b x y R Q ok ra rb hs k => ?_⟩
  have two : ((∃ k, empA a b = some k ∧ R (.bl (!k))) ∨ (cmpOk a b ∧ R (.bl (!eqD a b)))) → rNe x y H Q ∨ rEmp F.K (fun k => !k) x y H Q ∨ rNeD F.K x y H Q := fun h => by
    rcases h with ⟨j, e, hR⟩ | ⟨⟨o1, o2, s1, s2⟩, hs⟩
    · obtain ⟨p, q, vs, ws, e1, e2, e3, e4, e5⟩ := emp_rd ok.sub ra rb e
      exact .inr (.inl ⟨p, q, vs, ws, e1, e2, e3, e4, by rw [e5]; exact k _ (.bl (!j)) S H (.refl ok) rfl hR⟩)
    · exact .inr (.inr ⟨pyD a, pyD b, rd_dp ok.sub a x o1 (SeqAt.canLay_of_shaped s1) ra, rd_dp ok.sub b y o2 (SeqAt.canLay_of_shaped s2) rb, s1, s2, k _ (.bl (!eqD a b)) S H (.refl ok) rfl hs⟩)
  cases a with
  | str z => cases b with
    | str z2 =>
      cases ra
      cases rb
      refine .inl ⟨rfl, k _ (.bl (!decide (z = z2))) S H (.refl ok) ?_ hs⟩
      show V.bl _ = V.bl _
      congr 2
      simp
    | _ => exact two hs
  | _ => exact two hs
theorem rd_non {rg : Addr → Prop} {S H : Hp} {a : D} {x : V} (r : Rd F.K rg S H a x) (n : ∀ v, a ≠ .op v) : decide (x = .non) = isNon a := by
  cases a with
  | non => cases r; rfl
  | bl b => cases r; rfl
  | int i => cases r; rfl
  | str s => cases r; rfl
  | op v => exact absurd rfl (n v)
  | fn x => cases r; rfl
  | tup xs => obtain ⟨p, vs, rfl, _⟩ := r; rfl
  | lst xs => obtain ⟨p, vs, rfl, _⟩ := r; rfl
  | vw xs => obtain ⟨p, vs, rfl, _⟩ := r; rfl
  | dct xs => obtain ⟨p, vs, rfl, _⟩ := r; rfl
  | scr xs => obtain ⟨p, rfl, _⟩ := r; rfl
theorem od_is : OpD Z F (compareOp .Is) smIs := by
  refine ⟨_, fun _ => op_isN, fun rg μ S H a b x y R Q ok ra rb hs k => ?_⟩
  obtain ⟨rfl, hn, hs⟩ := hs
  refine ⟨rb, ?_⟩
  rw [rd_non ra hn]
  exact k _ (.bl _) S H (.refl ok) rfl hs
theorem od_isnot : OpD Z F (compareOp .IsNot) smIsNot := by
  refine ⟨_, fun _ => op_notN, fun rg μ S H a b x y R Q ok ra rb hs k => ?_⟩
  obtain ⟨rfl, hn, hs⟩ := hs
  refine ⟨rb, ?_⟩
  rw [rd_non ra hn]
  exact k _ (.bl _) S H (.refl ok) rfl hs
theorem rd_flat {rg : Addr → Prop} {S H : Hp} {a : D} {x : V} (r : Rd F.K rg S H a x) (f : flatD a = true) : flatV x = true := by
  cases a with
  | non => cases r; rfl
  | bl b => cases r; rfl
  | int i => cases r; rfl
  | str s => cases r; rfl
  | _ => cases f
theorem rd_eqV {rg : Addr → Prop} {S H : Hp} {a b : D} {x y : V} (r : Rd F.K rg S H a x) (f : flatD a = true) (r' : Rd F.K rg S H b y) (f' : flatD b = true) : eqV x y = eqD a b := by
  cases a with
  | non => cases b <;> first | (cases f'; done) | (cases r; cases r'; rfl)
  | bl b0 => cases b <;> first | (cases f'; done) | (cases r; cases r'; rfl)
  | int i => cases b <;> first | (cases f'; done) | (cases r; cases r'; rfl)
  | str s => cases b <;> first | (cases f'; done) | (cases r; cases r'; rfl)
  | _ => cases f
theorem inV_inD {rg : Addr → Prop} {S H : Hp} {a : D} {x : V} (r : Rd F.K rg S H a x) (f : flatD a = true) : ∀ {ds : List D} {vs : List V}, RdL F.K rg S H ds vs → ds.all flatD = true → inV x vs = inD a ds ∧ vs.all flatV = true
  | [], _, h, _ => by cases h; exact ⟨rfl, rfl⟩
  | d :: ds, _, h, t => by
    obtain ⟨v, w, rfl, h1, h2⟩ := h
    simp only [List.all_cons, Bool.and_eq_true] at t
    obtain ⟨q1, q2⟩ := inV_inD r f h2 t.2
    refine ⟨?_, by simp only [List.all_cons, rd_flat h1 t.1, q2, Bool.and_self]⟩
    unfold inV inD at q1 ⊢
    rw [List.any_cons, List.any_cons, rd_eqV h1 t.1 r f, q1]
theorem items_inH {rg : Addr → Prop} {S H : Hp} {d : D} {ds : List D} {v : V} (sub : Same S H) (r : Rd F.K rg S H d v) (e : itemsC d = some ds) : ∃ a vs, v = .ref a ∧ (SqL F.K H a vs ∨ SqT F.K H a vs) ∧ RdL F.K rg S H ds vs := by
  obtain ⟨k, a, vs, rfl, q1, _, q3⟩ := items_seqC sub r e
  cases k with
  | l => exact ⟨a, vs, rfl, .inl q1, q3⟩
  | t => exact ⟨a, vs, rfl, .inr q1, q3⟩
theorem od_in : OpD Z F (compareOp .In) smIn := by
  refine ⟨rIn F.K false, fun i => by rw [← F.hK i]; exact op_in_seq, fun rg μ S H a b x y R Q ok ra rb hs k => ?_⟩
  obtain ⟨xs, e1, f1, f2, hs⟩ := hs
  obtain ⟨p, vs, rfl, q1, q2⟩ := items_inH ok.sub rb e1
  obtain ⟨z1, z2⟩ := inV_inD ra f1 q2 f2
  refine ⟨p, vs, rfl, q1, rd_flat ra f1, z2, ?_⟩
  rw [z1]
  exact k _ (.bl (inD a xs)) S H (.refl ok) rfl hs
theorem od_notin : OpD Z F (compareOp .NotIn) smNotIn := by
  refine ⟨rIn F.K true, fun i => by rw [← F.hK i]; exact op_notIn_seq, fun rg μ S H a b x y R Q ok ra rb hs k => ?_⟩
  obtain ⟨xs, e1, f1, f2, hs⟩ := hs
  obtain ⟨p, vs, rfl, q1, q2⟩ := items_inH ok.sub rb e1
  obtain ⟨z1, z2⟩ := inV_inD ra f1 q2 f2
  refine ⟨p, vs, rfl, q1, rd_flat ra f1, z2, ?_⟩
  rw [z1]
  exact k _ (.bl (!inD a xs)) S H (.refl ok) rfl hs
theorem rdl_atI {rg : Addr → Prop} {S H : Hp} {ds : List D} {vs : List V} (r : RdL F.K rg S H ds vs) {i : Int} {d : D} (e : atI ds i = some d) : ∃ v, atI vs i = some v ∧ Rd F.K rg S H d v := by
  unfold atI at e ⊢
  rw [r.length]
  cases q : ixN ds.length i with
  | none => rw [q] at e; cases e
  | some j =>
    rw [q] at e
    obtain ⟨v, h1, h2⟩ := r.get (show ds[j]? = some d from e)
    exact ⟨v, h1, h2⟩
variable {a b : Expr} {ta tb : DT Z} {pos : Pos}
theorem dx_ix (ha : DE Z F W a ta) (hb : DE Z F W b tb) (hs : PlainIx b := by exact fun _ _ => rfl) : DE Z F W (.Subscript a b pos) (d2 smIx ta tb) := by
  obtain ⟨ta', pa, ha⟩ := ha
  obtain ⟨tb', pb, hb⟩ := hb
  refine ⟨tOp (rIx F.K) ta' tb', fun i => by rw [← F.hK i]; exact pe_ix ix_seq (pa i) (pb i) hs, fun B ρ σ μ S H R E Q env ok h hE hQ => ?_⟩
  refine ha B ρ σ μ S H _ E _ env ok h hE fun v d μ1 S1 H1 x1 r1 h1 => ?_
  refine hb B ρ σ μ1 S1 H1 _ E _ (env.ext x1) x1.ok h1 (hE.ext x1) fun v2 dd μ2 S2 H2 x2 r2 h2 => ?_
  obtain ⟨i, rfl, h2⟩ := h2
  have r1' := r1.ext x2
  have seq : (∃ xs dd, itemsC d = some xs ∧ atI xs i = some dd ∧ R dd μ2) → rIx F.K v v2 H2 Q := fun q => by
    obtain ⟨xs, d2, e1, e2, hR⟩ := q
    obtain ⟨k, p, vs, rfl, q1, _, q3⟩ := items_seqC x2.ok.sub r1' e1
    obtain ⟨w, e3, rw'⟩ := rdl_atI q3 e2
    have fin := hQ w d2 μ2 S2 H2 (x1.trans x2) rw' hR
    cases k with
    | l => exact .inl ⟨p, vs, i, w, rfl, r2, q1, e3, fin⟩
    | t => exact .inr (.inl ⟨p, vs, i, w, rfl, r2, q1, e3, fin⟩)
  cases d with
  | str z =>
    obtain ⟨hz, c, e1, hR⟩ := h2
    exact .inr (.inr ⟨z, i, c, r1', r2, hz, e1, hQ _ (.str ⟨#[c]⟩) μ2 S2 H2 (x1.trans x2) rfl hR⟩)
  | _ => exact seq h2

/-! ### slices -/
abbrev DTO0 (M : Type) := Rho → M → (Option Int → M → Prop) → (Xc → M → Prop) → Prop
abbrev DTO (Z : Wld) := DTO0 Z.M
def DO (Z : Wld) (F : Fm) (W : WX) (e : Option Expr) (t : DTO Z) : Prop := ∃ te : TO, (∀ i, PO (F.X i) e te) ∧ ∀ (B : Hp) (ρ : Rho) (σ : L2.St) (μ : Z.M) (S H : Hp) (R : Option Int → Z.M → Prop) (E : Xc → Z.M → Prop) (Q : Option Int → Hp → Prop),
  EnvR F.K Z B μ S H ρ σ → Ok Z μ S H → t ρ μ R E → Wish Z F W B μ S H σ E → (∀ (o : Option Int) (μ' : Z.M) (S' H' : Hp), Ext Z μ S H μ' S' H' → R o μ' → Q o H') → te σ H Q
def dNoPart {M : Type} : DTO0 M := fun _ μ R _ => R none μ
def dPart {M : Type} (t : DT0 M) : DTO0 M := fun ρ μ R E => t ρ μ (fun d μ' => ∃ i, d = .int i ∧ R (some i) μ') E
theorem do_none : DO Z F W none dNoPart := ⟨_, fun _ => po_none, fun B ρ σ μ S H R E Q env ok h hE hQ => hQ none μ S H (.refl ok) h⟩
theorem do_some (ha : DE Z F W a ta) : DO Z F W (some a) (dPart ta) := by
  obtain ⟨te, p, h⟩ := ha
  refine ⟨_, fun i => po_some (p i), fun B ρ σ μ S H R E Q env ok ht hE hQ => h B ρ σ μ S H _ E _ env ok ht hE fun v d μ' S' H' x r hd => ?_⟩
  obtain ⟨i, rfl, hd⟩ := hd
  exact ⟨i, r, hQ (some i) μ' S' H' x hd⟩
def smCut (d : D) (lo hi : Option Int) (R : D → Prop) : Prop := match d with
  | .tup xs => R (.tup (cutL xs lo hi))
  | .str z => z.length ≤ sizeLine ∧ R (.str (cutS z lo hi))
  | d => ∃ xs, itemsC d = some xs ∧ R (.lst (cutL xs lo hi))
def dCut {M : Type} (ta : DT0 M) (tl th : DTO0 M) : DT0 M := fun ρ μ R E => ta ρ μ (fun d μ1 => tl ρ μ1 (fun lo μ2 => th ρ μ2 (fun hi μ3 => smCut d lo hi fun y => R y μ3) E) E) E
/-- a new list cut out of one -/
def dCutF {M : Type} (ta : DT0 M) (tl th : DTO0 M) : DTA0 M := fun ρ μ R E => ta ρ μ (fun d μ1 => tl ρ μ1 (fun lo μ2 => th ρ μ2 (fun hi μ3 => (∀ ys, d ≠ .tup ys) ∧ ∃ xs, itemsC d = some xs ∧ R (cutL xs lo hi) μ3) E) E) E
theorem rdl_cut {rg : Addr → Prop} {S H : Hp} {ds : List D} {vs : List V} (r : RdL F.K rg S H ds vs) (lo hi : Option Int) : RdL F.K rg S H (cutL ds lo hi) (cutV vs lo hi) := by
  unfold cutL cutV
  rw [r.length]
  exact (r.drop _).take _
theorem items_list {rg : Addr → Prop} {S H : Hp} {d : D} {ds : List D} {v : V} (sub : Same S H) (r : Rd F.K rg S H d v) (e : itemsC d = some ds) (n : ∀ ys, d ≠ .tup ys) : ∃ a vs, v = .ref a ∧ SqL F.K H a vs ∧ RdL F.K rg S H ds vs := by
  cases d with
  | tup ys => exact absurd rfl (n ys)
  | lst xs => obtain ⟨a, vs, rfl, h1, h2⟩ := r; cases e; exact ⟨a, vs, rfl, SqL.of (sub _ _ h1), h2⟩
  | vw xs => obtain ⟨a, vs, rfl, h0, h1, h2⟩ := r; cases e; exact ⟨a, vs, rfl, SqL.of h1, h2⟩
  | scr ns => obtain ⟨a, rfl, h1⟩ := r; cases e; exact ⟨a, _, rfl, sub.seq h1, rdl_ints ns⟩
  | _ => cases e
theorem dx_cut {lo hi : Option Expr} {tl th : DTO Z} {p2 : Pos} (ha : DE Z F W a ta) (hl : DO Z F W lo tl) (hh : DO Z F W hi th) : DE Z F W (.Subscript a (.Slice lo hi none p2) pos) (dCut ta tl th) := by
  obtain ⟨ta', pa, ha⟩ := ha
  obtain ⟨tl', pl, hl⟩ := hl
  obtain ⟨th', ph, hh⟩ := hh
  refine ⟨tSl (fun x lo hi H Q => rSlT F.K x lo hi H Q ∨ rSlW F.K x lo hi H Q ∨ rSlL F.K x lo hi H Q ∨ rSlS x lo hi H Q) ta' tl' th', fun i => by rw [← F.hK i]; exact pe_slice (sl_tup.or (sl_whole.or (sl_list.or sl_str))) (pa i) (pl i) (ph i), fun B ρ σ μ S H R E Q env ok h hE hQ => ?_⟩
  refine ha B ρ σ μ S H _ E _ env ok h hE fun v d μ1 S1 H1 x1 r1 h1 => ?_
  refine hl B ρ σ μ1 S1 H1 _ E _ (env.ext x1) x1.ok h1 (hE.ext x1) fun o1 μ2 S2 H2 x2 h2 => ?_
  have x12 := x1.trans x2
  refine hh B ρ σ μ2 S2 H2 _ E _ (env.ext x12) x2.ok h2 (hE.ext x12) fun o2 μ3 S3 H3 x3 h3 => ?_
  have x13 := x12.trans x3
  have r3 := r1.ext (x2.trans x3)
  have ok3 := x3.ok
  have lists : (∃ xs, itemsC d = some xs ∧ R (.lst (cutL xs o1 o2)) μ3) → (∀ ys, d ≠ .tup ys) → rSlL F.K v o1 o2 H3 Q := fun q nt => by
    obtain ⟨xs, e1, hR⟩ := q
    obtain ⟨p, vs, rfl, q1, q3⟩ := items_list ok3.sub r3 e1 nt
    exact ⟨p, vs, rfl, q1, fun t ht => hQ _ (.lst (cutL xs o1 o2)) μ3 _ _ (x13.trans (ok3.put ht)) ⟨t, _, rfl, upd_same, (rdl_cut q3 o1 o2).new ok3 ht⟩ hR⟩
  cases d with
  | tup xs =>
    obtain ⟨p, vs, rfl, q1, q2⟩ := id r3
    have q1' := seqT_mono ok3.sub q1
    by_cases hw : HT.sIx vs.length 0 o1 = 0 ∧ HT.sIx vs.length vs.length o2 = vs.length
    · refine .inr (.inl ⟨p, vs, rfl, q1', hw, hQ _ (.tup (cutL xs o1 o2)) μ3 S3 H3 x13 ⟨p, vs, rfl, q1, ?_⟩ h3⟩)
      have e : cutV vs o1 o2 = vs := by
        unfold cutV
        rw [hw.1, hw.2, List.drop_zero, Nat.sub_zero, List.take_length]
      rw [← e]
      exact rdl_cut q2 o1 o2
    · exact .inl ⟨p, vs, rfl, q1', hw, fun t ht => hQ _ (.tup (cutL xs o1 o2)) μ3 _ _ (x13.trans (ok3.put ht)) ⟨t, _, rfl, SqT.of upd_same, (rdl_cut q2 o1 o2).new ok3 ht⟩ h3⟩
  | str z => exact .inr (.inr (.inr ⟨z, r3, h3.1, hQ _ (.str (cutS z o1 o2)) μ3 S3 H3 x13 rfl h3.2⟩))
  | _ => exact .inr (.inr (.inl (lists h3 fun ys q => nomatch q)))
/-- what a new list is to a def: not stable, not elsewhere -/
theorem new_own {B : Hp} {μ μ' : Z.M} {S H S' H' : Hp} {ρ : Rho} {σ : L2.St} (env : EnvR F.K Z B μ S H ρ σ) (x : Ext Z μ S H μ' S' H') {p : Addr} (hp : H' p = none) : Fr H p ∧ S' p = none ∧ ¬ fb Z B μ' p := by
  have h0 : Fr H p := x.there p (.inl hp)
  refine ⟨h0, ?_, fun r => r.elim (fun r => Z.held x.ok.j r hp) fun r => r (env.dom p h0)⟩
  cases q : S' p with
  | none => rfl
  | some o => rw [x.ok.sub p o q] at hp; cases hp
theorem RdL.newOwn {B : Hp} {μ : Z.M} {S H : Hp} {p : Addr} {o : HO} (n : H p = none) {ds : List D} {vs : List V} (r : RdL F.K (fb Z B μ) S H ds vs) : RdL F.K (fb Z B μ) S (upd H p o) ds vs :=
  r.mono (Same.refl S) fun a ws nf e => ⟨nf, by rw [upd_ne (ne_of_none e n)]; exact e⟩
theorem df_cut {lo hi : Option Expr} {tl th : DTO Z} {p2 : Pos} (ha : DE Z F W a ta) (hl : DO Z F W lo tl) (hh : DO Z F W hi th) : DF Z F W (.Subscript a (.Slice lo hi none p2) pos) (dCutF ta tl th) := by
  obtain ⟨ta', pa, ha⟩ := ha
  obtain ⟨tl', pl, hl⟩ := hl
  obtain ⟨th', ph, hh⟩ := hh
  refine ⟨tSl (rSlL F.K) ta' tl' th', fun i => by rw [← F.hK i]; exact pe_slice sl_list (pa i) (pl i) (ph i), fun B ρ σ μ S H R E Q env ok h hE hQ => ?_⟩
  refine ha B ρ σ μ S H _ E _ env ok h hE fun v d μ1 S1 H1 x1 r1 h1 => ?_
  refine hl B ρ σ μ1 S1 H1 _ E _ (env.ext x1) x1.ok h1 (hE.ext x1) fun o1 μ2 S2 H2 x2 h2 => ?_
  have x12 := x1.trans x2
  refine hh B ρ σ μ2 S2 H2 _ E _ (env.ext x12) x2.ok h2 (hE.ext x12) fun o2 μ3 S3 H3 x3 h3 => ?_
  have x13 := x12.trans x3
  obtain ⟨nt, xs, e1, hR⟩ := h3
  obtain ⟨p, vs, rfl, q1, q3⟩ := items_list x3.ok.sub (r1.ext (x2.trans x3)) e1 nt
  refine ⟨p, vs, rfl, q1, fun t ht => ?_⟩
  obtain ⟨n0, n1, n2⟩ := new_own env x13 ht
  exact hQ t _ (cutL xs o1 o2) μ3 S3 _ (x13.trans (x3.ok.putOwn ht)) n0 upd_same n1 n2 ((rdl_cut q3 o1 o2).newOwn ht) hR
/-- x + y, x * k, two lists: a new one -/
def smAddF (a b : D) (R : List D → Prop) : Prop := ∃ xs ys, lstOf a = some xs ∧ lstOf b = some ys ∧ xs.length + ys.length ≤ sizeLine ∧ R (xs ++ ys)
def dAddF {M : Type} (ta tb : DT0 M) : DTA0 M := fun ρ μ R E => ta ρ μ (fun a μ1 => tb ρ μ1 (fun b μ2 => smAddF a b fun ds => R ds μ2) E) E
theorem df_add (ha : DE Z F W a ta) (hb : DE Z F W b tb) : DF Z F W (.BinOp a .Add b pos) (dAddF ta tb) := by
  obtain ⟨ta', pa, ha⟩ := ha
  obtain ⟨tb', pb, hb⟩ := hb
  refine ⟨_, fun i => pe_op op_cat (pa i) (pb i), fun B ρ σ μ S H R E Q env ok h hE hQ => ?_⟩
  refine ha B ρ σ μ S H _ E _ env ok h hE fun v d μ1 S1 H1 x1 r1 h1 => ?_
  refine hb B ρ σ μ1 S1 H1 _ E _ (env.ext x1) x1.ok h1 (hE.ext x1) fun v2 dd μ2 S2 H2 x2 r2 h2 => ?_
  have x12 := x1.trans x2
  obtain ⟨xs, ys, e1, e2, hz, hR⟩ := h2
  obtain ⟨p, vs, rfl, q1, q2⟩ := lstOf_at x2.ok.sub (r1.ext x2) e1
  obtain ⟨p', ws, rfl, q1', q2'⟩ := lstOf_at x2.ok.sub r2 e2
  refine ⟨p, p', vs, ws, rfl, rfl, q1, q1', by rw [q2.length, q2'.length]; exact hz, fun t ht => ?_⟩
  obtain ⟨n0, n1, n2⟩ := new_own env x12 ht
  exact hQ t _ (xs ++ ys) μ2 S2 _ (x12.trans (x2.ok.putOwn ht)) n0 upd_same n1 n2 ((q2.append q2').newOwn ht) hR
end

/-! ### built-in functions -/
def lenD : D → Option Nat
  | .tup xs => some xs.length
  | .lst xs => some xs.length
  | .vw xs => some xs.length
  | .scr ns => some ns.length
  | .str z => if z.length ≤ sizeLine then some z.length else none
  | _ => none
def smLen : SmL := fun as R => ∃ d n, as = [d] ∧ lenD d = some n ∧ R (.int n)
def smAbs : SmL := fun as R => ∃ i, as = [.int i] ∧ R (.int (if i < 0 then -i else i))
def smMax2 : SmL := fun as R => ∃ i j, as = [.int i, .int j] ∧ R (.int (max i j))
def smMin2 : SmL := fun as R => ∃ i j, as = [.int i, .int j] ∧ R (.int (min i j))
def smInt : SmL := fun as R => match as with
  | [.int i] => R (.int i)
  | [.bl b] => R (.int (if b then 1 else 0))
  | _ => False
def smBool : SmL := fun as R => match as with
  | [.int i] => R (.bl (i != 0))
  | [.bl b] => R (.bl b)
  | _ => False
def smTuple : SmL := fun as R => match as with
  | [.tup xs] => R (.tup xs)
  | [d] => ∃ xs, itemsC d = some xs ∧ R (.tup xs)
  | _ => False
def smList : SmL := fun as R => ∃ d xs, as = [d] ∧ itemsC d = some xs ∧ R (.lst xs)
def intsD : List D → Option (List Int)
  | [] => some []
  | .int i :: ds => (intsD ds).map (i :: ·)
  | _ :: _ => none
def blsD : List D → Option (List Bool)
  | [] => some []
  | .bl b :: ds => (blsD ds).map (b :: ·)
  | _ :: _ => none
def smSum : SmL := fun as R => ∃ d xs ns, as = [d] ∧ lstOf d = some xs ∧ intsD xs = some ns ∧ R (.int ns.sum)
def smAny : SmL := fun as R => ∃ d xs bs, as = [d] ∧ lstOf d = some xs ∧ blsD xs = some bs ∧ R (.bl (bs.any id))
def smAll : SmL := fun as R => ∃ d xs bs, as = [d] ∧ lstOf d = some xs ∧ blsD xs = some bs ∧ R (.bl (bs.all id))
def smMaxL : SmL := fun as R => ∃ d xs ns, as = [d] ∧ lstOf d = some xs ∧ intsD xs = some ns ∧ 0 < ns.length ∧ ∀ m, m ∈ ns → (∀ y, y ∈ ns → y ≤ m) → R (.int m)
def smMinL : SmL := fun as R => ∃ d xs ns, as = [d] ∧ lstOf d = some xs ∧ intsD xs = some ns ∧ 0 < ns.length ∧ ∀ m, m ∈ ns → (∀ y, y ∈ ns → m ≤ y) → R (.int m)
def tyD : D → Option String
  | .non => some "NoneType" | .bl _ => some "bool" | .int _ => some "int" | .str _ => some "str"
  | .tup _ => some "tuple" | .lst _ => some "list" | .vw _ => some "list" | .scr _ => some "list" | .dct _ => some "dict"
  | .op _ => none
  | .fn _ => none
def isTy (T C : String) : Bool := T == C || (T == "bool" && C == "int")
def smIsi : SmL := fun as R => ∃ d C T, as = [d, .op (.ty C)] ∧ C ∈ ["int", "bool", "str", "tuple", "list", "dict"] ∧ tyD d = some T ∧ R (.bl (isTy T C))
def smRepr : SmL := fun as R => ∃ d, as = [d] ∧ okD d = true ∧ (pyD d).showable = true ∧ (pyD d).depth ≤ 64 ∧ (pyD d).shown.length ≤ sizeLine ∧ R (.str (pyD d).shown)
section
variable {Z : Wld} {F : Fm} {W : WX}
theorem cd_len : CallD Z F (.builtin "len") smLen := by
  refine ⟨fun xs H Q => ∃ x n, xs = [x] ∧ LenV F.K x H n ∧ Q (.int n) H, fun i => by rw [← F.hK i]; exact call_len, fun rg μ S H as xs R Q ok r hs k => ?_⟩
  obtain ⟨d, n, rfl, e, hR⟩ := hs
  obtain ⟨v, _, rfl, r1, rfl⟩ := r
  refine ⟨v, n, rfl, ?_, k _ (.int n) S H (.refl ok) rfl hR⟩
  cases d with
  | str z =>
    cases r1
    simp only [lenD] at e
    split at e
    · rename_i hz; cases e; exact ⟨hz, rfl⟩
    · cases e
  | tup xs => obtain ⟨a, vs, rfl, h1, h2⟩ := r1; cases e; exact .inr ⟨vs, seqT_mono ok.sub h1, h2.length.symm⟩
  | lst xs => obtain ⟨a, vs, rfl, h1, h2⟩ := r1; cases e; exact .inl ⟨vs, SqL.of (ok.sub _ _ h1), h2.length.symm⟩
  | vw xs => obtain ⟨a, vs, rfl, h0, h1, h2⟩ := r1; cases e; exact .inl ⟨vs, SqL.of h1, h2.length.symm⟩
  | scr ns => obtain ⟨a, rfl, h1⟩ := r1; cases e; exact .inl ⟨_, ok.sub.seq h1, by rw [List.length_map]⟩
  | _ => cases e
theorem cd_abs : CallD Z F (.builtin "abs") smAbs := by
  refine ⟨_, fun _ => call_abs, fun rg μ S H as xs R Q ok r hs k => ?_⟩
  obtain ⟨i, rfl, hR⟩ := hs
  obtain ⟨v, _, rfl, r1, rfl⟩ := r
  cases r1
  exact ⟨i, rfl, k _ (.int _) S H (.refl ok) rfl hR⟩
theorem cd_max2 (hc : ∀ i, (F.X i).calm = true) : CallD Z F (.builtin "max") smMax2 := by
  refine ⟨_, fun i => call_max2 (hc i), fun rg μ S H as xs R Q ok r hs k => ?_⟩
  obtain ⟨i, j, rfl, hR⟩ := hs
  obtain ⟨v, _, rfl, r1, v2, _, rfl, r2, rfl⟩ := r
  cases r1
  cases r2
  refine ⟨i, j, rfl, k _ (.int (max i j)) S H (.refl ok) ?_ hR⟩
  show V.int _ = V.int _
  congr 1
  omega
theorem cd_min2 (hc : ∀ i, (F.X i).calm = true) : CallD Z F (.builtin "min") smMin2 := by
  refine ⟨_, fun i => call_min2 (hc i), fun rg μ S H as xs R Q ok r hs k => ?_⟩
  obtain ⟨i, j, rfl, hR⟩ := hs
  obtain ⟨v, _, rfl, r1, v2, _, rfl, r2, rfl⟩ := r
  cases r1
  cases r2
  refine ⟨i, j, rfl, k _ (.int (min i j)) S H (.refl ok) ?_ hR⟩
  show V.int _ = V.int _
  congr 1
  omega
theorem cd_int : CallD Z F (.type "int") smInt := by
  refine ⟨_, fun _ => call_int1, fun rg μ S H as xs R Q ok r hs k => ?_⟩
  match as, hs with
  | [.int i], hs =>
    obtain ⟨v, _, rfl, r1, rfl⟩ := r
    cases r1
    exact .inl ⟨i, rfl, k _ (.int i) S H (.refl ok) rfl hs⟩
  | [.bl b], hs =>
    obtain ⟨v, _, rfl, r1, rfl⟩ := r
    cases r1
    exact .inr ⟨b, rfl, k _ (.int (if b then 1 else 0)) S H (.refl ok) rfl hs⟩
theorem cd_bool : CallD Z F (.type "bool") smBool := by
  refine ⟨_, fun _ => call_bool1, fun rg μ S H as xs R Q ok r hs k => ?_⟩
  match as, hs with
  | [.int i], hs =>
    obtain ⟨v, _, rfl, r1, rfl⟩ := r
    cases r1
    exact .inl ⟨i, rfl, k _ (.bl (i != 0)) S H (.refl ok) rfl hs⟩
  | [.bl b], hs =>
    obtain ⟨v, _, rfl, r1, rfl⟩ := r
    cases r1
    exact .inr ⟨b, rfl, k _ (.bl b) S H (.refl ok) rfl hs⟩
theorem cd_tuple : CallD Z F (.type "tuple") smTuple := by
  refine ⟨fun xs H Q => ∃ p ys, xs = [.ref p] ∧ ((SqL F.K H p ys ∧ ∀ l, H l = none → Q (.ref l) (upd H l (.tup ys))) ∨ (SqT F.K H p ys ∧ Q (.ref p) H)), fun i => by rw [← F.hK i]; exact call_tuple_of, fun rg μ S H as xs R Q ok r hs k => ?_⟩
  have lists : ∀ {d : D} {v : V}, Rd F.K rg S H d v → (∃ xs, itemsC d = some xs ∧ R (.tup xs)) → (∀ ys, d ≠ .tup ys) → ∃ p ys, [v] = [V.ref p] ∧ ((SqL F.K H p ys ∧ ∀ l, H l = none → Q (.ref l) (upd H l (.tup ys))) ∨ (SqT F.K H p ys ∧ Q (.ref p) H)) := fun {d v} r1 q nt => by
    obtain ⟨ds, e1, hR⟩ := q
    obtain ⟨p, vs, rfl, q1, q3⟩ := items_list ok.sub r1 e1 nt
    exact ⟨p, vs, rfl, .inl ⟨q1, fun t ht => k _ (.tup ds) _ _ (ok.put ht) ⟨t, vs, rfl, SqT.of upd_same, q3.new ok ht⟩ hR⟩⟩
  match as, hs with
  | [.tup ys], hs =>
    obtain ⟨v, _, rfl, r1, rfl⟩ := r
    obtain ⟨a, vs, rfl, h1, h2⟩ := id r1
    exact ⟨a, vs, rfl, .inr ⟨seqT_mono ok.sub h1, k _ (.tup ys) S H (.refl ok) r1 hs⟩⟩
  | [.lst ys], hs => obtain ⟨v, _, rfl, r1, rfl⟩ := r; exact lists r1 hs (fun _ q => nomatch q)
  | [.vw ys], hs => obtain ⟨v, _, rfl, r1, rfl⟩ := r; exact lists r1 hs (fun _ q => nomatch q)
  | [.scr ys], hs => obtain ⟨v, _, rfl, r1, rfl⟩ := r; exact lists r1 hs (fun _ q => nomatch q)
  | [.non], hs => obtain ⟨_, e, _⟩ := hs; cases e
  | [.bl _], hs => obtain ⟨_, e, _⟩ := hs; cases e
  | [.int _], hs => obtain ⟨_, e, _⟩ := hs; cases e
  | [.str _], hs => obtain ⟨_, e, _⟩ := hs; cases e
  | [.dct _], hs => obtain ⟨_, e, _⟩ := hs; cases e
  | [.op _], hs => obtain ⟨_, e, _⟩ := hs; cases e
  | [.fn _], hs => obtain ⟨_, e, _⟩ := hs; cases e
theorem cd_list : CallD Z F (.type "list") smList := by
  refine ⟨fun xs H Q => ∃ p ys, xs = [.ref p] ∧ (SqL F.K H p ys ∨ SqT F.K H p ys) ∧ ∀ l, H l = none → Q (.ref l) (upd H l (.lst ys)), fun i => by rw [← F.hK i]; exact call_list_of, fun rg μ S H as xs R Q ok r hs k => ?_⟩
  obtain ⟨d, ds, rfl, e, hR⟩ := hs
  obtain ⟨v, _, rfl, r1, rfl⟩ := r
  obtain ⟨p, vs, rfl, q1, q2⟩ := items_inH ok.sub r1 e
  exact ⟨p, vs, rfl, q1, fun t ht => k _ (.lst ds) _ _ (ok.put ht) ⟨t, vs, rfl, upd_same, q2.new ok ht⟩ hR⟩
theorem intsD_rd {rg : Addr → Prop} {S H : Hp} : ∀ {ds : List D} {vs : List V} {ns : List Int}, RdL F.K rg S H ds vs → intsD ds = some ns → vs = ns.map V.int
  | [], _, _, h, e => by cases h; cases e; rfl
  | .int i :: ds, _, _, h, e => by
    obtain ⟨v, w, rfl, h1, h2⟩ := h
    simp only [intsD] at e
    cases q : intsD ds with
    | none => rw [q] at e; cases e
    | some ms =>
      rw [q] at e
      cases e
      cases h1
      rw [intsD_rd h2 q]
      rfl
  | .non :: _, _, _, _, e => by cases e
  | .bl _ :: _, _, _, _, e => by cases e
  | .str _ :: _, _, _, _, e => by cases e
  | .tup _ :: _, _, _, _, e => by cases e
  | .lst _ :: _, _, _, _, e => by cases e
  | .vw _ :: _, _, _, _, e => by cases e
  | .scr _ :: _, _, _, _, e => by cases e
  | .dct _ :: _, _, _, _, e => by cases e
  | .op _ :: _, _, _, _, e => by cases e
  | .fn _ :: _, _, _, _, e => by cases e
theorem blsD_rd {rg : Addr → Prop} {S H : Hp} : ∀ {ds : List D} {vs : List V} {ns : List Bool}, RdL F.K rg S H ds vs → blsD ds = some ns → vs = ns.map V.bl
  | [], _, _, h, e => by cases h; cases e; rfl
  | .bl i :: ds, _, _, h, e => by
    obtain ⟨v, w, rfl, h1, h2⟩ := h
    simp only [blsD] at e
    cases q : blsD ds with
    | none => rw [q] at e; cases e
    | some ms =>
      rw [q] at e
      cases e
      cases h1
      rw [blsD_rd h2 q]
      rfl
  | .non :: _, _, _, _, e => by cases e
  | .int _ :: _, _, _, _, e => by cases e
  | .str _ :: _, _, _, _, e => by cases e
  | .tup _ :: _, _, _, _, e => by cases e
  | .lst _ :: _, _, _, _, e => by cases e
  | .vw _ :: _, _, _, _, e => by cases e
  | .scr _ :: _, _, _, _, e => by cases e
  | .dct _ :: _, _, _, _, e => by cases e
  | .op _ :: _, _, _, _, e => by cases e
  | .fn _ :: _, _, _, _, e => by cases e
theorem cd_sum (hc : ∀ i, (F.X i).calm = true) : CallD Z F (.builtin "sum") smSum := by
  refine ⟨rSum F.K, fun i => by rw [← F.hK i]; exact cr_sum (hc i), fun rg μ S H as xs R Q ok r hs k => ?_⟩
  obtain ⟨d, ds, ns, rfl, e, en, hR⟩ := hs
  obtain ⟨v, _, rfl, r1, rfl⟩ := r
  obtain ⟨p, vs, rfl, q1, q2⟩ := lstOf_at ok.sub r1 e
  rw [intsD_rd q2 en] at q1
  exact ⟨p, ns, rfl, SqL.of q1, k _ (.int ns.sum) S H (.refl ok) rfl hR⟩
theorem cd_maxL (hc : ∀ i, (F.X i).calm = true) : CallD Z F (.builtin "max") smMaxL := by
  refine ⟨rMax F.K, fun i => by rw [← F.hK i]; exact cr_max (hc i), fun rg μ S H as xs R Q ok r hs k => ?_⟩
  obtain ⟨d, ds, ns, rfl, e, en, hl, hR⟩ := hs
  obtain ⟨v, _, rfl, r1, rfl⟩ := r
  obtain ⟨p, vs, rfl, q1, q2⟩ := lstOf_at ok.sub r1 e
  rw [intsD_rd q2 en] at q1
  exact ⟨p, ns, rfl, SqL.of q1, hl, fun m h1 h2 => k _ (.int m) S H (.refl ok) rfl (hR m h1 h2)⟩
theorem cd_minL (hc : ∀ i, (F.X i).calm = true) : CallD Z F (.builtin "min") smMinL := by
  refine ⟨rMin F.K, fun i => by rw [← F.hK i]; exact cr_min (hc i), fun rg μ S H as xs R Q ok r hs k => ?_⟩
  obtain ⟨d, ds, ns, rfl, e, en, hl, hR⟩ := hs
  obtain ⟨v, _, rfl, r1, rfl⟩ := r
  obtain ⟨p, vs, rfl, q1, q2⟩ := lstOf_at ok.sub r1 e
  rw [intsD_rd q2 en] at q1
  exact ⟨p, ns, rfl, SqL.of q1, hl, fun m h1 h2 => k _ (.int m) S H (.refl ok) rfl (hR m h1 h2)⟩
theorem cd_any (hc : ∀ i, (F.X i).calm = true) : CallD Z F (.builtin "any") smAny := by
  refine ⟨rAny F.K, fun i => by rw [← F.hK i]; exact cr_any (hc i), fun rg μ S H as xs R Q ok r hs k => ?_⟩
  obtain ⟨d, ds, ns, rfl, e, en, hR⟩ := hs
  obtain ⟨v, _, rfl, r1, rfl⟩ := r
  obtain ⟨p, vs, rfl, q1, q2⟩ := lstOf_at ok.sub r1 e
  rw [blsD_rd q2 en] at q1
  exact ⟨p, ns, rfl, SqL.of q1, k _ (.bl _) S H (.refl ok) rfl hR⟩
theorem cd_all (hc : ∀ i, (F.X i).calm = true) : CallD Z F (.builtin "all") smAll := by
  refine ⟨rAll F.K, fun i => by rw [← F.hK i]; exact cr_all (hc i), fun rg μ S H as xs R Q ok r hs k => ?_⟩
  obtain ⟨d, ds, ns, rfl, e, en, hR⟩ := hs
  obtain ⟨v, _, rfl, r1, rfl⟩ := r
  obtain ⟨p, vs, rfl, q1, q2⟩ := lstOf_at ok.sub r1 e
  rw [blsD_rd q2 en] at q1
  exact ⟨p, ns, rfl, SqL.of q1, k _ (.bl _) S H (.refl ok) rfl hR⟩
theorem kit_all : ∀ T ∈ ["NoneType", "bool", "int", "str", "tuple", "list", "dict"], ∀ C ∈ ["int", "bool", "str", "tuple", "list", "dict"], kitB T C = some (isTy T C) := by decide +kernel
theorem ty_of {rg : Addr → Prop} {S H : Hp} {d : D} {v : V} {T : String} (sub : Same S H) (r : Rd F.K rg S H d v) (e : tyD d = some T) : TyX F.K H v (.type T) ∧ T ∈ ["NoneType", "bool", "int", "str", "tuple", "list", "dict"] := by
  have lists : ∀ {a : Addr} {vs : List V}, SqL F.K H a vs → TyX F.K H (.ref a) (.type "list") := fun {a vs} h => by
    rcases h with (h | ⟨o, h⟩) | ⟨o, its, n, h1, h2, _⟩
    · exact .base (.lst h)
    · exact .base (.frz h)
    · exact .kList h1 h2
  cases d with
  | non => cases r; cases e; exact ⟨.base .non, by simp⟩
  | bl b => cases r; cases e; exact ⟨.base (.bl b), by simp⟩
  | int i => cases r; cases e; exact ⟨.base (.int i), by simp⟩
  | str s => cases r; cases e; exact ⟨.base (.str s), by simp⟩
  | tup xs =>
    obtain ⟨a, vs, rfl, h1, _⟩ := r
    cases e
    refine ⟨?_, by simp⟩
    rcases seqT_mono sub h1 with (h | ⟨o, h⟩) | ⟨o, its, n, h1, h2, _⟩
    · exact .base (.tup h)
    · exact .fTuple h
    · exact .kTuple h1 h2
  | lst xs => obtain ⟨a, vs, rfl, h1, _⟩ := r; cases e; exact ⟨lists (SqL.of (sub _ _ h1)), by simp⟩
  | vw xs => obtain ⟨a, vs, rfl, h0, h1, _⟩ := r; cases e; exact ⟨lists (SqL.of h1), by simp⟩
  | scr ns => obtain ⟨a, rfl, h1⟩ := r; cases e; exact ⟨lists (sub.seq h1), by simp⟩
  | dct kvs => obtain ⟨a, ws, rfl, h1, _⟩ := r; cases e; exact ⟨.base (.dK (sub _ _ h1)), by simp⟩
  | op _ => cases e
  | fn _ => cases e
theorem cd_isi : CallD Z F (.builtin "isinstance") smIsi := by
  refine ⟨rIsi F.K, fun i => by rw [← F.hK i]; exact call_isi, fun rg μ S H as xs R Q ok r hs k => ?_⟩
  obtain ⟨d, C, T, rfl, hC, e, hR⟩ := hs
  obtain ⟨v, _, rfl, r1, v2, _, rfl, r2, rfl⟩ := r
  cases r2
  obtain ⟨t1, t2⟩ := ty_of ok.sub r1 e
  exact ⟨v, .ty C, .type T, .type C, isTy T C, rfl, .ty C, t1, kit_ty (kit_all T t2 C hC), k _ (.bl _) S H (.refl ok) rfl hR⟩
end
end DL
/-! text DLh -/
/-! DL, eighth part: repr of data. -/
namespace DL
open PySem PySem.Spec PyProof.Rows L2
mutual
def shD : D → Bool
  | .non => true | .bl _ => true | .int _ => true | .str _ => true | .scr _ => false
  | .tup xs => shL xs
  | .lst xs => shL xs
  | .vw xs => shL xs
  | .dct kvs => shK kvs
  | .op _ => false
  | .fn _ => false
def shL : List D → Bool
  | [] => true
  | d :: ds => shD d && shL ds
def shK : List (Key × D) → Bool
  | [] => true
  | (_, d) :: ds => shD d && shK ds
end
section
variable {X : Cx} {pins : List (Addr × Obj)} {σ : L2.St} {S H : Hp} {s : Shared} {rg : Addr → Prop}
theorem not_mods (I : Inv X pins σ H s) (sm : ∃ mm, X.base.Ns sysModules mm) {a : Addr} {o : Obj} {vs : Array Value} {n : Nat} (ho : s.heap.get? a = some o) (hd : o.data = .seq vs n) (e : a = sysModules) : False := by
  obtain ⟨mm, od, es, ep, h1, h2, _⟩ := sm
  subst e
  rw [I.bk _ _ h1] at ho
  cases ho
  rw [h2] at hd
  cases hd
mutual
theorem rd_reads (I : Inv X pins σ H s) (sub : Same S H) (sm : ∃ mm, X.base.Ns sysModules mm) : ∀ (d : D) (v : V) (u : Value), shD d = true → Rd X.K rg S H d v → RelV v u → ∃ as, Reads s.heap u (pyD d) as ∧ sysModules ∉ as
  | .non, _, _, _, h, r => by cases h; cases r; exact ⟨_, Reads.none, by simp⟩
  | .bl b, _, _, _, h, r => by cases h; cases r; exact ⟨_, Reads.bool b, by simp⟩
  | .int i, _, _, _, h, r => by cases h; obtain ⟨t, rfl⟩ := r; exact ⟨_, Reads.int i t, by simp⟩
  | .str z, _, _, _, h, r => by cases h; obtain ⟨t, rfl⟩ := r; exact ⟨_, Reads.str z t, by simp⟩
  | .scr _, _, _, t, _, _ => by cases t
  | .op _, _, _, t, _, _ => by cases t
  | .fn _, _, _, t, _, _ => by cases t
  | .tup xs, _, _, t, h, r => by
    obtain ⟨a, vs, rfl, h1, h2⟩ := h
    cases r
    simp only [shD] at t
    obtain ⟨its, rv, ⟨o, ho, hc, n, hd⟩, _⟩ := I.tuple (seqT_mono sub h1)
    obtain ⟨as, q, nn⟩ := rdl_reads I sub sm xs vs its t h2 rv
    exact ⟨_, Reads.tuple ho hc hd q, nn⟩
  | .lst xs, _, _, t, h, r => by
    obtain ⟨a, vs, rfl, h1, h2⟩ := h
    cases r
    simp only [shD] at t
    obtain ⟨its, rv, ⟨o, n, ho, hc, _, hd⟩, _⟩ := I.list (SqL.of (sub _ _ h1))
    obtain ⟨as, q, nn⟩ := rdl_reads I sub sm xs vs its t h2 rv
    refine ⟨_, Reads.list ho hc hd q, fun hm => ?_⟩
    rcases List.mem_cons.mp hm with e | e
    · exact not_mods I sm ho hd e.symm
    · exact nn e
  | .vw xs, _, _, t, h, r => by
    obtain ⟨a, vs, rfl, _, h1, h2⟩ := h
    cases r
    simp only [shD] at t
    obtain ⟨its, rv, ⟨o, n, ho, hc, _, hd⟩, _⟩ := I.list (SqL.of h1)
    obtain ⟨as, q, nn⟩ := rdl_reads I sub sm xs vs its t h2 rv
    refine ⟨_, Reads.list ho hc hd q, fun hm => ?_⟩
    rcases List.mem_cons.mp hm with e | e
    · exact not_mods I sm ho hd e.symm
    · exact nn e
  | .dct kvs, _, _, t, h, r => by
    obtain ⟨a, ws, rfl, h1, h2⟩ := h
    cases r
    simp only [shD] at t
    obtain ⟨_, hs, vs, hk, o, es, ep, ho, hc, hd, _, hp, _⟩ := dk_of I.hok (sub _ _ h1)
    obtain ⟨as, bs, q1, q2, n1, n2⟩ := rdk_reads I sub sm kvs ws vs es.toList t h2 hk hp
    refine ⟨_, Reads.dict ho hc.1 hd q1 q2, fun hm => ?_⟩
    rw [List.mem_append, List.mem_cons] at hm
    rcases hm with (e | e) | e
    · rw [← e] at hs; cases hs
    · exact n1 e
    · exact n2 e
theorem rdl_reads (I : Inv X pins σ H s) (sub : Same S H) (sm : ∃ mm, X.base.Ns sysModules mm) : ∀ (ds : List D) (vs : List V) (us : List Value), shL ds = true → RdL X.K rg S H ds vs → Vals vs us → ∃ as, ReadsAll s.heap us (pyL ds) as ∧ sysModules ∉ as
  | [], _, _, _, h, r => by cases h; cases r; exact ⟨_, ReadsAll.nil, by simp⟩
  | d :: ds, _, _, t, h, r => by
    obtain ⟨v, vs, rfl, h1, h2⟩ := h
    simp only [shL, Bool.and_eq_true] at t
    cases r with
    | cons r1 r2 =>
      obtain ⟨as, q1, n1⟩ := rd_reads I sub sm d v _ t.1 h1 r1
      obtain ⟨bs, q2, n2⟩ := rdl_reads I sub sm ds vs _ t.2 h2 r2
      exact ⟨_, ReadsAll.cons q1 q2, fun hm => (List.mem_append.mp hm).elim n1 n2⟩
theorem rdk_reads (I : Inv X pins σ H s) (sub : Same S H) (sm : ∃ mm, X.base.Ns sysModules mm) : ∀ (ds : List (Key × D)) (ws : List (Key × V)) (vs : List (Key × Value)) (es : List DictEntry), shK ds = true → RdK X.K rg S H ds ws → KV ws vs → PySem.Pairs (mixKind X.prog X.w) es vs →
    ∃ as bs, ReadsAll s.heap (es.map (·.key)) ((pyK ds).map (·.1)) as ∧ ReadsAll s.heap (es.map (·.val)) ((pyK ds).map (·.2)) bs ∧ sysModules ∉ as ∧ sysModules ∉ bs
  | [], _, _, _, _, h, r, p => by cases h; cases r; cases p; exact ⟨_, _, ReadsAll.nil, ReadsAll.nil, by simp, by simp⟩
  | (k, d) :: ds, _, _, _, t, h, r, p => by
    obtain ⟨v, ws, rfl, h1, h2⟩ := h
    simp only [shK, Bool.and_eq_true] at t
    cases r with
    | cons r1 r2 =>
      cases p with
      | cons p1 p2 p3 =>
        rename_i es kv e _
        obtain ⟨as, bs, q1, q2, n1, n2⟩ := rdk_reads I sub sm ds ws _ _ t.2 h2 r2 p3
        obtain ⟨cs, q3, n3⟩ := rd_reads I sub sm d v _ t.1 h1 r1.2
        rw [← p2] at q3
        have hk := r1.1
        simp only at hk
        rw [← hk] at p1
        have hk' : keyIs k e.key = true := p1
        rcases keyIs_shape hk' with ⟨i, u, e1, e2⟩ | ⟨z, u, e1, e2⟩
        · subst e1
          refine ⟨[] ++ as, cs ++ bs, ?_, ?_, by simpa using n1, fun hm => (List.mem_append.mp hm).elim n3 n2⟩
          · simp only [pyK, List.map_cons, e2]
            exact ReadsAll.cons (.int i u) q1
          · simp only [pyK, List.map_cons]
            exact ReadsAll.cons q3 q2
        · subst e1
          refine ⟨[] ++ as, cs ++ bs, ?_, ?_, by simpa using n1, fun hm => (List.mem_append.mp hm).elim n3 n2⟩
          · simp only [pyK, List.map_cons, e2]
            exact ReadsAll.cons (.str z u) q1
          · simp only [pyK, List.map_cons]
            exact ReadsAll.cons q3 q2
end
def rRepr (X : Cx) : List V → Hp → VK → Prop := fun xs H Q => ∃ x d, xs = [x] ∧ (∀ (pins : List (Addr × Obj)) (σ : L2.St) (s : Shared) (u : Value), Inv X pins σ H s → RelV x u → ∃ as, Reads s.heap u d as ∧ sysModules ∉ as) ∧ d.showable = true ∧ d.depth ≤ 64 ∧ d.shown.length ≤ sizeLine ∧ Q (.str d.shown) H
theorem cr_repr (hg : X.A.guards = some []) (hu : X.A.units + 65 < cLine) : CallR X (.builtin "repr") (rRepr X) := by
  intro pins s σ H xs us Q I r h
  obtain ⟨x, d, rfl, hr, hs, hd, hz, q⟩ := h
  obtain ⟨u, rfl, rx⟩ := vals1 r
  obtain ⟨as, q1, nn⟩ := hr pins σ s u I rx
  cases q1 with
  | none => exact PySem.P.repr_of_none ⟨.str _, H, I.tok _, ⟨_, rfl⟩, q⟩
  | bool b => exact PySem.P.repr_of_bool ⟨.str _, H, I.tok _, ⟨_, rfl⟩, q⟩
  | int i t => exact PySem.P.repr_of_int (by simpa [PyData.showable] using hs) ⟨.str _, H, I.tok _, ⟨_, rfl⟩, q⟩
  | str z t => exact PySem.P.repr_of_str (by exact ⟨.str _, H, I.tok _, ⟨_, rfl⟩, q⟩) hz
  | list h1 h2 h3 h4 =>
    exact repr_of_reads' (.list h1 h2 h3 h4) hs (fun _ => nn) hg (by omega) (fun _ _ e => e) (fun h' t tk k => ⟨.str _, H, I.kept k, ⟨_, rfl⟩, q⟩) hz
  | tuple h1 h2 h3 h4 =>
    exact repr_of_reads' (.tuple h1 h2 h3 h4) hs (fun _ => nn) hg (by omega) (fun _ _ e => e) (fun h' t tk k => ⟨.str _, H, I.kept k, ⟨_, rfl⟩, q⟩) hz
  | dict h1 h2 h3 h4 h5 =>
    exact repr_of_reads' (.dict h1 h2 h3 h4 h5) hs (fun _ => nn) hg (by omega) (fun _ _ e => e) (fun h' t tk k => ⟨.str _, H, I.kept k, ⟨_, rfl⟩, q⟩) hz
end
/-- repr's spec -/
def smShow : SmL := fun as R => ∃ d, as = [d] ∧ shD d = true ∧ (pyD d).showable = true ∧ (pyD d).depth ≤ 64 ∧ (pyD d).shown.length ≤ sizeLine ∧ R (.str (pyD d).shown)
section
variable {Z : Wld} {F : Fm} {W : WX}
theorem cd_repr (sb : ∀ i, ∃ mm, (F.X i).base.Ns sysModules mm) (hg : ∀ i, (F.X i).A.guards = some []) (hu : ∀ i, (F.X i).A.units + 65 < cLine) : CallD Z F (.builtin "repr") smShow := by
  refine ⟨fun xs H Q => ∃ x d, xs = [x] ∧ (∀ (i : F.ι) (pins : List (Addr × Obj)) (σ : L2.St) (s : Shared) (u : Value), Inv (F.X i) pins σ H s → RelV x u → ∃ as, Reads s.heap u d as ∧ sysModules ∉ as) ∧ d.showable = true ∧ d.depth ≤ 64 ∧ d.shown.length ≤ sizeLine ∧ Q (.str d.shown) H,
    fun i pins s σ H xs us Q I r h => ?_, fun rg μ S H as xs R Q ok r hs k => ?_⟩
  · obtain ⟨x, d, e, hr, q⟩ := h
    exact cr_repr (hg i) (hu i) pins s σ H xs us Q I r ⟨x, d, e, hr i, q⟩
  · obtain ⟨d, rfl, h1, h2, h3, h4, hR⟩ := hs
    obtain ⟨v, _, rfl, r1, rfl⟩ := r
    refine ⟨v, pyD d, rfl, fun i pins σ s u I ru => rd_reads I ok.sub (sb i) d v u h1 (by rw [F.hK i]; exact r1) ru, h2, h3, h4, k _ (.str _) S H (.refl ok) rfl hR⟩
end
end DL
/-! text DLj -/
/-! DL: slices from behind, names of classes and constants, minus, dict displays, several targets at once. -/
namespace DL
open PySem PySem.Spec PyProof.Rows L2
/-! ### t[::-1] -/
section
variable {prog : Program} {w : World} {A : Around} {E : Value → Shared → Prop} {s : Shared}
theorem applied_back {sl : Addr} {vs : Value} {n : Nat} {Q : Int × Int × Nat → Shared → Prop} (hs : s.heap.IsSliceOf sl .none .none vs) (ps : IsPart vs (some (-1)))
    (h : Q (((n : Int) - 1), -1, n) s) : wpAny (model prog w) A (Builtin.Slice.sliceApplied (.ref sl) (pure (n : Int))) Q E s := by
  obtain ⟨os, hos, hcs, hds⟩ := id hs
  unfold Builtin.Slice.sliceApplied Builtin.Slice.sliceFields
  refine wpAny_bind (wpAny_bind (wpAny_field hos hds (x := .none) rfl (wpAny_bind (wpAny_field hos hds (x := .none) rfl (wpAny_bind (wpAny_field hos hds (x := vs) rfl (wpAny_pure ?_)))))))
  refine wpAny_bind (HT.slicePart_ ps ?_)
  show wpAny _ _ (if ((-1 : Int) == 0) = true then _ else _) _ _ s
  rw [if_neg (by decide)]
  refine wpAny_bind (slicePart_none (wpAny_bind (slicePart_none (wpAny_bind (wpAny_pure ?_)))))
  show wpAny _ _ (pure ((n : Int) - 1, (-1 : Int), Builtin.Slice.slicePlaces ((n : Int) - 1) (-1) (-1))) _ _ s
  have e : Builtin.Slice.slicePlaces ((n : Int) - 1) (-1) (-1) = n := by
    unfold Builtin.Slice.slicePlaces
    rw [if_neg (by decide)]
    split
    · rw [show (- -1 : Int) = 1 by decide, Int.ediv_one]; omega
    · omega
  rw [e]
  exact wpAny_pure h
theorem pick_back (xs : Array Value) : ((List.range xs.size).filterMap fun (m : Nat) => xs[(((xs.size : Int) - 1) + (m : Int) * -1).toNat]?).toArray = xs.toList.reverse.toArray := by
  have h := PySem.W.krv_pick xs
  unfold slicePick at h
  rw [show sliceBounds none none (some (-1)) xs.size = ((xs.size : Int) - 1, -1, -1) by first | rfl | simp [sliceBounds]] at h
  rw [← h]
  show _ = ((sliceRange ((xs.size : Int) - 1) (-1) (-1)).filterMap (xs[·]?)).toArray
  rw [PySem.W.krv_sliceRange, List.filterMap_map]
  congr 1
  have fm : ∀ (f g : Nat → Option Value) (l : List Nat), (∀ m ∈ l, f m = g m) → l.filterMap f = l.filterMap g := fun f g l => by
    induction l with
    | nil => intro _; rfl
    | cons a r ih =>
      intro h
      rw [List.filterMap_cons, List.filterMap_cons, h a (List.mem_cons_self ..), ih fun m hm => h m (List.mem_cons_of_mem _ hm)]
  refine fm _ _ _ fun m hm => ?_
  have := List.mem_range.mp hm
  show xs[(((xs.size : Int) - 1) + (m : Int) * -1).toNat]? = xs[xs.size - 1 - m]?
  congr 1
  omega
theorem back_tup {t sl : Addr} {items : Array Value} {vs : Value} {Q : Value → Shared → Prop} (ht : IsTup s.heap t items) (hs : s.heap.IsSliceOf sl .none .none vs) (ps : IsPart vs (some (-1)))
    (h : Q (.ref s.heap.objs.size) { s with heap := s.heap.push { cls := .type "tuple", data := .seq items.toList.reverse.toArray } })
    (hsz : items.size ≤ sizeLine) : wpAny (model prog w) A (getItem (.ref t) (.ref sl)) Q E s := by
  have htake : sizeOk (.seq items.toList.reverse.toArray) := by
    show items.toList.reverse.toArray.size ≤ sizeLine
    rw [List.size_toArray, List.length_reverse, Array.length_toList]
    exact hsz
  obtain ⟨os, hos, hcs, hds⟩ := id hs
  have hTs : s.TypeIs (.ref sl) "slice" := ⟨os, hos, hcs⟩
  unfold getItem
  try with_reducible refine wpAny_holding ?_
  first | refine wpAny_bind (wpAny_pure ?_) | skip
  refine wpAny_bind (wpAny_sequenceKey ht.typeIs (by decide) ?_)
  refine wpAny_bind (wpAny_callSpecial?_slot (name := Str.ofString "__getitem__") ht.typeIs PyProof.Rows.slot_tuple_getitem
    (wpAny_call_entry PyProof.Rows.slot_tuple_getitem ht.typeIs entry_tuple_getitem ?_ (args_tuple_getitem _ _)))
  show wpAny _ _ (Builtin.Tuple.tupleItemsOf (.ref t) >>= _) _ _ s
  refine wpAny_bind (tupleItemsOf_ ht ?_)
  refine wpAny_bind (wpAny_typeOf hTs ?_)
  rw [if_pos (by decide)]
  refine wpAny_bind (applied_back hs ps ?_)
  have hno : ¬ ((((items.size : Int) - 1) == 0 && (-1 : Int) == 1 && items.size == items.size) = true) := by
    intro q
    rw [Bool.and_eq_true, Bool.and_eq_true] at q
    exact absurd q.1.2 (by decide)
  show wpAny _ _ (if (((items.size : Int) - 1) == 0 && (-1 : Int) == 1 && items.size == items.size) = true then _ else _) _ _ s
  rw [if_neg hno, pick_back]
  first
    | exact wpAny_bind (m := Builtin.Tuple.tupleExact _) (wpAny_newObj_type (wpAny_pure ⟨_, rfl, wpAny_pure h⟩) htake)
    | exact wpAny_bind (m := Builtin.Tuple.tupleExact _) (wpAny_newObj_type (wpAny_bind (wpAny_pure (wpAny_pure ⟨_, rfl, wpAny_pure h⟩))) htake)
    | exact wpAny_bind (wpAny_bind (m := Builtin.Tuple.tupleExact _) (wpAny_newObj_type (wpAny_pure (wpAny_pure ⟨_, rfl, wpAny_pure h⟩)) htake))
    | exact wpAny_bind (wpAny_bind (m := Builtin.Tuple.tupleExact _) (wpAny_newObj_type (wpAny_pure ⟨_, rfl, wpAny_pure h⟩) htake))
end
section
variable {X : Cx} {e : Expr} {te : TE}
def tRev (K : PySem.W.Frag) (te : TE) : TE := fun σ H Q => te σ H fun x H1 => (∃ a xs, x = .ref a ∧ SqL K H1 a xs ∧ ∀ p, H1 p = none → Q (.ref p) (upd H1 p (.lst xs.reverse))) ∨
  ∃ a xs, x = .ref a ∧ SqT K H1 a xs ∧ ∀ p, H1 p = none → Q (.ref p) (upd H1 p (.tup xs.reverse))
theorem pe_rev {k : Nat} {p1 p2 p3 pos : Pos} (he : PE X e te) : PE X (.Subscript e (.Slice none none (some (.UnaryOp .USub (.Constant (.int 1) k p1) p2)) p3) pos) (tRev X.K te) := by
  refine ⟨fun pins s σ H Q I h => ?_⟩
  refine Subscript_ (thn (he.run pins s σ H _ I h) fun v s1 ⟨x, H1, I1, r1, q1⟩ => ?_)
  have hst : PO X (some (.UnaryOp .USub (.Constant (.int 1) k p1) p2)) (tPart (tUn (rU fun i => .int (-i)) (tC (.int 1)))) := po_some (pe_un un_neg pe_int)
  refine wpAny_Slice (thn (po_none.run pins s1 σ H1 (fun o H2 => o = none ∧ H2 = H1) I1 ⟨rfl, rfl⟩) fun vl s2 ⟨l, H2, I2, pl, el, e2⟩ => ?_)
  subst el e2
  refine thn (po_none.run pins s2 σ H2 (fun o H3 => o = none ∧ H3 = H2) I2 ⟨rfl, rfl⟩) fun vu s3 ⟨u, H3, I3, pu, eu, e3⟩ => ?_
  subst eu e3
  refine thn (hst.run pins s3 σ H3 (fun o H4 => o = some (-1) ∧ H4 = H3) I3 ⟨1, rfl, -1, rfl, rfl, rfl⟩) fun vs s4 ⟨o, H4, I4, ps, eo, e4⟩ => ?_
  subst eo e4
  have I5 : Inv X pins σ H4 { s4 with heap := s4.heap.push { cls := .type "slice", data := .fields #[vl, vu, vs] } } := I4.kept (t' := s4.toks) fun b ob q => Heap.get?_push_of_some _ q
  rcases q1 with ⟨a, xs, ex, hx, q⟩ | ⟨a, xs, ex, hx, q⟩
  · subst ex
    cases r1
    obtain ⟨its, r, ht, hz⟩ := I5.list hx
    have hlen := r.length
    show wpAny (model X.prog X.w) X.A (subscriptTail e (.Slice none none (some (.UnaryOp .USub (.Constant (.int 1) k p1) p2)) p3) (.ref a) (.ref s4.heap.objs.size)) (EP X pins σ Q) X.xe { s4 with heap := s4.heap.push { cls := .type "slice", data := .fields #[vl, vu, vs] } }
    refine tail_any (ops := [.ref a, .ref s4.heap.objs.size]) ht.isList.typeIs (PySem.slot_list_getitem.lookup) ?_ (by with_unfolding_all rfl)
    refine wpAny_getItem_list_slice ht.isList (Heap.IsSliceOf.new _ vl vu vs) pl pu ps (by decide) ?_ (by rw [List.size_toArray]; omega)
    rw [PySem.W.krv_pick]
    refine ⟨.ref _, _, I5.laid (t' := s4.toks) (o := .lst xs.reverse) (fun b ob q => Heap.get?_push_of_some _ q) (Nat.le_refl _) ?_, rfl, q _ (I5.hok.fresh (Nat.le_refl _))⟩
    exact ⟨by rw [List.length_reverse]; exact hz, _, 0, r.reverse, Heap.get?_push_size _ rfl⟩
  · subst ex
    cases r1
    obtain ⟨its, r, ht, hz⟩ := I5.tuple hx
    have hlen := r.length
    cases pl
    cases pu
    show wpAny (model X.prog X.w) X.A (subscriptTail e (.Slice none none (some (.UnaryOp .USub (.Constant (.int 1) k p1) p2)) p3) (.ref a) (.ref s4.heap.objs.size)) (EP X pins σ Q) X.xe { s4 with heap := s4.heap.push { cls := .type "slice", data := .fields #[.none, .none, vs] } }
    refine tail_any (ops := [.ref a, .ref s4.heap.objs.size]) ht.typeIs PyProof.Rows.slot_tuple_getitem.lookup ?_ (by with_unfolding_all rfl)
    refine back_tup ht (Heap.IsSliceOf.new _ .none .none vs) ps ?_ (by rw [List.size_toArray]; omega)
    refine ⟨.ref _, _, I5.laid (t' := s4.toks) (o := .tup xs.reverse) (fun b ob q => Heap.get?_push_of_some _ q) (Nat.le_refl _) ?_, rfl, q _ (I5.hok.fresh (Nat.le_refl _))⟩
    exact ⟨by rw [List.length_reverse]; exact hz, _, by simpa using r.reverse, IsTup.new _ _⟩
end
section
variable {Z : Wld} {F : Fm} {W : WX} {e a b c : Expr} {es : List Expr} {ta tb tc te : DT Z} {tA : DTA Z} {pos : Pos}
def smRev (d : D) (R : D → Prop) : Prop := match d with
  | .tup xs => R (.tup xs.reverse)
  | d => ∃ xs, itemsC d = some xs ∧ R (.lst xs.reverse)
def dRev {M : Type} (ta : DT0 M) : DT0 M := fun ρ μ R E => ta ρ μ (fun d μ1 => smRev d fun y => R y μ1) E
theorem dx_rev {k : Nat} {p1 p2 p3 : Pos} (ha : DE Z F W a ta) : DE Z F W (.Subscript a (.Slice none none (some (.UnaryOp .USub (.Constant (.int 1) k p1) p2)) p3) pos) (dRev ta) := by
  obtain ⟨ta', pa, ha⟩ := ha
  refine ⟨tRev F.K ta', fun i => by rw [← F.hK i]; exact pe_rev (pa i), fun B ρ σ μ S H R E Q env ok h hE hQ => ?_⟩
  refine ha B ρ σ μ S H _ E _ env ok h hE fun v d μ1 S1 H1 x1 r1 h1 => ?_
  have ok1 := x1.ok
  have lists : (∃ xs, itemsC d = some xs ∧ R (.lst xs.reverse) μ1) → (∀ ys, d ≠ .tup ys) → ∃ a xs, v = .ref a ∧ SqL F.K H1 a xs ∧ ∀ p, H1 p = none → Q (.ref p) (upd H1 p (.lst xs.reverse)) := fun q nt => by
    obtain ⟨xs, e1, hR⟩ := q
    obtain ⟨p, vs, rfl, q1, q3⟩ := items_list ok1.sub r1 e1 nt
    exact ⟨p, vs, rfl, q1, fun t ht => hQ _ (.lst xs.reverse) μ1 _ _ (x1.trans (ok1.put ht)) ⟨t, _, rfl, upd_same, q3.reverse.new ok1 ht⟩ hR⟩
  cases d with
  | tup xs =>
    obtain ⟨p, vs, rfl, q1, q2⟩ := id r1
    exact .inr ⟨p, vs, rfl, seqT_mono ok1.sub q1, fun t ht => hQ _ (.tup xs.reverse) μ1 _ _ (x1.trans (ok1.put ht)) ⟨t, _, rfl, SqT.of upd_same, q2.reverse.new ok1 ht⟩ h1⟩
  | _ => exact .inl (lists h1 (by simp))
/-! ### names of classes and constants -/
theorem dx_ty {x : Str} {id : String} {p : Pos} (hg : ∀ i, Gl (F.X i) x) (hm : ∀ i, (F.X i).mg x = none) (hv : bootBuiltins x = some (.type id)) (hn : x ≠ "__name__" := by decide) (hdb : (x == ("__debug__" : Str)) = false := by decide) :
    DE Z F W (.Name x p) (dC (.op (.ty id))) := dx_c (fun i => pe_bltn (v := .ty id) (hg i) (hm i) hv rfl hn hdb) fun _ _ _ => rfl
theorem dx_gint {x : Str} {n : Int} {t : Tok} {p : Pos} (hg : ∀ i, Gl (F.X i) x) (hm : ∀ i, (F.X i).mg x = some (.int n t)) (hdb : (x == ("__debug__" : Str)) = false := by decide) :
    DE Z F W (.Name x p) (dC (.int n)) := dx_c (fun i => pe_glob (v := .int n) (hg i) (hm i) ⟨t, rfl⟩ hdb) fun _ _ _ => rfl
theorem dx_gstr {x z : Str} {t : Tok} {p : Pos} (hg : ∀ i, Gl (F.X i) x) (hm : ∀ i, (F.X i).mg x = some (.str z t)) (hdb : (x == ("__debug__" : Str)) = false := by decide) :
    DE Z F W (.Name x p) (dC (.str z)) := dx_c (fun i => pe_glob (v := .str z) (hg i) (hm i) ⟨t, rfl⟩ hdb) fun _ _ _ => rfl
def smNeg : Sm1 := fun a R => ∃ i, a = .int i ∧ R (.int (-i))
theorem ud_neg : UnD Z F (unaryOp .USub) smNeg := by
  refine ⟨_, fun i => un_neg, fun rg μ S H a x R Q ok ra hs k => ?_⟩
  obtain ⟨i, rfl, hR⟩ := hs
  exact ⟨i, ra, k _ (.int (-i)) S H (.refl ok) rfl hR⟩
/-! ### dict displays -/
theorem dx_dct0 : DE Z F W (.Dict [] [] pos) (dC (.dct [])) := by
  refine ⟨_, fun i => pe_dnewK, fun B ρ σ μ S H R E Q env ok h hE hQ => fun t ht => hQ _ (.dct []) μ _ _ (ok.put ht) ⟨t, _, rfl, upd_same, rfl⟩ h⟩
/-- the pairs of a display with written keys -/
def DPs (Z : Wld) (F : Fm) (W : WX) (ks : List (Option Expr)) (vs : List Expr) (kk : List Key) (t : DTA Z) : Prop := ∃ trs : List (TE × TE), (∀ i pos, PPs (F.X i) pos ks vs trs) ∧ ∀ (B : Hp) (ρ : Rho) (σ : L2.St) (μ : Z.M) (S H : Hp) (R : List D → Z.M → Prop) (E : Xc → Z.M → Prop) (Q : List (V × V) → Hp → Prop),
  EnvR F.K Z B μ S H ρ σ → Ok Z μ S H → t ρ μ R E → Wish Z F W B μ S H σ E →
  (∀ (ws : List V) (ds : List D) (μ' : Z.M) (S' H' : Hp), Ext Z μ S H μ' S' H' → RdL F.K (fb Z B μ') S' H' ds ws → ds.length = kk.length → R ds μ' → Q ((kk.map kV).zip ws) H') → tPairs trs σ H Q
theorem dps_nil : DPs Z F W [] [] [] dNil := ⟨_, fun i _ => pps_nil, fun B ρ σ μ S H R E Q env ok h hE hQ => hQ [] [] μ S H (.refl ok) rfl rfl h⟩
theorem dps_str {z : Str} {j : Nat} {p : Pos} {ks : List (Option Expr)} {kk : List Key} {tR : DTA Z} (ha : DE Z F W a ta) (hr : DPs Z F W ks es kk tR) :
    DPs Z F W (some (.Constant (.str z) j p) :: ks) (a :: es) (.inr z :: kk) (dCons ta tR) := by
  obtain ⟨ta', pa, ha⟩ := ha
  obtain ⟨tr', pr, hr⟩ := hr
  refine ⟨_, fun i pos => pps_cons pe_str (pa i) (pr i pos), fun B ρ σ μ S H R E Q env ok h hE hQ => ?_⟩
  refine ha B ρ σ μ S H _ E _ env ok h hE fun v d μ1 S1 H1 x1 r1 h1 => ?_
  refine hr B ρ σ μ1 S1 H1 _ E _ (env.ext x1) x1.ok h1 (hE.ext x1) fun ws ds μ2 S2 H2 x2 r2 l2 h2 => ?_
  exact hQ (v :: ws) (d :: ds) μ2 S2 H2 (x1.trans x2) ⟨v, ws, rfl, r1.ext x2, r2⟩ (by rw [List.length_cons, List.length_cons, l2]) h2
def dDct {M : Type} (kk : List Key) (tA : DTA0 M) : DT0 M := fun ρ μ R E => tA ρ μ (fun ds μ1 => R (.dct (kk.zip ds)) μ1) E
theorem rdk_zip {K : PySem.W.Frag} {rg : Addr → Prop} {S H : Hp} : ∀ {kk : List Key} {ds : List D} {ws : List V}, RdL K rg S H ds ws → ds.length = kk.length → RdK K rg S H (kk.zip ds) (kk.zip ws)
  | [], ds, ws, _, _ => rfl
  | k :: kk, [], ws, _, l => by cases l
  | k :: kk, d :: ds, _, h, l => by
    obtain ⟨v, r, rfl, h1, h2⟩ := h
    exact ⟨v, kk.zip r, rfl, h1, rdk_zip h2 (by simpa using l)⟩
theorem zip_kv : ∀ {kk : List Key} {ws : List V}, (kk.map kV).zip ws = (kk.zip ws).map fun kv => (kV kv.1, kv.2)
  | [], _ => rfl
  | _ :: _, [] => rfl
  | k :: kk, w :: ws => by simp only [List.map_cons, List.zip_cons_cons, zip_kv]
theorem dx_dct {ks : List (Option Expr)} {kk : List Key} (h : DPs Z F W ks es kk tA) (hall : ks.all (·.isSome) = true) (hl : ks.length = es.length) (h0 : ks ≠ []) (h15 : ks.length ≤ 15) (k15 : kk.length ≤ 15)
    (hm : ∀ ws : List V, ws.length = kk.length → mergeK [] (kk.zip ws) = kk.zip ws) : DE Z F W (.Dict ks es pos) (dDct kk tA) := by
  obtain ⟨trs, pp, h⟩ := h
  refine ⟨_, fun i => pe_disp (pp i pos) hall hl h0 h15, fun B ρ σ μ S H R E Q env ok ht hE hQ => fun p hp => ?_⟩
  have x0 := ok.putOwn (o := .dK []) hp
  have nr : ¬ Z.reg μ p := fun q => Z.held ok.j q hp
  refine h B ρ σ μ S (upd H p (.dK [])) _ E _ (env.ext x0) x0.ok ht (hE.ext x0) fun ws ds μ1 S1 H1 x1 r1 l1 h1 => ?_
  have e1 : H1 p = some (.dK []) := x1.keep p _ nr (fun _ h => by cases h) upd_same
  have lw : ws.length = kk.length := by rw [r1.length, l1]
  refine ⟨e1, kk.zip ws, zip_kv, by rw [List.length_zip]; omega, ?_⟩
  rw [hm ws lw]
  have nr1 : ¬ Z.reg μ1 p := fun q => by
    rcases x1.reg p q with q | q
    · exact nr q
    · exact q.nt upd_same
  have sp : S1 p = none := by
    cases q : S1 p with
    | none => rfl
    | some o =>
      rcases x1.new p (by rw [q]; simp) with z | z
      · cases e : S p with
        | none => exact absurd e z
        | some o' => have z2 := ok.sub p _ e; rw [hp] at z2; cases z2
      · exact z.nt upd_same
  have xx := x0.trans x1
  have ok2 : Ok Z μ1 (upd S1 p (.dK (kk.zip ws))) (upd H1 p (.dK (kk.zip ws))) := by
    refine ⟨fun b o e => ?_, Z.loc x1.ok.j (fun b o e => by rw [upd_ne fun z => by rw [z, sp] at e; cases e]; exact e) fun b hb => ?_, fun b hb => ?_, fun b o e => ?_⟩
    rotate_left 3
    · by_cases hbp : b = p
      · rw [hbp, upd_same] at e; cases e; exact fun _ h => by cases h
      · rw [upd_ne hbp] at e; exact x1.ok.nt b o e
    · by_cases hbp : b = p
      · subst hbp; rw [upd_same] at e ⊢; exact e
      · rw [upd_ne hbp] at e ⊢; exact x1.ok.sub b o e
    · exact upd_ne fun z => nr1 (by rw [z] at hb; exact hb)
    · rw [upd_ne fun z => nr1 (by rw [z] at hb; exact hb)]; exact x1.ok.off b hb
  have xf : Ext Z μ S H μ1 (upd S1 p (.dK (kk.zip ws))) (upd H1 p (.dK (kk.zip ws))) := by
    refine ⟨ok2, fun b o nb nt e => ?_, fun b o e => ?_, fun b q => ?_, xx.reg, fun b q => ?_⟩
    · rw [upd_ne fun z => by rw [z, hp] at e; cases e]
      exact xx.keep b o nb nt e
    · have e2 := xx.same b o e
      rw [upd_ne fun z => by rw [z, sp] at e2; cases e2]
      exact e2
    · by_cases hbp : b = p
      · exact .inr (by rw [hbp]; exact .inl hp)
      · rw [upd_ne hbp] at q; exact xx.new b q
    · by_cases hbp : b = p
      · rw [hbp]; exact .inl hp
      · rw [Fr, upd_ne hbp] at q; exact xx.there b q
  refine hQ (.ref p) (.dct (kk.zip ds)) μ1 _ _ xf ⟨p, kk.zip ws, rfl, upd_same, rdk_zip ?_ l1⟩ h1
  refine r1.mono (fun b o e => ?_) fun b vs nf e => ⟨nf, ?_⟩
  · rw [upd_ne fun z => by rw [z, sp] at e; cases e]
    exact e
  · rw [upd_ne fun z => by rw [z, e1] at e; cases e]
    exact e
end
end DL
/-! text DLk -/
/-! DL: several targets at once. -/
namespace DL
open PySem PySem.Spec PyProof.Rows L2
section
variable (Z : Wld) (F : Fm) (W : WX)
abbrev DTP0 (M : Type) := Rho → M → (List Slot → M → Prop) → (Xc → M → Prop) → Prop
abbrev DTP := DTP0 Z.M
/-- values that are to be stored: data, or new lists -/
structure SlR (K : PySem.W.Frag) (B : Hp) (μ : Z.M) (S H H0 : Hp) (sl : List Slot) (vs : List V) : Prop where
  len : vs.length = sl.length
  get : ∀ (i : Nat) (s : Slot), sl[i]? = some s → ∃ v, vs[i]? = some v ∧ SlotR K Z B μ S H s (some v)
  apart : ∀ (i j : Nat) (xs ys : List D) (a : Addr), sl[i]? = some (.own xs) → sl[j]? = some (.own ys) → vs[i]? = some (.ref a) → vs[j]? = some (.ref a) → i = j
  new : ∀ (i : Nat) (xs : List D) (a : Addr), sl[i]? = some (.own xs) → vs[i]? = some (.ref a) → Fr H0 a
def DP (es : List Expr) (t : DTP Z) : Prop := ∃ te : TA, (∀ i, PA (F.X i) es te) ∧ ∀ (B : Hp) (ρ : Rho) (σ : L2.St) (μ : Z.M) (S H : Hp) (R : List Slot → Z.M → Prop) (E : Xc → Z.M → Prop) (Q : List V → Hp → Prop),
  EnvR F.K Z B μ S H ρ σ → Ok Z μ S H → t ρ μ R E → Wish Z F W B μ S H σ E →
  (∀ (v : List V) (sl : List Slot) (μ' : Z.M) (S' H' : Hp), Ext Z μ S H μ' S' H' → SlR Z F.K B μ' S' H' H sl v → sl.length = es.length → R sl μ' → Q v H') → te σ H Q
end
section
variable {Z : Wld}
def dpNil {M : Type} : DTP0 M := fun _ μ R _ => R [] μ
def dpE {M : Type} (ta : DT0 M) (tr : DTP0 M) : DTP0 M := fun ρ μ R E => ta ρ μ (fun a μ1 => sta a = true ∧ tr ρ μ1 (fun as μ2 => R (.val a :: as) μ2) E) E
def dpF {M : Type} (ta : DTA0 M) (tr : DTP0 M) : DTP0 M := fun ρ μ R E => ta ρ μ (fun a μ1 => staL a = true ∧ tr ρ μ1 (fun as μ2 => R (.own a :: as) μ2) E) E
end
section
variable {Z : Wld} {F : Fm} {W : WX} {e a b c : Expr} {es : List Expr} {ta tb tc te : DT Z} {tA : DTA Z} {tP : DTP Z} {pos : Pos}
theorem dp_nil : DP Z F W [] dpNil := ⟨_, fun i => pa_nil, fun B ρ σ μ S H R E Q env ok h hE hQ => hQ [] [] μ S H (.refl ok) ⟨rfl, fun i s e => by simp at e, fun i j xs ys a e => by simp at e, fun i xs a e => by simp at e⟩ rfl h⟩
theorem dp_e (ha : DE Z F W e ta) (hr : DP Z F W es tP) (hs : ∀ i, starEach (e :: es) (F.X i).env = (false, eval e (F.X i).env) :: starEach es (F.X i).env := by intro _; rfl) : DP Z F W (e :: es) (dpE ta tP) := by
  obtain ⟨ta', pa, ha⟩ := ha
  obtain ⟨tr', pr, hr⟩ := hr
  refine ⟨_, fun i => pa_cons (pa i) (pr i) (hs i), fun B ρ σ μ S H R E Q env ok h hE hQ => ?_⟩
  refine ha B ρ σ μ S H _ E _ env ok h hE fun v d μ1 S1 H1 x1 r1 h1 => ?_
  refine hr B ρ σ μ1 S1 H1 _ E _ (env.ext x1) x1.ok h1.2 (hE.ext x1) fun vs sl μ2 S2 H2 x2 r2 l2 h2 => ?_
  refine hQ (v :: vs) (.val d :: sl) μ2 S2 H2 (x1.trans x2) ⟨by rw [List.length_cons, List.length_cons, r2.len], fun i s e => ?_, fun i j xs ys a e1 e2 e3 e4 => ?_, fun i xs a e1 e2 => ?_⟩ (by rw [List.length_cons, List.length_cons, l2]) h2
  · cases i with
    | zero =>
      simp only [List.getElem?_cons_zero, Option.some.injEq] at e
      subst e
      exact ⟨v, rfl, v, rfl, h1.1, r1.ext x2⟩
    | succ i => simpa using r2.get i s (by simpa using e)
  · cases i with
    | zero => simp at e1
    | succ i => cases j with
      | zero => simp at e2
      | succ j => exact congrArg Nat.succ (r2.apart i j xs ys a (by simpa using e1) (by simpa using e2) (by simpa using e3) (by simpa using e4))
  · cases i with
    | zero => simp at e1
    | succ i =>
      exact x1.there a (r2.new i xs a (by simpa using e1) (by simpa using e2))
theorem dp_f (ha : DF Z F W e tA) (hr : DP Z F W es tP) (hs : ∀ i, starEach (e :: es) (F.X i).env = (false, eval e (F.X i).env) :: starEach es (F.X i).env := by intro _; rfl) : DP Z F W (e :: es) (dpF tA tP) := by
  obtain ⟨ta', pa, ha⟩ := ha
  obtain ⟨tr', pr, hr⟩ := hr
  refine ⟨_, fun i => pa_cons (pa i) (pr i) (hs i), fun B ρ σ μ S H R E Q env ok h hE hQ => ?_⟩
  refine ha B ρ σ μ S H _ E _ env ok h hE fun p ws ds μ1 S1 H1 x1 n1 e1 s1 f1 r1 h1 => ?_
  refine hr B ρ σ μ1 S1 H1 _ E _ (env.ext x1) x1.ok h1.2 (hE.ext x1) fun vs sl μ2 S2 H2 x2 r2 l2 h2 => ?_
  have k2 := x2.lst p ws f1 e1
  have s2 : S2 p = none := by
    cases q : S2 p with
    | none => rfl
    | some o =>
      rcases x2.new p (by rw [q]; simp) with z | z
      · exact absurd s1 z
      · exact z.nt e1
  refine hQ (.ref p :: vs) (.own ds :: sl) μ2 S2 H2 (x1.trans x2) ⟨by rw [List.length_cons, List.length_cons, r2.len], fun i s e => ?_, fun i j xs ys a e1' e2 e3 e4 => ?_, fun i xs a e1' e2 => ?_⟩ (by rw [List.length_cons, List.length_cons, l2]) h2
  · cases i with
    | zero =>
      simp only [List.getElem?_cons_zero, Option.some.injEq] at e
      subst e
      exact ⟨.ref p, rfl, p, ws, rfl, k2.2, s2, k2.1, h1.1, r1.ext x2⟩
    | succ i => simpa using r2.get i s (by simpa using e)
  · have ne : ∀ {k : Nat} {zs : List D}, sl[k]? = some (.own zs) → vs[k]? = some (.ref p) → False := fun {k zs} q1 q2 => by
      exact (r2.new k zs p q1 q2).nt e1
    cases i with
    | zero => cases j with
      | zero => rfl
      | succ j =>
        simp only [List.getElem?_cons_zero, Option.some.injEq, V.ref.injEq] at e3
        subst e3
        exact (ne (by simpa using e2) (by simpa using e4)).elim
    | succ i => cases j with
      | zero =>
        simp only [List.getElem?_cons_zero, Option.some.injEq, V.ref.injEq] at e4
        subst e4
        exact (ne (by simpa using e1') (by simpa using e3)).elim
      | succ j => exact congrArg Nat.succ (r2.apart i j xs ys a (by simpa using e1') (by simpa using e2) (by simpa using e3) (by simpa using e4))
  · cases i with
    | zero =>
      simp only [List.getElem?_cons_zero, Option.some.injEq, V.ref.injEq] at e2
      subst e2
      exact n1
    | succ i =>
      exact x1.there a (r2.new i xs a (by simpa using e1') (by simpa using e2))
/-- one store of several -/
theorem EnvR.put1 {K : PySem.W.Frag} {B : Hp} {μ : Z.M} {S H : Hp} {ρ : Rho} {σ : L2.St} (env : EnvR K Z B μ S H ρ σ) {i : Nat} {s : Slot} {v : V} (h : SlotR K Z B μ S H s (some v)) (ns : s ≠ .un)
    (ap : ∀ xs a, s = .own xs → v = .ref a → ∀ (j : Nat) (ys : List D), ρ[j]? = some (.own ys) → σ[j]? ≠ some (some (.ref a))) : EnvR K Z B μ S H (ρ.set i s) (σ.set i (some v)) := by
  cases s with
  | un => exact absurd rfl ns
  | val d =>
    obtain ⟨v', e, t, r⟩ := h
    cases e
    exact env.put t r
  | own xs =>
    obtain ⟨a, vs, e, h1, h2, h3, h4, h5⟩ := h
    cases e
    exact env.putOwn h1 h2 h3 h4 h5 (ap xs a rfl rfl)
  | exc a cls d y => exact env.putExc h
/-- an owner's list stands where no new list does -/
theorem own_old {K : PySem.W.Frag} {B : Hp} {μ : Z.M} {S H : Hp} {ρ : Rho} {σ : L2.St} (env : EnvR K Z B μ S H ρ σ) {a : Addr} (n : Fr H a) (j : Nat) (ys : List D) (e : ρ[j]? = some (.own ys)) : σ[j]? ≠ some (some (.ref a)) := fun q => by
  obtain ⟨o, e1, b, vs, e2, h1, _⟩ := env.get j _ e
  rw [q] at e1
  cases e1
  cases e2
  exact n.nt h1
def dsPar2 {M : Type} (i j : Nat) (t : DTP0 M) : DTS0 M := fun B ρ μ => t ρ μ (fun sl μ' => ∃ u v, sl = [u, v] ∧ u ≠ .un ∧ v ≠ .un ∧ B.nx ((ρ.set i u).set j v) μ') fun x μ' => B.ex x ρ μ'
def dsPar3 {M : Type} (i j l : Nat) (t : DTP0 M) : DTS0 M := fun B ρ μ => t ρ μ (fun sl μ' => ∃ u v w, sl = [u, v, w] ∧ u ≠ .un ∧ v ≠ .un ∧ w ≠ .un ∧ B.nx (((ρ.set i u).set j v).set l w) μ') fun x μ' => B.ex x ρ μ'
theorem set_own {ρ : Rho} {σ : L2.St} {i k : Nat} {u : Slot} {v : V} {ys : List D} {a : Addr} (hl : σ.length = ρ.length) (e : (ρ.set i u)[k]? = some (.own ys)) (q : (σ.set i (some v))[k]? = some (some (.ref a))) : (k = i ∧ u = .own ys ∧ v = .ref a) ∨ (ρ[k]? = some (.own ys) ∧ σ[k]? = some (some (.ref a))) := by
  by_cases h : k = i
  · subst h
    have lt : k < ρ.length := by
      have := (List.getElem?_eq_some_iff.mp e).1
      simpa using this
    rw [List.getElem?_set_self lt] at e
    rw [List.getElem?_set_self (by omega)] at q
    cases e; cases q
    exact .inl ⟨rfl, rfl, rfl⟩
  · rw [List.getElem?_set_ne (Ne.symm h)] at e q
    exact .inr ⟨e, q⟩
theorem ds_par2 {i j : Nat} {x y : Str} {px py pt : Pos} {kt k2 : Nat} {pt2 : Pos} (hc : ∀ k, (F.X k).calm = true) (hN : ∀ k, (F.X k).N.Nodup) (hi : ∀ k, (F.X k).N[i]? = some x) (hj : ∀ k, (F.X k).N[j]? = some y) (hij : i ≠ j)
    (hx : ∀ k, (F.X k).env.scope.names.lookup x = some .local) (hy : ∀ k, (F.X k).env.scope.names.lookup y = some .local) (ha : DP Z F W [a, b] tP)
    (hw : ∀ k, swappedStores [.Tuple [.Name x px, .Name y py] kt pt] (.Tuple [a, b] k2 pt2) (F.X k).env = pure (some [x, y]))
    (hs : ∀ k, swapsWithSole [.Tuple [.Name x px, .Name y py] kt pt] (.Tuple [a, b] k2 pt2) pos.line (F.X k).env = pure false := by intro _; rfl) :
    DS Z F W (.Assign [.Tuple [.Name x px, .Name y py] kt pt] (.Tuple [a, b] k2 pt2) pos) (dsPar2 i j tP) := by
  obtain ⟨tp, pp, ha⟩ := ha
  refine ⟨_, fun k => ps_par (hc k) (hN k) (hi k) (hj k) hij (hx k) (hy k) (pp k) (hw k) (hs k), fun μ0 S0 H0 ρ σ μ S H B L r h k => ?_⟩
  refine ha H0 ρ σ μ S H _ _ _ r.env r.ok h (k.wish r) fun vs sl μ' S' H' x' q l hr => ?_
  obtain ⟨u, v, rfl, nu, nv, hB⟩ := hr
  obtain ⟨v1, e1, s1⟩ := q.get 0 u rfl
  obtain ⟨v2, e2, s2⟩ := q.get 1 v rfl
  have hl2 := q.len
  have ev : vs = [v1, v2] := by
    match vs, hl2 with
    | [p, q'], _ => simp at e1 e2; rw [e1, e2]
  subst ev
  have env' := r.env.ext x'
  refine ⟨v1, v2, rfl, k.nx _ _ μ' S' H' ⟨?_, r.ext.trans x'⟩ x'.same hB⟩
  refine (env'.put1 s1 nu fun xs a eu ea k' ys e => own_old r.env (q.new 0 xs a (by rw [eu]; rfl) (by rw [ea]; rfl)) k' ys e).put1 s2 nv fun xs a eu ea k' ys e qq => ?_
  rcases set_own env'.len e qq with ⟨rfl, z1, z2⟩ | ⟨z1, z2⟩
  · exact absurd (q.apart 0 1 ys xs a (by rw [z1]; rfl) (by rw [eu]; rfl) (by rw [z2]; rfl) (by rw [ea]; rfl)) (by decide)
  · exact own_old r.env (q.new 1 xs a (by rw [eu]; rfl) (by rw [ea]; rfl)) k' ys z1 z2
theorem ds_par3 {i j l : Nat} {x y z : Str} {px py pz pt : Pos} {kt k2 : Nat} {pt2 : Pos} (hc : ∀ k, (F.X k).calm = true) (hN : ∀ k, (F.X k).N.Nodup) (hi : ∀ k, (F.X k).N[i]? = some x) (hj : ∀ k, (F.X k).N[j]? = some y) (hl : ∀ k, (F.X k).N[l]? = some z) (hij : i ≠ j) (hil : i ≠ l) (hjl : j ≠ l)
    (hx : ∀ k, (F.X k).env.scope.names.lookup x = some .local) (hy : ∀ k, (F.X k).env.scope.names.lookup y = some .local) (hz : ∀ k, (F.X k).env.scope.names.lookup z = some .local) (ha : DP Z F W [a, b, c] tP)
    (hw : ∀ k, swappedStores [.Tuple [.Name x px, .Name y py, .Name z pz] kt pt] (.Tuple [a, b, c] k2 pt2) (F.X k).env = pure (some [x, y, z]))
    (hs : ∀ k, swapsWithSole [.Tuple [.Name x px, .Name y py, .Name z pz] kt pt] (.Tuple [a, b, c] k2 pt2) pos.line (F.X k).env = pure false := by intro _; rfl) :
    DS Z F W (.Assign [.Tuple [.Name x px, .Name y py, .Name z pz] kt pt] (.Tuple [a, b, c] k2 pt2) pos) (dsPar3 i j l tP) := by
  obtain ⟨tp, pp, ha⟩ := ha
  refine ⟨_, fun k => ps_par3 (hc k) (hN k) (hi k) (hj k) (hl k) hij hil hjl (hx k) (hy k) (hz k) (pp k) (hw k) (hs k), fun μ0 S0 H0 ρ σ μ S H B L r h k => ?_⟩
  refine ha H0 ρ σ μ S H _ _ _ r.env r.ok h (k.wish r) fun vs sl μ' S' H' x' q l hr => ?_
  obtain ⟨u, v, w, rfl, nu, nv, nw, hB⟩ := hr
  obtain ⟨v1, e1, s1⟩ := q.get 0 u rfl
  obtain ⟨v2, e2, s2⟩ := q.get 1 v rfl
  obtain ⟨v3, e3, s3⟩ := q.get 2 w rfl
  have hl2 := q.len
  have ev : vs = [v1, v2, v3] := by
    match vs, hl2 with
    | [p, q', q''], _ => simp at e1 e2 e3; rw [e1, e2, e3]
  subst ev
  have env' := r.env.ext x'
  refine ⟨v1, v2, v3, rfl, k.nx _ _ μ' S' H' ⟨?_, r.ext.trans x'⟩ x'.same hB⟩
  have old : ∀ {n : Nat} {xs : List D} {a : Addr}, [u, v, w][n]? = some (.own xs) → [v1, v2, v3][n]? = some (.ref a) → ∀ (k' : Nat) (ys : List D), ρ[k']? = some (.own ys) → σ[k']? ≠ some (some (.ref a)) := fun {n xs a} z1 z2 k' ys e => own_old r.env (q.new n xs a z1 z2) k' ys e
  have env1 := env'.put1 (i := i) s1 nu fun xs a eu ea k' ys e => old (n := 0) (by rw [eu]; rfl) (by rw [ea]; rfl) k' ys e
  have env2 := env1.put1 (i := j) s2 nv fun xs a eu ea k' ys e qq => by
    rcases set_own env'.len e qq with ⟨rfl, z1, z2⟩ | ⟨z1, z2⟩
    · exact absurd (q.apart 0 1 ys xs a (by rw [z1]; rfl) (by rw [eu]; rfl) (by rw [z2]; rfl) (by rw [ea]; rfl)) (by decide)
    · exact old (n := 1) (by rw [eu]; rfl) (by rw [ea]; rfl) k' ys z1 z2
  refine env2.put1 s3 nw fun xs a eu ea k' ys e qq => ?_
  rcases set_own env1.len e qq with ⟨rfl, z1, z2⟩ | ⟨z1, z2⟩
  · exact absurd (q.apart 1 2 ys xs a (by rw [z1]; rfl) (by rw [eu]; rfl) (by rw [z2]; rfl) (by rw [ea]; rfl)) (by decide)
  · rcases set_own env'.len z1 z2 with ⟨rfl, z1, z2⟩ | ⟨z1, z2⟩
    · exact absurd (q.apart 0 2 ys xs a (by rw [z1]; rfl) (by rw [eu]; rfl) (by rw [z2]; rfl) (by rw [ea]; rfl)) (by decide)
    · exact old (n := 2) (by rw [eu]; rfl) (by rw [ea]; rfl) k' ys z1 z2
end
end DL
/-! text DLm -/
/-! DL: what a def's proof is handed; the end of a law by data. -/
namespace DL
open PySem PySem.Spec PyProof.Rows L2
theorem itT {c A B : Prop} [Decidable c] (hc : c) (h : A) : if c then A else B := by rw [if_pos hc]; exact h
theorem itF {c A B : Prop} [Decidable c] (hc : ¬ c) (h : B) : if c then A else B := by rw [if_neg hc]; exact h
theorem un_of {k : Nat} {A : Around} (hr : Room k A) : A.units + 64 < cLine := by have := hr.un; omega
theorem un_of1 {k : Nat} {A : Around} (hr : Room k A) : A.units + 1 < cLine := by have := hr.un; omega
theorem un_of65 {k : Nat} {A : Around} (hr : Room k A) : A.units + 65 < cLine := by have := hr.un; omega
/-- a def that stands and keeps its promise -/
structure Kn (P : Program) (w : World) (K : PySem.W.Frag) (mg : Str → Option Value) (base : Heap) (x : Str) (k : Nat) (ps : List Str) (f : Addr) (fd : FuncData) (sp : Sp) : Prop where
  G : FnG P w K mg base k f fd ps sp
  m : mg x = some (.ref f)
  kp : PySem.W.keepIn K (.ref f) = true
  bd : Binds K fd ps []
/-- THE HEAD by data -/
theorem law_callD {Z : Wld} {μ0 : Z.M} (hreg : ∀ a, ¬ Z.reg μ0 a) (hJ : ∀ S H, Z.J μ0 S H) {P : Program} {w : World} {K : PySem.W.Frag} {mg mb : Str → Option Value} {k : Nat} {fa a : Addr} {fd : FuncData} {x : Str} {sp : SpD Z} {s₁ : Shared} {vs : List Value} {ns : List Int}
    (KX : K.In s₁.heap) (hns : s₁.heap.Ns mainGlobals mg) (hb : s₁.heap.Ns builtinsNs mb) (hbb : ∀ x : Str, x ≠ "__name__" → mb x = bootBuiltins x) (hlim : s₁.heap.NoLimit) (hg : s₁.gens = #[]) (hmods : ∃ mm, s₁.heap.Ns sysModules mm)
    (ha : s₁.heap.get? a = some { cls := .type "list", data := .seq vs.toArray }) (hi : IntsAre vs ns) (hl : ns.length ≤ sizeLine) (hr : Room k callerA)
    (G : ∀ base : Heap, K.In base → base.Ns mainGlobals mg → (∃ mm, base.Ns sysModules mm) → FnG P w K mg base k fa fd [x] (spOf K Z 1 sp)) (hbind : ∀ (s : Shared) (u : Value), BindsTo s fd ⟨[u], []⟩ [(x, u)])
    (hsp : sp [.scr ns] μ0 (fun d _ => d = .bl true) fun _ _ => False) :
    codeAny (model P w) callerA (.call (.ref fa) ⟨[.ref a], []⟩) (fun r s' => r = .ok (.ret (.bool true)) ∧ OldK s₁.heap s'.heap ∧ s'.os = s₁.os ∧ AllBare s'.gens) s₁ := by
  have rv := vals_ints hi
  have lenV := hi.length
  have core : ∀ H : Hp, Only H → SqL K H a (ns.map V.int) → HOk P w H s₁.heap → (∀ b, H b ≠ none → b = a) → (H a ≠ none → K.lookup a = none) →
      codeAny (model P w) callerA (.call (.ref fa) ⟨[.ref a], []⟩) (fun r s' => r = .ok (.ret (.bool true)) ∧ OldK s₁.heap s'.heap ∧ s'.os = s₁.os ∧ AllBare s'.gens) s₁ := by
    intro H hO hS hok hA hK
    have base_of : ∀ {b : Addr} {o : Obj}, s₁.heap.get? b = some o → H b = none → (hidT s₁.heap H).get? b = some o := fun e n => hidT_get e n
    have noA : ∀ {b : Addr} {o : Obj} {es : Array DictEntry} {ep : Nat}, s₁.heap.get? b = some o → o.data = .dict es ep → H b = none := fun {b o es ep} e d => by
      cases q : H b with
      | none => rfl
      | some u =>
        have e' : b = a := hA b (by rw [q]; simp)
        subst e'
        rw [ha] at e; cases e
        have d' : Data.seq vs.toArray _ = Data.dict es ep := d
        cases d'
    have nsK : ∀ {b : Addr} {m : Str → Option Value}, s₁.heap.Ns b m → (hidT s₁.heap H).Ns b m := fun {b m} ⟨o, es, ep, e, d, r⟩ => ⟨o, es, ep, base_of e (noA e d), d, r⟩
    have hKb : K.In (hidT s₁.heap H) := fun b o e => base_of (KX b o e) (by
      cases q : H b with
      | none => rfl
      | some u =>
        have e' : b = a := hA b (by rw [q]; simp)
        subst e'
        rw [hK (by rw [q]; simp)] at e; cases e)
    have hM : Mod K mg (hidT s₁.heap H) := ⟨hKb, nsK hns, ⟨mb, nsK hb, hbb⟩, let ⟨mc, h1, h2⟩ := hlim; ⟨mc, nsK h1, h2⟩⟩
    have e0 : Env0 P w K mg (hidT s₁.heap H) callerA [] s₁ H := ⟨rfl, hM, fun b o e => of_hidT e, Nat.le_of_eq (hidT_size _ _), trivial, fun b hb => absurd (show b ∈ ([] : List Addr) from hb) (by simp), hok, .of_eq hg⟩
    obtain ⟨mm, hmm⟩ := hmods
    have ok0 : Ok Z μ0 H H := ⟨Same.refl H, hJ H H, fun b hb => (hreg b hb).elim, fun b o e => by
      rcases hO b with z | ⟨ob, xs, z⟩
      · rw [e] at z; cases z
      · rw [e] at z; cases z; exact fun _ h => by cases h⟩
    refine codeAny_mono ((G _ hKb (nsK hns) ⟨mm, nsK hmm⟩).run callerA [] s₁ H ⟨[.ref a], []⟩ [.ref a] [.ref a] (fun v _ => v = .bl true) (fun _ _ _ => False) hr rfl e0 (hbind s₁ (.ref a)) (.cons rfl .nil) ⟨rfl, [.scr ns], μ0, H, fun d _ => d = .bl true, fun _ _ => False, ok0, ⟨.ref a, [], rfl, ⟨a, rfl, hS⟩, rfl⟩, rfl, hsp, fun v d μ' S' H' _ _ r e => by subst e; exact r, fun _ _ _ _ _ _ _ _ h => h⟩) fun r s' h => ?_
    cases r with
    | error e =>
      obtain ⟨_, _, _, _, _, _, _, _, _, _, _, _, z⟩ := h
      exact z.elim
    | ok fl =>
      cases fl with
      | next => exact False.elim h
      | brk => exact False.elim h
      | cont => exact False.elim h
      | ret u =>
        obtain ⟨v, H', os, bare, un, hok', r', q⟩ := h
        have q' : v = .bl true := q
        subst q'
        obtain rfl : u = Value.bool true := r'
        refine ⟨rfl, OldK.of_keep fun b o e => ?_, os, bare⟩
        cases q : H b with
        | none => exact un.keep b o e q (by intro z; exact absurd (show b ∈ ([] : List Addr) from z) (by simp)) (by simp)
        | some u =>
          rcases hO b with z | ⟨ob, xs, z⟩
          · rw [q] at z; cases z
          · have z2 := un.frzs b ob _ z
            obtain ⟨e1, _⟩ := hok b _ z
            obtain ⟨e2, _⟩ := hok' b _ z2
            rw [e] at e1; cases e1
            exact e2
  cases hk : K.lookup a with
  | some o =>
    have e := KX a o hk
    rw [ha] at e
    cases e
    refine core (fun _ => none) (fun _ => .inl rfl) (.inr ⟨_, vs.toArray, _, hk, rfl, rfl, rfl, by rw [List.size_toArray, lenV]; exact hl, by simpa using rv⟩) (fun b u z => by have z' : (none : Option HO) = some u := z; cases z') (fun b z => absurd rfl z) fun z => absurd rfl z
  | none =>
    refine core (fun b => if b = a then some (.frz { cls := .type "list", data := .seq vs.toArray } (.lst (ns.map V.int))) else none) (fun b => ?_) (.inl (.inr ⟨{ cls := .type "list", data := .seq vs.toArray }, if_pos rfl⟩)) (fun b u z => ?_) (fun b z => ?_) fun _ => hk
    · by_cases hb : b = a
      · exact .inr ⟨_, _, if_pos hb⟩
      · exact .inl (if_neg hb)
    · by_cases hb : b = a
      · have z' := (if_pos hb).symm.trans z
        cases z'
        subst hb
        exact ⟨ha, by rw [List.length_map]; exact hl, vs, _, rv, ha⟩
      · have z' := (if_neg hb).symm.trans z
        cases z'
    · by_cases hb : b = a
      · exact hb
      · exact absurd (if_neg hb) z
theorem walk_D {Z : Wld} {μ0 : Z.M} (hreg : ∀ a, ¬ Z.reg μ0 a) (hJ : ∀ S H, Z.J μ0 S H) {l : PySem.W.OpenLaw} {n k : Nat} {q : Program} {loose : List Str} {XP : (Str → Option Value) → Heap → Prop} {YP : World → Heap → Prop} {d : DefRec} {x : Str}
    (hn : l.most = some n) (hn2 : n ≤ sizeLine) (hdf : d.params.defaults = []) (hr : Room k callerA) (hin : importsNone q = true)
    (F : ∀ (w : World) (mg : Str → Option Value) (fa : Addr) (h : Heap), YP w h → h.Ns mainGlobals mg → mg d.name = some (.ref fa) →
      ∃ (K : PySem.W.Frag) (fd : FuncData) (sp : SpD Z), K.In h ∧ (∀ (s : Shared) (u : Value), BindsTo s fd ⟨[u], []⟩ [(x, u)]) ∧
        (∀ ns : List Int, ns.length ≤ n → (∀ z ∈ ns, Builtin.Int.intBits z ≤ 1048576) → sp [.scr ns] μ0 (fun d _ => d = .bl true) fun _ _ => False) ∧
        ∀ base : Heap, K.In base → base.Ns mainGlobals mg → (∃ mm, base.Ns sysModules mm) → FnG l.prog w K mg base k fa fd [x] (spOf K Z 1 sp)) :
    PySem.W.WalkO q loose XP YP l.row.toRowW d [] (fun f vs => PySem.call f vs) := by
  refine Att.attach_callB hn hdf fun w s₀ s₁ mg mb fa o pm cd doc a vs ns G Y ho hd hcd hmg hobj hints hlen hbits hg => ?_
  obtain ⟨K, fd, sp, KX, hb, hsp, hF⟩ := F w mg fa _ Y G.T.g hmg
  obtain ⟨mm, hmm, _⟩ := (G.T.seer hin).mods
  exact law_callD hreg hJ KX G.T.g G.T.b G.T.builtins G.T.nolimit hg ⟨mm, hmm⟩ hobj hints (Nat.le_trans hlen hn2) hr hF hb (hsp ns hlen hbits)
end DL
/-! text DLpot -/
/-! DL: the world of a pot: a dict of a list of great numbers, a list of all numbers, a count. -/
namespace DL
open PySem PySem.Spec PyProof.Rows L2
def PotAt (q : Addr × Addr × Addr) (H : Hp) : Prop := ∃ (deep all : List Int) (times : Int),
  H q.1 = some (.dK [(.inr "deep", .ref q.2.1), (.inr "all", .ref q.2.2), (.inr "times", .int times)]) ∧ H q.2.1 = some (.lst (deep.map V.int)) ∧ H q.2.2 = some (.lst (all.map V.int)) ∧
  deep.length ≤ 64 ∧ 0 < all.length ∧ all.length ≤ 64 ∧ q.2.1 ≠ q.2.2
def PotW : Wld where
  M := Option (Addr × Addr × Addr)
  reg := fun μ b => match μ with
    | none => False
    | some q => b = q.1 ∨ b = q.2.1 ∨ b = q.2.2
  J := fun μ _ H => match μ with
    | none => True
    | some q => PotAt q H
  held := fun {μ S H a} j r => by
    cases μ with
    | none => exact r.elim
    | some q =>
      obtain ⟨deep, all, times, h1, h2, h3, _⟩ := j
      rcases r with rfl | rfl | rfl
      · rw [h1]; simp
      · rw [h2]; simp
      · rw [h3]; simp
  loc := fun {μ S S' H H'} j _ e => by
    cases μ with
    | none => trivial
    | some q =>
      obtain ⟨deep, all, times, h1, h2, h3, h4⟩ := j
      exact ⟨deep, all, times, (e _ (.inl rfl)).trans h1, (e _ (.inr (.inl rfl))).trans h2, (e _ (.inr (.inr rfl))).trans h3, h4⟩
theorem pot_reg0 : ∀ a, ¬ PotW.reg none a := fun _ h => h
theorem pot_J0 : ∀ S H, PotW.J none S H := fun _ _ => trivial
/-- what a draw does to the heap -/
structure Dr (q : Addr × Addr × Addr) (H H' : Hp) : Prop where
  keep : ∀ a o, ¬ PotW.reg (some q) a → H a = some o → H' a = some o
  there : ∀ a, H a ≠ none → H' a ≠ none
theorem Dr.refl {q : Addr × Addr × Addr} {H : Hp} : Dr q H H := ⟨fun _ _ _ e => e, fun _ h => h⟩
theorem Dr.new {q : Addr × Addr × Addr} {H H' : Hp} {p : Addr} {o : HO} (d : Dr q H H') (n : H' p = none) : Dr q H (upd H' p o) :=
  ⟨fun a u nr e => by rw [upd_ne (ne_of_none (d.keep a u nr e) n)]; exact d.keep a u nr e, fun a h => by
    by_cases e : a = p
    · rw [e, upd_same]; simp
    · rw [upd_ne e]; exact d.there a h⟩
theorem Dr.upd {q : Addr × Addr × Addr} {H H' : Hp} {p : Addr} {o : HO} (d : Dr q H H') (r : PotW.reg (some q) p) : Dr q H (L2.upd H' p o) :=
  ⟨fun a u nr e => by rw [upd_ne (fun z => nr (by rw [z]; exact r))]; exact d.keep a u nr e, fun a h => by
    by_cases e : a = p
    · rw [e, upd_same]; simp
    · rw [upd_ne e]; exact d.there a h⟩
theorem Dr.ext {q : Addr × Addr × Addr} {S H H' : Hp} (d : Dr q H H') (ok : Ok PotW (some q) S H) (j : PotAt q H') : Ext PotW (some q) S H (some q) S H' where
  ok := ⟨fun a u e => d.keep a u (fun r => by rw [ok.off a r] at e; cases e) (ok.sub a u e), j, ok.off, ok.nt⟩
  keep := fun a o n _ e => d.keep a o n e
  same := Same.refl S
  new := fun a h => .inl h
  reg := fun a h => .inl h
  there := fun a f => Fr.of fun o e nt => by
    by_cases r : PotW.reg (some q) a
    · obtain ⟨deep, all, times, h1, h2, h3, _⟩ := j
      have key : ∀ {u : HO}, H' a = some u → NT u → False := fun e nt => f.nt e nt
      rcases r with r | r | r
      · rw [r] at key; exact key h1 (fun _ h => by cases h)
      · rw [r] at key; exact key h2 (fun _ h => by cases h)
      · rw [r] at key; exact key h3 (fun _ h => by cases h)
    · exact f.nt (d.keep a o r e) nt
theorem canLay_ints : ∀ ns : List Int, PyData.canLayAll0 (ns.map PyData.int) = true
  | [] => rfl
  | n :: ns => by simp only [List.map_cons, PyData.canLayAll0, PyData.canLay0, canLay_ints ns, Bool.and_self]
theorem depth_ints : ∀ ns : List Int, PyData.depthAll (ns.map PyData.int) = 0
  | [] => rfl
  | n :: ns => by simp only [List.map_cons, PyData.depthAll, PyData.depth, depth_ints ns, Nat.max_self]
theorem shaped_ints (ns : List Int) : SeqAt.shaped (.list (ns.map PyData.int)) = true := by
  unfold SeqAt.shaped
  simp only [PyData.canLay0, canLay_ints, PyData.depth, depth_ints]
  decide
/-- the pot is drawn from -/
def sp_draw : SpD PotW := fun ds μ R _ => ∃ q many, ds = [.op (.ref q.1), .int many] ∧ μ = some q ∧ 0 < many ∧ many < 2 ^ 64 ∧ ∀ m : Int, 0 ≤ m → m < many → R (.int m) (some q)
/-- the pot is made -/
def sp_opened : SpD PotW := fun ds μ R _ => ∃ ns, ds = [.scr ns] ∧ ns.length ≤ 63 ∧ μ = none ∧ ∀ q : Addr × Addr × Addr, R (.op (.ref q.1)) (some q)
theorem ints_inv {K : PySem.W.Frag} {rg : Addr → Prop} {S H : Hp} : ∀ {ns : List Int} {vs : List V}, RdL K rg S H (ns.map .int) vs → vs = ns.map V.int
  | [], vs, h => h
  | n :: ns, vs, h => by
    obtain ⟨v, r, rfl, h1, h2⟩ := h
    cases h1
    rw [ints_inv h2]
    rfl
def dsRetPot (t1 t2 : DTA PotW) : DTS PotW := fun B ρ μ => t1 ρ μ (fun ds1 μ1 => t2 ρ μ1 (fun ds2 μ2 => μ2 = none ∧ ∃ deep all : List Int, ds1 = deep.map D.int ∧ ds2 = all.map D.int ∧ deep.length ≤ 64 ∧ 0 < all.length ∧ all.length ≤ 64 ∧ ∀ q : Addr × Addr × Addr, B.rt (.op (.ref q.1)) (some q)) fun x μ' => B.ex x ρ μ') fun x μ' => B.ex x ρ μ'
/-- return {'deep': .., 'all': .., 'times': 0} -/
theorem ds_retPot {F : Fm} {W : WX} {e1 e2 : Expr} {t1 t2 : DTA PotW} {j1 j2 j3 j4 : Nat} {p1 p2 p3 p4 pos pos' : Pos} (h1 : DF PotW F W e1 t1) (h2 : DF PotW F W e2 t2) :
    DS PotW F W (.Return (some (.Dict [some (.Constant (.str "deep") j1 p1), some (.Constant (.str "all") j2 p2), some (.Constant (.str "times") j3 p3)] [e1, e2, .Constant (.int 0) j4 p4] pos)) pos') (dsRetPot t1 t2) := by
  obtain ⟨te1, pp1, h1⟩ := h1
  obtain ⟨te2, pp2, h2⟩ := h2
  refine ⟨_, fun i => ps_ret (pe_disp (pps_cons pe_str (pp1 i) (pps_cons pe_str (pp2 i) (pps_cons pe_str pe_int pps_nil))) rfl rfl (by simp) (by show 3 ≤ 15; decide)), fun μ0 S0 H0 ρ σ μ S H B L r ht k => fun p hp => ?_⟩
  have x0 := r.ok.putOwn (o := .dK []) hp
  have nr : ¬ PotW.reg μ p := fun z => PotW.held r.ok.j z hp
  have ek := k.wish r
  refine h1 H0 ρ σ μ S (upd H p (.dK [])) _ _ _ (r.env.ext x0) x0.ok ht (ek.ext x0) fun l vs1 ds1 μ1 S1 H1 x1 n1 l1 s1 f1 r1 ht2 => ?_
  have x01 := x0.trans x1
  refine h2 H0 ρ σ μ1 S1 H1 _ _ _ (r.env.ext x01) x1.ok ht2 (ek.ext x01) fun a vs2 ds2 μ2 S2 H2 x2 n2 l2 s2 f2 r2 ht3 => ?_
  obtain ⟨rfl, deep, all, rfl, rfl, hd, ha0, ha, hR⟩ := ht3
  have x02 := x01.trans x2
  have xx := r.ext.trans x02
  have e1p : (upd H p (.dK [])) p = some (.dK []) := upd_same
  have e2p : H2 p = some (.dK []) := (x1.trans x2).keep p _ nr (fun _ h => by cases h) e1p
  have lk2 := x2.lst l vs1 f1 l1
  have sp : S2 p = none := by
    cases z : S2 p with
    | none => rfl
    | some o =>
      rcases (x1.trans x2).new p (by rw [z]; simp) with y | y
      · cases e : S p with
        | none => exact absurd e y
        | some o' => have z2 := r.ok.sub p _ e; rw [hp] at z2; cases z2
      · exact y.nt e1p
  have sl : S2 l = none := by
    cases z : S2 l with
    | none => rfl
    | some o =>
      rcases x2.new l (by rw [z]; simp) with y | y
      · exact absurd s1 y
      · exact y.nt l1
  have q1 := ints_inv r1
  have q2 := ints_inv r2
  subst q1 q2
  have nl : l ≠ p := fun z => by rw [z, e2p] at lk2; cases lk2.2
  have na : a ≠ p := fun z => by rw [z, e2p] at l2; cases l2
  have nla : l ≠ a := fun z => by rw [z] at l1; exact n2.nt l1
  have b0 : Fr H0 p := r.ext.there p (.inl hp)
  have b1 : Fr H0 l := Classical.byContradiction fun w => f1 (.inr w)
  have b2 : Fr H0 a := Classical.byContradiction fun w => f2 (.inr w)
  refine ⟨e2p, [(.inr "deep", .ref l), (.inr "all", .ref a), (.inr "times", .int 0)], rfl, by show 3 ≤ 15; decide, ?_⟩
  show L.rt (.ref p) (upd H2 p (.dK [(.inr "deep", .ref l), (.inr "all", .ref a), (.inr "times", .int 0)]))
  have J : PotAt (p, l, a) (upd H2 p (.dK [(.inr "deep", .ref l), (.inr "all", .ref a), (.inr "times", .int 0)])) :=
    ⟨deep, all, 0, upd_same, (upd_ne nl).trans lk2.2, (upd_ne na).trans l2, hd, ha0, ha, nla⟩
  have ntS := x2.ok.nt
  have fin : Ext PotW μ0 S0 H0 (some (p, l, a)) S2 (upd H2 p (.dK [(.inr "deep", .ref l), (.inr "all", .ref a), (.inr "times", .int 0)])) := by
    refine ⟨⟨fun b o e => ?_, J, fun b hb => ?_, ntS⟩, fun b o nb nt e => ?_, xx.same, xx.new, fun b hb => ?_, fun b hb => ?_⟩
    · rw [upd_ne (fun z => by rw [z, sp] at e; cases e)]
      exact x2.ok.sub b o e
    · rcases hb with rfl | rfl | rfl
      · exact sp
      · exact sl
      · exact s2
    · rw [upd_ne (fun z => by rw [z] at e; exact b0.nt e nt)]
      exact xx.keep b o nb nt e
    · rcases hb with rfl | rfl | rfl
      · exact .inr b0
      · exact .inr b1
      · exact .inr b2
    · by_cases z : b = p
      · rw [z]; exact b0
      · rw [Fr, upd_ne z] at hb; exact xx.there b hb
  exact k.rt (.ref p) (.op (.ref p)) _ _ _ fin rfl rfl (hR (p, l, a))
end DL
/-! text DLn -/
/-! DL: laws of readings: loops, comprehensions; tame data. -/
namespace DL
open PySem PySem.Spec PyProof.Rows L2
section
variable {Z : Wld} {g : DG} {tb : DTS Z} {B : EndsD Z}
theorem loop_inv (I : List D → Rho → Z.M → Prop) (hs : ∀ d ds ρ μ N, I (d :: ds) ρ μ → (∀ ρ' μ', I ds ρ' μ' → N ρ' μ') → g d ρ fun ρ' => tb { B with nx := N, ct := N, bk := B.nx } ρ' μ) (he : ∀ ρ μ, I [] ρ μ → B.nx ρ μ) :
    ∀ {ds ρ μ}, I ds ρ μ → loopD g tb B ds ρ μ
  | [], ρ, μ, h => he ρ μ h
  | d :: ds, ρ, μ, h => hs d ds ρ μ _ h fun ρ' μ' h' => loop_inv I hs he h'
theorem while_inv {c : DTT Z} (I : Rho → Z.M → Prop) (m : Rho → Z.M → Nat) (hs : ∀ ρ μ N, I ρ μ → (∀ ρ' μ', I ρ' μ' → m ρ' μ' < m ρ μ → N ρ' μ') → c ρ μ (fun b μ' => if b = true then tb { B with nx := N, ct := N, bk := B.nx } ρ μ' else B.nx ρ μ') fun x μ' => B.ex x ρ μ') :
    ∀ {ρ μ}, I ρ μ → dsWhile c tb B ρ μ := by
  have go : ∀ n ρ μ, I ρ μ → m ρ μ < n → whileD c tb B n ρ μ := by
    intro n
    induction n with
    | zero => intro ρ μ _ h; omega
    | succ n ih =>
      intro ρ μ h lt
      exact hs ρ μ _ h fun ρ' μ' h' l' => ih ρ' μ' h' (by omega)
  intro ρ μ h
  exact ⟨m ρ μ + 1, go _ ρ μ h (by omega)⟩
theorem comp_map {tt : DTT Z} {te : DT Z} {R : List D → Z.M → Prop} {E : Xc → Z.M → Prop} {ρ : Rho} {μ : Z.M} (f : D → Option D) : ∀ {ds acc : List D},
    (∀ d ∈ ds, ∀ (k : D → Z.M → Prop) (k' : Z.M → Prop), (match f d with | some y => k y μ | none => k' μ) → g d ρ fun ρ' => tt ρ' μ (fun b μ' => if b = true then te ρ' μ' k (fun _ _ => False) else k' μ') fun _ _ => False) →
    (∀ d ∈ ds, ∀ y, f d = some y → sta y = true) → acc.length + ds.length ≤ sizeLine → R (acc ++ ds.filterMap f) μ → compD g tt te R E ρ ds acc μ
  | [], acc, _, _, _, h => by simpa [compD] using h
  | d :: ds, acc, hs, ht, hl, h => by
    refine hs d (List.mem_cons_self ..) _ _ ?_
    rw [List.length_cons] at hl
    rw [List.filterMap_cons] at h
    have hs' := fun x hx => hs x (List.mem_cons_of_mem _ hx)
    have ht' := fun x hx => ht x (List.mem_cons_of_mem _ hx)
    split
    · rename_i y e
      rw [e] at h
      refine ⟨ht d (List.mem_cons_self ..) y e, by omega, comp_map f hs' ht' (by rw [List.length_append, List.length_singleton]; omega) (by simpa using h)⟩
    · rename_i e
      rw [e] at h
      exact comp_map f hs' ht' (by omega) h
theorem comp_good {tt : DTT Z} {te : DT Z} {R : List D → Z.M → Prop} {E : Xc → Z.M → Prop} {ρ : Rho} {μ : Z.M} (G : D → Prop) (hG : ∀ y, G y → sta y = true) : ∀ {ds acc : List D},
    (∀ d ∈ ds, ∀ (k : D → Z.M → Prop) (k' : Z.M → Prop), (∀ y, G y → k y μ) → k' μ → g d ρ fun ρ' => tt ρ' μ (fun b μ' => if b = true then te ρ' μ' k (fun _ _ => False) else k' μ') fun _ _ => False) →
    acc.length + ds.length ≤ sizeLine → (∀ ys, (∀ y ∈ ys, G y) → ys.length ≤ ds.length → R (acc ++ ys) μ) → compD g tt te R E ρ ds acc μ
  | [], acc, _, _, h => by simpa [compD] using h [] (by simp) (by simp)
  | d :: ds, acc, hs, hl, h => by
    rw [List.length_cons] at hl
    have hs' := fun x hx => hs x (List.mem_cons_of_mem _ hx)
    refine hs d (List.mem_cons_self ..) _ _ (fun y hy => ⟨hG y hy, by omega, comp_good G hG hs' (by rw [List.length_append, List.length_singleton]; omega) fun ys hys hly => ?_⟩) (comp_good G hG hs' (by omega) fun ys hys hly => h ys hys (by simp; omega))
    rw [List.append_assoc]
    exact h ([y] ++ ys) (by simpa using ⟨hy, hys⟩) (by simp; omega)
end
/-! ### tame data: no opaque values, numbers and texts of a bounded length -/
mutual
def tame : D → Bool
  | .non => true | .bl _ => true
  | .int i => decide (i.natAbs < 2 ^ 200)
  | .str s => decide (s.length ≤ 64) && s.cps.toList.all fun c => decide (c < 16 ^ 8)
  | .tup xs => tameL xs
  | .lst xs => tameL xs
  | .dct kvs => tameK kvs
  | .vw _ => false | .op _ => false | .fn _ => false | .scr _ => false
def tameL : List D → Bool
  | [] => true
  | d :: ds => tame d && tameL ds
def tameK : List (Key × D) → Bool
  | [] => true
  | (.inl i, d) :: ds => decide (i.natAbs < 2 ^ 200) && (tame d && tameK ds)
  | (.inr s, d) :: ds => (decide (s.length ≤ 64) && s.cps.toList.all fun c => decide (c < 16 ^ 8)) && (tame d && tameK ds)
end
mutual
def nodes : D → Nat
  | .tup xs => 1 + nodesL xs
  | .lst xs => 1 + nodesL xs
  | .dct kvs => 1 + nodesK kvs
  | .non => 1 | .bl _ => 1 | .int _ => 1 | .str _ => 1 | .vw _ => 1 | .op _ => 1 | .fn _ => 1 | .scr _ => 1
def nodesL : List D → Nat
  | [] => 0
  | d :: ds => nodes d + nodesL ds
def nodesK : List (Key × D) → Nat
  | [] => 0
  | (_, d) :: ds => 1 + nodes d + nodesK ds
end
mutual
def dep : D → Nat
  | .tup xs => depL xs + 1
  | .lst xs => depL xs + 1
  | .dct kvs => depK kvs + 1
  | .non => 0 | .bl _ => 0 | .int _ => 0 | .str _ => 0 | .vw _ => 0 | .op _ => 0 | .fn _ => 0 | .scr _ => 0
def depL : List D → Nat
  | [] => 0
  | d :: ds => max (dep d) (depL ds)
def depK : List (Key × D) → Nat
  | [] => 0
  | (_, d) :: ds => max (dep d) (depK ds)
end
mutual
theorem tame_sta : ∀ d : D, tame d = true → sta d = true
  | .tup xs, h => by simp only [tame] at h; simp only [sta]; exact tameL_sta xs h
  | .lst xs, h => by simp only [tame] at h; simp only [sta]; exact tameL_sta xs h
  | .dct kvs, h => by simp only [tame] at h; simp only [sta]; exact tameK_sta kvs h
  | .non, _ => rfl | .bl _, _ => rfl | .int _, _ => rfl | .str _, _ => rfl
  | .vw _, h => by simp [tame] at h
  | .op _, h => by simp [tame] at h
  | .fn _, h => by simp [tame] at h
  | .scr _, h => by simp [tame] at h
theorem tameL_sta : ∀ ds : List D, tameL ds = true → staL ds = true
  | [], _ => rfl
  | d :: ds, h => by
    simp only [tameL, Bool.and_eq_true] at h
    simp only [staL, tame_sta d h.1, tameL_sta ds h.2, Bool.and_self]
theorem tameK_sta : ∀ ds : List (Key × D), tameK ds = true → staK ds = true
  | [], _ => rfl
  | (.inl i, d) :: ds, h => by
    simp only [tameK, Bool.and_eq_true] at h
    simp only [staK, tame_sta d h.2.1, tameK_sta ds h.2.2, Bool.and_self]
  | (.inr s, d) :: ds, h => by
    simp only [tameK, Bool.and_eq_true] at h
    simp only [staK, tame_sta d h.2.1, tameK_sta ds h.2.2, Bool.and_self]
end
mutual
theorem tame_sh : ∀ d : D, tame d = true → shD d = true
  | .tup xs, h => by simp only [tame] at h; simp only [shD]; exact tameL_sh xs h
  | .lst xs, h => by simp only [tame] at h; simp only [shD]; exact tameL_sh xs h
  | .dct kvs, h => by simp only [tame] at h; simp only [shD]; exact tameK_sh kvs h
  | .non, _ => rfl | .bl _, _ => rfl | .int _, _ => rfl | .str _, _ => rfl
  | .vw _, h => by simp [tame] at h
  | .op _, h => by simp [tame] at h
  | .fn _, h => by simp [tame] at h
  | .scr _, h => by simp [tame] at h
theorem tameL_sh : ∀ ds : List D, tameL ds = true → shL ds = true
  | [], _ => rfl
  | d :: ds, h => by
    simp only [tameL, Bool.and_eq_true] at h
    simp only [shL, tame_sh d h.1, tameL_sh ds h.2, Bool.and_self]
theorem tameK_sh : ∀ ds : List (Key × D), tameK ds = true → shK ds = true
  | [], _ => rfl
  | (.inl i, d) :: ds, h => by
    simp only [tameK, Bool.and_eq_true] at h
    simp only [shK, tame_sh d h.2.1, tameK_sh ds h.2.2, Bool.and_self]
  | (.inr s, d) :: ds, h => by
    simp only [tameK, Bool.and_eq_true] at h
    simp only [shK, tame_sh d h.2.1, tameK_sh ds h.2.2, Bool.and_self]
end
theorem log_lt {i : Int} (h : i.natAbs < 2 ^ 200) : i.natAbs.log2 < 1920 := by
  by_cases h0 : i.natAbs = 0
  · rw [h0]; decide
  · have := (Nat.log2_lt h0).mpr h
    omega
mutual
theorem tame_show : ∀ d : D, tame d = true → (pyD d).showable = true
  | .tup xs, h => by simp only [tame] at h; simp only [pyD, PyData.showable]; exact tameL_show xs h
  | .lst xs, h => by simp only [tame] at h; simp only [pyD, PyData.showable]; exact tameL_show xs h
  | .dct kvs, h => by simp only [tame] at h; simp only [pyD, PyData.showable]; exact tameK_show kvs h
  | .non, _ => rfl | .bl _, _ => rfl | .str _, _ => rfl
  | .int i, h => by
    simp only [tame, decide_eq_true_eq] at h
    simp only [pyD, PyData.showable, decide_eq_true_eq]
    exact log_lt h
  | .vw _, h => by simp [tame] at h
  | .op _, h => by simp [tame] at h
  | .fn _, h => by simp [tame] at h
  | .scr _, h => by simp [tame] at h
theorem tameL_show : ∀ ds : List D, tameL ds = true → PyData.showableAll (pyL ds) = true
  | [], _ => rfl
  | d :: ds, h => by
    simp only [tameL, Bool.and_eq_true] at h
    simp only [pyL, PyData.showableAll, tame_show d h.1, tameL_show ds h.2, Bool.and_self]
theorem tameK_show : ∀ ds : List (Key × D), tameK ds = true → PyData.showableKv (pyK ds) = true
  | [], _ => rfl
  | (.inl i, d) :: ds, h => by
    simp only [tameK, Bool.and_eq_true, decide_eq_true_eq] at h
    simp only [pyK, PyData.showableKv, PyData.showable, tame_show d h.2.1, tameK_show ds h.2.2, Bool.and_true, Bool.true_and, decide_eq_true_eq]
    exact log_lt h.1
  | (.inr s, d) :: ds, h => by
    simp only [tameK, Bool.and_eq_true] at h
    simp only [pyK, PyData.showableKv, PyData.showable, tame_show d h.2.1, tameK_show ds h.2.2, Bool.and_self]
end
mutual
theorem dep_py : ∀ d : D, tame d = true → (pyD d).depth = dep d
  | .tup xs, h => by simp only [tame] at h; simp only [pyD, PyData.depth, dep, depL_py xs h]
  | .lst xs, h => by simp only [tame] at h; simp only [pyD, PyData.depth, dep, depL_py xs h]
  | .dct kvs, h => by simp only [tame] at h; simp only [pyD, PyData.depth, dep, depK_py kvs h]
  | .non, _ => rfl | .bl _, _ => rfl | .int _, _ => rfl | .str _, _ => rfl
  | .vw _, h => by simp [tame] at h
  | .op _, h => by simp [tame] at h
  | .fn _, h => by simp [tame] at h
  | .scr _, h => by simp [tame] at h
theorem depL_py : ∀ ds : List D, tameL ds = true → PyData.depthAll (pyL ds) = depL ds
  | [], _ => rfl
  | d :: ds, h => by
    simp only [tameL, Bool.and_eq_true] at h
    simp only [pyL, PyData.depthAll, depL, dep_py d h.1, depL_py ds h.2]
theorem depK_py : ∀ ds : List (Key × D), tameK ds = true → PyData.depthKv (pyK ds) = depK ds
  | [], _ => rfl
  | (.inl i, d) :: ds, h => by
    simp only [tameK, Bool.and_eq_true] at h
    simp only [pyK, PyData.depthKv, PyData.depth, depK, dep_py d h.2.1, depK_py ds h.2.2, Nat.zero_max]
  | (.inr s, d) :: ds, h => by
    simp only [tameK, Bool.and_eq_true] at h
    simp only [pyK, PyData.depthKv, PyData.depth, depK, dep_py d h.2.1, depK_py ds h.2.2, Nat.zero_max]
end
/-! lengths of what is shown -/
theorem listText_le (ts : List Str) : (listText ts).length ≤ 2 + piled ts := by
  cases ts with
  | nil => rw [listText_nil]; decide
  | cons t r =>
    have h := textFrom_length_pos r 1 (("[" : Str) ++ (if (0 : Nat) > 0 then ", " else "" : String) ++ t) (Nat.succ_pos 0)
    have e : ((("[" : Str) ++ (if (0 : Nat) > 0 then ", " else "" : String) ++ t)).length = 1 + t.length := by
      rw [strLen_append, strLen_append]; rfl
    have hX : (listText (t :: r)).length = (textFrom 0 "[" (t :: r)).length + 1 := by
      show (textFrom 0 "[" (t :: r) ++ "]").length = _
      rw [strLen_append]; rfl
    have hY : (textFrom 0 "[" (t :: r)).length = (textFrom 1 (("[" : Str) ++ (if (0 : Nat) > 0 then ", " else "" : String) ++ t) r).length := rfl
    rw [hX, hY, h, e, piled_cons]; omega
theorem join_le (ts : List Str) : (Str.join ", " ts).length ≤ piled ts := by
  by_cases h : ts = []
  · subst h; exact Nat.le_refl _
  · have := join_length_add ts h; omega
theorem tupleText_le (ts : List Str) : (tupleText ts).length ≤ 3 + piled ts := by
  unfold tupleText
  rw [strLen_append, strLen_append]
  have e1 : ((("(" : String) : Str)).length = 1 := rfl
  have e3 : (((if ts.length == 1 then ",)" else ")" : String) : Str)).length ≤ 2 := by split <;> decide
  have := join_le ts
  omega
theorem dictText_le (ps : List Str) : (dictText ps).length ≤ 2 + piled ps := by
  have e : (dictText ps).length = 1 + (Str.join ", " ps).length + 1 := by
    unfold dictText
    rw [strLen_append, strLen_append]; rfl
  have := join_le ps
  omega
theorem int_shown {i : Int} (h : i.natAbs < 2 ^ 200) : (PyData.int i).shown.length ≤ 201 := by
  have e : (PyData.int i).shown = Str.ofString (toString i) := rfl
  rw [e, PySem.ofString_length]
  refine int_text_length_le (by decide) ?_
  by_cases h0 : i.natAbs = 0
  · rw [h0]; decide
  · exact (Nat.log2_lt h0).mpr h
theorem str_shown {s : Str} (h : (decide (s.length ≤ 64) && s.cps.toList.all fun c => decide (c < 16 ^ 8)) = true) : (PyData.str s).shown.length ≤ 642 := by
  simp only [Bool.and_eq_true, decide_eq_true_eq, List.all_eq_true] at h
  have := StrLaws.reprText_len s h.2
  have e : (PyData.str s).shown = reprText s := rfl
  rw [e]
  omega
mutual
theorem shown_le : ∀ d : D, tame d = true → (pyD d).shown.length + 4 ≤ 2000 * nodes d
  | .tup xs, h => by
    simp only [tame] at h
    have := shownL_le xs h
    have := tupleText_le (PyData.shownAll (pyL xs))
    simp only [pyD, PyData.shown, nodes]
    omega
  | .lst xs, h => by
    simp only [tame] at h
    have := shownL_le xs h
    have := listText_le (PyData.shownAll (pyL xs))
    simp only [pyD, PyData.shown, nodes]
    omega
  | .dct kvs, h => by
    simp only [tame] at h
    have := shownK_le kvs h
    have := dictText_le (PyData.shownKv (pyK kvs))
    simp only [pyD, PyData.shown, nodes]
    omega
  | .non, _ => by decide
  | .bl b, _ => by cases b <;> decide
  | .int i, h => by
    simp only [tame, decide_eq_true_eq] at h
    have := int_shown h
    simp only [pyD, nodes]
    omega
  | .str s, h => by
    simp only [tame] at h
    have := str_shown h
    simp only [pyD, nodes]
    omega
  | .vw _, h => by simp [tame] at h
  | .op _, h => by simp [tame] at h
  | .fn _, h => by simp [tame] at h
  | .scr _, h => by simp [tame] at h
theorem shownL_le : ∀ ds : List D, tameL ds = true → piled (PyData.shownAll (pyL ds)) ≤ 2000 * nodesL ds
  | [], _ => Nat.le_refl _
  | d :: ds, h => by
    simp only [tameL, Bool.and_eq_true] at h
    have := shown_le d h.1
    have := shownL_le ds h.2
    simp only [pyL, PyData.shownAll, piled_cons, nodesL]
    omega
theorem shownK_le : ∀ ds : List (Key × D), tameK ds = true → piled (PyData.shownKv (pyK ds)) ≤ 2000 * nodesK ds
  | [], _ => Nat.le_refl _
  | (.inl i, d) :: ds, h => by
    simp only [tameK, Bool.and_eq_true, decide_eq_true_eq] at h
    have := shown_le d h.2.1
    have := shownK_le ds h.2.2
    have := int_shown h.1
    have e2 : ((": " : String) : Str).length = 2 := rfl
    simp only [pyK, PyData.shownKv, piled_cons, nodesK, strLen_append, e2]
    omega
  | (.inr s, d) :: ds, h => by
    simp only [tameK] at h
    obtain ⟨h1, h2⟩ := Bool.and_eq_true_iff.mp h
    obtain ⟨h3, h4⟩ := Bool.and_eq_true_iff.mp h2
    have := shown_le d h3
    have := shownK_le ds h4
    have := str_shown h1
    have e2 : ((": " : String) : Str).length = 2 := rfl
    simp only [pyK, PyData.shownKv, piled_cons, nodesK, strLen_append, e2]
    omega
end
/-! lists of tame data -/
theorem tameL_append : ∀ {as bs : List D}, tameL (as ++ bs) = (tameL as && tameL bs)
  | [], _ => rfl
  | a :: as, bs => by simp only [List.cons_append, tameL, tameL_append, Bool.and_assoc]
theorem tameL_all : ∀ {as : List D}, tameL as = true ↔ ∀ a ∈ as, tame a = true
  | [] => by simp [tameL]
  | a :: as => by simp [tameL, tameL_all]
theorem tameL_sub {as bs : List D} (h : tameL as = true) (s : ∀ b ∈ bs, b ∈ as) : tameL bs = true := tameL_all.mpr fun b hb => tameL_all.mp h b (s b hb)
theorem nodesL_append : ∀ {as bs : List D}, nodesL (as ++ bs) = nodesL as + nodesL bs
  | [], _ => by simp [nodesL]
  | a :: as, bs => by simp only [List.cons_append, nodesL, nodesL_append, Nat.add_assoc]
theorem nodesL_take : ∀ (n : Nat) (as : List D), nodesL (as.take n) ≤ nodesL as
  | 0, as => by simp [nodesL]
  | n + 1, [] => by simp
  | n + 1, a :: as => by simp only [List.take_succ_cons, nodesL]; have := nodesL_take n as; omega
theorem nodesL_drop : ∀ (n : Nat) (as : List D), nodesL (as.drop n) ≤ nodesL as
  | 0, as => by simp
  | n + 1, [] => by simp
  | n + 1, a :: as => by simp only [List.drop_succ_cons, nodesL]; have := nodesL_drop n as; omega
theorem nodesL_reverse : ∀ (as : List D), nodesL as.reverse = nodesL as
  | [] => rfl
  | a :: as => by rw [List.reverse_cons, nodesL_append, nodesL_reverse as]; simp only [nodesL]; omega
theorem nodesL_mem : ∀ {as : List D} {a : D}, a ∈ as → nodes a ≤ nodesL as
  | b :: as, a, h => by
    simp only [nodesL]
    rcases List.mem_cons.mp h with e | e
    · subst e; omega
    · have := nodesL_mem e; omega
theorem depL_le {n : Nat} : ∀ {as : List D}, depL as ≤ n ↔ ∀ a ∈ as, dep a ≤ n
  | [] => by simp [depL]
  | a :: as => by simp [depL, depL_le, Nat.max_le]
theorem nodesL_le {n : Nat} : ∀ {as : List D}, (∀ a ∈ as, nodes a ≤ n) → nodesL as ≤ as.length * n
  | [], _ => by simp [nodesL]
  | a :: as, h => by
    have h1 := h a (List.mem_cons_self ..)
    have h2 := nodesL_le (as := as) fun b hb => h b (List.mem_cons_of_mem _ hb)
    simp only [nodesL, List.length_cons, Nat.add_mul, Nat.one_mul]
    omega
theorem len_nodes : ∀ (as : List D), as.length ≤ nodesL as
  | [] => Nat.le_refl _
  | a :: as => by
    have := len_nodes as
    have : 1 ≤ nodes a := by cases a <;> simp only [nodes] <;> omega
    simp only [nodesL, List.length_cons]
    omega
/-- tame, of at most n nodes, at most k deep -/
structure Tm (n k : Nat) (d : D) : Prop where
  t : tame d = true
  n : nodes d ≤ n
  k : dep d ≤ k
structure TmL (n k : Nat) (ds : List D) : Prop where
  t : tameL ds = true
  n : nodesL ds ≤ n
  k : depL ds ≤ k
/-- what repr asks -/
theorem show_of {n k : Nat} {d : D} {R : D → Prop} (h : Tm n k d) (hn : n ≤ 8000) (hk : k ≤ 60) (q : R (.str (pyD d).shown)) : smShow [d] R :=
  ⟨d, rfl, tame_sh d h.t, tame_show d h.t, by rw [dep_py d h.t]; have := h.k; omega, by have := shown_le d h.t; have := h.n; have e : sizeLine = 16777216 := rfl; omega, q⟩
theorem TmL.cons {n m k : Nat} {d : D} {ds : List D} (h : Tm n k d) (g : TmL m k ds) : TmL (n + m) k (d :: ds) :=
  ⟨by simp only [tameL, h.t, g.t, Bool.and_self], by simp only [nodesL]; have := h.n; have := g.n; omega, by simp only [depL]; exact Nat.max_le.mpr ⟨h.k, g.k⟩⟩
theorem TmL.nil {n k : Nat} : TmL n k [] := ⟨rfl, by simp [nodesL], by simp [depL]⟩
theorem TmL.append {n m k : Nat} {as bs : List D} (h : TmL n k as) (g : TmL m k bs) : TmL (n + m) k (as ++ bs) :=
  ⟨by rw [tameL_append, h.t, g.t]; rfl, by rw [nodesL_append]; have := h.n; have := g.n; omega, depL_le.mpr fun a ha => (List.mem_append.mp ha).elim (depL_le.mp h.k a) (depL_le.mp g.k a)⟩
theorem TmL.take {n k : Nat} {as : List D} (h : TmL n k as) (i : Nat) : TmL n k (as.take i) :=
  ⟨tameL_sub h.t fun b hb => List.mem_of_mem_take hb, Nat.le_trans (nodesL_take i as) h.n, depL_le.mpr fun a ha => depL_le.mp h.k a (List.mem_of_mem_take ha)⟩
theorem TmL.drop {n k : Nat} {as : List D} (h : TmL n k as) (i : Nat) : TmL n k (as.drop i) :=
  ⟨tameL_sub h.t fun b hb => List.mem_of_mem_drop hb, Nat.le_trans (nodesL_drop i as) h.n, depL_le.mpr fun a ha => depL_le.mp h.k a (List.mem_of_mem_drop ha)⟩
theorem TmL.reverse {n k : Nat} {as : List D} (h : TmL n k as) : TmL n k as.reverse :=
  ⟨tameL_sub h.t fun b hb => List.mem_reverse.mp hb, by rw [nodesL_reverse]; exact h.n, depL_le.mpr fun a ha => depL_le.mp h.k a (List.mem_reverse.mp ha)⟩
theorem TmL.mem {n k : Nat} {as : List D} {a : D} (h : TmL n k as) (m : a ∈ as) : Tm n k a := ⟨tameL_all.mp h.t a m, Nat.le_trans (nodesL_mem m) h.n, depL_le.mp h.k a m⟩
theorem TmL.mono {n k n' k' : Nat} {as : List D} (h : TmL n k as) (hn : n ≤ n') (hk : k ≤ k') : TmL n' k' as := ⟨h.t, Nat.le_trans h.n hn, Nat.le_trans h.k hk⟩
theorem Tm.mono {n k n' k' : Nat} {a : D} (h : Tm n k a) (hn : n ≤ n') (hk : k ≤ k') : Tm n' k' a := ⟨h.t, Nat.le_trans h.n hn, Nat.le_trans h.k hk⟩
theorem TmL.tup {n k : Nat} {as : List D} (h : TmL n k as) : Tm (n + 1) (k + 1) (.tup as) := ⟨h.t, by simp only [nodes]; have := h.n; omega, by simp only [dep]; have := h.k; omega⟩
theorem TmL.lst {n k : Nat} {as : List D} (h : TmL n k as) : Tm (n + 1) (k + 1) (.lst as) := ⟨h.t, by simp only [nodes]; have := h.n; omega, by simp only [dep]; have := h.k; omega⟩
theorem Tm.tupL {n k : Nat} {as : List D} (h : Tm n k (.tup as)) : TmL n k as := ⟨h.t, by have := h.n; simp only [nodes] at this; omega, by have := h.k; simp only [dep] at this; omega⟩
theorem Tm.lstL {n k : Nat} {as : List D} (h : Tm n k (.lst as)) : TmL n k as := ⟨h.t, by have := h.n; simp only [nodes] at this; omega, by have := h.k; simp only [dep] at this; omega⟩
theorem Tm.int {i : Int} (h : i.natAbs < 2 ^ 200) : Tm 1 0 (.int i) := ⟨by simp [tame, h], Nat.le_refl _, Nat.le_refl _⟩
theorem TmL.len {n k : Nat} {as : List D} (h : TmL n k as) : as.length ≤ n := Nat.le_trans (len_nodes as) h.n
end DL
/-! text DLo -/
/-! DL: readings opened. -/
namespace DL
open PySem PySem.Spec PyProof.Rows L2
def dIsI : D → Bool
  | .int _ => true | .bl _ => true | _ => false
def dIsB : D → Bool
  | .bl _ => true | _ => false
def dIsS : D → Bool
  | .str _ => true | _ => false
def dIsT : D → Bool
  | .tup _ => true | _ => false
def dIsL : D → Bool
  | .lst _ => true | .vw _ => true | .scr _ => true | _ => false
def dIsD : D → Bool
  | .dct _ => true | _ => false
def hasTy (d : D) : Bool := (tyD d).isSome
theorem tame_ty {d : D} (h : tame d = true) : hasTy d = true := by cases d <;> first | rfl | simp [tame] at h
section
variable {R : D → Prop}
theorem q_isi {d : D} {C : String} : smIsi [d, .op (.ty C)] R ↔ (C ∈ ["int", "bool", "str", "tuple", "list", "dict"] ∧ ∃ T, tyD d = some T ∧ R (.bl (isTy T C))) := by
  constructor
  · rintro ⟨d', C', T, e, h1, h2, h3⟩
    simp only [List.cons.injEq, D.op.injEq, V.ty.injEq, and_true] at e
    obtain ⟨rfl, rfl⟩ := e
    exact ⟨h1, T, h2, h3⟩
  · rintro ⟨h1, T, h2, h3⟩
    exact ⟨d, C, T, rfl, h1, h2, h3⟩
theorem q_isi_of {d : D} {C : String} {f : D → Bool} (hC : C ∈ ["int", "bool", "str", "tuple", "list", "dict"]) (hf : ∀ d T, tyD d = some T → isTy T C = f d) : smIsi [d, .op (.ty C)] R ↔ (hasTy d = true ∧ R (.bl (f d))) := by
  rw [q_isi]
  constructor
  · rintro ⟨_, T, h1, h2⟩
    rw [hf d T h1] at h2
    exact ⟨by unfold hasTy; rw [h1]; rfl, h2⟩
  · rintro ⟨h1, h2⟩
    unfold hasTy at h1
    cases e : tyD d with
    | none => rw [e] at h1; cases h1
    | some T => exact ⟨hC, T, rfl, by rw [hf d T e]; exact h2⟩
theorem q_isi_int {d : D} : smIsi [d, .op (.ty "int")] R ↔ (hasTy d = true ∧ R (.bl (dIsI d))) := q_isi_of (by simp) fun d T h => by cases d <;> simp [tyD] at h <;> subst h <;> simp [isTy, dIsI]
theorem q_isi_bool {d : D} : smIsi [d, .op (.ty "bool")] R ↔ (hasTy d = true ∧ R (.bl (dIsB d))) := q_isi_of (by simp) fun d T h => by cases d <;> simp [tyD] at h <;> subst h <;> simp [isTy, dIsB]
theorem q_isi_str {d : D} : smIsi [d, .op (.ty "str")] R ↔ (hasTy d = true ∧ R (.bl (dIsS d))) := q_isi_of (by simp) fun d T h => by cases d <;> simp [tyD] at h <;> subst h <;> simp [isTy, dIsS]
theorem q_isi_tuple {d : D} : smIsi [d, .op (.ty "tuple")] R ↔ (hasTy d = true ∧ R (.bl (dIsT d))) := q_isi_of (by simp) fun d T h => by cases d <;> simp [tyD] at h <;> subst h <;> simp [isTy, dIsT]
theorem q_isi_list {d : D} : smIsi [d, .op (.ty "list")] R ↔ (hasTy d = true ∧ R (.bl (dIsL d))) := q_isi_of (by simp) fun d T h => by cases d <;> simp [tyD] at h <;> subst h <;> simp [isTy, dIsL]
theorem q_isi_dict {d : D} : smIsi [d, .op (.ty "dict")] R ↔ (hasTy d = true ∧ R (.bl (dIsD d))) := q_isi_of (by simp) fun d T h => by cases d <;> simp [tyD] at h <;> subst h <;> simp [isTy, dIsD]
theorem q_add_i {i j : Int} : smAdd (.int i) (.int j) R = R (.int (i + j)) := rfl
theorem q_sub {i j : Int} : smSub (.int i) (.int j) R ↔ R (.int (i - j)) := ⟨by rintro ⟨a, b, e1, e2, h⟩; cases e1; cases e2; exact h, fun h => ⟨_, _, rfl, rfl, h⟩⟩
theorem q_mul {i j : Int} : smMul (.int i) (.int j) R = ((CMul i j ∨ CMulW i j) ∧ R (.int (i * j))) := rfl
theorem q_div {i j : Int} : smDiv (.int i) (.int j) R ↔ CDivW i j ∧ R (.int (i / j)) := ⟨by rintro ⟨a, b, e1, e2, h⟩; cases e1; cases e2; exact h, fun h => ⟨_, _, rfl, rfl, h⟩⟩
theorem q_mod {i j : Int} : smMod (.int i) (.int j) R ↔ 0 < j ∧ R (.int (i % j)) := ⟨by rintro ⟨a, b, e1, e2, h⟩; cases e1; cases e2; exact h, fun h => ⟨_, _, rfl, rfl, h⟩⟩
theorem q_pow {i j : Int} : smPow (.int i) (.int j) R ↔ CPow i j ∧ R (.int (i ^ j.toNat)) := ⟨by rintro ⟨a, b, e1, e2, h⟩; cases e1; cases e2; exact h, fun h => ⟨_, _, rfl, rfl, h⟩⟩
theorem q_lt {i j : Int} : smLt (.int i) (.int j) R ↔ R (.bl (decide (i < j))) := ⟨by rintro ⟨a, b, e1, e2, h⟩; cases e1; cases e2; exact h, fun h => ⟨_, _, rfl, rfl, h⟩⟩
theorem q_le {i j : Int} : smLe (.int i) (.int j) R ↔ R (.bl (decide (i ≤ j))) := ⟨by rintro ⟨a, b, e1, e2, h⟩; cases e1; cases e2; exact h, fun h => ⟨_, _, rfl, rfl, h⟩⟩
theorem q_gt {i j : Int} : smGt (.int i) (.int j) R ↔ R (.bl (decide (j < i))) := ⟨by rintro ⟨a, b, e1, e2, h⟩; cases e1; cases e2; exact h, fun h => ⟨_, _, rfl, rfl, h⟩⟩
theorem q_ge {i j : Int} : smGe (.int i) (.int j) R ↔ R (.bl (decide (j ≤ i))) := ⟨by rintro ⟨a, b, e1, e2, h⟩; cases e1; cases e2; exact h, fun h => ⟨_, _, rfl, rfl, h⟩⟩
theorem q_neg {i : Int} : smNeg (.int i) R ↔ R (.int (-i)) := ⟨by rintro ⟨a, e1, h⟩; cases e1; exact h, fun h => ⟨_, rfl, h⟩⟩
theorem q_eq_ii {i j : Int} : smEq (.int i) (.int j) R ↔ R (.bl (i == j)) := ⟨by rintro (⟨k, e, h⟩ | h); cases e; exact h.2, fun h => .inr ⟨⟨rfl, rfl, rfl, rfl⟩, h⟩⟩
theorem q_ne_ii {i j : Int} : smNe (.int i) (.int j) R ↔ R (.bl (!(i == j))) := ⟨by rintro (⟨k, e, h⟩ | h); cases e; exact h.2, fun h => .inr ⟨⟨rfl, rfl, rfl, rfl⟩, h⟩⟩
theorem eqv_nil {xs : List D} : PyData.eqvAll (pyL xs) [] = xs.isEmpty := by cases xs <;> rfl
theorem q_eq_le {xs : List D} : smEq (.lst xs) (.lst []) R ↔ R (.bl xs.isEmpty) := by
  constructor
  · rintro (⟨k, e, h⟩ | h)
    · have e' : (if (xs.isEmpty || true) = true then some (xs.isEmpty && true) else none) = some k := e
      simp at e'
      rw [e']; exact h
    · have e : eqD (.lst xs) (.lst []) = xs.isEmpty := by unfold eqD; simp only [pyD, PyData.eqv, pyL]; exact eqv_nil
      rw [← e]; exact h.2
  · intro h
    exact .inl ⟨xs.isEmpty, by show (if (xs.isEmpty || true) = true then some (xs.isEmpty && true) else none) = _; simp, h⟩
theorem q_ne_le {xs : List D} : smNe (.lst xs) (.lst []) R ↔ R (.bl (!xs.isEmpty)) := by
  constructor
  · rintro (⟨k, e, h⟩ | h)
    · have e' : (if (xs.isEmpty || true) = true then some (xs.isEmpty && true) else none) = some k := e
      simp at e'
      rw [e']; exact h
    · have e : eqD (.lst xs) (.lst []) = xs.isEmpty := by unfold eqD; simp only [pyD, PyData.eqv, pyL]; exact eqv_nil
      rw [← e]; exact h.2
  · intro h
    exact .inl ⟨xs.isEmpty, by show (if (xs.isEmpty || true) = true then some (xs.isEmpty && true) else none) = _; simp, h⟩
theorem q_eq_ve {xs : List D} : smEq (.vw xs) (.lst []) R ↔ R (.bl xs.isEmpty) := by
  constructor
  · rintro (⟨k, e, h⟩ | h)
    · have e' : (if (xs.isEmpty || true) = true then some (xs.isEmpty && true) else none) = some k := e
      simp at e'
      rw [e']; exact h
    · have e : eqD (.vw xs) (.lst []) = xs.isEmpty := by unfold eqD; simp only [pyD, PyData.eqv, pyL]; exact eqv_nil
      rw [← e]; exact h.2
  · intro h
    exact .inl ⟨xs.isEmpty, by show (if (xs.isEmpty || true) = true then some (xs.isEmpty && true) else none) = _; simp, h⟩
theorem q_ne_ve {xs : List D} : smNe (.vw xs) (.lst []) R ↔ R (.bl (!xs.isEmpty)) := by
  constructor
  · rintro (⟨k, e, h⟩ | h)
    · have e' : (if (xs.isEmpty || true) = true then some (xs.isEmpty && true) else none) = some k := e
      simp at e'
      rw [e']; exact h
    · have e : eqD (.vw xs) (.lst []) = xs.isEmpty := by unfold eqD; simp only [pyD, PyData.eqv, pyL]; exact eqv_nil
      rw [← e]; exact h.2
  · intro h
    exact .inl ⟨xs.isEmpty, by show (if (xs.isEmpty || true) = true then some (xs.isEmpty && true) else none) = _; simp, h⟩
theorem q_eq_te {xs : List D} : smEq (.tup xs) (.tup []) R ↔ R (.bl xs.isEmpty) := by
  constructor
  · rintro (⟨k, e, h⟩ | h)
    · have e' : (if (xs.isEmpty || true) = true then some (xs.isEmpty && true) else none) = some k := e
      simp at e'
      rw [e']; exact h
    · have e : eqD (.tup xs) (.tup []) = xs.isEmpty := by unfold eqD; simp only [pyD, PyData.eqv, pyL]; exact eqv_nil
      rw [← e]; exact h.2
  · intro h
    exact .inl ⟨xs.isEmpty, by show (if (xs.isEmpty || true) = true then some (xs.isEmpty && true) else none) = _; simp, h⟩
theorem q_ne_te {xs : List D} : smNe (.tup xs) (.tup []) R ↔ R (.bl (!xs.isEmpty)) := by
  constructor
  · rintro (⟨k, e, h⟩ | h)
    · have e' : (if (xs.isEmpty || true) = true then some (xs.isEmpty && true) else none) = some k := e
      simp at e'
      rw [e']; exact h
    · have e : eqD (.tup xs) (.tup []) = xs.isEmpty := by unfold eqD; simp only [pyD, PyData.eqv, pyL]; exact eqv_nil
      rw [← e]; exact h.2
  · intro h
    exact .inl ⟨xs.isEmpty, by show (if (xs.isEmpty || true) = true then some (xs.isEmpty && true) else none) = _; simp, h⟩
theorem q_eq_ss {i j : Str} : smEq (.str i) (.str j) R = R (.bl (decide (i = j))) := rfl
theorem q_ne_ss {i j : Str} : smNe (.str i) (.str j) R = R (.bl (!decide (i = j))) := rfl
theorem q_is {d : D} (h : ∀ v, d ≠ .op v) : smIs d .non R ↔ R (.bl (isNon d)) := ⟨fun h => h.2.2, fun q => ⟨rfl, h, q⟩⟩
theorem q_isnot {d : D} (h : ∀ v, d ≠ .op v) : smIsNot d .non R ↔ R (.bl (!isNon d)) := ⟨fun h => h.2.2, fun q => ⟨rfl, h, q⟩⟩
theorem q_len {d : D} : smLen [d] R ↔ ∃ n, lenD d = some n ∧ R (.int n) := by
  constructor
  · rintro ⟨d', n, e, h1, h2⟩
    cases e
    exact ⟨n, h1, h2⟩
  · rintro ⟨n, h1, h2⟩
    exact ⟨d, n, rfl, h1, h2⟩
theorem q_bl {b : Bool} {P : Bool → Prop} : (∃ c, D.bl b = .bl c ∧ P c) ↔ P b := ⟨by rintro ⟨c, e, h⟩; cases e; exact h, fun h => ⟨b, rfl, h⟩⟩
theorem q_some {α : Type} {a : α} {P : α → Prop} : (∃ c, some a = some c ∧ P c) ↔ P a := ⟨by rintro ⟨c, e, h⟩; cases e; exact h, fun h => ⟨a, rfl, h⟩⟩
theorem q_ix_t {xs : List D} {i : Int} : smIx (.tup xs) (.int i) R ↔ ∃ d, atI xs i = some d ∧ R d := by
  constructor
  · rintro ⟨j, e, ys, d, e1, e2, h⟩
    cases e; cases e1
    exact ⟨d, e2, h⟩
  · rintro ⟨d, e, h⟩
    exact ⟨i, rfl, xs, d, rfl, e, h⟩
theorem q_ix_l {xs : List D} {i : Int} : smIx (.lst xs) (.int i) R ↔ ∃ d, atI xs i = some d ∧ R d := by
  constructor
  · rintro ⟨j, e, ys, d, e1, e2, h⟩
    cases e; cases e1
    exact ⟨d, e2, h⟩
  · rintro ⟨d, e, h⟩
    exact ⟨i, rfl, xs, d, rfl, e, h⟩
theorem q_ix_v {xs : List D} {i : Int} : smIx (.vw xs) (.int i) R ↔ ∃ d, atI xs i = some d ∧ R d := by
  constructor
  · rintro ⟨j, e, ys, d, e1, e2, h⟩
    cases e; cases e1
    exact ⟨d, e2, h⟩
  · rintro ⟨d, e, h⟩
    exact ⟨i, rfl, xs, d, rfl, e, h⟩
end
theorem q_in_t {R : D → Prop} {x : D} {xs : List D} : smIn x (.tup xs) R ↔ (flatD x = true ∧ xs.all flatD = true ∧ R (.bl (inD x xs))) := ⟨by rintro ⟨ys, e, h⟩; cases e; exact h, fun h => ⟨xs, rfl, h⟩⟩
theorem q_in_l {R : D → Prop} {x : D} {xs : List D} : smIn x (.lst xs) R ↔ (flatD x = true ∧ xs.all flatD = true ∧ R (.bl (inD x xs))) := ⟨by rintro ⟨ys, e, h⟩; cases e; exact h, fun h => ⟨xs, rfl, h⟩⟩
theorem eqD_ss {a b : Str} : eqD (.str a) (.str b) = decide (a = b) := by
  unfold eqD
  simp only [pyD, PyData.eqv]
  rw [Bool.eq_iff_iff]
  simp
theorem eqD_ii {a b : Int} : eqD (.int a) (.int b) = decide (a = b) := by
  unfold eqD
  simp only [pyD, PyData.eqv]
  rw [Bool.eq_iff_iff]
  simp
theorem szl : sizeLine = 16777216 := rfl
section
variable {R : D → Prop} {xs ys : List D}
theorem q_add_tt : smAdd (.tup xs) (.tup ys) R = (xs.length + ys.length ≤ sizeLine ∧ R (.tup (xs ++ ys))) := rfl
theorem q_add_ss {x y : Str} : smAdd (.str x) (.str y) R = (x.length + y.length ≤ sizeLine ∧ R (.str (x ++ y))) := rfl
theorem q_add_ll : smAdd (.lst xs) (.lst ys) R ↔ (xs.length + ys.length ≤ sizeLine ∧ R (.lst (xs ++ ys))) := ⟨by rintro ⟨a, b, e1, e2, h⟩; cases e1; cases e2; exact h, fun h => ⟨xs, ys, rfl, rfl, h⟩⟩
theorem q_add_vl : smAdd (.vw xs) (.lst ys) R ↔ (xs.length + ys.length ≤ sizeLine ∧ R (.lst (xs ++ ys))) := ⟨by rintro ⟨a, b, e1, e2, h⟩; cases e1; cases e2; exact h, fun h => ⟨xs, ys, rfl, rfl, h⟩⟩
theorem q_add_lv : smAdd (.lst xs) (.vw ys) R ↔ (xs.length + ys.length ≤ sizeLine ∧ R (.lst (xs ++ ys))) := ⟨by rintro ⟨a, b, e1, e2, h⟩; cases e1; cases e2; exact h, fun h => ⟨xs, ys, rfl, rfl, h⟩⟩
theorem q_addF_ll {R : List D → Prop} : smAddF (.lst xs) (.lst ys) R ↔ (xs.length + ys.length ≤ sizeLine ∧ R (xs ++ ys)) := ⟨by rintro ⟨a, b, e1, e2, h⟩; cases e1; cases e2; exact h, fun h => ⟨xs, ys, rfl, rfl, h⟩⟩
theorem q_addF_vl {R : List D → Prop} : smAddF (.vw xs) (.lst ys) R ↔ (xs.length + ys.length ≤ sizeLine ∧ R (xs ++ ys)) := ⟨by rintro ⟨a, b, e1, e2, h⟩; cases e1; cases e2; exact h, fun h => ⟨xs, ys, rfl, rfl, h⟩⟩
theorem q_cut_t {lo hi : Option Int} : smCut (.tup xs) lo hi R = R (.tup (cutL xs lo hi)) := rfl
theorem q_cut_l {lo hi : Option Int} : smCut (.lst xs) lo hi R ↔ R (.lst (cutL xs lo hi)) := ⟨by rintro ⟨a, e, h⟩; cases e; exact h, fun h => ⟨xs, rfl, h⟩⟩
theorem q_cut_v {lo hi : Option Int} : smCut (.vw xs) lo hi R ↔ R (.lst (cutL xs lo hi)) := ⟨by rintro ⟨a, e, h⟩; cases e; exact h, fun h => ⟨xs, rfl, h⟩⟩
theorem q_cut_s {ns : List Int} {lo hi : Option Int} : smCut (.scr ns) lo hi R ↔ R (.lst (cutL (ns.map .int) lo hi)) := ⟨by rintro ⟨a, e, h⟩; cases e; exact h, fun h => ⟨_, rfl, h⟩⟩
theorem q_rev_t : smRev (.tup xs) R = R (.tup xs.reverse) := rfl
theorem q_rev_l : smRev (.lst xs) R ↔ R (.lst xs.reverse) := ⟨by rintro ⟨a, e, h⟩; cases e; exact h, fun h => ⟨xs, rfl, h⟩⟩
theorem q_tuple_t : smTuple [.tup xs] R = R (.tup xs) := rfl
theorem q_tuple_l : smTuple [.lst xs] R ↔ R (.tup xs) := ⟨by rintro ⟨a, e, h⟩; cases e; exact h, fun h => ⟨xs, rfl, h⟩⟩
theorem q_tuple_v : smTuple [.vw xs] R ↔ R (.tup xs) := ⟨by rintro ⟨a, e, h⟩; cases e; exact h, fun h => ⟨xs, rfl, h⟩⟩
theorem q_list_t : smList [.tup xs] R ↔ R (.lst xs) := ⟨by rintro ⟨d, a, e, e2, h⟩; cases e; cases e2; exact h, fun h => ⟨_, xs, rfl, rfl, h⟩⟩
theorem q_list_l : smList [.lst xs] R ↔ R (.lst xs) := ⟨by rintro ⟨d, a, e, e2, h⟩; cases e; cases e2; exact h, fun h => ⟨_, xs, rfl, rfl, h⟩⟩
theorem q_list_v : smList [.vw xs] R ↔ R (.lst xs) := ⟨by rintro ⟨d, a, e, e2, h⟩; cases e; cases e2; exact h, fun h => ⟨_, xs, rfl, rfl, h⟩⟩
theorem q_int_i {i : Int} : smInt [.int i] R = R (.int i) := rfl
theorem q_int_b {b : Bool} : smInt [.bl b] R = R (.int (if b then 1 else 0)) := rfl
theorem q_abs {i : Int} : smAbs [.int i] R ↔ R (.int (if i < 0 then -i else i)) := ⟨by rintro ⟨a, e, h⟩; cases e; exact h, fun h => ⟨i, rfl, h⟩⟩
theorem q_max2 {i j : Int} : smMax2 [.int i, .int j] R ↔ R (.int (max i j)) := ⟨by rintro ⟨a, b, e, h⟩; cases e; exact h, fun h => ⟨i, j, rfl, h⟩⟩
theorem q_min2 {i j : Int} : smMin2 [.int i, .int j] R ↔ R (.int (min i j)) := ⟨by rintro ⟨a, b, e, h⟩; cases e; exact h, fun h => ⟨i, j, rfl, h⟩⟩
theorem q_l1 {j : Int} {P : Int → Prop} : (∃ k : Int, [D.int j] = [.int k] ∧ P k) ↔ P j := ⟨by rintro ⟨a, e, h⟩; cases e; exact h, fun h => ⟨j, rfl, h⟩⟩
theorem q_l2 {i j : Int} {P : Int → Int → Prop} : (∃ a b : Int, [D.int i, D.int j] = [.int a, .int b] ∧ P a b) ↔ P i j := ⟨by rintro ⟨a, b, e, h⟩; cases e; exact h, fun h => ⟨i, j, rfl, h⟩⟩
theorem q_int {i : Int} {P : Int → Prop} : (∃ j, D.int i = .int j ∧ P j) ↔ P i := ⟨by rintro ⟨c, e, h⟩; cases e; exact h, fun h => ⟨i, rfl, h⟩⟩
theorem q_own {xs : List D} {P : List D → Prop} : (∃ ys, some (Slot.own xs) = some (.own ys) ∧ P ys) ↔ P xs := ⟨by rintro ⟨c, e, h⟩; cases e; exact h, fun h => ⟨xs, rfl, h⟩⟩
theorem q_val {d : D} {P : D → Prop} : (∃ e, some (Slot.val d) = some (.val e) ∧ P e) ↔ P d := ⟨by rintro ⟨c, e, h⟩; cases e; exact h, fun h => ⟨d, rfl, h⟩⟩
theorem q_own1 {xs : List D} {P : List D → Prop} : (∃ ys, Slot.own xs = .own ys ∧ P ys) ↔ P xs := ⟨by rintro ⟨c, e, h⟩; cases e; exact h, fun h => ⟨xs, rfl, h⟩⟩
theorem q_val1 {d : D} {P : D → Prop} : (∃ e, Slot.val d = .val e ∧ P e) ↔ P d := ⟨by rintro ⟨c, e, h⟩; cases e; exact h, fun h => ⟨d, rfl, h⟩⟩
theorem q_two {a b : Slot} {P : Slot → Slot → Prop} : (∃ u v, [a, b] = [u, v] ∧ P u v) ↔ P a b := ⟨by rintro ⟨u, v, e, h⟩; cases e; exact h, fun h => ⟨a, b, rfl, h⟩⟩
theorem q_three {a b c : Slot} {P : Slot → Slot → Slot → Prop} : (∃ u v w, [a, b, c] = [u, v, w] ∧ P u v w) ↔ P a b c := ⟨by rintro ⟨u, v, w, e, h⟩; cases e; exact h, fun h => ⟨a, b, c, rfl, h⟩⟩
end
theorem g_tup {n : Nat} {v : DGs} {xs : List D} {ρ : Rho} {R : Rho → Prop} : dgTup n v (.tup xs) ρ R ↔ (xs.length = n ∧ v xs ρ R) := ⟨by rintro ⟨ds, e | e, h⟩ <;> cases e; exact h, fun h => ⟨xs, .inl rfl, h⟩⟩
theorem g_lst {n : Nat} {v : DGs} {xs : List D} {ρ : Rho} {R : Rho → Prop} : dgTup n v (.lst xs) ρ R ↔ (xs.length = n ∧ v xs ρ R) := ⟨by rintro ⟨ds, e | e, h⟩ <;> cases e; exact h, fun h => ⟨xs, .inr rfl, h⟩⟩
theorem g_cons {g : DG} {v : DGs} {d : D} {r : List D} {ρ : Rho} {R : Rho → Prop} : dgCons g v (d :: r) ρ R ↔ g d ρ fun ρ' => v r ρ' R := ⟨by rintro ⟨d', r', e, h⟩; cases e; exact h, fun h => ⟨d, r, rfl, h⟩⟩
theorem g_nil {ρ : Rho} {R : Rho → Prop} : dgNil [] ρ R ↔ R ρ := ⟨fun h => h.2, fun h => ⟨rfl, h⟩⟩
theorem c_pow {i j : Int} (h : (decide (0 ≤ j) && (decide (j ≤ 1000000) && (decide (-18446744073709551616 < i) && decide (i < 18446744073709551616)))) = true) : CPow i j = True := by
  simp only [Bool.and_eq_true, decide_eq_true_eq] at h
  exact eq_true ⟨h.1, h.2.1, by omega⟩
theorem c_mul1 {i j : Int} (h : (decide (-18446744073709551616 < i) && decide (i < 18446744073709551616)) = true) : (CMul i j ∨ CMulW i j) = True := by
  simp only [Bool.and_eq_true, decide_eq_true_eq] at h
  exact eq_true (.inl (.inl ⟨h.1, h.2⟩))
theorem c_mul2 {i j : Int} (h : (decide (-18446744073709551616 < j) && decide (j < 18446744073709551616)) = true) : (CMul i j ∨ CMulW i j) = True := by
  simp only [Bool.and_eq_true, decide_eq_true_eq] at h
  exact eq_true (.inl (.inr ⟨h.1, h.2⟩))
theorem tru_bl {b : Bool} : truD (.bl b) = some b := rfl
theorem tru_non : truD .non = some false := rfl
theorem tru_int {i : Int} : truD (.int i) = some (i != 0) := rfl
theorem tru_tup {xs : List D} : truD (.tup xs) = some (!xs.isEmpty) := rfl
theorem tru_lst {xs : List D} : truD (.lst xs) = some (!xs.isEmpty) := rfl
theorem tru_vw {xs : List D} : truD (.vw xs) = some (!xs.isEmpty) := rfl
theorem len_tup {xs : List D} : lenD (.tup xs) = some xs.length := rfl
theorem len_lst {xs : List D} : lenD (.lst xs) = some xs.length := rfl
theorem len_vw {xs : List D} : lenD (.vw xs) = some xs.length := rfl
theorem len_scr {xs : List Int} : lenD (.scr xs) = some xs.length := rfl
theorem it_tup {xs : List D} : itemsD (.tup xs) = some xs := rfl
theorem it_lst {xs : List D} : itemsD (.lst xs) = some xs := rfl
theorem it_scr {xs : List Int} : itemsD (.scr xs) = some (xs.map .int) := rfl
theorem itc_tup {xs : List D} : itemsC (.tup xs) = some xs := rfl
theorem itc_lst {xs : List D} : itemsC (.lst xs) = some xs := rfl
theorem itc_vw {xs : List D} : itemsC (.vw xs) = some xs := rfl
theorem itc_scr {xs : List Int} : itemsC (.scr xs) = some (xs.map .int) := rfl
theorem at0 {α : Type} {a : α} {l : List α} : atI (a :: l) 0 = some a := by
  unfold atI ixN
  rw [if_pos (by decide), if_pos (by simp)]
  rfl
theorem at1 {α : Type} {a b : α} {l : List α} : atI (a :: b :: l) 1 = some b := by
  unfold atI ixN
  rw [if_pos (by decide), if_pos (by simp; omega)]
  rfl
theorem at2 {α : Type} {a b c : α} {l : List α} : atI (a :: b :: c :: l) 2 = some c := by
  unfold atI ixN
  rw [if_pos (by decide), if_pos (by simp; omega)]
  rfl
theorem at_nat {α : Type} {l : List α} {i : Int} (h0 : 0 ≤ i) (h : i < l.length) : ∃ a, atI l i = some a ∧ a ∈ l ∧ l[i.toNat]? = some a := by
  have p : i.toNat < l.length := by omega
  refine ⟨l[i.toNat]'p, ?_, List.getElem_mem p, List.getElem?_eq_getElem p⟩
  unfold atI ixN
  rw [if_pos h0, if_pos (by omega)]
  show l[i.toNat]? = _
  exact List.getElem?_eq_getElem p
end DL
/-! text DLq -/
/-! DL: ranges whose list is not written out (the kernel would walk it). -/
namespace DL
open PySem PySem.Spec PyProof.Rows L2
structure IsRg (lo : Int) (n : Nat) (ds : List D) : Prop where
  e : ds = rangeF lo n
theorem IsRg.len {lo : Int} {n : Nat} {ds : List D} (h : IsRg lo n ds) : ds.length = n := by rw [h.e]; exact rangeF_length lo n
theorem IsRg.mem {lo : Int} {n : Nat} {ds : List D} (h : IsRg lo n ds) {d : D} (hd : d ∈ ds) : ∃ i : Int, d = .int i ∧ lo ≤ i ∧ i < lo + n := by
  obtain ⟨j, hj, e⟩ := List.mem_iff_getElem.mp hd
  rw [h.len] at hj
  have e2 := rangeF_get lo n j hj
  rw [← h.e, List.getElem?_eq_getElem (by rw [h.len]; exact hj), e] at e2
  exact ⟨lo + j, Option.some.inj e2, by omega, by omega⟩
section
variable {Z : Wld} {F : Fm} {W : WX} {tg e e2 : Expr} {tA : DTA Z} {pos p : Pos}
def dRg1 {M : Type} (ta : DTA0 M) : DTA0 M := fun ρ μ R E => ta ρ μ (fun as μ' => ∃ j : Int, as = [.int j] ∧ -(2 ^ 62) ≤ j ∧ j < 2 ^ 62 ∧ ∀ ds, IsRg 0 j.toNat ds → R ds μ') E
def dRg2 {M : Type} (ta : DTA0 M) : DTA0 M := fun ρ μ R E => ta ρ μ (fun as μ' => ∃ i j : Int, as = [.int i, .int j] ∧ (-(2 ^ 62) ≤ i ∧ i < 2 ^ 62 ∧ -(2 ^ 62) ≤ j ∧ j < 2 ^ 62) ∧ ∀ ds, IsRg i (j - i).toNat ds → R ds μ') E
theorem di_rg1 (hg : ∀ i, Gl (F.X i) "range") (hm : ∀ i, (F.X i).mg "range" = none) (h : DA Z F W [e] tA) (hs : ∀ i, starEach [e] (F.X i).env = [(false, eval e (F.X i).env)] := by intro _; rfl) :
    DI Z F W tg (.Call (.Name "range" p) [e] [] pos) (dRg1 tA) := by
  obtain ⟨te, pe, h⟩ := h
  refine ⟨_, fun i => pi_range1 (hg i) (hm i) (pe i) (hs i), fun B ρ σ μ S H R E Q env ok ht hE hQ => ?_⟩
  refine h B ρ σ μ S H _ E _ env ok ht hE fun v d μ' S' H' x r _ hd => ?_
  obtain ⟨j, rfl, h1, h2, hd⟩ := hd
  obtain ⟨v1, r0, rfl, r1, rfl⟩ := r
  cases r1
  exact ⟨j, rfl, h1, h2, hQ _ _ μ' S' H' x (fun μ2 S2 H2 ok2 s2 => wk_range ok2) (hd _ ⟨rfl⟩)⟩
theorem di_rg2 (hg : ∀ i, Gl (F.X i) "range") (hm : ∀ i, (F.X i).mg "range" = none) (h : DA Z F W [e, e2] tA) (hs : ∀ i, starEach [e, e2] (F.X i).env = [(false, eval e (F.X i).env), (false, eval e2 (F.X i).env)] := by intro _; rfl)
    (hs2 : ∀ i, starEach [e2] (F.X i).env = [(false, eval e2 (F.X i).env)] := by intro _; rfl) :
    DI Z F W tg (.Call (.Name "range" p) [e, e2] [] pos) (dRg2 tA) := by
  obtain ⟨te, pe, h⟩ := h
  refine ⟨_, fun i => pi_range2 (hg i) (hm i) (pe i) (hs i) (hs2 i), fun B ρ σ μ S H R E Q env ok ht hE hQ => ?_⟩
  refine h B ρ σ μ S H _ E _ env ok ht hE fun v d μ' S' H' x r _ hd => ?_
  obtain ⟨i, j, rfl, h1, hd⟩ := hd
  obtain ⟨v1, r0, rfl, r1, v2, r3, rfl, r2, rfl⟩ := r
  cases r1
  cases r2
  exact ⟨i, j, rfl, h1, hQ _ _ μ' S' H' x (fun μ2 S2 H2 ok2 s2 => wk_range ok2) (hd _ ⟨rfl⟩)⟩
/-! numbers that the text writes by + - * ** -/
theorem dx_kpow {a b : Expr} {i j v : Int} (ha : DE Z F W a (dC (.int i))) (hb : DE Z F W b (dC (.int j))) (hc : CPow i j := by decide) (hv : i ^ j.toNat = v := by decide) : DE Z F W (.BinOp a .Pow b pos) (dC (.int v)) := by
  obtain ⟨te, p, h⟩ := dx_op (pos := pos) (od_pow (Z := Z) (F := F)) ha hb
  exact ⟨te, p, fun B ρ σ μ S H R E Q env ok hR hE hQ => h B ρ σ μ S H R E Q env ok ⟨i, j, rfl, rfl, hc, by rw [hv]; exact hR⟩ hE hQ⟩
theorem dx_kmul {a b : Expr} {i j v : Int} (ha : DE Z F W a (dC (.int i))) (hb : DE Z F W b (dC (.int j))) (hc : CMul i j := by decide) (hv : i * j = v := by decide) : DE Z F W (.BinOp a .Mult b pos) (dC (.int v)) := by
  obtain ⟨te, p, h⟩ := dx_op (pos := pos) (od_mul (Z := Z) (F := F)) ha hb
  exact ⟨te, p, fun B ρ σ μ S H R E Q env ok hR hE hQ => h B ρ σ μ S H R E Q env ok ⟨.inl hc, by rw [hv]; exact hR⟩ hE hQ⟩
theorem dx_kadd {a b : Expr} {i j v : Int} (ha : DE Z F W a (dC (.int i))) (hb : DE Z F W b (dC (.int j))) (hv : i + j = v := by decide) : DE Z F W (.BinOp a .Add b pos) (dC (.int v)) := by
  obtain ⟨te, p, h⟩ := dx_op (pos := pos) (od_add (Z := Z) (F := F)) ha hb
  exact ⟨te, p, fun B ρ σ μ S H R E Q env ok hR hE hQ => h B ρ σ μ S H R E Q env ok (by show R (.int (i + j)) μ; rw [hv]; exact hR) hE hQ⟩
theorem dx_ksub {a b : Expr} {i j v : Int} (ha : DE Z F W a (dC (.int i))) (hb : DE Z F W b (dC (.int j))) (hv : i - j = v := by decide) : DE Z F W (.BinOp a .Sub b pos) (dC (.int v)) := by
  obtain ⟨te, p, h⟩ := dx_op (pos := pos) (od_sub (Z := Z) (F := F)) ha hb
  exact ⟨te, p, fun B ρ σ μ S H R E Q env ok hR hE hQ => h B ρ σ μ S H R E Q env ok ⟨i, j, rfl, rfl, by rw [hv]; exact hR⟩ hE hQ⟩
theorem dx_kneg {a : Expr} {i v : Int} (ha : DE Z F W a (dC (.int i))) (hv : -i = v := by decide) : DE Z F W (.UnaryOp .USub a pos) (dC (.int v)) := by
  obtain ⟨te, p, h⟩ := dx_un (pos := pos) (ud_neg (Z := Z) (F := F)) ha
  exact ⟨te, p, fun B ρ σ μ S H R E Q env ok hR hE hQ => h B ρ σ μ S H R E Q env ok ⟨i, rfl, by rw [hv]; exact hR⟩ hE hQ⟩
end
end DL
/-! text DLr -/
/-! DL: list(x) and [..] * n as lists that a name owns. -/
namespace DL
open PySem PySem.Spec PyProof.Rows L2
section
variable {Z : Wld} {F : Fm} {W : WX} {e a b : Expr} {es : List Expr} {tA : DTA Z} {ta tb : DT Z} {pos : Pos}
def dListF {M : Type} (ta : DTA0 M) : DTA0 M := fun ρ μ R E => ta ρ μ (fun as μ1 => ∃ d xs, as = [d] ∧ itemsC d = some xs ∧ R xs μ1) E
theorem call_listK (i : F.ι) : CallR (F.X i) (.type "list") (fun xs H Q => ∃ p ys, xs = [.ref p] ∧ (SqL F.K H p ys ∨ SqT F.K H p ys) ∧ ∀ l, H l = none → Q (.ref l) (upd H l (.lst ys))) := by
  rw [← F.hK i]
  exact call_list_of
theorem df_list {p : Pos} (hg : ∀ i, Gl (F.X i) "list") (hm : ∀ i, (F.X i).mg "list" = none) (hv : bootBuiltins "list" = some (.type "list")) (ha : DA Z F W (e :: es) tA)
    (he : ∀ i, starEach (e :: es) (F.X i).env = (false, eval e (F.X i).env) :: starEach es (F.X i).env := by intro _; rfl) (hpl : ∀ i, (backTo pos (starEach es (F.X i).env)).any (·.1) = false := by intro _; rfl) : DF Z F W (.Call (.Name "list" p) (e :: es) [] pos) (dListF tA) := by
  obtain ⟨ta', pa, ha⟩ := ha
  refine ⟨_, fun i => pe_callTy (call_listK i) (hg i) (hm i) hv (pa i) (by decide) (by decide) (he i) (hpl i), fun B ρ σ μ S H R E Q env ok h hE hQ => ?_⟩
  refine ha B ρ σ μ S H _ E _ env ok h hE fun vs ds μ1 S1 H1 x1 r1 _ h1 => ?_
  obtain ⟨d, xs, rfl, e1, hR⟩ := h1
  obtain ⟨v, _, rfl, r2, rfl⟩ := r1
  obtain ⟨p, ws, rfl, q1, q2⟩ := items_inH x1.ok.sub r2 e1
  refine ⟨p, ws, rfl, q1, fun t ht => ?_⟩
  obtain ⟨n0, n1, n2⟩ := new_own env x1 ht
  exact hQ t _ xs μ1 S1 _ (x1.trans (x1.ok.putOwn ht)) n0 upd_same n1 n2 (q2.newOwn ht) hR
def dMulF {M : Type} (ta tb : DT0 M) : DTA0 M := fun ρ μ R E => ta ρ μ (fun a μ1 => tb ρ μ1 (fun b μ2 => ∃ (xs : List D) (j : Int), lstOf a = some xs ∧ b = .int j ∧ -(2 ^ 63) ≤ j ∧ j < 2 ^ 63 ∧ xs.length * j.toNat ≤ sizeLine ∧ R (List.replicate j.toNat xs).flatten μ2) E) E
theorem df_mul (ha : DE Z F W a ta) (hb : DE Z F W b tb) : DF Z F W (.BinOp a .Mult b pos) (dMulF ta tb) := by
  obtain ⟨ta', pa, ha⟩ := ha
  obtain ⟨tb', pb, hb⟩ := hb
  refine ⟨_, fun i => pe_op op_rep (pa i) (pb i), fun B ρ σ μ S H R E Q env ok h hE hQ => ?_⟩
  refine ha B ρ σ μ S H _ E _ env ok h hE fun v d μ1 S1 H1 x1 r1 h1 => ?_
  refine hb B ρ σ μ1 S1 H1 _ E _ (env.ext x1) x1.ok h1 (hE.ext x1) fun v2 dd μ2 S2 H2 x2 r2 h2 => ?_
  have x12 := x1.trans x2
  obtain ⟨xs, j, e1, rfl, b1, b2, hz, hR⟩ := h2
  obtain ⟨p, vs, rfl, q1, q2⟩ := lstOf_at x2.ok.sub (r1.ext x2) e1
  refine ⟨p, j, vs, rfl, r2, q1, b1, b2, by rw [q2.length]; exact hz, fun t ht => ?_⟩
  obtain ⟨n0, n1, n2⟩ := new_own env x12 ht
  exact hQ t _ (List.replicate j.toNat xs).flatten μ2 S2 _ (x12.trans (x2.ok.putOwn ht)) n0 upd_same n1 n2 ((q2.rep _).newOwn ht) hR
def dsNever {M : Type} : DTS0 M := fun _ _ _ => False
/-- a statement that is never reached -/
theorem ds_never {st : Stmt} : DS Z F W st dsNever := ⟨_, fun _ => ps_never, fun _ _ _ _ _ _ _ _ _ _ _ h _ => h.elim⟩
end
end DL
/-! text DLx -/
/-! DL: exceptions of own classes whose __init__ keeps one field: made and raised; what the head tells of such classes. -/
namespace DL
open PySem PySem.Spec PyProof.Rows L2
def spIni (C : Addr) (f : Str) : Sp := fun vs H Q _ => ∃ (a : Addr) (v : V), vs = [.ref a, v] ∧ H a = some (exo a C none) ∧ ∀ dx, H dx = none → dx ≠ a → Q .non (upd (upd H dx (exd dx [(f, v)])) a (exo a C (some dx)))
section
variable {P : Program} {w : World} {K : PySem.W.Frag} {mg : Str → Option Value} {base : Heap}
theorem ini_of {qual f : Str} {st : Stmt} {fI C : Addr} {fd : FuncData} (F : L2.Fun K "__init__" qual st fI fd) (S : FnScope ["self", f] ["self", f] (defScope st)) (T : OexC K C) (nof : PySem.W.findIn K (.ref C) f = some none)
    (hb : ∀ (cdv : Value) (A : Around) (outer : List PySem.Env) (s : Shared) (H : Hp) (E : XK), PSs (cxOf (L2.CX P w) P w K mg base ["self", f] qual (defScope st) fI cdv A outer s H E) (defBody st) (tOst K f (tVar 0) (tVar 1))) :
    FnOk P w K mg base (L2.CX P w) 1 fI fd ["self", f] (spIni C f) := by
  refine F.okX S (fun vs H Q E q => by obtain ⟨a, v, rfl, _⟩ := q; rfl) fun cdv A outer s H vs Q E hr h => ⟨_, hb cdv A outer s H E, ?_⟩
  obtain ⟨a, v, rfl, ha, hq⟩ := h
  exact ⟨v, rfl, .ref a, rfl, a, C, rfl, T, nof, .inl ⟨ha, hq⟩⟩
end
/-- a class of exceptions that keep one field -/
structure KEx (P : Program) (w : World) (K : PySem.W.Frag) (mg : Str → Option Value) (base : Heap) (x f : Str) : Prop where
  m : mg x = some (.ref (He.ga K x))
  T : OexC K (He.ga K x)
  ex : ∃ fI fd, PySem.W.findIn K (.ref (He.ga K x)) "__init__" = some (some (.ref fI)) ∧ PySem.W.typeIn K (.ref fI) = some (.type "function") ∧ FnOk P w K mg base (L2.CX P w) 1 fI fd ["self", f] (spIni (He.ga K x) f) ∧ L2.Binds K fd ["self", f] []
section
variable {Z : Wld} {F : Fm} {W : WX} {e : Expr} {te : DT Z}
def dsRaise {M : Type} (x f : Str) (te : DT0 M) : DTS0 M := fun B ρ μ => te ρ μ (fun d μ' => sta d = true ∧ B.ex ⟨x, [(f, d)]⟩ ρ μ') fun y μ' => B.ex y ρ μ'
theorem ds_raise {x f : Str} {p pos pos' : Pos} (kx : ∀ i, KEx (F.X i).prog (F.X i).w (F.X i).K (F.X i).mg (F.X i).base x f) (hr : ∀ i, Room 2 (F.X i).A) (hg : ∀ i, Gl (F.X i) x) (hc : ∀ i, (F.X i).calm = true) (tk : ∀ i, Takes (F.X i) W) (ha : DE Z F W e te)
    (hx : bexc x = none := by decide) (hdb : (x == ("__debug__" : Str)) = false := by decide) (he : ∀ i, starEach [e] (F.X i).env = (false, eval e (F.X i).env) :: starEach [] (F.X i).env := by intro _; rfl) (hpl : ∀ i, (backTo pos (starEach [] (F.X i).env)).any (·.1) = false := by intro _; rfl) :
    DS Z F W (.Raise (some (.Call (.Name x p) [e] [] pos)) none pos') (dsRaise x f te) := by
  obtain ⟨t, pt, ht⟩ := ha
  refine ⟨fun _ σ H => tMkO (He.ga F.K x) (spIni (He.ga F.K x) f) [] (tCons t tNil) σ H fun cls d H' => W cls d σ H', fun i => ?_, fun μ0 S0 H0 ρ σ μ S H B L r h k => ?_⟩
  · obtain ⟨fI, fd, h1, h2, h3, h4⟩ := (kx i).ex
    rw [← F.hK i]
    exact ps_raise (hc i) (tk i) (pmk_oex (kx i).T h1 h2 h3 (hr i) h4 .nil passL (hg i) (kx i).m (pa_cons (pt i) pa_nil (he i)) hdb (he i) (hpl i))
  · refine ht H0 ρ σ μ S H _ _ _ r.env r.ok h (k.wish r) fun v d μ' S' H' x' rd hd => ⟨by show 1 ≤ 1000; decide, fun a ha => ⟨a, v, rfl, upd_same, fun dx nx ne => ⟨rfl, dx, [(f, v)], upd_same, (upd_ne ne).trans upd_same, ?_, ?_⟩⟩⟩
    · rw [upd_ne ne] at nx; exact nx
    · have hdx : H' dx = none := by rw [upd_ne ne] at nx; exact nx
      have eq : upd (del (upd (upd (upd H' a (exo a (He.ga F.K x) none)) dx (exd dx [(f, v)])) a (exo a (He.ga F.K x) (some dx))) a) dx (.xd [(f, v)]) = upd H' dx (.xd [(f, v)]) := by
        funext b
        by_cases hb : b = dx
        · rw [hb, upd_same, upd_same]
        · rw [upd_ne hb, upd_ne hb]
          by_cases hba : b = a
          · rw [hba, del_same, ha]
          · rw [del_ne hba, upd_ne hba, upd_ne hb, upd_ne hba]
      rw [eq]
      have x2 := x'.ok.put (o := .xd [(f, v)]) hdx
      refine k.ex ⟨x, [(f, d)]⟩ ρ σ μ' _ _ _ (some dx) (r.up (x'.trans x2)) (x'.trans x2).same ⟨?_, .inr ⟨dx, [(f, v)], rfl, upd_same, upd_same, v, [], rfl, hd.1, rd.ext x2, rfl⟩⟩ hd.2
      unfold clsV
      rw [hx]
end
/-! ### what the head tells -/
def oexB (K : PySem.W.Frag) (C : Addr) : Bool := match K.lookup C with
  | some ⟨.type "type", _, .cls cd, sl⟩ => (match cd.mro, sl.toList with
    | .ref C' :: bm, [_, _, _, _, some (.builtin n), _] => C' == C && n == "ValueError.__new__" && !cd.hasDel && cd.hasDict && PySem.HandSPX.refsVE bm
    | _, _ => false)
  | _ => false
theorem oexB_ok {K : PySem.W.Frag} {C : Addr} (q : oexB K C = true) : ∃ nm qn N bs bm sn sub ab col dd k0 k1 k2 k3 k5, K.lookup C = some (excClassObj nm qn C N bs bm true sn sub ab col dd k0 k1 k2 k3 k5 "ValueError.__new__") ∧ PySem.HandSPX.refsVE bm = true := by
  unfold oexB at q
  split at q
  · rename_i dd cd sl ho
    split at q
    · rename_i C' bm k0 k1 k2 k3 n k5 hm hs
      simp only [Bool.and_eq_true, beq_iff_eq, Bool.not_eq_true'] at q
      obtain ⟨⟨⟨⟨rfl, rfl⟩, hdel⟩, hd⟩, ht⟩ := q
      obtain ⟨nm, bs, mro, ns, qn, hd', sn, sub, ab, col, del⟩ := cd
      dsimp only at hm hdel hd
      subst hm hdel hd
      have hsl : sl = #[k0, k1, k2, k3, some (.builtin "ValueError.__new__"), k5] := by
        obtain ⟨l⟩ := sl
        simp only at hs
        rw [hs]
      subst hsl
      exact ⟨nm, qn, ns, bs, bm, sn, sub, ab, col, dd, k0, k1, k2, k3, k5, ho, ht⟩
    · cases q
  · cases q
/-- a class x of exceptions with a field f -/
def ExF.ok (K : PySem.W.Frag) (e : Str × Str) : Bool :=
  let C := He.ga K e.1
  (He.Fa.glo e.1).ok K && (oexB K C && (He.eqO (PySem.W.findIn K (.ref C) "__setattr__") (some (some (.builtin "object.__setattr__"))) && (decide (PySem.W.subIn K (.ref C) (.type "BaseException") = some true) && (decide (PySem.W.typeIn K (.ref C) = some (.type "type")) && (PySem.W.keepIn K (.ref C) &&
  (He.eqO (PySem.W.findIn K (.ref C) e.2) (some none) && (He.eqO (PySem.W.findIn K (.ref C) "__init__") (some (some (.ref (He.ma K C "__init__")))) && (decide (PySem.W.typeIn K (.ref (He.ma K C "__init__")) = some (.type "function")) && (xfB K C &&
  (He.eqO (PySem.W.findIn K (.ref C) "__class__") (some (some (.builtin "object.__class__"))) && (decide (PySem.W.specialIn K (.builtin "object.__class__") "__get__" = some (some (.builtin "getset_descriptor.__get__"))) && (decide (PySem.W.takesIn K (.builtin "object.__class__") = some true) && decide (PySem.W.mroIn K C (.type "object") = some true)))))))))))))
structure ExFacts (K : PySem.W.Frag) (x f : Str) : Prop where
  glo : (He.Fa.glo x).ok K = true
  T : OexC K (He.ga K x)
  nof : PySem.W.findIn K (.ref (He.ga K x)) f = some none
  ini : PySem.W.findIn K (.ref (He.ga K x)) "__init__" = some (some (.ref (He.ma K (He.ga K x) "__init__")))
  tyI : PySem.W.typeIn K (.ref (He.ma K (He.ga K x) "__init__")) = some (.type "function")
  xf : XfC K (He.ga K x)
  ec : ExcC K (He.ga K x)
theorem ExF.facts {K : PySem.W.Frag} {x f : Str} (h : ExF.ok K (x, f) = true) : ExFacts K x f := by
  unfold ExF.ok at h
  simp only [Bool.and_eq_true, decide_eq_true_eq] at h
  obtain ⟨h1, h2, h3, h4, h5, h6, h7, h8, h9, h10, h11, h12, h13, h14⟩ := h
  have q := xfB_ok h10
  exact ⟨h1, ⟨by
    obtain ⟨nm, qn, N, bs, bm, sn, sub, ab, col, dd, k0, k1, k2, k3, k5, e, t⟩ := oexB_ok h2
    exact ⟨nm, qn, N, bs, bm, sn, sub, ab, col, dd, k0, k1, k2, k3, k5, e, t⟩, He.eqO_ok h3, h4, h5, h6⟩, He.eqO_ok h7, He.eqO_ok h8, h9, q, ⟨q.ga, q.gg, q.exC, q.hdC, He.eqO_ok h11, h12, h13, h14⟩⟩
/-- whether the class x is one of the class y -/
def RelF.ok (K : PySem.W.Frag) (r : Str × Str × Bool) : Bool := decide (PySem.W.kitOne K (clsV K r.1) (clsV K r.2.1) = some r.2.2) && decide (PySem.W.exmOne K (clsV K r.1) (clsV K r.2.1) = some r.2.2)
section
open He
def obsEG (n : Nat) (fa : List Fa) (fn : List DefD) (ex : List (Str × Str)) (rel : List (Str × Str × Bool)) (g : Addr → Option Obj) : AlD :=
  let K := frG g (asD g n)
  ((obsD fa fn K).1 && (ex.all (ExF.ok K) && rel.all (RelF.ok K)), (obsD fa fn K).2)
def SaysE (fa : List Fa) (fn : List DefD) (ex : List (Str × Str)) (rel : List (Str × Str × Bool)) (K : PySem.W.Frag) : Prop := SaysD fa fn K ∧ (∀ e ∈ ex, ExF.ok K e = true) ∧ ∀ r ∈ rel, RelF.ok K r = true
def hookE (n : Nat) (fa : List Fa) (fn : List DefD) (ex : List (Str × Str)) (rel : List (Str × Str × Bool)) : PySem.W.Hook where
  α := AlD
  obs := fun s => obsEG n fa fn ex rel s.heap.get?
  val := fun _ => valD fn
  says := fun _ h => ∃ K : PySem.W.Frag, K.In h ∧ SaysE fa fn ex rel K
  of := fun _ s e => ⟨_, frG_in, by
    have e1 := congrArg (fun z : AlD => z.1) e
    have e2 := congrArg (fun z : AlD => z.2) e
    have e1' : ((obsD fa fn (frG s.heap.get? (asD s.heap.get? n))).1 && (ex.all (ExF.ok (frG s.heap.get? (asD s.heap.get? n))) && rel.all (RelF.ok (frG s.heap.get? (asD s.heap.get? n))))) = true := e1
    simp only [Bool.and_eq_true] at e1'
    exact ⟨Prod.ext e1'.1 e2, List.all_eq_true.mp e1'.2.1, List.all_eq_true.mp e1'.2.2⟩⟩
  keeps := fun _ _ _ ⟨K, hK, c⟩ k => ⟨K, PySem.W.Frag.In.keeps hK k, c⟩
theorem obsEG_eq {n : Nat} {fa : List Fa} {fn : List DefD} {ex : List (Str × Str)} {rel : List (Str × Str × Bool)} {g : Addr → Option Obj} {s : Shared} (h : ∀ a, g a = s.heap.get? a) : obsEG n fa fn ex rel g = (hookE n fa fn ex rel).obs s := by
  have e : g = s.heap.get? := funext h
  rw [e] <;> rfl
end
section
variable {P : Program} {w : World} {K : PySem.W.Frag} {mg : Str → Option Value} {base h : Heap}
theorem kex_of {x f qual : Str} {st : Stmt} {fd : FuncData} (X : K.In h) (G : h.Ns mainGlobals mg) (E : ExFacts K x f) (F : L2.Fun K "__init__" qual st (He.fAd K (x, some "__init__")) fd) (S : FnScope ["self", f] ["self", f] (defScope st))
    (hb : ∀ (cdv : Value) (A : Around) (outer : List PySem.Env) (s : Shared) (H : Hp) (E : XK), PSs (cxOf (L2.CX P w) P w K mg base ["self", f] qual (defScope st) (He.fAd K (x, some "__init__")) cdv A outer s H E) (defBody st) (tOst K f (tVar 0) (tVar 1)))
    (bd : L2.Binds K fd ["self", f] []) : KEx P w K mg base x f :=
  ⟨He.glo_ok X G E.glo, E.T, _, fd, E.ini, E.tyI, ini_of F S E.T E.nof hb, bd⟩
end
end DL
/-! text DLy -/
/-! DL: try .. except X as e, isinstance of what is caught, its fields. -/
namespace DL
open PySem PySem.Spec PyProof.Rows L2
/-- whether one class of exceptions is another one or beneath it (own classes stand right under LampError) -/
def isSub (x y : Str) : Bool := decide (x = y) || (bexc x).isNone && (decide (y = "LampError") || decide (y = "ValueError"))
theorem relV_cls {K : PySem.W.Frag} {x : Str} : RelV (vCls K x) (clsV K x) := by
  unfold vCls clsV
  cases bexc x <;> rfl
theorem clsV_cls {K : PySem.W.Frag} {x : Str} : ClsV (vCls K x) (clsV K x) := by
  unfold vCls clsV
  cases bexc x with
  | none => exact .own _
  | some t => exact .ty _
abbrev Fm.tr (F : Fm) (W' : WX) : Fm :=
  ⟨(i : F.ι) × { q : List (Addr × Obj) × (Value → Shared → Prop) // Takes ((F.X i).tr q.1 q.2) W' ∧ PassesOwn (model (F.X i).prog (F.X i).w) (F.X i).A (F.X i).env q.2 }, fun j => (F.X j.1).tr j.2.1.1 j.2.1.2, F.K, fun j => F.hK j.1⟩
abbrev Fm.suite (F : Fm) (a : Addr) (cls : Value) (d : Option Addr) : Fm :=
  ⟨F.ι × { q : Obj × List (Addr × Obj) // Zc cls d q.1 ∧ ∃ vs, q.1.data = .fields vs }, fun j => (F.X j.1).suite a ((a, j.2.1.1) :: j.2.1.2), F.K, fun j => F.hK j.1⟩
/-! ### isinstance -/
def rIsX (K : PySem.W.Frag) (D a : Addr) (d : Option Addr) : List V → Hp → VK → Prop := fun xs H Q => ∃ (c : V) (b : Bool), xs = [.ref a, c] ∧ (∀ dd, d = some dd → ∃ fs, H dd = some (.xd fs)) ∧
  ((∃ cv, ClsV c cv ∧ PySem.W.kitOne K (.ref D) cv = some b) ∨ ∃ tp cs us, c = .ref tp ∧ H tp = some (.tup cs) ∧ Paired ClsV cs us ∧ PySem.W.kitAny K (.ref D) us = some b) ∧ Q (.bl b) H
theorem call_isX {X : Cx} {a D : Addr} {d : Option Addr} {oe : Obj} {pn : List (Addr × Obj)} (C : ExcC X.K D) (hz : Zc (.ref D) d oe) (hf : ∃ vs, oe.data = .fields vs) : CallR (X.suite a ((a, oe) :: pn)) (.builtin "isinstance") (rIsX X.K D a d) := by
  intro pins s σ H xs us Q I r h
  obtain ⟨c, b, rfl, hd, hc, q⟩ := h
  obtain ⟨u1, u2, rfl, r1, r2⟩ := vals2 r
  cases r1
  obtain ⟨hget, _⟩ := I.pin (a, oe) (List.mem_append.mpr (.inl List.mem_cons_self))
  obtain ⟨vs, hv⟩ := hf
  have J : ∃ od, PySem.W.InstAt s.heap a oe D od := by
    obtain ⟨oc, odict, oda, osl⟩ := oe
    obtain ⟨h1, h2⟩ := hz
    dsimp only at h1 h2 hv
    subst h1 h2 hv
    cases odict with
    | none => exact ⟨none, hget, rfl, rfl, trivial⟩
    | some dd =>
      obtain ⟨fs, hx⟩ := hd dd rfl
      have ho : ObjOk X.prog X.w H s.heap dd (.xd fs) := I.hok dd _ hx
      obtain ⟨mA, hns, _⟩ := ho
      obtain ⟨od, hod, _⟩ := lookIn_ns hns
      exact ⟨some od, hget, rfl, rfl, hod⟩
  obtain ⟨od, J⟩ := J
  have hcl : (PySem.W.clsIn X.K D).isSome = true := by
    obtain ⟨cd, e, _⟩ := PySem.W.any_some C.hd
    rw [e]; rfl
  have Zk := PySem.W.kitx_exc (x := a) (ox := oe) (od := od) hcl C.hg C.hk C.hs C.ha C.hn C.ht C.hm
  rcases hc with ⟨cv, k, e⟩ | ⟨tp, cs, us, rfl, hT, k, e⟩
  · have e2 := k.eq r2
    subst e2
    exact PySem.W.kia_one Zk I.kIn J e (fun z => nomatch z) fun tk => ⟨.bl b, H, I.kept (t' := tk) fun _ _ z => z, rfl, q⟩
  · cases (show u2 = Value.ref tp from r2)
    obtain ⟨_, its, rv, o, h1, h2, n, h3⟩ := (show ObjOk X.prog X.w H s.heap tp (.tup cs) from I.hok tp _ hT)
    have e3 := ClsV.all k rv
    subst e3
    obtain ⟨oc, odd, dt, sl⟩ := o
    simp only at h2 h3
    subst h2 h3
    exact PySem.W.kia_tup Zk I.kIn J h1 e (fun z => nomatch z) fun tk => ⟨.bl b, H, I.kept (t' := tk) fun _ _ z => z, rfl, q⟩
/-- what the head tells of the classes xs (with a field each), of the relation to the classes ys -/
structure ExAll (K : PySem.W.Frag) (xs ys : List Str) : Prop where
  ec : ∀ x ∈ xs, bexc x = none ∧ ExcC K (He.ga K x)
  rel : ∀ x ∈ xs, ∀ y ∈ ys, PySem.W.kitOne K (clsV K x) (clsV K y) = some (isSub x y) ∧ PySem.W.exmOne K (clsV K x) (clsV K y) = some (isSub x y)
section
variable {Z : Wld} {F : Fm} {W : WX} {a : Addr} {cls : Value} {d : Option Addr}
def dIsE {M : Type} (a : Addr) (cls : Value) (d : Option Addr) (i : Nat) (xs cs : List Str) : DT0 M := fun ρ μ R _ => match ρ[i]? with
  | some (.exc a' cls' d' y) => a' = a ∧ cls' = cls ∧ d' = d ∧ y.cls ∈ xs ∧ R (.bl (cs.any fun c => isSub y.cls c)) μ
  | _ => False
theorem dx_isE {i : Nat} {n c : Str} {p p1 p2 pos : Pos} {xs ys : List Str} (A : ExAll F.K xs ys) (hc : c ∈ ys) (hg : ∀ j, Gl (F.X j) "isinstance") (hm : ∀ j, (F.X j).mg "isinstance" = none)
    (hv : ∀ j, PE ((F.suite a cls d).X j) (.Name n p1) (tVar i)) (hcl : ∀ j, PE ((F.suite a cls d).X j) (.Name c p2) (tC (vCls F.K c))) :
    DE Z (F.suite a cls d) W (.Call (.Name "isinstance" p) [.Name n p1, .Name c p2] [] pos) (dIsE a cls d i xs [c]) := by
  refine ⟨fun σ H Q => ∃ D, cls = .ref D ∧ ExcC F.K D ∧ tCB (rIsX F.K D a d) (tCons (tVar i) (tCons (tC (vCls F.K c)) tNil)) σ H Q, fun j => ⟨fun pins s σ H Q I h => ?_⟩, fun B ρ σ μ S H R E Q env ok h hE hQ => ?_⟩
  · obtain ⟨D, e, C, h⟩ := h
    have hz0 : Zc cls d j.2.1.1 := j.2.2.1
    have hz : Zc (.ref D) d j.2.1.1 := by rw [← e]; exact hz0
    have C' : ExcC (F.X j.1).K D := by rw [F.hK j.1]; exact C
    have h' : tCB (rIsX (F.X j.1).K D a d) (tCons (tVar i) (tCons (tC (vCls F.K c)) tNil)) σ H Q := by rw [F.hK j.1]; exact h
    exact (pe_callB (call_isX C' hz j.2.2.2) (hg j.1) (hm j.1) (by decide +kernel) (pa_cons (hv j) (pa_cons (hcl j) pa_nil))).run pins s σ H Q I h'
  · have h' : (match ρ[i]? with | some (.exc a' cls' d' y) => a' = a ∧ cls' = cls ∧ d' = d ∧ y.cls ∈ xs ∧ R (.bl ([c].any fun c => isSub y.cls c)) μ | _ => False) := h
    cases q : ρ[i]? with
    | none => rw [q] at h'; exact h'.elim
    | some s =>
      rw [q] at h'
      cases s with
      | un => exact h'.elim
      | val _ => exact h'.elim
      | own _ => exact h'.elim
      | exc a' cls' d' y =>
        obtain ⟨rfl, rfl, rfl, hy, hR⟩ := h'
        obtain ⟨o, e1, rfl, hx, hd⟩ := env.get i _ q
        obtain ⟨nb, C⟩ := A.ec _ hy
        have hcv : cls' = .ref (He.ga F.K y.cls) := by rw [hx]; unfold clsV; rw [nb]
        obtain ⟨k1, _⟩ := A.rel _ hy _ hc
        have k2 : PySem.W.kitOne F.K (.ref (He.ga F.K y.cls)) (clsV F.K c) = some (isSub y.cls c) := by
          have : clsV F.K y.cls = .ref (He.ga F.K y.cls) := by unfold clsV; rw [nb]
          rw [← this]; exact k1
        refine ⟨He.ga F.K y.cls, hcv, C, _, e1, _, _, rfl, fun dd e => ?_, .inl ⟨_, clsV_cls, k2⟩, hQ _ (.bl _) μ S H (.refl ok) rfl (by simpa using hR)⟩
        rcases hd with hd | ⟨dd', ws, e', h1, _⟩
        · rw [hd.2] at e; cases e
        · rw [e] at e'; cases e'; exact ⟨ws, h1⟩
theorem paired_cls {K : PySem.W.Frag} : ∀ cs : List Str, Paired ClsV (cs.map (vCls K)) (cs.map (clsV K))
  | [] => .nil
  | c :: cs => .cons clsV_cls (paired_cls cs)
theorem kit_any {K : PySem.W.Frag} {D : Addr} {x : Str} : ∀ {cs : List Str}, (∀ c ∈ cs, PySem.W.kitOne K (.ref D) (clsV K c) = some (isSub x c)) → PySem.W.kitAny K (.ref D) (cs.map (clsV K)) = some (cs.any fun c => isSub x c)
  | [], _ => rfl
  | c :: cs, h => by
    have h1 := h c (List.mem_cons_self ..)
    have ih := kit_any (cs := cs) fun y hy => h y (List.mem_cons_of_mem _ hy)
    refine L2.kitAny_cons h1 (fun e => ?_) fun e => ?_
    · rw [List.any_cons, e, Bool.false_or]; exact ih
    · rw [List.any_cons, e, Bool.true_or]
/-- a tuple of classes -/
def tClss (K : PySem.W.Frag) : List Str → TA
  | [] => tNil
  | c :: cs => tCons (tC (vCls K c)) (tClss K cs)
theorem tClss_run {K : PySem.W.Frag} {σ : L2.St} {H : Hp} {Q : List V → Hp → Prop} : ∀ {cs : List Str}, Q (cs.map (vCls K)) H → tClss K cs σ H Q
  | [], h => h
  | c :: cs, h => tClss_run (Q := fun vs H' => Q (vCls K c :: vs) H') (cs := cs) h
theorem dx_isEs {i k : Nat} {n : Str} {cs : List Str} {es : List Expr} {p p1 p2 pos : Pos} {xs ys : List Str} (A : ExAll F.K xs ys) (hc : ∀ c ∈ cs, c ∈ ys) (hl : cs.length ≤ 100) (hg : ∀ j, Gl (F.X j) "isinstance") (hm : ∀ j, (F.X j).mg "isinstance" = none)
    (hv : ∀ j, PE ((F.suite a cls d).X j) (.Name n p1) (tVar i)) (hcl : ∀ j, PA ((F.suite a cls d).X j) es (tClss F.K cs)) :
    DE Z (F.suite a cls d) W (.Call (.Name "isinstance" p) [.Name n p1, .Tuple es k p2] [] pos) (dIsE a cls d i xs cs) := by
  refine ⟨fun σ H Q => ∃ D, cls = .ref D ∧ ExcC F.K D ∧ tCB (rIsX F.K D a d) (tCons (tVar i) (tCons (tTup (tClss F.K cs)) tNil)) σ H Q, fun j => ⟨fun pins s σ H Q I h => ?_⟩, fun B ρ σ μ S H R E Q env ok h hE hQ => ?_⟩
  · obtain ⟨D, e, C, h⟩ := h
    have hz0 : Zc cls d j.2.1.1 := j.2.2.1
    have hz : Zc (.ref D) d j.2.1.1 := by rw [← e]; exact hz0
    have C' : ExcC (F.X j.1).K D := by rw [F.hK j.1]; exact C
    have h' : tCB (rIsX (F.X j.1).K D a d) (tCons (tVar i) (tCons (tTup (tClss F.K cs)) tNil)) σ H Q := by rw [F.hK j.1]; exact h
    exact (pe_callB (call_isX C' hz j.2.2.2) (hg j.1) (hm j.1) (by decide +kernel) (pa_cons (hv j) (pa_cons (pe_tup (hcl j)) pa_nil))).run pins s σ H Q I h'
  · have h' : (match ρ[i]? with | some (.exc a' cls' d' y) => a' = a ∧ cls' = cls ∧ d' = d ∧ y.cls ∈ xs ∧ R (.bl (cs.any fun c => isSub y.cls c)) μ | _ => False) := h
    cases q : ρ[i]? with
    | none => rw [q] at h'; exact h'.elim
    | some s =>
      rw [q] at h'
      cases s with
      | un => exact h'.elim
      | val _ => exact h'.elim
      | own _ => exact h'.elim
      | exc a' cls' d' y =>
        obtain ⟨rfl, rfl, rfl, hy, hR⟩ := h'
        obtain ⟨o, e1, rfl, hx, hd⟩ := env.get i _ q
        obtain ⟨nb, C⟩ := A.ec _ hy
        have e0 : clsV F.K y.cls = .ref (He.ga F.K y.cls) := by unfold clsV; rw [nb]
        have hcv : cls' = .ref (He.ga F.K y.cls) := by rw [hx, e0]
        refine ⟨He.ga F.K y.cls, hcv, C, _, e1, tClss_run ⟨by rw [List.length_map]; exact Nat.le_trans hl (by decide), fun p hp => ?_⟩⟩
        have x2 := ok.put (o := .tup (cs.map (vCls F.K))) hp
        refine ⟨_, _, rfl, fun dd e => ?_, .inr ⟨p, _, _, rfl, upd_same, paired_cls cs, kit_any fun c hc' => ?_⟩, hQ _ (.bl _) μ _ _ x2 rfl hR⟩
        · rcases hd with hd | ⟨dd', ws, e', h1, _⟩
          · rw [hd.2] at e; cases e
          · rw [e] at e'; cases e'; exact ⟨ws, by rw [upd_ne (ne_of_none h1 hp)]; exact h1⟩
        · rw [← e0]
          exact (A.rel _ hy _ (hc c hc')).1
/-! ### e.f of what is caught -/
def dXf {M : Type} (a : Addr) (cls : Value) (d : Option Addr) (i : Nat) (x f : Str) : DT0 M := fun ρ μ R _ => match ρ[i]? with
  | some (.exc a' cls' d' y) => a' = a ∧ cls' = cls ∧ d' = d ∧ y.cls = x ∧ ∃ v, y.fs = [(f, v)] ∧ R v μ
  | _ => False
theorem dx_xf {i : Nat} {n x f : Str} {p1 pos : Pos} (nb : bexc x = none) (T : XfC F.K (He.ga F.K x)) (hno : PySem.W.findIn F.K (.ref (He.ga F.K x)) f = some none) (hv : ∀ j, PE ((F.suite a cls d).X j) (.Name n p1) (tVar i))
    (hb : ∀ j, attributeBase (.Name n p1) f ((F.suite a cls d).X j).env (eval (.Name n p1) ((F.suite a cls d).X j).env) = eval (.Name n p1) ((F.suite a cls d).X j).env := by intro _; rfl) :
    DE Z (F.suite a cls d) W (.Attribute (.Name n p1) f pos) (dXf a cls d i x f) := by
  refine ⟨tXf a cls d (He.ga F.K x) f (tVar i), fun j => ?_, fun B ρ σ μ S H R E Q env ok h hE hQ => ?_⟩
  · exact pe_xf (by rw [F.hK j.1]; exact T) (by rw [F.hK j.1]; exact hno) j.2.2.1 j.2.2.2 (hv j) (hb j)
  · have h' : (match ρ[i]? with | some (.exc a' cls' d' y) => a' = a ∧ cls' = cls ∧ d' = d ∧ y.cls = x ∧ ∃ v, y.fs = [(f, v)] ∧ R v μ | _ => False) := h
    cases q : ρ[i]? with
    | none => rw [q] at h'; exact h'.elim
    | some s =>
      rw [q] at h'
      cases s with
      | un => exact h'.elim
      | val _ => exact h'.elim
      | own _ => exact h'.elim
      | exc a' cls' d' y =>
        obtain ⟨rfl, rfl, rfl, hy, v, hf, hR⟩ := h'
        obtain ⟨o, e1, rfl, hx, hd⟩ := env.get i _ q
        have e0 : clsV F.K y.cls = .ref (He.ga F.K x) := by unfold clsV; rw [hy, nb]
        refine ⟨_, e1, rfl, by rw [hx, e0], ?_⟩
        rcases hd with hd | ⟨dd, ws, rfl, h1, h2, h3⟩
        · rw [hd.1] at hf; cases hf
        · rw [hf] at h3
          obtain ⟨u, r, rfl, st, rd, _⟩ := h3
          exact ⟨dd, _, u, rfl, h1, by simp, hQ u v μ S H (.refl ok) rd hR⟩
end
/-! ### try -/
section
variable {Z : Wld} {F : Fm} {W : WX}
def dsTryAs {M : Type} (i : Nat) (xs : List Str) (x : Str) (tb : DTS0 M) (ts : Addr → Value → Option Addr → DTS0 M) : DTS0 M := fun B ρ μ =>
  tb { B with ex := fun y ρ' μ' => y.cls ∈ xs ∧ if isSub y.cls x = true then ∀ a cls d, ts a cls d { nx := fun ρ2 μ2 => B.nx (ρ2.set i .un) μ2, rt := B.rt, bk := fun ρ2 μ2 => B.bk (ρ2.set i .un) μ2, ct := fun ρ2 μ2 => B.ct (ρ2.set i .un) μ2 } (ρ'.set i (.exc a cls d y)) μ' else B.ex y ρ' μ' } ρ μ
def dsTryO {M : Type} (xs : List Str) (x : Str) (tb : DTS0 M) (ts : DTS0 M) : DTS0 M := fun B ρ μ =>
  tb { B with ex := fun y ρ' μ' => y.cls ∈ xs ∧ if isSub y.cls x = true then ts { nx := B.nx, rt := B.rt, bk := B.bk, ct := B.ct } ρ' μ' else B.ex y ρ' μ' } ρ μ
theorem ds_tryAs {i : Nat} {x n : Str} {body suite : List Stmt} {b₀ : Stmt} {np pos pos' : Pos} {xs ys : List Str} {tb : DTS Z} {ts : Addr → Value → Option Addr → DTS Z} (A : ExAll F.K xs ys) (hx : x ∈ ys)
    (hs : ∀ j, (F.X j).stack = (F.X j).env :: (F.X j).outer) (hf : ∀ j, (F.X j).env.frame = some (F.X j).env.locals) (hN : ∀ j, (F.X j).N.Nodup) (hi : ∀ j, (F.X j).N[i]? = some n) (hln : ∀ j, (F.X j).env.kindOf n = some .local)
    (hc : ∀ j, Names (F.X j) x (clsV F.K x)) (tk : ∀ j, Takes (F.X j) W) (hb : ∀ W', DSs Z (F.tr W') W' body tb) (hsu : ∀ a cls d, DSs Z (F.suite a cls d) W0 (b₀ :: suite) (ts a cls d)) :
    DS Z F W (.Try body [.ExceptHandler (some (.Name x np)) (some n) (b₀ :: suite) pos'] [] [] pos) (dsTryAs i xs x tb ts) := by
  refine ⟨fun D σ H => (hb (wAs F.K (clsV F.K x) i (fun a cls d => (hsu a cls d).choose) W D)).choose D σ H, fun j => ?_, fun μ0 S0 H0 ρ σ μ S H B L r h k => ?_⟩
  · have q := ps_try_as (X := F.X j) (np := np) (pos := pos) (pos' := pos') (tb := fun W' => (hb W').choose) (ts := fun a cls d => (hsu a cls d).choose) (Wout := W) (hs j) (hf j) (hN j) (hi j) (hln j) (hc j) (tk j)
      (fun W' pn xe t1 t2 => (hb W').choose_spec.1 ⟨j, (pn, xe), t1, t2⟩) fun a oe cls d pn hz hv => (hsu a cls d).choose_spec.1 (j, ⟨(oe, pn), hz, hv⟩)
    rw [← F.hK j]
    rw [← F.hK j] at q
    exact q
  · refine (hb _).choose_spec.2 μ0 S0 H0 ρ σ μ S H _ L ⟨r.env, r.ext⟩ h ⟨fun ρ' σ' μ' S' H' r' => k.nx ρ' σ' μ' S' H' ⟨r'.env, r'.ext⟩, fun ρ' σ' μ' S' H' r' => k.bk ρ' σ' μ' S' H' ⟨r'.env, r'.ext⟩, fun ρ' σ' μ' S' H' r' => k.ct ρ' σ' μ' S' H' ⟨r'.env, r'.ext⟩, k.rt, fun y ρ' σ' μ' S' H' cls dd r' s' hx' hy => ?_⟩
    obtain ⟨hy1, hy2⟩ := hy
    refine ⟨isSub y.cls x, by rw [hx'.1]; exact (A.rel _ hy1 _ hx).2, fun e a ha => ?_, fun e => ?_⟩
    · rw [if_pos e] at hy2
      have env2 : EnvR F.K Z H0 μ' S' H' (ρ'.set i (.exc a cls dd y)) (σ'.set i (some (.ref a))) := EnvR.putExc r'.env ⟨rfl, hx'⟩
      have un : ∀ {ρ2 σ2 μ2 S2 H2}, Run (F.suite a cls dd) Z μ0 S0 H0 ρ2 σ2 μ2 S2 H2 → Run F Z μ0 S0 H0 (ρ2.set i .un) (σ2.set i none) μ2 S2 H2 := fun q => ⟨EnvR.putS q.env trivial (fun xs z => by cases z), q.ext⟩
      exact (hsu a cls dd).choose_spec.2 μ0 S0 H0 _ _ μ' S' H' _ _ ⟨env2, r'.ext⟩ (hy2 a cls dd) ⟨fun ρ2 σ2 μ2 S2 H2 q s2 => k.nx _ _ _ _ _ (un q) (s'.trans s2), fun ρ2 σ2 μ2 S2 H2 q s2 => k.bk _ _ _ _ _ (un q) (s'.trans s2), fun ρ2 σ2 μ2 S2 H2 q s2 => k.ct _ _ _ _ _ (un q) (s'.trans s2), k.rt, fun _ _ _ _ _ _ _ _ _ _ _ z => z.elim⟩
    · rw [if_neg (by rw [e]; decide)] at hy2
      exact k.ex y ρ' σ' μ' S' H' cls dd ⟨r'.env, r'.ext⟩ s' hx' hy2
theorem ds_tryO {x : Str} {body suite : List Stmt} {b₀ : Stmt} {np pos pos' : Pos} {xs ys : List Str} {tb ts : DTS Z} (A : ExAll F.K xs ys) (hx : x ∈ ys)
    (hs : ∀ j, (F.X j).stack = (F.X j).env :: (F.X j).outer) (hf : ∀ j, (F.X j).env.frame = some (F.X j).env.locals)
    (hc : ∀ j, Names (F.X j) x (clsV F.K x)) (tk : ∀ j, Takes (F.X j) W) (hb : ∀ W', DSs Z (F.tr W') W' body tb) (hsu : ∀ a cls d, DSs Z (F.suite a cls d) W0 (b₀ :: suite) ts) :
    DS Z F W (.Try body [.ExceptHandler (some (.Name x np)) none (b₀ :: suite) pos'] [] [] pos) (dsTryO xs x tb ts) := by
  refine ⟨fun D σ H => (hb (wOnly F.K (clsV F.K x) (fun a cls d => (hsu a cls d).choose) W D)).choose D σ H, fun j => ?_, fun μ0 S0 H0 ρ σ μ S H B L r h k => ?_⟩
  · have q := ps_try_only (X := F.X j) (np := np) (pos := pos) (pos' := pos') (tb := fun W' => (hb W').choose) (ts := fun a cls d => (hsu a cls d).choose) (Wout := W) (hs j) (hf j) (hc j) (tk j)
      (fun W' pn xe t1 t2 => (hb W').choose_spec.1 ⟨j, (pn, xe), t1, t2⟩) fun a oe cls d pn hz hv => (hsu a cls d).choose_spec.1 (j, ⟨(oe, pn), hz, hv⟩)
    rw [← F.hK j]
    rw [← F.hK j] at q
    exact q
  · refine (hb _).choose_spec.2 μ0 S0 H0 ρ σ μ S H _ L ⟨r.env, r.ext⟩ h ⟨fun ρ' σ' μ' S' H' r' => k.nx ρ' σ' μ' S' H' ⟨r'.env, r'.ext⟩, fun ρ' σ' μ' S' H' r' => k.bk ρ' σ' μ' S' H' ⟨r'.env, r'.ext⟩, fun ρ' σ' μ' S' H' r' => k.ct ρ' σ' μ' S' H' ⟨r'.env, r'.ext⟩, k.rt, fun y ρ' σ' μ' S' H' cls dd r' s' hx' hy => ?_⟩
    obtain ⟨hy1, hy2⟩ := hy
    refine ⟨isSub y.cls x, by rw [hx'.1]; exact (A.rel _ hy1 _ hx).2, fun e a ha => ?_, fun e => ?_⟩
    · rw [if_pos e] at hy2
      exact (hsu a cls dd).choose_spec.2 μ0 S0 H0 _ _ μ' S' H' _ _ ⟨r'.env, r'.ext⟩ hy2 ⟨fun ρ2 σ2 μ2 S2 H2 q s2 => k.nx _ _ _ _ _ ⟨q.env, q.ext⟩ (s'.trans s2), fun ρ2 σ2 μ2 S2 H2 q s2 => k.bk _ _ _ _ _ ⟨q.env, q.ext⟩ (s'.trans s2), fun ρ2 σ2 μ2 S2 H2 q s2 => k.ct _ _ _ _ _ ⟨q.env, q.ext⟩ (s'.trans s2), k.rt, fun _ _ _ _ _ _ _ _ _ _ _ z => z.elim⟩
    · rw [if_neg (by rw [e]; decide)] at hy2
      exact k.ex y ρ' σ' μ' S' H' cls dd ⟨r'.env, r'.ext⟩ s' hx' hy2
end
end DL
/-! text DLv -/
/-! DL: stars in tuples and lists that are written out. -/
namespace DL
open PySem PySem.Spec PyProof.Rows L2
section
variable (Z : Wld) (F : Fm) (W : WX)
/-- items, some of them under a star -/
def DAs (es : List Expr) (t : DTA Z) : Prop := ∃ te : TA, (∀ i, PA (F.X i) es te) ∧ ∀ (B : Hp) (ρ : Rho) (σ : L2.St) (μ : Z.M) (S H : Hp) (R : List D → Z.M → Prop) (E : Xc → Z.M → Prop) (Q : List V → Hp → Prop),
  EnvR F.K Z B μ S H ρ σ → Ok Z μ S H → t ρ μ R E → Wish Z F W B μ S H σ E →
  (∀ (vs : List V) (ds : List D) (μ' : Z.M) (S' H' : Hp), Ext Z μ S H μ' S' H' → RdL F.K (fb Z B μ') S' H' ds vs → R ds μ' → Q vs H') → te σ H Q
end
section
variable {Z : Wld} {F : Fm} {W : WX} {e : Expr} {es : List Expr} {ta : DT Z} {tR tA : DTA Z} {p pos : Pos}
def dStar {M : Type} (ta : DT0 M) (tR : DTA0 M) : DTA0 M := fun ρ μ R E => ta ρ μ (fun d μ1 => ∃ xs, itemsC d = some xs ∧ tR ρ μ1 (fun ds μ2 => R (xs ++ ds) μ2) E) E
theorem das_nil : DAs Z F W [] dNil := ⟨_, fun _ => pa_nil, fun B ρ σ μ S H R E Q env ok h hE hQ => hQ [] [] μ S H (.refl ok) rfl h⟩
theorem das_cons (ha : DE Z F W e ta) (hr : DAs Z F W es tR) (hs : ∀ i, starEach (e :: es) (F.X i).env = (false, eval e (F.X i).env) :: starEach es (F.X i).env := by intro _; rfl) : DAs Z F W (e :: es) (dCons ta tR) := by
  obtain ⟨ta', pa, ha⟩ := ha
  obtain ⟨tb', pb, hb⟩ := hr
  refine ⟨_, fun i => pa_cons (pa i) (pb i) (hs i), fun B ρ σ μ S H R E Q env ok h hE hQ => ?_⟩
  refine ha B ρ σ μ S H _ E _ env ok h hE fun v d μ1 S1 H1 x1 r1 h1 => ?_
  exact hb B ρ σ μ1 S1 H1 _ E _ (env.ext x1) x1.ok h1 (hE.ext x1) fun vs ds μ2 S2 H2 x2 r2 h2 => hQ (v :: vs) (d :: ds) μ2 S2 H2 (x1.trans x2) ⟨v, vs, rfl, r1.ext x2, r2⟩ h2
theorem das_star (ha : DE Z F W e ta) (hr : DAs Z F W es tR) (hs : ∀ i, starEach (.Starred e p :: es) (F.X i).env = (true, eval e (F.X i).env) :: starEach es (F.X i).env := by intro _; rfl) : DAs Z F W (.Starred e p :: es) (dStar ta tR) := by
  obtain ⟨ta', pa, ha⟩ := ha
  obtain ⟨tb', pb, hb⟩ := hr
  refine ⟨StX.tStar F.K ta' tb', fun i => by rw [← F.hK i]; exact StX.pa_star (pa i) (pb i) (hs i), fun B ρ σ μ S H R E Q env ok h hE hQ => ?_⟩
  refine ha B ρ σ μ S H _ E _ env ok h hE fun v d μ1 S1 H1 x1 r1 h1 => ?_
  obtain ⟨xs, e1, h1⟩ := h1
  obtain ⟨a, vs, rfl, q1, q2⟩ := items_inH x1.ok.sub r1 e1
  refine ⟨a, vs, rfl, q1.symm, ?_⟩
  exact hb B ρ σ μ1 S1 H1 _ E _ (env.ext x1) x1.ok h1 (hE.ext x1) fun ws ds μ2 S2 H2 x2 r2 h2 => hQ (vs ++ ws) (xs ++ ds) μ2 S2 H2 (x1.trans x2) ((q2.ext x2).append r2) h2
theorem dx_tupS {k} (h : DAs Z F W es tA) : DE Z F W (.Tuple es k pos) (dTup tA) := by
  obtain ⟨ta', pa, ha⟩ := h
  refine ⟨_, fun i => pe_tup (pa i), fun B ρ σ μ S H R E Q env ok h hE hQ => ?_⟩
  refine ha B ρ σ μ S H _ E _ env ok h hE fun vs ds μ1 S1 H1 x1 r1 h1 => ⟨by rw [r1.length]; exact h1.1, fun p hp => ?_⟩
  have x2 := x1.ok.put (o := .tup vs) hp
  exact hQ _ (.tup ds) μ1 _ _ (x1.trans x2) ⟨p, vs, rfl, SqT.of upd_same, r1.ext x2⟩ h1.2
theorem df_lstS (h : DAs Z F W es tA) : DF Z F W (.List es pos) (dLst tA) := by
  obtain ⟨ta', pa, ha⟩ := h
  refine ⟨_, fun i => pe_lst (pa i), fun B ρ σ μ S H R E Q env ok h hE hQ => ?_⟩
  refine ha B ρ σ μ S H _ E _ env ok h hE fun vs ds μ1 S1 H1 x1 r1 h1 => ⟨by rw [r1.length]; exact h1.1, fun p hp => ?_⟩
  obtain ⟨n0, n1, n2⟩ := new_own env x1 hp
  exact hQ p vs ds μ1 _ _ (x1.trans (x1.ok.putOwn hp)) n0 upd_same n1 n2 (r1.newOwn hp) h1.2
end
end DL
namespace DL
open PySem PySem.Spec PyProof.Rows L2
theorem mcl {mg : Str → Option Value} {K : PySem.W.Frag} {x : Str} (m : mg x = some (.ref (He.ga K x))) (h : bexc x = none := by decide) : mg x = some (clsV K x) := by
  unfold clsV
  rw [h]
  exact m
theorem pe_clsO {X : Cx} {x : Str} {p : Pos} (hg : Gl X x) (m : X.mg x = some (.ref (He.ga X.K x))) (h : bexc x = none := by decide) (hd : (x == ("__debug__" : Str)) = false := by decide) : PE X (.Name x p) (tC (vCls X.K x)) :=
  pe_glob hg m (by unfold vCls; rw [h]; rfl) hd
theorem pe_clsB {X : Cx} {x : Str} {id : String} {p : Pos} (hg : Gl X x) (m : X.mg x = none) (hv : bootBuiltins x = some (.type id)) (h : bexc x = some id) (hn : x ≠ "__name__" := by decide) (hd : (x == ("__debug__" : Str)) = false := by decide) : PE X (.Name x p) (tC (vCls X.K x)) :=
  pe_bltn hg m hv (by unfold vCls; rw [h]; rfl) hn hd
/-- what the head tells of some classes, put together -/
theorem exAll_of {K : PySem.W.Frag} {ex : List (Str × Str)} {rel : List (Str × Str × Bool)} (he : ∀ e ∈ ex, ExF.ok K e = true) (hr : ∀ r ∈ rel, RelF.ok K r = true) (xs ys : List Str) (h1 : (xs.all fun x => (bexc x).isNone && ex.any fun e => decide (e.1 = x)) = true)
    (h2 : (xs.all fun x => ys.all fun y => decide ((x, y, isSub x y) ∈ rel)) = true) : ExAll K xs ys where
  ec := fun x hx => by
    have h := List.all_eq_true.mp h1 x hx
    rw [Bool.and_eq_true] at h
    obtain ⟨e, he', q⟩ := List.any_eq_true.mp h.2
    obtain ⟨e1, e2⟩ := e
    have q' : e1 = x := of_decide_eq_true q
    subst q'
    exact ⟨Option.isNone_iff_eq_none.mp h.1, (ExF.facts (he _ he')).ec⟩
  rel := fun x hx y hy => by
    have h := hr _ (of_decide_eq_true (List.all_eq_true.mp (List.all_eq_true.mp h2 x hx) y hy))
    unfold RelF.ok at h
    simp only [Bool.and_eq_true, decide_eq_true_eq] at h
    exact h
end DL
/-! text TD -/
/-! DL: typed data (lamps, stretches, logs, runs), loops and comprehensions over typed lists. -/
namespace DL
open PySem PySem.Spec PyProof.Rows L2
section
variable {Z : Wld} {g : DG} {tb : DTS Z} {B : EndsD Z} {α : Type}
theorem loop_t (enc : α → D) (I : List α → Rho → Z.M → Prop) (hs : ∀ x xs ρ μ N, I (x :: xs) ρ μ → (∀ ρ' μ', I xs ρ' μ' → N ρ' μ') → g (enc x) ρ fun ρ' => tb { B with nx := N, ct := N, bk := B.nx } ρ' μ) (he : ∀ ρ μ, I [] ρ μ → B.nx ρ μ) :
    ∀ {xs ρ μ}, I xs ρ μ → loopD g tb B (xs.map enc) ρ μ
  | [], ρ, μ, h => he ρ μ h
  | x :: xs, ρ, μ, h => hs x xs ρ μ _ h fun ρ' μ' h' => loop_t enc I hs he h'
theorem loop_rg {lo : Int} {n : Nat} {ds : List D} (hrs : IsRg lo n ds) (I : Nat → Rho → Z.M → Prop)
    (hs : ∀ i ρ μ N, i < n → I i ρ μ → (∀ ρ' μ', I (i + 1) ρ' μ' → N ρ' μ') → g (.int (lo + (i : Nat))) ρ fun ρ' => tb { B with nx := N, ct := N, bk := B.nx } ρ' μ) (he : ∀ ρ μ, I n ρ μ → B.nx ρ μ) {ρ : Rho} {μ : Z.M} (h0 : I 0 ρ μ) : loopD g tb B ds ρ μ := by
  rw [hrs.e]
  have key : ∀ (m i : Nat) (ρ : Rho) (μ : Z.M), i + m = n → I i ρ μ → loopD g tb B (rangeF (lo + i) m) ρ μ := by
    intro m
    induction m with
    | zero => intro i ρ μ e h; rw [show i = n by omega] at h; exact he ρ μ h
    | succ m ih =>
      intro i ρ μ e h
      show g (.int (lo + i)) ρ _
      refine hs i ρ μ _ (by omega) h fun ρ' μ' h' => ?_
      have q := ih (i + 1) ρ' μ' (by omega) h'
      rw [show (lo + ((i + 1 : Nat) : Int)) = lo + i + 1 by omega] at q
      exact q
  have := key n 0 ρ μ (by omega) h0
  simpa using this
variable {tt : DTT Z} {te : DT Z} {R : List D → Z.M → Prop} {E : Xc → Z.M → Prop} {ρ : Rho}
theorem comp_inv (enc : α → D) (I : List α → List D → Z.M → Prop)
    (hs : ∀ x xs acc μ (N : List D → Z.M → Prop), I (x :: xs) acc μ → (∀ acc' μ', I xs acc' μ' → N acc' μ') → g (enc x) ρ fun ρ' => tt ρ' μ (fun b μ' => if b = true then te ρ' μ' (fun y μ2 => sta y = true ∧ acc.length < sizeLine ∧ N (acc ++ [y]) μ2) (fun _ _ => False) else N acc μ') fun _ _ => False)
    (he : ∀ acc μ, I [] acc μ → R acc μ) : ∀ {xs acc μ}, I xs acc μ → compD g tt te R E ρ (xs.map enc) acc μ
  | [], acc, μ, h => he acc μ h
  | x :: xs, acc, μ, h => hs x xs acc μ _ h fun acc' μ' h' => comp_inv enc I hs he h'
/-- each item gives one value of a function, the state stays -/
theorem comp_fun (enc : α → D) (f : α → D) {μ : Z.M} {xs : List α} (hl : xs.length ≤ sizeLine)
    (hs : ∀ x ∈ xs, ∀ (k : D → Z.M → Prop) (k' : Z.M → Prop), k (f x) μ → g (enc x) ρ fun ρ' => tt ρ' μ (fun b μ' => if b = true then te ρ' μ' k (fun _ _ => False) else k' μ') fun _ _ => False) (hf : ∀ x ∈ xs, sta (f x) = true)
    (h : R (xs.map f) μ) : compD g tt te R E ρ (xs.map enc) [] μ := by
  refine comp_inv enc (fun rem acc μ' => μ' = μ ∧ ∃ pre, xs = pre ++ rem ∧ acc = pre.map f) ?_ ?_ ⟨rfl, [], rfl, rfl⟩
  · rintro x rem acc μ' N ⟨rfl, pre, rfl, rfl⟩ hN
    have hx : x ∈ pre ++ x :: rem := by simp
    refine hs x hx _ _ ⟨hf x hx, by simp at hl ⊢; omega, hN _ _ ⟨rfl, pre ++ [x], by simp, by simp⟩⟩
  · rintro acc μ' ⟨rfl, pre, e, rfl⟩
    rw [List.append_nil] at e
    rw [← e]
    exact h
/-- items that pass a test give values -/
theorem comp_opt (enc : α → D) (f : α → Option D) {μ : Z.M} {xs : List α} (hl : xs.length ≤ sizeLine)
    (hs : ∀ x ∈ xs, ∀ (k : D → Z.M → Prop) (k' : Z.M → Prop), (match f x with | some y => k y μ | none => k' μ) → g (enc x) ρ fun ρ' => tt ρ' μ (fun b μ' => if b = true then te ρ' μ' k (fun _ _ => False) else k' μ') fun _ _ => False) (hf : ∀ x ∈ xs, ∀ y, f x = some y → sta y = true)
    (h : R (xs.filterMap f) μ) : compD g tt te R E ρ (xs.map enc) [] μ := by
  refine comp_inv enc (fun rem acc μ' => μ' = μ ∧ ∃ pre, xs = pre ++ rem ∧ acc = pre.filterMap f) ?_ ?_ ⟨rfl, [], rfl, rfl⟩
  · rintro x rem acc μ' N ⟨rfl, pre, rfl, rfl⟩ hN
    have hx : x ∈ pre ++ x :: rem := by simp
    have hlen : (pre.filterMap f).length < sizeLine := by
      have := List.length_filterMap_le f pre
      simp at hl
      omega
    refine hs x hx _ _ ?_
    cases e : f x with
    | some y => exact ⟨hf x hx y e, hlen, hN _ _ ⟨rfl, pre ++ [x], by simp, by simp [e]⟩⟩
    | none => exact hN _ _ ⟨rfl, pre ++ [x], by simp, by simp [e]⟩
  · rintro acc μ' ⟨rfl, pre, e, rfl⟩
    rw [List.append_nil] at e
    rw [← e]
    exact h
end
/-- items numbered -/
def enI {α : Type} : Int → List α → List (Int × α)
  | _, [] => []
  | i, x :: xs => (i, x) :: enI (i + 1) xs
theorem enumF_map {α : Type} (enc : α → D) : ∀ (i : Nat) (xs : List α), enumF i (xs.map enc) = (enI i xs).map fun p => .tup [.int p.1, enc p.2]
  | _, [] => rfl
  | i, x :: xs => by
    rw [List.map_cons, enumF, enumF_map enc (i + 1) xs, enI, List.map_cons]
    rfl
theorem enI_length {α : Type} : ∀ (i : Int) (xs : List α), (enI i xs).length = xs.length
  | _, [] => rfl
  | i, x :: xs => by rw [enI, List.length_cons, enI_length, List.length_cons]
theorem zipF_map {α β : Type} (f : α → D) (g : β → D) : ∀ (xs : List α) (ys : List β), zipF (xs.map f) (ys.map g) = (xs.zip ys).map fun p => .tup [f p.1, g p.2]
  | [], _ => by simp [zipF]
  | x :: xs, [] => by simp [zipF]
  | x :: xs, y :: ys => by
    rw [List.map_cons, List.map_cons, zipF, zipF_map f g xs ys, List.zip_cons_cons, List.map_cons]
theorem rangeF_map : ∀ (lo : Int) (n : Nat), rangeF lo n = ((List.range n).map fun (i : Nat) => lo + (i : Int)).map D.int := by
  intro lo n
  induction n generalizing lo with
  | zero => rfl
  | succ n ih =>
    rw [rangeF, ih, List.range_succ_eq_map, List.map_cons, List.map_map, List.map_cons, List.map_map, List.map_map]
    congr 1
    · simp
    · apply List.map_congr_left
      intro a _
      simp
      omega
/-! ### lamps, stretches, logs, runs -/
abbrev Lg := List (Int × Int)
abbrev Lamp := Bool × Int
abbrev Rn := Int × Int × Int
def kS (k : Bool) : Str := if k = true then "hold" else "pulse"
def pD (p : Int × Int) : D := .tup [.int p.1, .int p.2]
def logD (g : Lg) : D := .tup (g.map pD)
def lampD (l : Lamp) : D := .tup [.str (kS l.1), .int l.2]
def rnD (r : Rn) : D := .tup [.int r.1, .int r.2.1, .int r.2.2]
def runsD (m : List Rn) : D := .tup (m.map rnD)
def intsT (ns : List Int) : D := .tup (ns.map D.int)
def intsL (ns : List Int) : D := .lst (ns.map D.int)
theorem kS_hold {k : Bool} : decide (kS k = "hold") = k := by cases k <;> decide
theorem kS_pulse {k : Bool} : decide (kS k = "pulse") = !k := by cases k <;> decide
theorem staL_map {α : Type} {f : α → D} (h : ∀ x, sta (f x) = true) (xs : List α) : staL (xs.map f) = true := staL_all.mpr fun d hd => by
  obtain ⟨x, _, rfl⟩ := List.mem_map.mp hd
  exact h x
theorem sta_p (p : Int × Int) : sta (pD p) = true := rfl
theorem sta_rn (p : Rn) : sta (rnD p) = true := rfl
theorem sta_lamp (p : Lamp) : sta (lampD p) = true := rfl
theorem staL_ints (ns : List Int) : staL (ns.map D.int) = true := staL_map (fun _ => rfl) ns
theorem staL_p (g : Lg) : staL (g.map pD) = true := staL_map sta_p g
theorem staL_rn (g : List Rn) : staL (g.map rnD) = true := staL_map sta_rn g
theorem staL_lamp (g : List Lamp) : staL (g.map lampD) = true := staL_map sta_lamp g
theorem sta_ints (ns : List Int) : sta (intsL ns) = true := by unfold intsL; simp only [sta]; exact staL_ints ns
theorem sta_log (g : Lg) : sta (logD g) = true := by unfold logD; simp only [sta]; exact staL_p g
theorem staL_log (g : List Lg) : staL (g.map logD) = true := staL_map sta_log g
theorem sta_runs (g : List Rn) : sta (runsD g) = true := by unfold runsD; simp only [sta]; exact staL_rn g
theorem map_nil_iff {α β : Type} {f : α → β} {xs : List α} : (xs.map f).isEmpty = xs.isEmpty := by cases xs <;> rfl
theorem atI_map {α β : Type} (f : α → β) (xs : List α) (i : Int) : atI (xs.map f) i = (atI xs i).map f := by
  unfold atI
  rw [List.length_map]
  cases ixN xs.length i with
  | none => rfl
  | some j => simp
theorem cutL_map {α β : Type} (f : α → β) (xs : List α) (lo hi : Option Int) : cutL (xs.map f) lo hi = (cutL xs lo hi).map f := by
  unfold cutL
  rw [List.length_map, List.map_take, List.map_drop]
theorem at_last {α : Type} (xs : List α) (x : α) : atI (xs ++ [x]) (-1) = some x := by
  unfold atI ixN
  rw [if_neg (by decide), if_pos (by simp; omega)]
  show (xs ++ [x])[(-1 + ((xs ++ [x]).length : Int)).toNat]? = _
  rw [show (-1 + ((xs ++ [x]).length : Int)).toNat = xs.length by rw [List.length_append, List.length_singleton]; omega]
  simp
theorem ix_last {α : Type} (xs : List α) (x : α) : ixN (xs ++ [x]).length (-1) = some xs.length := by
  unfold ixN
  rw [if_neg (by decide), if_pos (by simp; omega), show (-1 + ((xs ++ [x]).length : Int)).toNat = xs.length by rw [List.length_append, List.length_singleton]; omega]
theorem set_last {α : Type} (xs : List α) (x y : α) : (xs ++ [x]).set xs.length y = xs ++ [y] := by simp
theorem app_ne {α : Type} (xs : List α) (x : α) : (xs ++ [x]).isEmpty = false := by cases xs <;> rfl
theorem at_all {α : Type} {xs : List α} {k : Int} {Q : α → Prop} (h : (xs.length : Int) = k) : (∀ m : Int, 0 ≤ m → m < k → ∃ d, atI xs m = some d ∧ Q d) ↔ ∀ d ∈ xs, Q d := by
  constructor
  · intro q d hd
    obtain ⟨j, hj, e⟩ := List.mem_iff_getElem.mp hd
    obtain ⟨d', e1, q1⟩ := q (j : Int) (by omega) (by omega)
    unfold atI ixN at e1
    rw [if_pos (by omega), if_pos (by omega)] at e1
    have e2 : xs[j]? = some d' := e1
    rw [List.getElem?_eq_getElem hj, e] at e2
    cases e2
    exact q1
  · intro q m h0 h1
    obtain ⟨a, e, hm, _⟩ := at_nat (l := xs) h0 (by omega)
    exact ⟨a, e, q a hm⟩
theorem q_set {i : Int} {m : Nat} {P : Nat → Prop} : (∃ (k : Int) (j : Nat), D.int i = .int k ∧ ixN m k = some j ∧ P j) ↔ ∃ j, ixN m i = some j ∧ P j := ⟨by rintro ⟨k, j, e, h⟩; cases e; exact ⟨j, h⟩, fun ⟨j, h⟩ => ⟨i, j, rfl, h⟩⟩
theorem at3 {α : Type} {a b c d : α} {l : List α} : atI (a :: b :: c :: d :: l) 3 = some d := by
  unfold atI ixN
  rw [if_pos (by decide), if_pos (by simp; omega)]
  rfl
theorem at_two {α : Type} {a b : α} {Q : α → Prop} : (∀ m : Int, 0 ≤ m → m < 2 → ∃ d, atI [a, b] m = some d ∧ Q d) ↔ (Q a ∧ Q b) := (at_all (xs := [a, b]) (Q := Q) rfl).trans (by simp)
theorem at_three {α : Type} {a b c : α} {Q : α → Prop} : (∀ m : Int, 0 ≤ m → m < 3 → ∃ d, atI [a, b, c] m = some d ∧ Q d) ↔ (Q a ∧ Q b ∧ Q c) := (at_all (xs := [a, b, c]) (Q := Q) rfl).trans (by simp)
theorem at_four {α : Type} {a b c d : α} {Q : α → Prop} : (∀ m : Int, 0 ≤ m → m < 4 → ∃ x, atI [a, b, c, d] m = some x ∧ Q x) ↔ (Q a ∧ Q b ∧ Q c ∧ Q d) := (at_all (xs := [a, b, c, d]) (Q := Q) rfl).trans (by simp)
end DL
/-! text TM -/
/-! DL: typed data is tame. -/
namespace DL
open PySem PySem.Spec PyProof.Rows L2
def BI (i : Int) : Prop := i.natAbs < 2 ^ 200
def BP (p : Int × Int) : Prop := BI p.1 ∧ BI p.2
def BR (r : Rn) : Prop := BI r.1 ∧ BI r.2.1 ∧ BI r.2.2
theorem tm_sta {n k : Nat} {d : D} (h : DL.Tm n k d) : sta d = true := tame_sta d h.t
theorem tmL_sta {n k : Nat} {d : List D} (h : DL.TmL n k d) : staL d = true := tameL_sta d h.t
theorem tm_bl {b : Bool} : DL.Tm 1 0 (.bl b) := ⟨rfl, Nat.le_refl _, Nat.le_refl _⟩
theorem tm_non : DL.Tm 1 0 .non := ⟨rfl, Nat.le_refl _, Nat.le_refl _⟩
theorem tm_two {n m k : Nat} {a b : D} (h : DL.Tm n k a) (g : DL.Tm m k b) : DL.TmL (n + m) k [a, b] := TmL.cons h (TmL.cons (m := 0) g TmL.nil)
theorem tm_one {n k : Nat} {a : D} (h : DL.Tm n k a) : DL.TmL n k [a] := TmL.cons (m := 0) h TmL.nil
theorem tmL_of {α : Type} {f : α → D} {n k : Nat} {xs : List α} (h : ∀ x ∈ xs, DL.Tm n k (f x)) : DL.TmL (xs.length * n) k (xs.map f) := by
  have h' : ∀ d ∈ xs.map f, DL.Tm n k d := fun d hd => by
    obtain ⟨x, hx, rfl⟩ := List.mem_map.mp hd
    exact h x hx
  refine ⟨tameL_all.mpr fun x hx => (h' x hx).t, ?_, depL_le.mpr fun x hx => (h' x hx).k⟩
  have := nodesL_le (n := n) fun x hx => (h' x hx).n
  rw [List.length_map] at this
  exact this
theorem tmL_le {α : Type} {f : α → D} {n k N m : Nat} {xs : List α} (h : ∀ x ∈ xs, DL.Tm n k (f x)) (hl : xs.length ≤ m) (hm : m * n ≤ N) : DL.TmL N k (xs.map f) :=
  (tmL_of h).mono (Nat.le_trans (Nat.mul_le_mul_right n hl) hm) (Nat.le_refl k)
theorem tm_p {p : Int × Int} (h : BP p) : DL.Tm 3 1 (pD p) := (tm_two (Tm.int h.1) (Tm.int h.2)).tup
theorem tm_rn {p : Rn} (h : BR p) : DL.Tm 4 1 (rnD p) := (TmL.cons (Tm.int h.1) (tm_two (Tm.int h.2.1) (Tm.int h.2.2))).tup
theorem tm_kS {k : Bool} : DL.Tm 1 0 (.str (kS k)) := ⟨by cases k <;> decide, Nat.le_refl _, Nat.le_refl _⟩
theorem tm_lamp {l : Lamp} (h : BI l.2) : DL.Tm 3 1 (lampD l) := (tm_two tm_kS (Tm.int h)).tup
theorem tm_log {g : Lg} (m : Nat) (h : ∀ s ∈ g, BP s) (hl : g.length ≤ m) : DL.Tm (m * 3 + 1) 2 (logD g) := (tmL_le (fun x hx => tm_p (h x hx)) hl (Nat.le_refl _)).tup
theorem tm_runs {g : List Rn} (m : Nat) (h : ∀ s ∈ g, BR s) (hl : g.length ≤ m) : DL.Tm (m * 4 + 1) 2 (runsD g) := (tmL_le (fun x hx => tm_rn (h x hx)) hl (Nat.le_refl _)).tup
theorem tm_intsT {g : List Int} (m : Nat) (h : ∀ s ∈ g, BI s) (hl : g.length ≤ m) : DL.Tm (m * 1 + 1) 1 (intsT g) := (tmL_le (fun x hx => Tm.int (h x hx)) hl (Nat.le_refl _)).tup
theorem tm_intsL {g : List Int} (m : Nat) (h : ∀ s ∈ g, BI s) (hl : g.length ≤ m) : DL.Tm (m * 1 + 1) 1 (intsL g) := (tmL_le (fun x hx => Tm.int (h x hx)) hl (Nat.le_refl _)).lst
/-! items numbered -/
theorem rangeF_en {α : Type} : ∀ (lo : Int) (g : List α), rangeF lo g.length = (enI lo g).map fun p => D.int p.1
  | _, [] => rfl
  | lo, x :: g => by rw [List.length_cons, rangeF, enI, List.map_cons, rangeF_en (lo + 1) g]
theorem enI_at {α : Type} : ∀ {lo : Int} {g : List α} {p : Int × α}, p ∈ enI lo g → ∃ j : Nat, p.1 = lo + j ∧ g[j]? = some p.2
  | lo, x :: g, p, h => by
    rcases List.mem_cons.mp h with e | e
    · exact ⟨0, by rw [e]; simp, by rw [e]; rfl⟩
    · obtain ⟨j, e1, e2⟩ := enI_at e
      exact ⟨j + 1, by rw [e1]; omega, by simpa using e2⟩
theorem enI_atI {α : Type} {g : List α} {p : Int × α} (h : p ∈ enI 0 g) : atI g p.1 = some p.2 := by
  obtain ⟨j, e1, e2⟩ := enI_at h
  have hj := (List.getElem?_eq_some_iff.mp e2).1
  unfold atI ixN
  rw [if_pos (by omega), if_pos (by omega), e1]
  show g[(0 + (j : Int)).toNat]? = _
  rw [show (0 + (j : Int)).toNat = j by omega]
  exact e2
theorem enI_mem {α : Type} {lo : Int} {g : List α} {p : Int × α} (h : p ∈ enI lo g) : p.2 ∈ g := by
  obtain ⟨j, _, e⟩ := enI_at h
  exact List.mem_of_getElem? e
end DL
/-! text DLw -/
/-! DL: defs as values: handed over, called through a local name. -/
namespace DL
open PySem PySem.Spec PyProof.Rows L2
section
variable {Z : Wld} {F : Fm} {W : WX} {e : Expr} {es : List Expr} {tA : DTA Z} {x : Str} {p pos : Pos}
theorem dx_fnv (hg : ∀ i, Gl (F.X i) x) (hm : ∀ i, (F.X i).mg x = some (.ref (He.ga F.K x))) (hdb : (x == ("__debug__" : Str)) = false := by decide) :
    DE Z F W (.Name x p) (dC (.fn x)) := dx_c (fun i => pe_glob (v := .ref (He.ga F.K x)) (hg i) (hm i) rfl hdb) fun _ _ _ => rfl
/-- defs that a local name may hold: their names and what they answer -/
def KnL (P : Program) (w : World) (K : PySem.W.Frag) (mg : Str → Option Value) (base : Heap) (n k : Nat) (l : List (Str × SpD Z)) : Prop :=
  ∀ q ∈ l, ∃ (k' : Nat) (fd : FuncData) (ps : List Str), k' ≤ k ∧ FnG P w K mg base k' (He.ga K q.1) fd ps (spOf K Z n q.2) ∧ PySem.W.keepIn K (.ref (He.ga K q.1)) = true ∧ Binds K fd ps []
def dCallV {M : Type} (i : Nat) (l : List (Str × SpD0 M)) (tA : DTA0 M) : DT0 M := fun ρ μ R E => ∃ x sp, ρ[i]? = some (.val (.fn x)) ∧ (x, sp) ∈ l ∧ dCall sp tA ρ μ R E
theorem dx_callV {i k n : Nat} {l : List (Str × SpD Z)} (A : ∀ j, KnL (F.X j).prog (F.X j).w (F.X j).K (F.X j).mg (F.X j).base n k l) (hr : ∀ j, Room k (F.X j).A) (gu : ∀ j, (F.X j).A.guards = some [])
    (hN : ∀ j, (F.X j).N[i]? = some x) (hv : ∀ j, Vis (F.X j).env.scope x) (tk : ∀ j, Takes (F.X j) W) (ha : DA Z F W (e :: es) tA) (hn : (e :: es).length = n := by rfl)
    (hdb : (x == ("__debug__" : Str)) = false := by decide) (hcd : (x == ("__classdict__" : Str)) = false := by decide) (he : ∀ j, starEach (e :: es) (F.X j).env = (false, eval e (F.X j).env) :: starEach es (F.X j).env := by intro _; rfl) (hpl : ∀ j, (backTo pos (starEach es (F.X j).env)).any (·.1) = false := by intro _; rfl) :
    DE Z F W (.Call (.Name x p) (e :: es) [] pos) (dCallV i l tA) := by
  obtain ⟨ta, pa, ha⟩ := ha
  refine ⟨fun σ H Q => ∃ q ∈ l, σ[i]? = some (some (.ref (He.ga F.K q.1))) ∧ tCallS (spOf F.K Z n q.2) (fun σ cls d H' => W cls d σ H') ta σ H Q, fun j => ⟨fun pins s σ H Q I h => ?_⟩, fun B ρ σ μ S H R E Q env ok h hE hQ => ?_⟩
  · obtain ⟨q, hq, hs, ht⟩ := h
    obtain ⟨k', fd, ps, hk', G, hkp, hb⟩ := A j q hq
    rw [F.hK j] at G hkp hb
    refine wpAny_Call_Name_kw (thn ((pe_var (X := F.X j) (pos := p) (hN j) (hv j) hdb hcd).run pins s σ H (fun v H1 => v = .ref (He.ga F.K q.1) ∧ H1 = H) I ⟨.ref _, hs, rfl, rfl⟩) fun u s1 ⟨v, H1, I1, r1, q1⟩ => ?_)
    obtain ⟨rfl, rfl⟩ := q1
    cases r1
    exact PySem.W.callWith_K (h₀ := (F.X j).base) I.ok.mod.kin (by rw [F.hK j]; exact hkp) (thn ((pa j).run pos pins s1 σ H1 _ I1 ht) fun us s2 ⟨vs, H2, I2, r, q2⟩ => ⟨I2.kIn, run_g (X := F.X j) (by rw [F.hK j]; exact G) ((hr j).mono hk') (gu j) (by rw [F.hK j]; exact hb) (passAt (tk j) σ) I2 r q2⟩) (he j) (hpl j)
  · obtain ⟨y, sp, hy, hl, h⟩ := h
    refine ⟨(y, sp), hl, ?_, ?_⟩
    · obtain ⟨o, e1, v, rfl, _, r⟩ := env.get i _ hy
      rw [e1, show v = .ref (He.ga F.K y) from r]
    · refine ha B ρ σ μ S H _ E _ env ok h hE fun vs ds μ1 S1 H1 x1 r1 l1 h1 => ?_
      refine ⟨by rw [r1.length, l1, hn], ds, μ1, S1, R, E, x1.ok, r1.sta (Same.refl S1) _ _ h1.1, h1.1, h1.2, fun v d μ' S' H' x2 st rd hd => hQ v d μ' S' H' (x1.trans x2) (rd.sta (Same.refl S') _ _ st) hd, fun y μ' S' H' cls dd x2 xr hy => hE y μ' S' H' cls dd (x1.trans x2) xr.sta hy⟩
end
end DL
/-! text DLla -/
/-! DL: a world with tables of code objects (of defs that hold lambdas); what is promised without them is promised with them. -/
namespace DL
open PySem PySem.Spec PyProof.Rows L2
def TabR (S H : Hp) (P : Addr) (q : Str) : Prop := ∃ ps : Array Value, H P = some (.tbl ps) ∧ TriplesOk ps.toList ∧ ∀ (pos : Pos) (cv : Value), codeAmong pos ps.toList = some cv → ∃ c, cv = .ref c ∧ S c = some (LamX.CodeO c q)
theorem TabR.move {S H S' H' : Hp} {P : Addr} {q : Str} (t : TabR S H P q) (e : Same S S') (k : H' P = H P) : TabR S' H' P q := by
  obtain ⟨ps, h1, h2, h3⟩ := t
  refine ⟨ps, k.trans h1, h2, fun pos cv hc => ?_⟩
  obtain ⟨c, e1, e2⟩ := h3 pos cv hc
  exact ⟨c, e1, e _ _ e2⟩
theorem TabR.ne {S H : Hp} {P : Addr} {q : Str} (t : TabR S H P q) : H P ≠ none := by
  obtain ⟨ps, h1, _⟩ := t
  rw [h1]; simp
theorem TabR.nil {S H : Hp} {P : Addr} {q : Str} (h : H P = some (.tbl #[])) : TabR S H P q := ⟨#[], h, True.intro, fun pos cv hc => by
  have z : codeAmong pos [] = some cv := hc
  simp [codeAmong] at z⟩
abbrev tblW (Z : Wld) (T : List (Addr × Str)) : Wld where
  M := Z.M
  reg := fun μ a => Z.reg μ a ∨ ∃ p ∈ T, a = p.1
  J := fun μ S H => Z.J μ S H ∧ ∀ p ∈ T, ¬ Z.reg μ p.1 ∧ TabR S H p.1 p.2
  held := fun {μ S H a} j r => by
    rcases r with r | ⟨p, hp, rfl⟩
    · exact Z.held j.1 r
    · exact (j.2 p hp).2.ne
  loc := fun {μ S S' H H'} j sm e => ⟨Z.loc j.1 sm fun a r => e a (.inl r), fun p hp => ⟨(j.2 p hp).1, (j.2 p hp).2.move sm (e _ (.inr ⟨p, hp, rfl⟩))⟩⟩
section
variable {Z : Wld} {T : List (Addr × Str)} {μ μ' : Z.M} {S H S' H' : Hp}
theorem Ok.tb (h : Ok (tblW Z T) μ S H) : Ok Z μ S H := ⟨h.sub, h.j.1, fun a r => h.off a (.inl r), h.nt⟩
theorem Ext.tb (ok : Ok (tblW Z T) μ S H) (x : Ext Z μ S H μ' S' H') : Ext (tblW Z T) μ S H μ' S' H' := by
  have tab : ∀ p ∈ T, ¬ Z.reg μ' p.1 ∧ H' p.1 = H p.1 ∧ S' p.1 = none := fun p hp => by
    obtain ⟨n, ps, h1, _⟩ := ok.j.2 p hp
    refine ⟨fun r => ?_, (x.keep _ _ n NT.all h1).trans h1.symm, ?_⟩
    · rcases x.reg _ r with z | z
      · exact n z
      · exact z.nt h1
    · cases q : S' p.1 with
      | none => rfl
      | some o =>
        rcases x.new _ (by rw [q]; simp) with z | z
        · exact absurd (ok.off p.1 (.inr ⟨p, hp, rfl⟩)) z
        · exact z.nt h1
  refine ⟨⟨x.ok.sub, ⟨x.ok.j, fun p hp => ⟨(tab p hp).1, (ok.j.2 p hp).2.move x.same (tab p hp).2.1⟩⟩, fun a r => ?_, x.ok.nt⟩, fun a o n _ e => x.keep a o (fun r => n (.inl r)) NT.all e, x.same, x.new, fun a r => ?_, x.there⟩
  · rcases r with r | ⟨p, hp, rfl⟩
    · exact x.ok.off a r
    · exact (tab p hp).2.2
  · rcases r with r | r
    · exact (x.reg a r).imp .inl id
    · exact .inl (.inr r)
end
section
variable {P : Program} {w : World} {K : PySem.W.Frag} {mg : Str → Option Value} {base : Heap} {Z : Wld} {T : List (Addr × Str)}
theorem sp_tb {n : Nat} {sp : SpD Z} {vs : List V} {H : Hp} {Q : VK} {E : XK} (h : spOf K (tblW Z T) n sp vs H Q E) : spOf K Z n sp vs H Q E := by
  obtain ⟨hl, ds, μ, S, R, Ed, ok, rd, st, hs, hQ, hE⟩ := h
  refine ⟨hl, ds, μ, S, R, Ed, ok.tb, RdL.sta (Same.refl S) _ _ st rd, st, hs, fun v d μ' S' H' x s r hr => ?_, fun y μ' S' H' cls dd x hx hy => ?_⟩
  · exact hQ v d μ' S' H' (x.tb ok) s (r.sta (Same.refl S') _ _ s) hr
  · exact hE y μ' S' H' cls dd (x.tb ok) hx.sta hy
theorem FnG.tb {k n : Nat} {f : Addr} {fd : FuncData} {ps : List Str} {sp : SpD Z} (G : FnG P w K mg base k f fd ps (spOf K Z n sp)) : FnG P w K mg base k f fd ps (spOf K (tblW Z T) n sp) :=
  ⟨fun vs H Q E h => G.len vs H Q E (sp_tb h), fun A outer s H args us vs Q E hr gu e0 hb r h => G.run A outer s H args us vs Q E hr gu e0 hb r (sp_tb h)⟩
theorem Kn.tb {x : Str} {k n : Nat} {f : Addr} {fd : FuncData} {ps : List Str} {sp : SpD Z} (n_ : Kn P w K mg base x k ps f fd (spOf K Z n sp)) : Kn P w K mg base x k ps f fd (spOf K (tblW Z T) n sp) := ⟨n_.G.tb, n_.m, n_.kp, n_.bd⟩
/-- a def run at the very state -/
theorem fn_gS {x qual : Str} {st : Stmt} {f : Addr} {fd : FuncData} {N ps : List Str} {k : Nat} (F : Fun K x qual st f fd) (S : FnScope N ps (defScope st)) {A : Around} {outer : List PySem.Env} {s : Shared} {H : Hp} {args : Args} {us : List Value} {vs : List V} {Q : VK} {E : XK}
    (hr : Room (k + 1) A) (gu : A.guards = some []) (e0 : Env0 P w K mg base A outer s H) (hb : BindsTo s fd args (ps.zip us)) (r : Vals vs us) (hl : vs.length = ps.length)
    (hbody : ∀ cdv : Value, fd.code = cdv → Room k (A.deeper (envOfC qual (defScope st) s.heap.objs.size f cdv)) → (A.deeper (envOfC qual (defScope st) s.heap.objs.size f cdv)).guards = some [] →
      ∃ t, PSs (cxOf (L2.CX P w) P w K mg base N qual (defScope st) f cdv A outer s H E) (defBody st) t ∧ t { nx := fun _ H' => Q .non H', rt := Q } (L2.start N vs) H) :
    codeAny (model P w) A (.call (.ref f) args) (CR (L2.CX P w) outer P w H s Q E) s := by
  obtain ⟨oc, od, kV, doc, pm, an, cdv, ct, osl, rfl, lk, hcd⟩ := F.ex
  have KX : K.In s.heap := e0.mod.kin.keeps fun b o e => (e0.bs b o e).1
  have hk : ∀ y ∈ ps.zip us, (defScope st).names.lookup y.1 = some .local ∨ ((defScope st).names.lookup y.1 = some .cell ∧ ((cellsFrom (s.heap.objs.size + 1) (defScope st).names []).lookup y.1).isSome = true) := fun ⟨n, v⟩ hy =>
    (S.par n (List.of_mem_zip hy).1).imp id fun q => ⟨q, PySem.W.cellsFrom_some _ _ _ (.inl q)⟩
  refine codeAny_call_function hr.depth (KX _ _ lk) rfl S.co S.gen rfl (PySem.W.codeRec_of KX hcd) (hb _ _ _ _ ?_)
  refine wpAny_newFunctionEnv_cells S.kind hk fun env he s1 x => ?_
  subst he
  refine ⟨(e0.mod.nolimit.keeps fun b o e => (e0.bs b o e).1).keeps x.toInCall.keep, codeAny_func ?_⟩
  obtain ⟨t, ht, hq⟩ := hbody cdv rfl (hr.deeper _) gu
  refine wpAny_mono (ht.run [] s1 (L2.start N vs) H _ (inv_start S hr.hd e0 hl r x) hq) (fun fl s' hs => ?_) fun e s' hs => hs
  cases fl with
  | ret u => obtain ⟨v, σ', H', J, rv, q⟩ := hs; exact ⟨v, H', J.os, J.bare, J.base, J.hok, rv, q⟩
  | next => obtain ⟨σ', H', J, q⟩ := hs; exact ⟨.non, H', J.os, J.bare, J.base, J.hok, rfl, q⟩
  | brk => obtain ⟨_, _, _, q⟩ := hs; exact False.elim q
  | cont => obtain ⟨_, _, _, q⟩ := hs; exact False.elim q
/-- fn_d where the code object's place is known -/
theorem fn_dC {x qual : Str} {st : Stmt} {f c : Addr} {fd : FuncData} {N ps : List Str} {k : Nat} {sp : SpD Z} {t : DTS Z} (F : Fun K x qual st f fd) (hc : fd.code = .ref c) (S : FnScope N ps (defScope st))
    (hb : ∀ (A : Around) (outer : List PySem.Env) (s : Shared) (H : Hp) (E : XK), Room k (A.deeper (envOfC qual (defScope st) s.heap.objs.size f (.ref c))) → (A.deeper (envOfC qual (defScope st) s.heap.objs.size f (.ref c))).guards = some [] →
      DSs Z (Fm.one (cxOf (L2.CX P w) P w K mg base N qual (defScope st) f (.ref c) A outer s H E)) (fun cls d _ H' => E cls d H') (defBody st) t)
    (h : ∀ ds μ R Ed, ds.length = ps.length → sp ds μ R Ed → staL ds = true → t { nx := fun _ μ' => R .non μ', rt := R, ex := fun x _ μ' => Ed x μ' } (startD N ds) μ) :
    FnG P w K mg base (k + 1) f fd ps (spOf K Z ps.length sp) := by
  refine ⟨fun vs H Q E q => q.1, fun A outer s H args us vs Q E hr gu e0 hb' r q => ?_⟩
  obtain ⟨hl, ds, μ, S0, R, Ed, ok, rd, st', hsp, hQ, hE⟩ := q
  refine fn_gS F S hr gu e0 hb' r hl fun cdv hcv hr2 gu2 => ?_
  obtain rfl : cdv = .ref c := hcv.symm.trans hc
  obtain ⟨ts, pt, ht⟩ := hb A outer s H E hr2 gu2
  refine ⟨ts, pt (), ht μ S0 H _ _ μ S0 H _ _ ⟨start_env rd st', .refl ok⟩ (h ds μ R Ed (by rw [← rd.length]; exact hl) hsp st') ⟨fun ρ' σ' μ' S' H' r s h => ?_, fun _ _ _ _ _ _ _ h => h.elim, fun _ _ _ _ _ _ _ h => h.elim, fun v d μ' S' H' x s r h => hQ v d μ' S' H' x s r h, fun y ρ' σ' μ' S' H' cls dd r s q h => hE y μ' S' H' cls dd r.ext q h⟩⟩
  exact hQ .non .non μ' S' H' r.ext rfl rfl h
end
end DL
/-! text DLlb -/
/-! DL: x(lambda: e), x a def that calls what it got (a teller). -/
namespace DL
open PySem PySem.Spec PyProof.Rows L2
/-- what a thunk answers: by data -/
abbrev Th (M : Type) := M → (D → M → Prop) → (Xc → M → Prop) → Prop
def thOf {M : Type} (tb : DT0 M) (ρ : Rho) : Th M := fun μ R E => ∃ (R0 : D → M → Prop) (E0 : Xc → M → Prop), tb ρ μ (fun d μ' => sta d = true ∧ R0 d μ') E0 ∧ (∀ d μ', R0 d μ' → R d μ') ∧ ∀ x μ', E0 x μ' → E x μ'
theorem thOf_mk {M : Type} {tb : DT0 M} {ρ : Rho} {μ : M} {R : D → M → Prop} {E : Xc → M → Prop} (h : tb ρ μ (fun d μ' => sta d = true ∧ R d μ') E) : thOf tb ρ μ R E := ⟨R, E, h, fun _ _ h => h, fun _ _ h => h⟩
def ThM {M : Type} (th : Th M) : Prop := ∀ (μ : M) (R R' : D → M → Prop) (E E' : Xc → M → Prop), th μ R E → (∀ d μ', R d μ' → R' d μ') → (∀ x μ', E x μ' → E' x μ') → th μ R' E'
theorem thOf_m {M : Type} {tb : DT0 M} {ρ : Rho} : ThM (thOf tb ρ) := fun μ R R' E E' ⟨R0, E0, h, h1, h2⟩ g1 g2 => ⟨R0, E0, h, fun d μ' q => g1 d μ' (h1 d μ' q), fun x μ' q => g2 x μ' (h2 x μ' q)⟩
/-- call(), in the teller -/
def dAct {M : Type} (i : Nat) (f0 : Addr) (th : Th M) : DT0 M := fun ρ μ R E => ρ[i]? = some (.val (.op (.ref f0))) ∧ th μ (fun d μ' => sta d = true → R d μ') E
def dLam {M : Type} (spT : ∀ M : Type, Th M → M → (D → M → Prop) → Prop) (tb : DT0 M) : DT0 M := fun ρ μ R _ => spT M (thOf tb ρ) μ R
/-! ### the world in which a teller runs: the maker's slots stay -/
def Own (ρ : Rho) (σ : L2.St) (a : Addr) : Prop := ∃ (i : Nat) (xs : List D), ρ[i]? = some (Slot.own xs) ∧ σ[i]? = some (some (V.ref a))
abbrev lamW (Z : Wld) (ρ : Rho) (σ : L2.St) (S1 H1 : Hp) : Wld where
  M := Z.M
  reg := fun μ a => Z.reg μ a ∨ Own ρ σ a
  J := fun μ S H => Z.J μ S H ∧ Same S1 S ∧ ∀ a, Own ρ σ a → H a = H1 a ∧ H1 a ≠ none ∧ ¬ Z.reg μ a
  held := fun {μ S H a} j r => by
    rcases r with r | r
    · exact Z.held j.1 r
    · rw [(j.2.2 a r).1]; exact (j.2.2 a r).2.1
  loc := fun {μ S S' H H'} j sm e => ⟨Z.loc j.1 sm fun a r => e a (.inl r), j.2.1.trans sm, fun a o => ⟨(e a (.inr o)).trans (j.2.2 a o).1, (j.2.2 a o).2⟩⟩
section
variable {K : PySem.W.Frag} {Z : Wld} {B : Hp} {ρ : Rho} {σ : L2.St} {μ1 μ μ' : Z.M} {S1 H1 S H S' H' : Hp}
theorem RdF.sm {rg rg' : Addr → Prop} (e : Same S S') : ∀ {fs : List (Str × D)} {ws : List (Str × V)}, RdF K rg S H fs ws → RdF K rg' S' H' fs ws
  | [], _, h => h
  | (k, d) :: fs, _, h => by
    obtain ⟨v, r, q, t, h1, h2⟩ := h
    exact ⟨v, r, q, t, h1.sta e _ _ t, RdF.sm e h2⟩
theorem lam_ok (env : EnvR K Z B μ1 S1 H1 ρ σ) (ok : Ok Z μ1 S1 H1) : Ok (lamW Z ρ σ S1 H1) μ1 S1 H1 := by
  have key : ∀ a, Own ρ σ a → S1 a = none ∧ H1 a ≠ none ∧ ¬ Z.reg μ1 a := fun a ⟨i, xs, e, e1⟩ => by
    obtain ⟨o, q1, q2⟩ := env.get i _ e
    rw [e1] at q1
    cases q1
    obtain ⟨b, vs, z, h1, h2, h3, _⟩ := q2
    cases z
    exact ⟨h2, by rw [h1]; simp, fun r => h3 (.inl r)⟩
  exact ⟨ok.sub, ⟨ok.j, Same.refl _, fun a o => ⟨rfl, (key a o).2⟩⟩, fun a r => r.elim (ok.off a) fun o => (key a o).1, ok.nt⟩
theorem lam_ok_down (ok : Ok (lamW Z ρ σ S1 H1) μ S H) : Ok Z μ S H := ⟨ok.sub, ok.j.1, fun a r => ok.off a (.inl r), ok.nt⟩
theorem lam_env (env : EnvR K Z B μ1 S1 H1 ρ σ) (ok : Ok (lamW Z ρ σ S1 H1) μ S H) : EnvR K Z (fun _ => none) μ S H ρ σ := by
  refine ⟨env.len, fun i s e => ?_, env.apart, fun a _ => .inl rfl⟩
  obtain ⟨o, e1, e2⟩ := env.get i s e
  refine ⟨o, e1, ?_⟩
  cases s with
  | un => trivial
  | val d =>
    obtain ⟨v, q, t, r⟩ := e2
    exact ⟨v, q, t, r.sta ok.j.2.1 _ _ t⟩
  | own xs =>
    obtain ⟨a, vs, rfl, h1, h2, h3, h4, h5⟩ := e2
    have ow : Own ρ σ a := ⟨i, xs, e, e1⟩
    have o := ok.j.2.2 a ow
    exact ⟨a, vs, rfl, o.1.trans h1, ok.off a (.inr ow), fun z => z.elim o.2.2 (fun z => z (.inl rfl)), h4, RdL.sta ok.j.2.1 _ _ h4 h5⟩
  | exc a cls d y =>
    obtain ⟨h1, h2, h3⟩ := e2
    refine ⟨h1, h2, h3.imp id ?_⟩
    rintro ⟨dd, ws, q1, q2, q3, q4⟩
    exact ⟨dd, ws, q1, ok.sub _ _ (ok.j.2.1 _ _ q3), ok.j.2.1 _ _ q3, q4.sm ok.j.2.1⟩
theorem lam_down (ok : Ok (lamW Z ρ σ S1 H1) μ S H) (x : Ext (lamW Z ρ σ S1 H1) μ S H μ' S' H') : Ext Z μ S H μ' S' H' := by
  refine ⟨lam_ok_down x.ok, fun a o n nt e => ?_, x.same, x.new, fun a r => ?_, x.there⟩
  · by_cases h : Own ρ σ a
    · rw [(x.ok.j.2.2 a h).1, ← (ok.j.2.2 a h).1]; exact e
    · exact x.keep a o (fun z => z.elim n h) nt e
  · rcases x.reg a (.inl r) with (z | z) | z
    · exact .inl z
    · exact absurd r (x.ok.j.2.2 a z).2.2
    · exact .inr z
theorem lam_up (ok : Ok (lamW Z ρ σ S1 H1) μ S H) (x : Ext Z μ S H μ' S' H') : Ext (lamW Z ρ σ S1 H1) μ S H μ' S' H' := by
  have key : ∀ a, Own ρ σ a → H' a = H a ∧ ¬ Z.reg μ' a ∧ S' a = none := fun a o => by
    obtain ⟨h1, h2, h3⟩ := ok.j.2.2 a o
    have hn : H a ≠ none := by rw [h1]; exact h2
    obtain ⟨u, hu⟩ := Option.ne_none_iff_exists'.mp hn
    refine ⟨(x.keep a u h3 NT.all hu).trans hu.symm, fun r => ?_, ?_⟩
    · rcases x.reg a r with z | z
      · exact h3 z
      · exact z.nt hu
    · cases q : S' a with
      | none => rfl
      | some v =>
        rcases x.new a (by rw [q]; simp) with z | z
        · exact absurd (ok.off a (.inr o)) z
        · exact z.nt hu
  refine ⟨⟨x.ok.sub, ⟨x.ok.j, ok.j.2.1.trans x.same, fun a o => ⟨(key a o).1.trans (ok.j.2.2 a o).1, (ok.j.2.2 a o).2.1, (key a o).2.1⟩⟩, fun a r => r.elim (x.ok.off a) fun o => (key a o).2.2, x.ok.nt⟩, fun a o n nt e => x.keep a o (fun r => n (.inl r)) nt e, x.same, x.new, fun a r => ?_, x.there⟩
  rcases r with r | r
  · exact (x.reg a r).imp .inl id
  · exact .inl (.inr r)
end
/-! ### the lambda made -/
section
variable {X : Cx} {pins : List (Addr × Obj)} {σ : L2.St} {H : Hp} {s : Shared} {scope sg : Scope} {body : Expr} {params : Arguments} {f c' g : Addr} {pm ctv cdg : Value} {Ng : List Str} {x : Str} {k : Nat}
abbrev lamO (X : Cx) (params : Arguments) (body : Expr) (scope : Scope) (pm : Value) (c' : Addr) (ctv : Value) : Obj := PySem.W.kla_obj "<lambda>" (X.env.qual ++ "<lambda>") params body scope (cloFrom X.env.cells scope.names []) pm c' ctv
abbrev toldCx (X : Cx) (Ng : List Str) (x : Str) (sg : Scope) (g : Addr) (cdg : Value) (s : Shared) (H : Hp) : Cx := cxOf (L2.CX X.prog X.w) X.prog X.w X.K X.mg X.base Ng x sg g cdg X.A X.stack s H fun _ _ _ => False
abbrev noArg (body : Expr) (params : Arguments) (scope : Scope) : Prop := ∀ (q : Str) (cl : List (Str × Addr)) (pm cv ctv : Value), bindArgs (PySem.W.kla_fn "<lambda>" q params body scope cl pm cv ctv) ⟨[], []⟩ = pure []
/-- the table as it was, or longer by the new code object -/
def Made (H : Hp) (P c' : Addr) (q : Str) (ps : Array Value) (H1 : Hp) : Prop :=
  (H1 = H ∧ ∃ pos, codeAmong pos ps.toList = some (.ref c')) ∨
  ∃ more : Array Value, H1 = upd (upd H P (.tbl (ps ++ more))) c' (LamX.CodeO c' q) ∧ H c' = none ∧ TriplesOk (ps ++ more).toList ∧ ∀ (pos : Pos) (cv : Value), codeAmong pos (ps ++ more).toList = some cv → codeAmong pos ps.toList = some cv ∨ cv = .ref c'
theorem lam_make3 {c P : Addr} {pos : Pos} {ps : Array Value} {E : Value → Shared → Prop} {Q : Value → Shared → Prop} (I : Inv X pins σ H s) (TB : LamX.TabB X.base X.mg c P) (hcode : X.env.code = .ref c)
    (hP : H P = some (.tbl ps)) (ht : TriplesOk ps.toList) (ha : ∀ (pos : Pos) (cv : Value), codeAmong pos ps.toList = some cv → ∃ c, cv = .ref c) (hdef : defaultsOf params X.env = ([], [])) (hfree : ∀ y ∈ scope.names, y.2 = .free → ∃ c, X.env.cells.lookup y.1 = some c)
    (h : ∀ (f c' : Addr) (pm ctv : Value) (H1 : Hp) (s' : Shared), Inv X pins σ H1 s' → Made H P c' (X.env.qual ++ "<lambda>") ps H1 →
      s'.heap.get? f = some (lamO X params body scope pm c' ctv) → H1 f = none → f ∉ frs X.stack → Q (.ref f) s') :
    wpAny (model X.prog X.w) X.A (eval (.Lambda params body scope pos) X.env) Q E s := by
  refine PySem.W.kla_eval hdef ?_
  have bP : s.heap.BuiltinsAt X.mg P := TB.bm.keeps I.bk
  have hP' : s.heap.get? P = some { cls := .none, data := .fields ps } := I.hok P _ hP
  have nofr : ∀ f, s.heap.objs.size ≤ f → f ∉ frs X.stack := fun f hf z => by
    rcases List.mem_cons.mp (I.stkSub _ z) with e | e
    · have h1 := I.lt
      rw [← e] at h1
      exact Nat.lt_irrefl _ (Nat.lt_of_lt_of_le h1 hf)
    · exact I.nofs hf e
  cases hc : codeAmong pos ps.toList with
  | none =>
    refine PySem.W.kla_makeFunction (mg := X.mg) (c := c) (P := P) (ps := ps) (closure_ok hfree) I.ok.glob (I.mod.glob.keeps I.bk) hcode (TB.code.keeps I.bk) hP' ht hc TB.gP bP fun c' ctv h' tk hx hge hlt hrec htb => ?_
    obtain ⟨c2, oc, vs, t, e2, hoc, hd, hv⟩ := hrec
    cases e2
    have hsz : s.heap.objs.size ≤ h'.objs.size := Nat.le_trans hge (Nat.le_of_lt hlt)
    have nC : H c' = none := I.hok.fresh hge
    have I1 := LamX.inv_table (t' := tk) (more := #[rawInt pos.line, rawInt pos.col, .ref c']) (h' := h'.push (lamO X params body scope ((X.mg "__name__").getD .none) c' ctv)) I hP
      (fun b o hb e => Heap.get?_push_of_some _ (hx b o hb e)) (Heap.get?_push_of_some _ htb) hge ⟨oc, vs, t, Heap.get?_push_of_some _ hoc, hd, hv⟩
    have eL : (ps ++ #[rawInt pos.line, rawInt pos.col, .ref c']).toList = ps.toList ++ [rawInt pos.line, rawInt pos.col, .ref c'] := by simp
    refine h h'.objs.size c' ((X.mg "__name__").getD .none) ctv _ _ I1 (.inr ⟨_, rfl, nC, by rw [eL]; exact PySem.TriplesOk_snoc _ _ _ _ ht, fun p' cv hcv => ?_⟩) (Heap.get?_push_size _ rfl) ?_ (nofr _ hsz)
    · rw [eL] at hcv
      exact LamX.among_app _ ht hcv
    · have n1 : h'.objs.size ≠ c' := Nat.ne_of_gt hlt
      have n2 : h'.objs.size ≠ P := Nat.ne_of_gt (Nat.lt_of_lt_of_le (Heap.lt_size hP') hsz)
      rw [upd_ne n1, upd_ne n2]
      exact I.hok.fresh hsz
  | some cv =>
    obtain ⟨c', rfl⟩ := ha pos cv hc
    refine PySem.W.kla_makeFunctionHit (mg := X.mg) (c := c) (P := P) (ps := ps) (closure_ok hfree) I.ok.glob (I.mod.glob.keeps I.bk) hcode (TB.code.keeps I.bk) hP' ht hc bP fun ctv h' tk hx hsz => ?_
    have I1 : Inv X pins σ H { s with heap := h'.push (lamO X params body scope ((X.mg "__name__").getD .none) c' ctv), toks := tk } := I.kept fun b o e => Heap.get?_push_of_some _ (hx b o e)
    exact h h'.objs.size c' ((X.mg "__name__").getD .none) ctv H _ I1 (.inl ⟨rfl, pos, hc⟩) (Heap.get?_push_size _ rfl) (I.hok.fresh hsz) (nofr _ hsz)
/-- the lambda's run, from a state of the def that holds it -/
theorem lam_run {Y : Cx} {HZ : Hp} {s1 : Shared} {Q : VK} {E : XK} {tb : TE} (I : Inv X pins σ H s) (L : LamX.LamS X.env.scope scope) (hf : s.heap.get? f = some (lamO X params body scope pm c' ctv)) (nb : noArg body params scope)
    (eP : Y.prog = X.prog) (eW : Y.w = X.w) (hr : Room (k + 1) Y.A) (gu : Y.A.guards = some []) (un : Un (frs X.stack) [] H HZ s.heap s1.heap) (e0 : Env0 X.prog X.w X.K X.mg X.base Y.A Y.stack s1 HZ) (lim : s1.heap.NoLimit)
    (of1 : s1.heap.get? f = some (lamO X params body scope pm c' ctv)) (hco : ∃ (oc : Obj) (vs : Array Value) (t : Tok), s1.heap.get? c' = some oc ∧ oc.data = .fields vs ∧ vs[1]? = some (.str (X.env.qual ++ "<lambda>") t))
    (hbody : ∀ (A : Around) (outer : List PySem.Env) (s : Shared) (H : Hp), Room k (A.deeper (LamX.lamEnv X scope s.heap.objs.size f c')) → (A.deeper (LamX.lamEnv X scope s.heap.objs.size f c')).guards = some [] → PE (LamX.lamCx X A outer s H E scope f c') body tb) (ht : tb σ HZ Q) :
    codeAny (model X.prog X.w) Y.A (.call (.ref f) ⟨[], []⟩) (CR (L2.CX X.prog X.w) Y.stack X.prog X.w HZ s1 Q E) s1 := by
  obtain ⟨oc, vs, t, z1, z2, z3⟩ := hco
  refine PySem.W.kla_callFunE hr.depth of1 rfl L.co L.gen rfl ⟨c', oc, vs, t, rfl, z1, z2, z3⟩ ?_
  rw [nb]
  refine wpAny_pure (wpAny_newFunctionEnv (fun y hy => (L.own y hy).2) (fun y hy => by cases hy) (fun h₁ hns hsb => ⟨lim.fresh _ hsb, ?_⟩) L.kind)
  have J := LamX.lam_start2 (f := f) (c' := c') (E := E) (tk := s1.toks + ([] : List (Str × Value)).length) I L e0 hr.hd un hns fun b o e => hsb.extBut b o (Nat.ne_of_lt (Heap.lt_size e)) (Heap.get?_push_of_some _ e)
  have P := (hbody Y.A Y.stack s1 HZ (hr.deeper _) gu).run [] { s1 with heap := h₁, toks := s1.toks + ([] : List (Str × Value)).length } σ HZ Q J ht
  exact PySem.W.kla_codeExpr (wpAny_mono P (fun v s' ⟨w', H', J', rv, q⟩ => ⟨w', H', J'.os, J'.bare, J'.base, J'.hok, rv, q⟩) fun e s' hq => hq)
/-- a(), in the def that got the lambda -/
theorem pe_actS {pn : List (Addr × Obj)} {xe : Value → Shared → Prop} {W : WX} {a : Str} {i : Nat} {tb : XK → TE} {p1 p2 : Pos} (I : Inv X pins σ H s) (L : LamX.LamS X.env.scope scope) (hf : s.heap.get? f = some (lamO X params body scope pm c' ctv)) (hfn : H f = none) (hfr : f ∉ frs X.stack) (nb : noArg body params scope)
    (tk : Takes ((toldCx X Ng x sg g cdg s H).tr pn xe) W) (hr : Room (k + 1) (X.A.deeper (envOfC x sg s.heap.objs.size g cdg))) (gu : X.A.guards = some [])
    (hbody : ∀ (E : XK) (A : Around) (outer : List PySem.Env) (s : Shared) (H : Hp), Room k (A.deeper (LamX.lamEnv X scope s.heap.objs.size f c')) → (A.deeper (LamX.lamEnv X scope s.heap.objs.size f c')).guards = some [] → PE (LamX.lamCx X A outer s H E scope f c') body (tb E))
    (hN : Ng[i]? = some a) (hv : Vis sg a) (hd : (a == ("__debug__" : Str)) = false) (hcd : (a == ("__classdict__" : Str)) = false) :
    PE ((toldCx X Ng x sg g cdg s H).tr pn xe) (.Call (.Name a p1) [] [] p2) (fun σZ HZ Q => σZ[i]? = some (some (.ref f)) ∧ HZ c' = some (LamX.CodeO c' (X.env.qual ++ "<lambda>")) ∧ tb (WE W σZ) σ HZ Q) := by
  refine ⟨fun pinsZ sZ σZ HZ Q IZ ⟨q1, q2, q3⟩ => ?_⟩
  have V := (pe_var (X := (toldCx X Ng x sg g cdg s H).tr pn xe) (pos := p1) (i := i) hN hv hd hcd).run pinsZ sZ σZ HZ (fun v H1 => v = .ref f ∧ H1 = HZ) IZ ⟨.ref f, q1, rfl, rfl⟩
  refine wpAny_Call_Name_kw (thn V fun u s1 ⟨v, H1, I1, r1, e1, e2⟩ => ?_)
  subst e1 e2
  cases r1
  have base : Un (frs X.stack) [] H H1 s.heap s1.heap := I1.base
  have of1 := base.keep f _ hf hfn hfr (by simp)
  obtain ⟨hco, _, _⟩ := I1.hok c' _ q2
  refine PySem.W.callWith_F0 ⟨_, _, _, _, of1⟩ (wpAny_call (codeAny_mono (lam_run (X := X) (Y := (toldCx X Ng x sg g cdg s H).tr pn xe) I L hf nb rfl rfl hr gu base I1.env0 I1.nolimit of1 hco (hbody (WE W σZ)) q3) fun r s' hq => ?_))
  match r, hq with
  | .error e, hq => exact passAt tk σZ pinsZ H1 s1 e s' I1 hq
  | .ok (.ret u), hq => exact I1.after hq
  | .ok .next, hq => exact False.elim hq
  | .ok .brk, hq => exact False.elim hq
  | .ok .cont, hq => exact False.elim hq
end
/-! ### tellers -/
structure Teller (P : Program) (w : World) (K : PySem.W.Frag) (mg : Str → Option Value) (base : Heap) (x a : Str) (Ng : List Str) (sg : Scope) (k : Nat) (g : Addr) (fd : FuncData) (spT : ∀ M : Type, Th M → M → (D → M → Prop) → Prop) : Prop where
  m : mg x = some (.ref g)
  kp : PySem.W.keepIn K (.ref g) = true
  bd : L2.Binds K fd [a] []
  hN : Ng[0]? = some a
  hv : Vis sg a
  run : ∀ (Z1 : Wld) (A : Around) (outer : List PySem.Env) (s : Shared) (H : Hp) (f0 : Addr) (th : Th Z1.M) (μ : Z1.M) (S : Hp) (R : D → Z1.M → Prop) (Q : VK), Room (k + 1) A → A.guards = some [] → Env0 P w K mg base A outer s H → BindsTo s fd ⟨[.ref f0], []⟩ [(a, .ref f0)] → Ok Z1 μ S H →
    (∀ cdv : Value, Room k (A.deeper (envOfC x sg s.heap.objs.size g cdv)) → ∀ (W' : WX) (p1 p2 : Pos), DE Z1 ((Fm.one (cxOf (L2.CX P w) P w K mg base Ng x sg g cdv A outer s H fun _ _ _ => False)).tr W') W' (.Call (.Name a p1) [] [] p2) (dAct 0 f0 th)) →
    ThM th → spT Z1.M th μ R → (∀ v d μ' S' H', Ext Z1 μ S H μ' S' H' → sta d = true → Rd K (fb Z1 H μ') S' H' d v → R d μ' → Q v H') →
    codeAny (model P w) A (.call (.ref g) ⟨[.ref f0], []⟩) (CR (L2.CX P w) outer P w H s Q fun _ _ _ => False) s
section
variable {P : Program} {w : World} {K : PySem.W.Frag} {mg : Str → Option Value} {base : Heap}
theorem teller_of {x a : Str} {st : Stmt} {g : Addr} {fd : FuncData} {Ng : List Str} {k : Nat} {spT : ∀ M : Type, Th M → M → (D → M → Prop) → Prop} {u : ∀ M : Type, Addr → Th M → DTS0 M} (F : Fun K x x st g fd) (S : FnScope Ng [a] (defScope st))
    (m : mg x = some (.ref g)) (kp : PySem.W.keepIn K (.ref g) = true) (bd : L2.Binds K fd [a] []) (hN : Ng[0]? = some a) (hv : Vis (defScope st) a)
    (hb : ∀ (Z1 : Wld) (f0 : Addr) (th : Th Z1.M) (cdv : Value) (A : Around) (outer : List PySem.Env) (s : Shared) (H : Hp), Room k (A.deeper (envOfC x (defScope st) s.heap.objs.size g cdv)) → (A.deeper (envOfC x (defScope st) s.heap.objs.size g cdv)).guards = some [] →
      (∀ (W' : WX) (p1 p2 : Pos), DE Z1 ((Fm.one (cxOf (L2.CX P w) P w K mg base Ng x (defScope st) g cdv A outer s H fun _ _ _ => False)).tr W') W' (.Call (.Name a p1) [] [] p2) (dAct 0 f0 th)) →
      DSs Z1 (Fm.one (cxOf (L2.CX P w) P w K mg base Ng x (defScope st) g cdv A outer s H fun _ _ _ => False)) (fun cls d _ H' => False) (defBody st) (u Z1.M f0 th))
    (hp : ∀ (M : Type) (f0 : Addr) (th : Th M) (μ : M) (R : D → M → Prop), ThM th → spT M th μ R → u M f0 th { nx := fun _ μ' => R .non μ', rt := R, ex := fun _ _ _ => False } (startD Ng [.op (.ref f0)]) μ) :
    Teller P w K mg base x a Ng (defScope st) k g fd spT := by
  refine ⟨m, kp, bd, hN, hv, fun Z1 A outer s H f0 th μ S0 R Q hr gu e0 hbi ok act hm hs hQ => ?_⟩
  refine fn_gS (vs := [.ref f0]) (us := [.ref f0]) F S hr gu e0 hbi (.cons rfl .nil) rfl fun cdv _ hr2 gu2 => ?_
  obtain ⟨ts, pt, ht⟩ := hb Z1 f0 th cdv A outer s H hr2 gu2 (act cdv hr2)
  have rd : RdL K (fb Z1 H μ) S0 H [.op (.ref f0)] [.ref f0] := ⟨.ref f0, [], rfl, rfl, rfl⟩
  refine ⟨ts, pt (), ht μ S0 H _ _ μ S0 H _ _ ⟨start_env rd rfl, .refl ok⟩ (hp Z1.M f0 th μ R hm hs) ⟨fun ρ' σ' μ' S' H' r s h => ?_, fun _ _ _ _ _ _ _ h => h.elim, fun _ _ _ _ _ _ _ h => h.elim, fun v d μ' S' H' x s r h => hQ v d μ' S' H' x s r h, fun y ρ' σ' μ' S' H' cls dd r s q h => h.elim⟩⟩
  exact hQ .non .non μ' S' H' r.ext rfl rfl h
end
/-! ### the rule -/
abbrev Fm.lam (X : Cx) (k : Nat) (E : XK) (scope : Scope) (f c' : Addr) : Fm :=
  ⟨{ q : Around × List PySem.Env × Shared × Hp // Room k (q.1.deeper (LamX.lamEnv X scope q.2.2.1.heap.objs.size f c')) ∧ (q.1.deeper (LamX.lamEnv X scope q.2.2.1.heap.objs.size f c')).guards = some [] },
   fun j => LamX.lamCx X j.1.1 j.1.2.1 j.1.2.2.1 j.1.2.2.2 E scope f c', X.K, fun _ => rfl⟩
section
variable {Z : Wld} {T : List (Addr × Str)} {F : Fm} {W : WX}
theorem tab_ext {μ : Z.M} {S H H1 : Hp} {P c' : Addr} {q : Str} {ps : Array Value} (ok : Ok (tblW Z T) μ S H) (hm : (P, q) ∈ T) (hu : ∀ p ∈ T, p.1 = P → p.2 = q) (hP : H P = some (.tbl ps)) (ht : TriplesOk ps.toList)
    (ha : ∀ (pos : Pos) (cv : Value), codeAmong pos ps.toList = some cv → ∃ c, cv = .ref c ∧ S c = some (LamX.CodeO c q)) (m : Made H P c' q ps H1) : ∃ S1, Ext (tblW Z T) μ S H μ S1 H1 ∧ S1 c' = some (LamX.CodeO c' q) := by
  rcases m with ⟨rfl, pos, e⟩ | ⟨more, rfl, nC, t2, am⟩
  · obtain ⟨c, e1, e2⟩ := ha pos _ e
    cases e1
    exact ⟨S, .refl ok, e2⟩
  · have nP : P ≠ c' := ne_of_none hP nC
    have sC : S c' = none := by
      cases z : S c' with
      | none => rfl
      | some o => rw [ok.sub _ _ z] at nC; cases nC
    have sP : S P = none := ok.off P (.inr ⟨_, hm, rfl⟩)
    have rC : ∀ a, (tblW Z T).reg μ a → a ≠ c' := fun a r e => by rw [e] at r; exact (tblW Z T).held ok.j r nC
    have sm : Same S (upd S c' (LamX.CodeO c' q)) := fun a u e => by rw [upd_ne (ne_of_none e sC)]; exact e
    have hne : ∀ a, a ≠ P → a ≠ c' → upd (upd H P (.tbl (ps ++ more))) c' (LamX.CodeO c' q) a = H a := fun a n1 n2 => by rw [upd_ne n2, upd_ne n1]
    refine ⟨upd S c' (LamX.CodeO c' q), ⟨⟨fun a u e => ?_, ⟨Z.loc ok.j.1 sm fun a r => ?_, fun p hp => ⟨(ok.j.2 p hp).1, ?_⟩⟩, fun a r => ?_, fun _ _ _ => NT.all⟩, fun a o n _ e => ?_, sm, fun a e => ?_, fun a r => .inl r, fun a e => ?_⟩, upd_same⟩
    · by_cases h : a = c'
      · rw [h] at e ⊢; rw [upd_same] at e ⊢; exact e
      · rw [upd_ne h] at e
        rw [hne a (fun z => by rw [z, sP] at e; cases e) h]
        exact ok.sub a u e
    · exact hne a (fun z => (ok.j.2 _ hm).1 (by show Z.reg μ P; rw [← z]; exact r)) (rC a (.inl r))
    · by_cases hp1 : p.1 = P
      · rw [hu p hp hp1, hp1]
        refine ⟨ps ++ more, by rw [upd_ne nP, upd_same], t2, fun pos cv hc => ?_⟩
        rcases am pos cv hc with z | z
        · obtain ⟨c, e1, e2⟩ := ha pos cv z
          exact ⟨c, e1, sm _ _ e2⟩
        · exact ⟨c', z, upd_same⟩
      · exact (ok.j.2 p hp).2.move sm (hne _ hp1 (rC _ (.inr ⟨p, hp, rfl⟩)))
    · rw [upd_ne (rC a r)]; exact ok.off a r
    · rw [hne a (fun z => n (.inr ⟨_, hm, z⟩)) (fun z => by rw [z, nC] at e; cases e)]; exact e
    · by_cases h : a = c'
      · rw [h]; exact .inr (.inl nC)
      · rw [upd_ne h] at e; exact .inl e
    · by_cases h : a = c'
      · rw [h]; exact .inl nC
      · have e' := e.no
        rw [upd_ne h] at e'
        by_cases h2 : a = P
        · rw [h2, upd_same] at e'; cases e'
        · rw [upd_ne h2] at e'; exact .inl e'
theorem dx_lam {x a q : Str} {Ng : List Str} {sg scope : Scope} {k kl : Nat} {g c Pt : Addr} {fd : FuncData} {spT : ∀ M : Type, Th M → M → (D → M → Prop) → Prop} {params : Arguments} {body : Expr} {lpos p pos : Pos} {tb : DT Z}
    (tl : ∀ i, Teller (F.X i).prog (F.X i).w (F.X i).K (F.X i).mg (F.X i).base x a Ng sg k g fd spT) (TB : ∀ i, LamX.TabB (F.X i).base (F.X i).mg c Pt) (hcode : ∀ i, (F.X i).env.code = .ref c) (hq : ∀ i, (F.X i).env.qual ++ "<lambda>" = q) (hm : (Pt, q) ∈ T) (hu : ∀ p ∈ T, p.1 = Pt → p.2 = q)
    (L : ∀ i, LamX.LamS (F.X i).env.scope scope) (hdef : ∀ i, defaultsOf params (F.X i).env = ([], [])) (nb : noArg body params scope) (hr : ∀ i, Room (k + 1) (F.X i).A) (hk : kl + 1 ≤ k) (gu : ∀ i, (F.X i).A.guards = some []) (hg : ∀ i, Gl (F.X i) x)
    (hb : ∀ i (E : XK) (f c' : Addr), DE (tblW Z T) (Fm.lam (F.X i) kl E scope f c') (fun cls d _ H' => E cls d H') body tb)
    (hdb : (x == ("__debug__" : Str)) = false := by decide) (hd : (a == ("__debug__" : Str)) = false := by decide) (hcd : (a == ("__classdict__" : Str)) = false := by decide) :
    DE (tblW Z T) F W (.Call (.Name x p) [.Lambda params body scope lpos] [] pos) (dLam spT tb) := by
  refine ⟨fun σ H Q => ∃ (B : Hp) (ρ : Rho) (μ : Z.M) (S : Hp) (R : D → Z.M → Prop), EnvR F.K (tblW Z T) B μ S H ρ σ ∧ Ok (tblW Z T) μ S H ∧ spT Z.M (thOf tb ρ) μ R ∧ (∀ (v : V) (d : D) (μ' : Z.M) (S' H' : Hp), Ext (tblW Z T) μ S H μ' S' H' → Rd F.K (fb (tblW Z T) B μ') S' H' d v → R d μ' → Q v H'),
    fun i => ⟨fun pins s σ H Q I h => ?_⟩, fun B ρ σ μ S H R E Q env ok h hE hQ => ⟨B, ρ, μ, S, R, env, ok, h, hQ⟩⟩
  obtain ⟨B, ρ, μ, S, R, env, ok, h, hQ⟩ := h
  have hq := hq i
  subst hq
  obtain ⟨ps, hP, ht, ha⟩ := (ok.j.2 _ hm).2
  refine wpAny_Call_Name_kw (ld_glob I (hg i) (tl i).m ?_ hdb)
  refine PySem.W.callWith_K (h₀ := (F.X i).base) I.ok.mod.kin (tl i).kp ?_ (by rfl) (by rfl)
  show wpAny _ _ (spliced ((false, eval (.Lambda params body scope lpos) (F.X i).env) :: backTo pos (starEach [] (F.X i).env))) _ _ s
  refine Calls.spliced_cons (lam_make3 I (TB i) (hcode i) hP ht (fun pos cv e => let ⟨c, z, _⟩ := ha pos cv e; ⟨c, z⟩) (hdef i) ((L i).has I.ok) fun f c' pm' ctv H1 s' I1 made hf hfn hfr => ?_)
  obtain ⟨S1, x1, hc1⟩ := tab_ext ok hm hu hP ht ha made
  refine Calls.spliced_nil ⟨I1.kIn, ?_⟩
  have env1 := env.ext x1
  have ok1 := lam_ok env1 x1.ok
  have rc : codeAny (model (F.X i).prog (F.X i).w) (F.X i).A (.call (.ref g) ⟨[.ref f], []⟩) (CR (L2.CX (F.X i).prog (F.X i).w) (F.X i).stack (F.X i).prog (F.X i).w H1 s' Q fun _ _ _ => False) s' := by
    refine (tl i).run (lamW (tblW Z T) ρ σ S1 H1) (F.X i).A (F.X i).stack s' H1 f (thOf tb ρ) μ S1 R Q (hr i) (gu i) I1.env0 ((tl i).bd s' [.ref f] I1.kIn rfl) ok1 (fun cdv hr2 W' p1 p2 => ?_) thOf_m h fun v d μ' S' H' x2 st rd hd => ?_
    · refine ⟨fun σZ HZ Q' => σZ[0]? = some (some (.ref f)) ∧ HZ c' = some (LamX.CodeO c' ((F.X i).env.qual ++ "<lambda>")) ∧ (hb i (WE W' σZ) f c').choose σ HZ Q', fun j => ?_, fun B' ρZ σZ μZ SZ HZ R' E' Q' envZ okZ hZ hE' hQ' => ?_⟩
      · exact pe_actS (X := F.X i) (pn := j.2.1.1) (xe := j.2.1.2) (W := W') (i := 0) (tb := fun E => (hb i E f c').choose) I1 (L i) hf hfn hfr nb j.2.2.1 (hr2.mono hk) (gu i) (fun E A outer s H hr3 gu3 => (hb i E f c').choose_spec.1 ⟨(A, outer, s, H), hr3, gu3⟩) (tl i).hN (tl i).hv hd hcd
      · obtain ⟨h0, R0, E0, hth, g1, g2⟩ := hZ
        obtain ⟨o, e1, v, rfl, _, r⟩ := envZ.get 0 _ h0
        refine ⟨by rw [e1, show v = V.ref f from r], okZ.sub _ _ (okZ.j.2.1 _ _ hc1), ?_⟩
        exact (hb i (WE W' σZ) f c').choose_spec.2 (fun _ => none) ρ σ μZ SZ HZ _ E0 Q' (by have q := lam_env env1 okZ; show EnvR (F.X i).K _ _ _ _ _ _ _; rw [F.hK i]; exact q) (lam_ok_down okZ) hth (fun y μ' S' H' cls d x' xr hy => hE' y μ' S' H' cls d (lam_up okZ x') xr.sta (g2 _ _ hy)) fun v d μ' S' H' x' rd hd => hQ' v d μ' S' H' (lam_up okZ x') (rd.sta (Same.refl _) _ _ hd.1) (g1 _ _ hd.2 hd.1)
    · exact hQ v d μ' S' H' (x1.trans (lam_down ok1 x2)) (by have q := rd.sta (rg' := fb (tblW Z T) B μ') (H' := H') (Same.refl _) _ _ st; rw [F.hK i] at q; exact q) hd
  refine wpAny_call (codeAny_mono rc fun r s2 hq => ?_)
  match r, hq with
  | .error e, hq =>
    obtain ⟨_, _, _, _, _, _, _, _, _, _, _, _, z⟩ := hq
    exact z.elim
  | .ok (.ret u), hq => exact I1.after hq
  | .ok .next, hq => exact False.elim hq
  | .ok .brk, hq => exact False.elim hq
  | .ok .cont, hq => exact False.elim hq
end
/-- repr of an owned list -/
theorem show_ofV {n k : Nat} {xs : List D} {R : D → Prop} (h : Tm n k (.lst xs)) (hn : n ≤ 8000) (hk : k ≤ 60) (q : R (.str (pyD (.lst xs)).shown)) : smShow [.vw xs] R := by
  obtain ⟨d, e, h1, h2, h3, h4, h5⟩ := show_of (R := R) h hn hk q
  cases e
  exact ⟨.vw xs, rfl, h1, h2, h3, h4, h5⟩
end DL
/-! text DLlc -/
/-! DL: the head and the end of a law whose def holds lambdas. -/
namespace DL
open PySem PySem.Spec PyProof.Rows L2
/-! ### the head's facts, no table told -/
section
open He
def isTab (o : Obj) : Bool := match o.cls, o.data with
  | .none, .fields _ => true
  | _, _ => false
def noTab (K : PySem.W.Frag) : PySem.W.Frag := K.filter fun p => !isTab p.2
theorem lookup_mem {K : PySem.W.Frag} {a : Addr} {o : Obj} (h : K.lookup a = some o) : (a, o) ∈ K := PySem.W.mem_of_lookupK h
theorem frG_mem {g : Addr → Option Obj} {as : List Addr} {a : Addr} {o : Obj} (h : (a, o) ∈ frG g as) : g a = some o := by
  unfold frG at h
  obtain ⟨b, _, e⟩ := List.mem_filterMap.mp h
  cases q : g b with
  | none => rw [q] at e; cases e
  | some ob => rw [q] at e; cases e; exact q
theorem noTab_in {g : Addr → Option Obj} {as : List Addr} {a : Addr} {o : Obj} (h : (noTab (frG g as)).lookup a = some o) : g a = some o ∧ isTab o = false := by
  have m := lookup_mem h
  unfold noTab at m
  obtain ⟨m1, m2⟩ := List.mem_filter.mp m
  exact ⟨frG_mem m1, by simpa using m2⟩
def obsTG (n : Nat) (fa : List Fa) (fn : List DefD) (ex : List (Str × Str)) (rel : List (Str × Str × Bool)) (g : Addr → Option Obj) : AlD :=
  let K := noTab (frG g (asD g n))
  ((obsD fa fn K).1 && (ex.all (ExF.ok K) && rel.all (RelF.ok K)), (obsD fa fn K).2)
def hookT (n : Nat) (fa : List Fa) (fn : List DefD) (ex : List (Str × Str)) (rel : List (Str × Str × Bool)) : PySem.W.Hook where
  α := AlD
  obs := fun s => obsTG n fa fn ex rel s.heap.get?
  val := fun _ => valD fn
  says := fun _ h => ∃ K : PySem.W.Frag, K.In h ∧ (∀ a o, K.lookup a = some o → isTab o = false) ∧ SaysE fa fn ex rel K
  of := fun _ s e => ⟨noTab (frG s.heap.get? (asD s.heap.get? n)), fun a o q => (noTab_in q).1, fun a o q => (noTab_in q).2, by
    have e1 := congrArg (fun z : AlD => z.1) e
    have e2 := congrArg (fun z : AlD => z.2) e
    have e1' : ((obsD fa fn (noTab (frG s.heap.get? (asD s.heap.get? n)))).1 && (ex.all (ExF.ok (noTab (frG s.heap.get? (asD s.heap.get? n)))) && rel.all (RelF.ok (noTab (frG s.heap.get? (asD s.heap.get? n)))))) = true := e1
    simp only [Bool.and_eq_true] at e1'
    exact ⟨Prod.ext e1'.1 e2, List.all_eq_true.mp e1'.2.1, List.all_eq_true.mp e1'.2.2⟩⟩
  keeps := fun _ _ _ ⟨K, hK, n, c⟩ k => ⟨K, PySem.W.Frag.In.keeps hK k, n, c⟩
theorem obsTG_eq {n : Nat} {fa : List Fa} {fn : List DefD} {ex : List (Str × Str)} {rel : List (Str × Str × Bool)} {g : Addr → Option Obj} {s : Shared} (h : ∀ a, g a = s.heap.get? a) : obsTG n fa fn ex rel g = (hookT n fa fn ex rel).obs s := by
  have e : g = s.heap.get? := funext h
  rw [e] <;> rfl
end
/-! ### the end: one table, the law's own -/
theorem law_callDT {Z : Wld} {μ0 : Z.M} (hreg : ∀ a, ¬ Z.reg μ0 a) (hJ : ∀ S H, Z.J μ0 S H) {P : Program} {w : World} {K : PySem.W.Frag} {mg mb : Str → Option Value} {k : Nat} {fa a c Pt : Addr} {q : Str} {fd : FuncData} {x : Str} {sp : SpD Z} {s₁ : Shared} {vs : List Value} {ns : List Int}
    (KX : K.In s₁.heap) (hns : s₁.heap.Ns mainGlobals mg) (hb : s₁.heap.Ns builtinsNs mb) (hbb : ∀ x : Str, x ≠ "__name__" → mb x = bootBuiltins x) (hlim : s₁.heap.NoLimit) (hg : s₁.gens = #[]) (hmods : ∃ mm, s₁.heap.Ns sysModules mm)
    (hT : s₁.heap.get? Pt = some { cls := .none, data := .fields #[] }) (nT : K.lookup Pt = none) (C : PySem.W.CodeHd s₁.heap c Pt)
    (hbm : ∃ (bm : Addr) (ob : Obj), mg "__builtins__" = some (.ref bm) ∧ bm ≠ builtinsNs ∧ s₁.heap.get? bm = some ob ∧ ob.cls = .type "module" ∧ ob.dict = some builtinsNs ∧ ob.data = .plain)
    (ha : s₁.heap.get? a = some { cls := .type "list", data := .seq vs.toArray }) (hi : IntsAre vs ns) (hl : ns.length ≤ sizeLine) (hr : Room k callerA)
    (G : ∀ base : Heap, K.In base → base.Ns mainGlobals mg → (∃ mm, base.Ns sysModules mm) → LamX.TabB base mg c Pt → FnG P w K mg base k fa fd [x] (spOf K (tblW Z [(Pt, q)]) 1 sp)) (hbind : ∀ (s : Shared) (u : Value), BindsTo s fd ⟨[u], []⟩ [(x, u)])
    (hsp : sp [.scr ns] μ0 (fun d _ => d = .bl true) fun _ _ => False) :
    codeAny (model P w) callerA (.call (.ref fa) ⟨[.ref a], []⟩) (fun r s' => r = .ok (.ret (.bool true)) ∧ OldK s₁.heap s'.heap ∧ s'.os = s₁.os ∧ AllBare s'.gens) s₁ := by
  have rv := vals_ints hi
  have lenV := hi.length
  have aT : a ≠ Pt := fun z => by
    rw [z, hT] at ha
    have z' : Data.fields #[] = Data.seq vs.toArray _ := congrArg Obj.data (Option.some.inj ha)
    cases z'
  have core : ∀ H : Hp, H Pt = some (.tbl #[]) → (∀ b, H b = none ∨ b = Pt ∨ ∃ o xs, H b = some (.frz o (.lst xs))) → SqL K (fun b => if b = Pt then none else H b) a (ns.map V.int) → HOk P w H s₁.heap → (∀ b, H b ≠ none → b = a ∨ b = Pt) → (H a ≠ none → K.lookup a = none) →
      codeAny (model P w) callerA (.call (.ref fa) ⟨[.ref a], []⟩) (fun r s' => r = .ok (.ret (.bool true)) ∧ OldK s₁.heap s'.heap ∧ s'.os = s₁.os ∧ AllBare s'.gens) s₁ := by
    intro H hH hO hS hok hA hK
    have base_of : ∀ {b : Addr} {o : Obj}, s₁.heap.get? b = some o → H b = none → (hidT s₁.heap H).get? b = some o := fun e n => hidT_get e n
    have noD : ∀ {b : Addr} {o : Obj}, s₁.heap.get? b = some o → (∀ vs n, o.data ≠ .seq vs n) → o.data ≠ .fields #[] → H b = none := fun {b o} e h1 h2 => by
      cases q : H b with
      | none => rfl
      | some u =>
        rcases hA b (by rw [q]; simp) with e' | e'
        · rw [e', ha] at e
          cases e
          exact (h1 _ _ rfl).elim
        · rw [e', hT] at e
          cases e
          exact (h2 rfl).elim
    have noA : ∀ {b : Addr} {o : Obj} {es : Array DictEntry} {ep : Nat}, s₁.heap.get? b = some o → o.data = .dict es ep → H b = none := fun {b o es ep} e d => by
      refine noD e (fun vs n z => ?_) fun z => ?_
      · rw [d] at z
        cases z
      · rw [d] at z
        cases z
    have nsK : ∀ {b : Addr} {m : Str → Option Value}, s₁.heap.Ns b m → (hidT s₁.heap H).Ns b m := fun {b m} ⟨o, es, ep, e, d, r⟩ => ⟨o, es, ep, base_of e (noA e d), d, r⟩
    have hKb : K.In (hidT s₁.heap H) := fun b o e => base_of (KX b o e) (by
      cases q : H b with
      | none => rfl
      | some u =>
        rcases hA b (by rw [q]; simp) with e' | e'
        · rw [e'] at e q
          rw [hK (by rw [q]; simp)] at e
          cases e
        · rw [e', nT] at e
          cases e)
    have hM : Mod K mg (hidT s₁.heap H) := ⟨hKb, nsK hns, ⟨mb, nsK hb, hbb⟩, let ⟨mc, h1, h2⟩ := hlim; ⟨mc, nsK h1, h2⟩⟩
    have TB : LamX.TabB (hidT s₁.heap H) mg c Pt := by
      refine ⟨?_, ?_, fun z => ?_⟩
      · obtain ⟨o, us, file, tf, flags, tg, inF, text, tt, e1, r1, r2, r3, r4, r5, r6, r7, r8, hne⟩ := C
        refine ⟨o, us, file, tf, flags, tg, inF, text, tt, base_of e1 (noD e1 (fun vs n z => ?_) fun z => ?_), r1, r2, r3, r4, r5, r6, r7, r8, hne⟩
        · rw [r2] at z
          cases z
        · rw [r2] at z
          cases z
          simp at r3
      · obtain ⟨bm, ob, b1, b2, b3, b4, b5, b6⟩ := hbm
        have nG : bm ≠ mainGlobals := fun q => by
          obtain ⟨o, es, ep, e, hd, _⟩ := hns
          rw [q, e] at b3
          cases b3
          rw [hd] at b6
          cases b6
        have nP : bm ≠ Pt := fun q => by
          rw [q, hT] at b3
          cases b3
          cases b6
        refine ⟨bm, ob, b1, b2, nG, nP, base_of b3 (noD b3 (fun vs n z => ?_) fun z => ?_), b4, b5, b6⟩
        · rw [b6] at z
          cases z
        · rw [b6] at z
          cases z
      · obtain ⟨o, es, ep, e, hd, _⟩ := hns
        rw [z, hT] at e
        cases e
        cases hd
    have e0 : Env0 P w K mg (hidT s₁.heap H) callerA [] s₁ H := ⟨rfl, hM, fun b o e => of_hidT e, Nat.le_of_eq (hidT_size _ _), trivial, fun b hb => absurd (show b ∈ ([] : List Addr) from hb) (by simp), hok, .of_eq hg⟩
    obtain ⟨mm, hmm⟩ := hmods
    have ok0 : Ok (tblW Z [(Pt, q)]) μ0 (fun b => if b = Pt then none else H b) H := by
      refine ⟨fun b o e => ?_, ⟨hJ _ _, fun p hp => ?_⟩, fun b r => ?_, fun b o e => NT.all⟩
      · by_cases hb : b = Pt
        · have e' := (if_pos hb).symm.trans e
          cases e'
        · exact (if_neg hb).symm.trans e
      · rw [List.mem_singleton.mp hp]
        exact ⟨hreg _, .nil hH⟩
      · rcases r with r | ⟨p, hp, rfl⟩
        · exact (hreg b r).elim
        · rw [List.mem_singleton.mp hp]
          exact if_pos rfl
    refine codeAny_mono ((G _ hKb (nsK hns) ⟨mm, nsK hmm⟩ TB).run callerA [] s₁ H ⟨[.ref a], []⟩ [.ref a] [.ref a] (fun v _ => v = .bl true) (fun _ _ _ => False) hr rfl e0 (hbind s₁ (.ref a)) (.cons rfl .nil) ⟨rfl, [.scr ns], μ0, _, fun d _ => d = .bl true, fun _ _ => False, ok0, ⟨.ref a, [], rfl, ⟨a, rfl, hS⟩, rfl⟩, rfl, hsp, fun v d μ' S' H' _ _ r e => by subst e; exact r, fun _ _ _ _ _ _ _ _ h => h⟩) fun r s' h => ?_
    cases r with
    | error e =>
      obtain ⟨_, _, _, _, _, _, _, _, _, _, _, _, z⟩ := h
      exact z.elim
    | ok fl =>
      cases fl with
      | next => exact False.elim h
      | brk => exact False.elim h
      | cont => exact False.elim h
      | ret u =>
        obtain ⟨v, H', os, bare, un, hok', r', q⟩ := h
        have q' : v = .bl true := q
        subst q'
        obtain rfl : u = Value.bool true := r'
        have key : ∀ b o, b ≠ Pt → s₁.heap.get? b = some o → s'.heap.get? b = some o := fun b o nb e => by
          cases q : H b with
          | none => exact un.keep b o e q (by intro z; exact absurd (show b ∈ ([] : List Addr) from z) (by simp)) (by simp)
          | some u =>
            rcases hO b with z | z | ⟨ob, xs, z⟩
            · rw [q] at z; cases z
            · exact absurd z nb
            · have z2 := un.frzs b ob _ z
              obtain ⟨e1, _⟩ := hok b _ z
              obtain ⟨e2, _⟩ := hok' b _ z2
              rw [e] at e1; cases e1
              exact e2
        obtain ⟨more, zm⟩ := un.tbls Pt #[] hH
        have grown : s'.heap.get? Pt = some { cls := .none, data := .fields (#[] ++ more) } := hok' Pt _ zm
        refine ⟨rfl, ⟨fun b o e => ?_, fun b o e => ?_⟩, os, bare⟩
        · by_cases hb : b = Pt
          · rw [hb] at e ⊢
            rw [hT] at e
            cases e
            exact .inr (.inl ⟨(C.tab hT).isCodeTable, rfl, #[], more, rfl, grown⟩)
          · exact .inl (key b o hb e)
        · by_cases hb : b = Pt
          · rw [hb]
            exact ⟨_, grown⟩
          · exact ⟨o, key b o hb e⟩
  cases hk : K.lookup a with
  | some o =>
    have e := KX a o hk
    rw [ha] at e
    cases e
    refine core (fun b => if b = Pt then some (.tbl #[]) else none) (if_pos rfl) (fun b => ?_) (.inr ⟨_, vs.toArray, _, hk, rfl, rfl, rfl, by rw [List.size_toArray, lenV]; exact hl, by simpa using rv⟩) (fun b u z => ?_) (fun b z => ?_) fun z => absurd (show (if a = Pt then some (HO.tbl #[]) else none) = none from if_neg aT) z
    · by_cases hb : b = Pt
      · exact .inr (.inl hb)
      · exact .inl (if_neg hb)
    · by_cases hb : b = Pt
      · have z' := (if_pos hb).symm.trans z
        cases z'
        rw [hb]
        exact hT
      · have z' := (if_neg hb).symm.trans z
        cases z'
    · by_cases hb : b = Pt
      · exact .inr hb
      · exact absurd (if_neg hb) z
  | none =>
    refine core (fun b => if b = a then some (.frz { cls := .type "list", data := .seq vs.toArray } (.lst (ns.map V.int))) else if b = Pt then some (.tbl #[]) else none) ((if_neg (fun z => aT z.symm)).trans (if_pos rfl)) (fun b => ?_)
      (.inl (.inr ⟨{ cls := .type "list", data := .seq vs.toArray }, (if_neg aT).trans (if_pos rfl)⟩)) (fun b u z => ?_) (fun b z => ?_) fun _ => hk
    · by_cases hb : b = a
      · exact .inr (.inr ⟨_, _, if_pos hb⟩)
      · by_cases hb2 : b = Pt
        · exact .inr (.inl hb2)
        · exact .inl ((if_neg hb).trans (if_neg hb2))
    · by_cases hb : b = a
      · have z' := (if_pos hb).symm.trans z
        cases z'
        rw [hb]
        exact ⟨ha, by rw [List.length_map]; exact hl, vs, _, rv, ha⟩
      · have z1 := (if_neg hb).symm.trans z
        by_cases hb2 : b = Pt
        · have z' := (if_pos hb2).symm.trans z1
          cases z'
          rw [hb2]
          exact hT
        · have z' := (if_neg hb2).symm.trans z1
          cases z'
    · by_cases hb : b = a
      · exact .inl hb
      · by_cases hb2 : b = Pt
        · exact .inr hb2
        · exact absurd ((if_neg hb).trans (if_neg hb2)) z
theorem walk_DT {Z : Wld} {μ0 : Z.M} (hreg : ∀ a, ¬ Z.reg μ0 a) (hJ : ∀ S H, Z.J μ0 S H) {l : PySem.W.OpenLaw} {n k : Nat} {q : Program} {loose : List Str} {XP : (Str → Option Value) → Heap → Prop} {YP : World → Heap → Prop} {d : DefRec} {x qn : Str}
    (hn : l.most = some n) (hn2 : n ≤ sizeLine) (hdf : d.params.defaults = []) (hr : Room k callerA) (hin : importsNone q = true) (hrec : recsOf q = [d])
    (F : ∀ (w : World) (mg : Str → Option Value) (fa : Addr) (h : Heap), YP w h → h.Ns mainGlobals mg → mg d.name = some (.ref fa) →
      ∃ (K : PySem.W.Frag) (fd : FuncData) (sp : SpD Z), K.In h ∧ (∀ a o, K.lookup a = some o → isTab o = false) ∧ (∃ (od : Option Addr) (oc : Value) (osl : Array (Option Value)), h.get? fa = some ⟨oc, od, .func fd, osl⟩) ∧ (∀ (s : Shared) (u : Value), BindsTo s fd ⟨[u], []⟩ [(x, u)]) ∧
        (∀ ns : List Int, ns.length ≤ n → (∀ z ∈ ns, Builtin.Int.intBits z ≤ 1048576) → sp [.scr ns] μ0 (fun d _ => d = .bl true) fun _ _ => False) ∧
        ∀ (base : Heap) (c Pt : Addr), fd.code = .ref c → K.In base → base.Ns mainGlobals mg → (∃ mm, base.Ns sysModules mm) → LamX.TabB base mg c Pt → FnG l.prog w K mg base k fa fd [x] (spOf K (tblW Z [(Pt, qn)]) 1 sp)) :
    PySem.W.WalkO q loose XP YP l.row.toRowW d [] (fun f vs => PySem.call f vs) := by
  refine Att.attach_callB hn hdf fun w s₀ s₁ mg mb fa o pm cd doc a vs ns G Y ho hd hcd hmg hobj hints hlen hbits hg => ?_
  obtain ⟨K, fd, sp, KX, nt, ⟨od, oc, osl, hfd⟩, hb, hsp, hF⟩ := F w mg fa _ Y G.T.g hmg
  obtain ⟨mm, hmm, _⟩ := (G.T.seer hin).mods
  obtain ⟨a', o', fd', c, Pt, h1, h2, h3, h4, h5, h6⟩ := G.T.tab d (by rw [hrec]; exact List.mem_singleton.mpr rfl)
  rw [hmg] at h1
  cases h1
  rw [hfd] at h2
  cases h2
  cases h3
  have hT : s₁.heap.get? Pt = some { cls := .none, data := .fields #[] } := h6.2
  have nT : K.lookup Pt = none := by
    cases e : K.lookup Pt with
    | none => rfl
    | some o =>
      have e1 := KX _ _ e
      rw [hT] at e1
      cases e1
      have := nt _ _ e
      cases this
  exact law_callDT hreg hJ KX G.T.g G.T.b G.T.builtins G.T.nolimit hg ⟨mm, hmm⟩ hT nT (PySem.W.CodeHd.of h5 h6) G.T.bmain hobj hints (Nat.le_trans hlen hn2) hr (fun base a1 a2 a3 a4 => hF base c Pt h4 a1 a2 a3 a4) hb (hsp ns hlen hbits)
end DL
/-! text FAs -/
/-! facts.py: what fits (specs) -/
namespace LP
open PySem PySem.Spec PyProof.Rows L2 DL
def fitsB (l : Lamp) (s : Int × Int) : Bool := !decide (1000000000 < s.2 - l.2) && (if l.1 = true then decide (l.2 ≤ s.2 - s.1) else ((s.2 - s.1) % l.2 == 0))
def wrongI (l : Lamp) : Int → Lg → List Int
  | _, [] => []
  | i, s :: g => if fitsB l s = true then wrongI l (i + 1) g else i :: wrongI l (i + 1) g
section
variable {Z : Wld}
def sp_does_fit : SpD Z := fun ds μ R _ => ∃ l s, ds = [lampD l, pD s] ∧ 0 < l.2 ∧ R (.bl (fitsB l s)) μ
def sp_wrong_stretches : SpD Z := fun ds μ R _ => ∃ l g, ds = [lampD l, logD g] ∧ 0 < l.2 ∧ g.length ≤ 10000 ∧ R (intsT (wrongI l 0 g)) μ
end
end LP
/-! text FAt -/
/-! readings of defs that several laws share: printed by gen/mkshared.py -/
namespace LP
open PySem PySem.Spec PyProof.Rows L2 DL
def N_does_fit : List Str := ["lamp", "stretch", "kind", "stay", "on", "off"]
def ps_does_fit : List Str := ["lamp", "stretch"]
def s_does_fit_0 {Z : Wld} : DTS Z :=
  (dsAsg (dVar 0) (dgTup 2 (dgCons (dName 2) (dgCons (dName 3) dgNil))))
def s_does_fit_1 {Z : Wld} : DTS Z :=
  (dsAsg (dVar 1) (dgTup 2 (dgCons (dName 4) (dgCons (dName 5) dgNil))))
def s_does_fit_2 {Z : Wld} : DTS Z :=
  (dsIf (dB (d2 smGt (d2 smSub (dVar 5) (dVar 3)) (dC (.int 1000000000)))) (dsRet (dC (.bl false))) dsNext)
def s_does_fit_3 {Z : Wld} : DTS Z :=
  (dsRet (dIf (dB (d2 smEq (dVar 2) (dC (.str "hold")))) (d2 smGe (d2 smSub (dVar 5) (dVar 4)) (dVar 3)) (d2 smEq (d2 smMod (d2 smSub (dVar 5) (dVar 4)) (dVar 3)) (dC (.int 0)))))
def t_does_fit {Z : Wld} : DTS Z :=
  (dsSeq s_does_fit_0
    (dsSeq s_does_fit_1
    (dsSeq s_does_fit_2
    s_does_fit_3)))
def N_wrong_stretches : List Str := ["lamp", "log", "index", "stretch"]
def ps_wrong_stretches : List Str := ["lamp", "log"]
def s_wrong_stretches_0 {Z : Wld} : DTS Z :=
  (dsRet (dL smTuple (dCons (dFrz (dComp (dEnumC (dVar 1)) (dgTup 2 (dgCons (dName 2) (dgCons (dName 3) dgNil))) (dNot (dTru (dCall sp_does_fit (dCons (dVar 0) (dCons (dVar 3) dNil))))) (dVar 2) [2, 3])) dNil)))
def t_wrong_stretches {Z : Wld} : DTS Z :=
  s_wrong_stretches_0
end LP
/-! text FAp -/
namespace LP
open PySem PySem.Spec PyProof.Rows L2 DL
abbrev fin {Z : Wld} (R : D → Z.M → Prop) (Ed : Xc → Z.M → Prop) : EndsD Z := { nx := fun _ μ' => R .non μ', rt := R, ex := fun x _ μ' => Ed x μ' }
section
variable {Z : Wld} (ds : List D) (μ : Z.M) (R : D → Z.M → Prop) (Ed : Xc → Z.M → Prop)
theorem pure_does_fit (hl : ds.length = ps_does_fit.length) (hs : sp_does_fit ds μ R Ed) (st : staL ds = true) : t_does_fit (fin R Ed) (startD N_does_fit ds) μ := by
  obtain ⟨⟨k, s⟩, ⟨on, off⟩, rfl, hp, h⟩ := hs
  show t_does_fit (fin R Ed) [.val (lampD (k, s)), .val (pD (on, off)), .un, .un, .un, .un] μ
  unfold t_does_fit s_does_fit_0 s_does_fit_1 s_does_fit_2 s_does_fit_3 lampD pD
  simp only [kS_hold, dsSeq, dsRaise, dsTryAs, dsTryO, dIsE, dXf, dStar, dsNever, dsDrop, dsRet, dsRetN, dsRetF, dsIf, dsAsg, dsOwn, dsNext, dsBreak, dsCont, dsAug, dsApp, dsExt, dsSet, dsPar2, dsPar3, dName, g_tup, g_lst, g_cons, g_nil, dsFor, dVar, dC, d2, d1, dL, dNil, dCons, dB, dAnd, dOr, dNot, dAndV, dOrV, dNotV, dIf, dChain, dTup, dLst, dFrz, dTru, dCall, dYes, dSeq, dSeqC, dEnum, dEnumC, dRg1, dRg2, dComp, dCut, dCutF, dAddF, dListF, dMulF, dRev, dPart, dNoPart, dpNil, dpE, dpF, q_isi_int, q_isi_bool, q_isi_str, q_isi_tuple, q_isi_list, q_isi_dict, dIsI, dIsB, dIsS, dIsT, dIsL, dIsD, q_add_i, q_sub, q_mul, q_div, q_mod, q_pow, q_lt, q_le, q_gt, q_ge, q_neg, q_eq_ii, q_ne_ii, q_eq_le, q_ne_le, q_eq_ve, q_ne_ve, q_eq_te, q_ne_te, q_eq_ss, q_ne_ss, q_len, q_bl, q_some, List.getElem?_cons_zero, List.getElem?_cons_succ, List.set_cons_zero, List.set_cons_succ, tru_bl, tru_non, tru_int, tru_tup, tru_lst, tru_vw, len_tup, len_lst, len_vw, len_scr, it_tup, it_lst, it_scr, itc_tup, itc_lst, itc_vw, itc_scr, sta, staL, Bool.and_true, Bool.true_and, Bool.and_eq_true, true_and, and_true, wipeR, if_true, if_false, ite_true, ite_false, Bool.false_eq_true, Bool.not_true, Bool.not_false, Option.some.injEq, exists_eq_left', exists_eq_left, reduceIte, reduceCtorEq, hasTy, tyD, Option.isSome_some, q_ix_t, q_ix_l, q_ix_v, at0, at1, at2, at_two, at_three, at_four, c_pow, c_mul1, c_mul2, Int.reducePow, Int.reduceToNat, Int.reduceMul, Int.reduceAdd, Int.reduceSub, Int.reduceNeg, Int.reduceLT, Int.reduceLE, Int.reduceBEq, Nat.reduceLT, Nat.reduceLeDiff, Nat.reducePow, decide_true, decide_false, Bool.true_and, Bool.and_true, Int.neg_neg, szl, List.length_cons, List.length_nil, Nat.zero_add, Nat.reduceAdd, dDct, List.zip_cons_cons, List.zip_nil_left, List.zip_nil_right, staK, q_add_tt, q_add_ll, q_add_vl, q_add_lv, q_addF_ll, q_addF_vl, q_cut_t, q_cut_l, q_cut_v, q_cut_s, q_rev_t, q_rev_l, q_tuple_t, q_tuple_l, q_tuple_v, q_list_t, q_list_l, q_list_v, q_int_i, q_int_b, q_abs, q_max2, q_min2, q_l1, q_l2, q_int, q_own, q_val, q_own1, q_val1, q_two, q_three, List.cons_append, List.nil_append, List.mem_cons, List.not_mem_nil, or_false, forall_eq_or_imp, forall_eq, ne_eq, not_false_eq_true, q_in_t, q_in_l]
  unfold fitsB at h
  dsimp only at h hp
  by_cases hg : 1000000000 < off - s
  · rw [if_pos (decide_eq_true hg)]
    simpa [hg] using h
  · rw [if_neg (by simpa using hg)]
    cases k
    · simpa [hg, hp] using h
    · simpa [hg] using h
theorem pure_wrong_stretches (hl : ds.length = ps_wrong_stretches.length) (hs : sp_wrong_stretches ds μ R Ed) (st : staL ds = true) : t_wrong_stretches (fin R Ed) (startD N_wrong_stretches ds) μ := by
  obtain ⟨l, g, rfl, hp, hlen, h⟩ := hs
  show t_wrong_stretches (fin R Ed) [.val (lampD l), .val (logD g), .un, .un] μ
  unfold t_wrong_stretches s_wrong_stretches_0 logD
  simp only [dsSeq, dsRaise, dsTryAs, dsTryO, dIsE, dXf, dStar, dsNever, dsDrop, dsRet, dsRetN, dsRetF, dsIf, dsAsg, dsOwn, dsNext, dsBreak, dsCont, dsAug, dsApp, dsExt, dsSet, dsPar2, dsPar3, dName, g_tup, g_lst, g_cons, g_nil, dsFor, dVar, dC, d2, d1, dL, dNil, dCons, dB, dAnd, dOr, dNot, dAndV, dOrV, dNotV, dIf, dChain, dTup, dLst, dFrz, dTru, dCall, dYes, dSeq, dSeqC, dEnum, dEnumC, dRg1, dRg2, dComp, dCut, dCutF, dAddF, dListF, dMulF, dRev, dPart, dNoPart, dpNil, dpE, dpF, q_isi_int, q_isi_bool, q_isi_str, q_isi_tuple, q_isi_list, q_isi_dict, dIsI, dIsB, dIsS, dIsT, dIsL, dIsD, q_add_i, q_sub, q_mul, q_div, q_mod, q_pow, q_lt, q_le, q_gt, q_ge, q_neg, q_eq_ii, q_ne_ii, q_eq_le, q_ne_le, q_eq_ve, q_ne_ve, q_eq_te, q_ne_te, q_eq_ss, q_ne_ss, q_len, q_bl, q_some, List.getElem?_cons_zero, List.getElem?_cons_succ, List.set_cons_zero, List.set_cons_succ, tru_bl, tru_non, tru_int, tru_tup, tru_lst, tru_vw, len_tup, len_lst, len_vw, len_scr, it_tup, it_lst, it_scr, itc_tup, itc_lst, itc_vw, itc_scr, sta, staL, Bool.and_true, Bool.true_and, Bool.and_eq_true, true_and, and_true, wipeR, if_true, if_false, ite_true, ite_false, Bool.false_eq_true, Bool.not_true, Bool.not_false, Option.some.injEq, exists_eq_left', exists_eq_left, reduceIte, reduceCtorEq, hasTy, tyD, Option.isSome_some, q_ix_t, q_ix_l, q_ix_v, at0, at1, at2, at_two, at_three, at_four, c_pow, c_mul1, c_mul2, Int.reducePow, Int.reduceToNat, Int.reduceMul, Int.reduceAdd, Int.reduceSub, Int.reduceNeg, Int.reduceLT, Int.reduceLE, Int.reduceBEq, Nat.reduceLT, Nat.reduceLeDiff, Nat.reducePow, decide_true, decide_false, Bool.true_and, Bool.and_true, Int.neg_neg, szl, List.length_cons, List.length_nil, Nat.zero_add, Nat.reduceAdd, dDct, List.zip_cons_cons, List.zip_nil_left, List.zip_nil_right, staK, q_add_tt, q_add_ll, q_add_vl, q_add_lv, q_addF_ll, q_addF_vl, q_cut_t, q_cut_l, q_cut_v, q_cut_s, q_rev_t, q_rev_l, q_tuple_t, q_tuple_l, q_tuple_v, q_list_t, q_list_l, q_list_v, q_int_i, q_int_b, q_abs, q_max2, q_min2, q_l1, q_l2, q_int, q_own, q_val, q_own1, q_val1, q_two, q_three, List.cons_append, List.nil_append, List.mem_cons, List.not_mem_nil, or_false, forall_eq_or_imp, forall_eq, ne_eq, not_false_eq_true, q_in_t, q_in_l]
  rw [enumF_map]
  refine comp_opt (Z := Z) _ (fun p => if fitsB l p.2 = true then none else some (.int p.1)) (by rw [enI_length, szl]; omega) (fun x hx k k' hk => ?_) (fun x _ y hy => ?_) ?_
  · simp only [sta_p, sta_lamp, dsSeq, dsRaise, dsTryAs, dsTryO, dIsE, dXf, dStar, dsNever, dsDrop, dsRet, dsRetN, dsRetF, dsIf, dsAsg, dsOwn, dsNext, dsBreak, dsCont, dsAug, dsApp, dsExt, dsSet, dsPar2, dsPar3, dName, g_tup, g_lst, g_cons, g_nil, dsFor, dVar, dC, d2, d1, dL, dNil, dCons, dB, dAnd, dOr, dNot, dAndV, dOrV, dNotV, dIf, dChain, dTup, dLst, dFrz, dTru, dCall, dYes, dSeq, dSeqC, dEnum, dEnumC, dRg1, dRg2, dComp, dCut, dCutF, dAddF, dListF, dMulF, dRev, dPart, dNoPart, dpNil, dpE, dpF, q_isi_int, q_isi_bool, q_isi_str, q_isi_tuple, q_isi_list, q_isi_dict, dIsI, dIsB, dIsS, dIsT, dIsL, dIsD, q_add_i, q_sub, q_mul, q_div, q_mod, q_pow, q_lt, q_le, q_gt, q_ge, q_neg, q_eq_ii, q_ne_ii, q_eq_le, q_ne_le, q_eq_ve, q_ne_ve, q_eq_te, q_ne_te, q_eq_ss, q_ne_ss, q_len, q_bl, q_some, List.getElem?_cons_zero, List.getElem?_cons_succ, List.set_cons_zero, List.set_cons_succ, tru_bl, tru_non, tru_int, tru_tup, tru_lst, tru_vw, len_tup, len_lst, len_vw, len_scr, it_tup, it_lst, it_scr, itc_tup, itc_lst, itc_vw, itc_scr, sta, staL, Bool.and_true, Bool.true_and, Bool.and_eq_true, true_and, and_true, wipeR, if_true, if_false, ite_true, ite_false, Bool.false_eq_true, Bool.not_true, Bool.not_false, Option.some.injEq, exists_eq_left', exists_eq_left, reduceIte, reduceCtorEq, hasTy, tyD, Option.isSome_some, q_ix_t, q_ix_l, q_ix_v, at0, at1, at2, at_two, at_three, at_four, c_pow, c_mul1, c_mul2, Int.reducePow, Int.reduceToNat, Int.reduceMul, Int.reduceAdd, Int.reduceSub, Int.reduceNeg, Int.reduceLT, Int.reduceLE, Int.reduceBEq, Nat.reduceLT, Nat.reduceLeDiff, Nat.reducePow, decide_true, decide_false, Bool.true_and, Bool.and_true, Int.neg_neg, szl, List.length_cons, List.length_nil, Nat.zero_add, Nat.reduceAdd, dDct, List.zip_cons_cons, List.zip_nil_left, List.zip_nil_right, staK, q_add_tt, q_add_ll, q_add_vl, q_add_lv, q_addF_ll, q_addF_vl, q_cut_t, q_cut_l, q_cut_v, q_cut_s, q_rev_t, q_rev_l, q_tuple_t, q_tuple_l, q_tuple_v, q_list_t, q_list_l, q_list_v, q_int_i, q_int_b, q_abs, q_max2, q_min2, q_l1, q_l2, q_int, q_own, q_val, q_own1, q_val1, q_two, q_three, List.cons_append, List.nil_append, List.mem_cons, List.not_mem_nil, or_false, forall_eq_or_imp, forall_eq, ne_eq, not_false_eq_true, q_in_t, q_in_l]
    refine ⟨l, x.2, rfl, hp, ?_⟩
    simp only [dsSeq, dsRaise, dsTryAs, dsTryO, dIsE, dXf, dStar, dsNever, dsDrop, dsRet, dsRetN, dsRetF, dsIf, dsAsg, dsOwn, dsNext, dsBreak, dsCont, dsAug, dsApp, dsExt, dsSet, dsPar2, dsPar3, dName, g_tup, g_lst, g_cons, g_nil, dsFor, dVar, dC, d2, d1, dL, dNil, dCons, dB, dAnd, dOr, dNot, dAndV, dOrV, dNotV, dIf, dChain, dTup, dLst, dFrz, dTru, dCall, dYes, dSeq, dSeqC, dEnum, dEnumC, dRg1, dRg2, dComp, dCut, dCutF, dAddF, dListF, dMulF, dRev, dPart, dNoPart, dpNil, dpE, dpF, q_isi_int, q_isi_bool, q_isi_str, q_isi_tuple, q_isi_list, q_isi_dict, dIsI, dIsB, dIsS, dIsT, dIsL, dIsD, q_add_i, q_sub, q_mul, q_div, q_mod, q_pow, q_lt, q_le, q_gt, q_ge, q_neg, q_eq_ii, q_ne_ii, q_eq_le, q_ne_le, q_eq_ve, q_ne_ve, q_eq_te, q_ne_te, q_eq_ss, q_ne_ss, q_len, q_bl, q_some, List.getElem?_cons_zero, List.getElem?_cons_succ, List.set_cons_zero, List.set_cons_succ, tru_bl, tru_non, tru_int, tru_tup, tru_lst, tru_vw, len_tup, len_lst, len_vw, len_scr, it_tup, it_lst, it_scr, itc_tup, itc_lst, itc_vw, itc_scr, sta, staL, Bool.and_true, Bool.true_and, Bool.and_eq_true, true_and, and_true, wipeR, if_true, if_false, ite_true, ite_false, Bool.false_eq_true, Bool.not_true, Bool.not_false, Option.some.injEq, exists_eq_left', exists_eq_left, reduceIte, reduceCtorEq, hasTy, tyD, Option.isSome_some, q_ix_t, q_ix_l, q_ix_v, at0, at1, at2, at_two, at_three, at_four, c_pow, c_mul1, c_mul2, Int.reducePow, Int.reduceToNat, Int.reduceMul, Int.reduceAdd, Int.reduceSub, Int.reduceNeg, Int.reduceLT, Int.reduceLE, Int.reduceBEq, Nat.reduceLT, Nat.reduceLeDiff, Nat.reducePow, decide_true, decide_false, Bool.true_and, Bool.and_true, Int.neg_neg, szl, List.length_cons, List.length_nil, Nat.zero_add, Nat.reduceAdd, dDct, List.zip_cons_cons, List.zip_nil_left, List.zip_nil_right, staK, q_add_tt, q_add_ll, q_add_vl, q_add_lv, q_addF_ll, q_addF_vl, q_cut_t, q_cut_l, q_cut_v, q_cut_s, q_rev_t, q_rev_l, q_tuple_t, q_tuple_l, q_tuple_v, q_list_t, q_list_l, q_list_v, q_int_i, q_int_b, q_abs, q_max2, q_min2, q_l1, q_l2, q_int, q_own, q_val, q_own1, q_val1, q_two, q_three, List.cons_append, List.nil_append, List.mem_cons, List.not_mem_nil, or_false, forall_eq_or_imp, forall_eq, ne_eq, not_false_eq_true, q_in_t, q_in_l]
    cases hf : fitsB l x.2
    · simpa [hf] using hk
    · simpa [hf] using hk
  · split at hy
    · cases hy
    · cases hy; rfl
  · have e : ∀ (i : Int) (g : Lg), (enI i g).filterMap (fun p => if fitsB l p.2 = true then none else some (D.int p.1)) = (wrongI l i g).map D.int := by
      intro i g
      induction g generalizing i with
      | nil => rfl
      | cons s g ih =>
        rw [enI, List.filterMap_cons, wrongI]
        dsimp only
        split
        · rename_i e0
          split at e0
          · rename_i hf
            rw [if_pos hf]
            exact ih _
          · cases e0
        · rename_i y e0
          split at e0
          · cases e0
          · rename_i hf
            cases e0
            rw [if_neg hf, List.map_cons, ih]
    rw [e]
    simp only [staL_ints, dsSeq, dsRaise, dsTryAs, dsTryO, dIsE, dXf, dStar, dsNever, dsDrop, dsRet, dsRetN, dsRetF, dsIf, dsAsg, dsOwn, dsNext, dsBreak, dsCont, dsAug, dsApp, dsExt, dsSet, dsPar2, dsPar3, dName, g_tup, g_lst, g_cons, g_nil, dsFor, dVar, dC, d2, d1, dL, dNil, dCons, dB, dAnd, dOr, dNot, dAndV, dOrV, dNotV, dIf, dChain, dTup, dLst, dFrz, dTru, dCall, dYes, dSeq, dSeqC, dEnum, dEnumC, dRg1, dRg2, dComp, dCut, dCutF, dAddF, dListF, dMulF, dRev, dPart, dNoPart, dpNil, dpE, dpF, q_isi_int, q_isi_bool, q_isi_str, q_isi_tuple, q_isi_list, q_isi_dict, dIsI, dIsB, dIsS, dIsT, dIsL, dIsD, q_add_i, q_sub, q_mul, q_div, q_mod, q_pow, q_lt, q_le, q_gt, q_ge, q_neg, q_eq_ii, q_ne_ii, q_eq_le, q_ne_le, q_eq_ve, q_ne_ve, q_eq_te, q_ne_te, q_eq_ss, q_ne_ss, q_len, q_bl, q_some, List.getElem?_cons_zero, List.getElem?_cons_succ, List.set_cons_zero, List.set_cons_succ, tru_bl, tru_non, tru_int, tru_tup, tru_lst, tru_vw, len_tup, len_lst, len_vw, len_scr, it_tup, it_lst, it_scr, itc_tup, itc_lst, itc_vw, itc_scr, sta, staL, Bool.and_true, Bool.true_and, Bool.and_eq_true, true_and, and_true, wipeR, if_true, if_false, ite_true, ite_false, Bool.false_eq_true, Bool.not_true, Bool.not_false, Option.some.injEq, exists_eq_left', exists_eq_left, reduceIte, reduceCtorEq, hasTy, tyD, Option.isSome_some, q_ix_t, q_ix_l, q_ix_v, at0, at1, at2, at_two, at_three, at_four, c_pow, c_mul1, c_mul2, Int.reducePow, Int.reduceToNat, Int.reduceMul, Int.reduceAdd, Int.reduceSub, Int.reduceNeg, Int.reduceLT, Int.reduceLE, Int.reduceBEq, Nat.reduceLT, Nat.reduceLeDiff, Nat.reducePow, decide_true, decide_false, Bool.true_and, Bool.and_true, Int.neg_neg, szl, List.length_cons, List.length_nil, Nat.zero_add, Nat.reduceAdd, dDct, List.zip_cons_cons, List.zip_nil_left, List.zip_nil_right, staK, q_add_tt, q_add_ll, q_add_vl, q_add_lv, q_addF_ll, q_addF_vl, q_cut_t, q_cut_l, q_cut_v, q_cut_s, q_rev_t, q_rev_l, q_tuple_t, q_tuple_l, q_tuple_v, q_list_t, q_list_l, q_list_v, q_int_i, q_int_b, q_abs, q_max2, q_min2, q_l1, q_l2, q_int, q_own, q_val, q_own1, q_val1, q_two, q_three, List.cons_append, List.nil_append, List.mem_cons, List.not_mem_nil, or_false, forall_eq_or_imp, forall_eq, ne_eq, not_false_eq_true, q_in_t, q_in_l]
    exact h
end
end LP
/-! text LX -/
/-! small things about numbers and lists -/
namespace LP
open PySem PySem.Spec PyProof.Rows L2 DL
section
variable {Z : Wld} {R : D → Z.M → Prop} {E : Xc → Z.M → Prop} {μ : Z.M}
theorem sm60 {i j : Int} (h : -(2 ^ 64) < i) (h2 : i < 2 ^ 64) : CMul i j ∨ CMulW i j := .inl (.inl ⟨h, h2⟩)
theorem sm61 {i j : Int} (h : -(2 ^ 64) < j) (h2 : j < 2 ^ 64) : CMul i j ∨ CMulW i j := .inl (.inr ⟨h, h2⟩)
theorem dv60 {i j : Int} (h : 0 < j) (h2 : j < 2 ^ 64) : CDivW i j := wide_div (b := 64) h (by omega) (by decide) (by decide)
theorem mul_bit {xs : List D} {b : Bool} {R : D → Prop} (h : xs.length ≤ sizeLine) (q : R (.lst (if b = true then xs else []))) : smMul (.lst xs) (.int (if b = true then 1 else 0)) R := by
  have szz : sizeLine = 16777216 := rfl
  cases b with
  | true => exact ⟨xs, rfl, by decide, by decide, by simpa using h, by simpa using q⟩
  | false => exact ⟨xs, rfl, by decide, by decide, by simp, by simpa using q⟩
theorem cut_last {α : Type} (xs : List α) (x : α) : cutL (xs ++ [x]) none (some (-1)) = xs := by
  unfold cutL HT.sIx
  simp
  rw [show (-1 + ((xs.length : Int) + 1)).toNat = xs.length by omega, List.take_left]
theorem rev_len (g : Lg) : (g.reverse.map pD).length = g.length := by simp
end
end LP
/-! text SAs -/
/-! facts.py: sure minutes, quiet spans, calls (specs) -/
namespace LP
open PySem PySem.Spec PyProof.Rows L2 DL
def unexX (r : D) : Xc := ⟨"Unexplained", [("reason", r)]⟩
/-- a log of which each stretch fits answers; otherwise its first wrong stretch is told -/
def fitOr {Z : Wld} (l : Lamp) (g : Lg) (ok : Prop) (Ed : Xc → Z.M → Prop) (μ : Z.M) : Prop := match wrongI l 0 g with
  | [] => ok
  | w :: _ => Ed (unexX (.tup [.str "stretch", .int 0, .int w])) μ
def LampP (l : Lamp) : Prop := 0 < l.2 ∧ l.2 < 2 ^ 60
def runI (l : Lamp) (s : Int × Int) : Rn := if s.2 - l.2 = s.1 then (s.1, 1, 1) else if l.1 = true then (s.1, s.2 - l.2 - s.1, 2) else (s.1, l.2, (s.2 - s.1) / l.2)
def lastI (l : Lamp) (s : Int × Int) : Int := if l.1 = true then s.2 - l.2 else min (s.2 - 1) 1000000000
def quietI (l : Lamp) : Int → Lg → Lg
  | first, [] => if first ≤ 1000000000 then [(first, 1000000000)] else []
  | first, s :: g => (if first < s.1 then [(first, s.1 - 1)] else []) ++ quietI l (lastI l s + 1) g
def callsI (l : Lamp) (g : Lg) : Lg := if l.1 = true then (g.map fun s => (s.1, s.2 - l.2)).filter fun p => decide (l.2 ≤ p.2 - p.1 + 1) else []
section
variable {Z : Wld}
def sp_require_fit : SpD Z := fun ds μ R Ed => ∃ l g, ds = [lampD l, logD g] ∧ LampP l ∧ g.length ≤ 10000 ∧ fitOr l g (R .non μ) Ed μ
def sp_run_of : SpD Z := fun ds μ R _ => ∃ l s, ds = [lampD l, pD s] ∧ LampP l ∧ R (rnD (runI l s)) μ
def sp_sure_runs : SpD Z := fun ds μ R Ed => ∃ l g, ds = [lampD l, logD g] ∧ LampP l ∧ g.length ≤ 10000 ∧ fitOr l g (R (runsD (g.map (runI l))) μ) Ed μ
def sp_last_possible : SpD Z := fun ds μ R _ => ∃ l s, ds = [lampD l, pD s] ∧ R (.int (lastI l s)) μ
def sp_quiet_spans : SpD Z := fun ds μ R Ed => ∃ l g, ds = [lampD l, logD g] ∧ LampP l ∧ g.length ≤ 10000 ∧ fitOr l g (R (logD (quietI l 0 g)) μ) Ed μ
def sp_call_spans : SpD Z := fun ds μ R Ed => ∃ l g, ds = [lampD l, logD g] ∧ LampP l ∧ g.length ≤ 10000 ∧ fitOr l g (R (logD (callsI l g)) μ) Ed μ
end
end LP
/-! text SAt -/
/-! readings of defs that several laws share: printed by gen/mkshared.py -/
namespace LP
open PySem PySem.Spec PyProof.Rows L2 DL LP
def N_require_fit : List Str := ["lamp", "log", "wrong"]
def ps_require_fit : List Str := ["lamp", "log"]
def s_require_fit_0 {Z : Wld} : DTS Z :=
  (dsAsg (dCall sp_wrong_stretches (dCons (dVar 0) (dCons (dVar 1) dNil))) (dName 2))
def s_require_fit_1a_0 {Z : Wld} : DTS Z :=
  (dsRaise "Unexplained" "reason" (dTup (dCons (dC (.str "stretch")) (dCons (dC (.int 0)) (dCons (d2 smIx (dVar 2) (dC (.int 0))) dNil)))))
def s_require_fit_1 {Z : Wld} : DTS Z :=
  (dsIf (dB (d2 smNe (dVar 2) (dTup dNil))) s_require_fit_1a_0 dsNext)
def t_require_fit {Z : Wld} : DTS Z :=
  (dsSeq s_require_fit_0
    s_require_fit_1)
def N_run_of : List Str := ["lamp", "stretch", "kind", "stay", "on", "off"]
def ps_run_of : List Str := ["lamp", "stretch"]
def s_run_of_0 {Z : Wld} : DTS Z :=
  (dsAsg (dVar 0) (dgTup 2 (dgCons (dName 2) (dgCons (dName 3) dgNil))))
def s_run_of_1 {Z : Wld} : DTS Z :=
  (dsAsg (dVar 1) (dgTup 2 (dgCons (dName 4) (dgCons (dName 5) dgNil))))
def s_run_of_2a_0 {Z : Wld} : DTS Z :=
  (dsRet (dTup (dCons (dVar 4) (dCons (dC (.int 1)) (dCons (dC (.int 1)) dNil)))))
def s_run_of_2 {Z : Wld} : DTS Z :=
  (dsIf (dB (d2 smEq (d2 smSub (dVar 5) (dVar 3)) (dVar 4))) s_run_of_2a_0 dsNext)
def s_run_of_3 {Z : Wld} : DTS Z :=
  (dsRet (dIf (dB (d2 smEq (dVar 2) (dC (.str "hold")))) (dTup (dCons (dVar 4) (dCons (d2 smSub (d2 smSub (dVar 5) (dVar 3)) (dVar 4)) (dCons (dC (.int 2)) dNil)))) (dTup (dCons (dVar 4) (dCons (dVar 3) (dCons (d2 smDiv (d2 smSub (dVar 5) (dVar 4)) (dVar 3)) dNil))))))
def t_run_of {Z : Wld} : DTS Z :=
  (dsSeq s_run_of_0
    (dsSeq s_run_of_1
    (dsSeq s_run_of_2
    s_run_of_3)))
def N_sure_runs : List Str := ["lamp", "log", "stretch"]
def ps_sure_runs : List Str := ["lamp", "log"]
def s_sure_runs_0 {Z : Wld} : DTS Z :=
  (dsDrop (dCall sp_require_fit (dCons (dVar 0) (dCons (dVar 1) dNil))))
def s_sure_runs_1 {Z : Wld} : DTS Z :=
  (dsRet (dL smTuple (dCons (dFrz (dComp (dSeqC (dVar 1)) (dName 2) dYes (dCall sp_run_of (dCons (dVar 0) (dCons (dVar 2) dNil))) [2])) dNil)))
def t_sure_runs {Z : Wld} : DTS Z :=
  (dsSeq s_sure_runs_0
    s_sure_runs_1)
def N_last_possible : List Str := ["lamp", "stretch", "kind", "stay"]
def ps_last_possible : List Str := ["lamp", "stretch"]
def s_last_possible_0 {Z : Wld} : DTS Z :=
  (dsAsg (dVar 0) (dgTup 2 (dgCons (dName 2) (dgCons (dName 3) dgNil))))
def s_last_possible_1 {Z : Wld} : DTS Z :=
  (dsRet (dIf (dB (d2 smEq (dVar 2) (dC (.str "hold")))) (d2 smSub (d2 smIx (dVar 1) (dC (.int 1))) (dVar 3)) (dL smMin2 (dCons (d2 smSub (d2 smIx (dVar 1) (dC (.int 1))) (dC (.int 1))) (dCons (dC (.int 1000000000)) dNil)))))
def t_last_possible {Z : Wld} : DTS Z :=
  (dsSeq s_last_possible_0
    s_last_possible_1)
def N_quiet_spans : List Str := ["lamp", "log", "found", "first", "stretch"]
def ps_quiet_spans : List Str := ["lamp", "log"]
def s_quiet_spans_0 {Z : Wld} : DTS Z :=
  (dsDrop (dCall sp_require_fit (dCons (dVar 0) (dCons (dVar 1) dNil))))
def s_quiet_spans_1 {Z : Wld} : DTS Z :=
  (dsPar2 2 3 (dpF (dLst dNil) (dpE (dC (.int 0)) dpNil)))
def s_quiet_spans_2f_0a_0 {Z : Wld} : DTS Z :=
  (dsApp 2 (dTup (dCons (dVar 3) (dCons (d2 smSub (d2 smIx (dVar 4) (dC (.int 0))) (dC (.int 1))) dNil))))
def s_quiet_spans_2f_0 {Z : Wld} : DTS Z :=
  (dsIf (dB (d2 smLt (dVar 3) (d2 smIx (dVar 4) (dC (.int 0))))) s_quiet_spans_2f_0a_0 dsNext)
def s_quiet_spans_2f_1 {Z : Wld} : DTS Z :=
  (dsAsg (d2 smAdd (dCall sp_last_possible (dCons (dVar 0) (dCons (dVar 4) dNil))) (dC (.int 1))) (dName 3))
def l_quiet_spans_2 {Z : Wld} : DTS Z :=
  (dsSeq s_quiet_spans_2f_0
    s_quiet_spans_2f_1)
def s_quiet_spans_2 {Z : Wld} : DTS Z :=
  (dsFor (dSeq (dVar 1)) (dName 4)
   l_quiet_spans_2)
def s_quiet_spans_3a_0 {Z : Wld} : DTS Z :=
  (dsApp 2 (dTup (dCons (dVar 3) (dCons (dC (.int 1000000000)) dNil))))
def s_quiet_spans_3 {Z : Wld} : DTS Z :=
  (dsIf (dB (d2 smLe (dVar 3) (dC (.int 1000000000)))) s_quiet_spans_3a_0 dsNext)
def s_quiet_spans_4 {Z : Wld} : DTS Z :=
  (dsRet (dL smTuple (dCons (dVar 2) dNil)))
def t_quiet_spans {Z : Wld} : DTS Z :=
  (dsSeq s_quiet_spans_0
    (dsSeq s_quiet_spans_1
    (dsSeq s_quiet_spans_2
    (dsSeq s_quiet_spans_3
    s_quiet_spans_4))))
def N_call_spans : List Str := ["lamp", "log", "kind", "stay", "spans", "on", "off", "first", "last"]
def ps_call_spans : List Str := ["lamp", "log"]
def s_call_spans_0 {Z : Wld} : DTS Z :=
  (dsDrop (dCall sp_require_fit (dCons (dVar 0) (dCons (dVar 1) dNil))))
def s_call_spans_1 {Z : Wld} : DTS Z :=
  (dsAsg (dVar 0) (dgTup 2 (dgCons (dName 2) (dgCons (dName 3) dgNil))))
def s_call_spans_2 {Z : Wld} : DTS Z :=
  (dsAsg (dFrz (dComp (dSeqC (dVar 1)) (dgTup 2 (dgCons (dName 5) (dgCons (dName 6) dgNil))) (dB (d2 smEq (dVar 2) (dC (.str "hold")))) (dTup (dCons (dVar 5) (dCons (d2 smSub (dVar 6) (dVar 3)) dNil))) [5, 6])) (dName 4))
def s_call_spans_3 {Z : Wld} : DTS Z :=
  (dsRet (dL smTuple (dCons (dFrz (dComp (dSeqC (dVar 4)) (dgTup 2 (dgCons (dName 7) (dgCons (dName 8) dgNil))) (dB (d2 smGe (d2 smAdd (d2 smSub (dVar 8) (dVar 7)) (dC (.int 1))) (dVar 3))) (dTup (dCons (dVar 7) (dCons (dVar 8) dNil))) [7, 8])) dNil)))
def t_call_spans {Z : Wld} : DTS Z :=
  (dsSeq s_call_spans_0
    (dsSeq s_call_spans_1
    (dsSeq s_call_spans_2
    s_call_spans_3)))
end LP
/-! text SAp -/
namespace LP
open PySem PySem.Spec PyProof.Rows L2 DL
section
variable {Z : Wld} (ds : List D) (μ : Z.M) (R : D → Z.M → Prop) (Ed : Xc → Z.M → Prop)
theorem fitOr_mono {l : Lamp} {g : Lg} {p q : Prop} (h : fitOr (Z := Z) l g p Ed μ) (k : p → q) : fitOr (Z := Z) l g q Ed μ := by
  unfold fitOr at h ⊢
  split at h
  · exact k h
  · exact h
theorem wrongI_nil {l : Lamp} : ∀ {i : Int} {g : Lg}, wrongI l i g = [] → ∀ s ∈ g, fitsB l s = true
  | i, x :: g, h, s, hs => by
    rw [wrongI] at h
    split at h
    · rename_i hf
      rcases List.mem_cons.mp hs with e | e
      · rw [e]; exact hf
      · exact wrongI_nil h s e
    · cases h
theorem pure_require_fit (hl : ds.length = ps_require_fit.length) (hs : sp_require_fit ds μ R Ed) (st : staL ds = true) : t_require_fit (fin R Ed) (startD N_require_fit ds) μ := by
  obtain ⟨l, g, rfl, hp, hn, h⟩ := hs
  show t_require_fit (fin R Ed) [.val (lampD l), .val (logD g), .un] μ
  unfold t_require_fit s_require_fit_0
  simp only [sta_lamp, sta_log, dsSeq, dsRaise, dsTryAs, dsTryO, dIsE, dXf, dStar, dsNever, dsDrop, dsRet, dsRetN, dsRetF, dsIf, dsAsg, dsOwn, dsNext, dsBreak, dsCont, dsAug, dsApp, dsExt, dsSet, dsPar2, dsPar3, dName, g_tup, g_lst, g_cons, g_nil, dsFor, dVar, dC, d2, d1, dL, dNil, dCons, dB, dAnd, dOr, dNot, dAndV, dOrV, dNotV, dIf, dChain, dTup, dLst, dFrz, dTru, dCall, dYes, dSeq, dSeqC, dEnum, dEnumC, dRg1, dRg2, dComp, dCut, dCutF, dAddF, dListF, dMulF, dRev, dPart, dNoPart, dpNil, dpE, dpF, q_isi_int, q_isi_bool, q_isi_str, q_isi_tuple, q_isi_list, q_isi_dict, dIsI, dIsB, dIsS, dIsT, dIsL, dIsD, q_add_i, q_sub, q_mul, q_div, q_mod, q_pow, q_lt, q_le, q_gt, q_ge, q_neg, q_eq_ii, q_ne_ii, q_eq_le, q_ne_le, q_eq_ve, q_ne_ve, q_eq_te, q_ne_te, q_eq_ss, q_ne_ss, q_len, q_bl, q_some, List.getElem?_cons_zero, List.getElem?_cons_succ, List.set_cons_zero, List.set_cons_succ, tru_bl, tru_non, tru_int, tru_tup, tru_lst, tru_vw, len_tup, len_lst, len_vw, len_scr, it_tup, it_lst, it_scr, itc_tup, itc_lst, itc_vw, itc_scr, sta, staL, Bool.and_true, Bool.true_and, Bool.and_eq_true, true_and, and_true, wipeR, if_true, if_false, ite_true, ite_false, Bool.false_eq_true, Bool.not_true, Bool.not_false, Option.some.injEq, exists_eq_left', exists_eq_left, reduceIte, reduceCtorEq, hasTy, tyD, Option.isSome_some, q_ix_t, q_ix_l, q_ix_v, at0, at1, at2, at_two, at_three, at_four, c_pow, c_mul1, c_mul2, Int.reducePow, Int.reduceToNat, Int.reduceMul, Int.reduceAdd, Int.reduceSub, Int.reduceNeg, Int.reduceLT, Int.reduceLE, Int.reduceBEq, Nat.reduceLT, Nat.reduceLeDiff, Nat.reducePow, decide_true, decide_false, Bool.true_and, Bool.and_true, Int.neg_neg, szl, List.length_cons, List.length_nil, Nat.zero_add, Nat.reduceAdd, dDct, List.zip_cons_cons, List.zip_nil_left, List.zip_nil_right, staK, q_add_tt, q_add_ll, q_add_vl, q_add_lv, q_addF_ll, q_addF_vl, q_cut_t, q_cut_l, q_cut_v, q_cut_s, q_rev_t, q_rev_l, q_tuple_t, q_tuple_l, q_tuple_v, q_list_t, q_list_l, q_list_v, q_int_i, q_int_b, q_abs, q_max2, q_min2, q_l1, q_l2, q_int, q_own, q_val, q_own1, q_val1, q_two, q_three, List.cons_append, List.nil_append, List.mem_cons, List.not_mem_nil, or_false, forall_eq_or_imp, forall_eq, ne_eq, not_false_eq_true, q_in_t, q_in_l]
  refine ⟨l, g, rfl, hp.1, hn, ?_⟩
  unfold s_require_fit_1 s_require_fit_1a_0 intsT
  simp only [staL_ints, dsSeq, dsRaise, dsTryAs, dsTryO, dIsE, dXf, dStar, dsNever, dsDrop, dsRet, dsRetN, dsRetF, dsIf, dsAsg, dsOwn, dsNext, dsBreak, dsCont, dsAug, dsApp, dsExt, dsSet, dsPar2, dsPar3, dName, g_tup, g_lst, g_cons, g_nil, dsFor, dVar, dC, d2, d1, dL, dNil, dCons, dB, dAnd, dOr, dNot, dAndV, dOrV, dNotV, dIf, dChain, dTup, dLst, dFrz, dTru, dCall, dYes, dSeq, dSeqC, dEnum, dEnumC, dRg1, dRg2, dComp, dCut, dCutF, dAddF, dListF, dMulF, dRev, dPart, dNoPart, dpNil, dpE, dpF, q_isi_int, q_isi_bool, q_isi_str, q_isi_tuple, q_isi_list, q_isi_dict, dIsI, dIsB, dIsS, dIsT, dIsL, dIsD, q_add_i, q_sub, q_mul, q_div, q_mod, q_pow, q_lt, q_le, q_gt, q_ge, q_neg, q_eq_ii, q_ne_ii, q_eq_le, q_ne_le, q_eq_ve, q_ne_ve, q_eq_te, q_ne_te, q_eq_ss, q_ne_ss, q_len, q_bl, q_some, List.getElem?_cons_zero, List.getElem?_cons_succ, List.set_cons_zero, List.set_cons_succ, tru_bl, tru_non, tru_int, tru_tup, tru_lst, tru_vw, len_tup, len_lst, len_vw, len_scr, it_tup, it_lst, it_scr, itc_tup, itc_lst, itc_vw, itc_scr, sta, staL, Bool.and_true, Bool.true_and, Bool.and_eq_true, true_and, and_true, wipeR, if_true, if_false, ite_true, ite_false, Bool.false_eq_true, Bool.not_true, Bool.not_false, Option.some.injEq, exists_eq_left', exists_eq_left, reduceIte, reduceCtorEq, hasTy, tyD, Option.isSome_some, q_ix_t, q_ix_l, q_ix_v, at0, at1, at2, at_two, at_three, at_four, c_pow, c_mul1, c_mul2, Int.reducePow, Int.reduceToNat, Int.reduceMul, Int.reduceAdd, Int.reduceSub, Int.reduceNeg, Int.reduceLT, Int.reduceLE, Int.reduceBEq, Nat.reduceLT, Nat.reduceLeDiff, Nat.reducePow, decide_true, decide_false, Bool.true_and, Bool.and_true, Int.neg_neg, szl, List.length_cons, List.length_nil, Nat.zero_add, Nat.reduceAdd, dDct, List.zip_cons_cons, List.zip_nil_left, List.zip_nil_right, staK, q_add_tt, q_add_ll, q_add_vl, q_add_lv, q_addF_ll, q_addF_vl, q_cut_t, q_cut_l, q_cut_v, q_cut_s, q_rev_t, q_rev_l, q_tuple_t, q_tuple_l, q_tuple_v, q_list_t, q_list_l, q_list_v, q_int_i, q_int_b, q_abs, q_max2, q_min2, q_l1, q_l2, q_int, q_own, q_val, q_own1, q_val1, q_two, q_three, List.cons_append, List.nil_append, List.mem_cons, List.not_mem_nil, or_false, forall_eq_or_imp, forall_eq, ne_eq, not_false_eq_true, q_in_t, q_in_l]
  unfold fitOr at h
  cases e : wrongI l 0 g with
  | nil =>
    rw [e] at h
    simp only [List.map_nil, List.isEmpty_nil, dsSeq, dsRaise, dsTryAs, dsTryO, dIsE, dXf, dStar, dsNever, dsDrop, dsRet, dsRetN, dsRetF, dsIf, dsAsg, dsOwn, dsNext, dsBreak, dsCont, dsAug, dsApp, dsExt, dsSet, dsPar2, dsPar3, dName, g_tup, g_lst, g_cons, g_nil, dsFor, dVar, dC, d2, d1, dL, dNil, dCons, dB, dAnd, dOr, dNot, dAndV, dOrV, dNotV, dIf, dChain, dTup, dLst, dFrz, dTru, dCall, dYes, dSeq, dSeqC, dEnum, dEnumC, dRg1, dRg2, dComp, dCut, dCutF, dAddF, dListF, dMulF, dRev, dPart, dNoPart, dpNil, dpE, dpF, q_isi_int, q_isi_bool, q_isi_str, q_isi_tuple, q_isi_list, q_isi_dict, dIsI, dIsB, dIsS, dIsT, dIsL, dIsD, q_add_i, q_sub, q_mul, q_div, q_mod, q_pow, q_lt, q_le, q_gt, q_ge, q_neg, q_eq_ii, q_ne_ii, q_eq_le, q_ne_le, q_eq_ve, q_ne_ve, q_eq_te, q_ne_te, q_eq_ss, q_ne_ss, q_len, q_bl, q_some, List.getElem?_cons_zero, List.getElem?_cons_succ, List.set_cons_zero, List.set_cons_succ, tru_bl, tru_non, tru_int, tru_tup, tru_lst, tru_vw, len_tup, len_lst, len_vw, len_scr, it_tup, it_lst, it_scr, itc_tup, itc_lst, itc_vw, itc_scr, sta, staL, Bool.and_true, Bool.true_and, Bool.and_eq_true, true_and, and_true, wipeR, if_true, if_false, ite_true, ite_false, Bool.false_eq_true, Bool.not_true, Bool.not_false, Option.some.injEq, exists_eq_left', exists_eq_left, reduceIte, reduceCtorEq, hasTy, tyD, Option.isSome_some, q_ix_t, q_ix_l, q_ix_v, at0, at1, at2, at_two, at_three, at_four, c_pow, c_mul1, c_mul2, Int.reducePow, Int.reduceToNat, Int.reduceMul, Int.reduceAdd, Int.reduceSub, Int.reduceNeg, Int.reduceLT, Int.reduceLE, Int.reduceBEq, Nat.reduceLT, Nat.reduceLeDiff, Nat.reducePow, decide_true, decide_false, Bool.true_and, Bool.and_true, Int.neg_neg, szl, List.length_cons, List.length_nil, Nat.zero_add, Nat.reduceAdd, dDct, List.zip_cons_cons, List.zip_nil_left, List.zip_nil_right, staK, q_add_tt, q_add_ll, q_add_vl, q_add_lv, q_addF_ll, q_addF_vl, q_cut_t, q_cut_l, q_cut_v, q_cut_s, q_rev_t, q_rev_l, q_tuple_t, q_tuple_l, q_tuple_v, q_list_t, q_list_l, q_list_v, q_int_i, q_int_b, q_abs, q_max2, q_min2, q_l1, q_l2, q_int, q_own, q_val, q_own1, q_val1, q_two, q_three, List.cons_append, List.nil_append, List.mem_cons, List.not_mem_nil, or_false, forall_eq_or_imp, forall_eq, ne_eq, not_false_eq_true, q_in_t, q_in_l]
    exact h
  | cons w ws =>
    rw [e] at h
    simp only [List.map_cons, List.isEmpty_cons, dsSeq, dsRaise, dsTryAs, dsTryO, dIsE, dXf, dStar, dsNever, dsDrop, dsRet, dsRetN, dsRetF, dsIf, dsAsg, dsOwn, dsNext, dsBreak, dsCont, dsAug, dsApp, dsExt, dsSet, dsPar2, dsPar3, dName, g_tup, g_lst, g_cons, g_nil, dsFor, dVar, dC, d2, d1, dL, dNil, dCons, dB, dAnd, dOr, dNot, dAndV, dOrV, dNotV, dIf, dChain, dTup, dLst, dFrz, dTru, dCall, dYes, dSeq, dSeqC, dEnum, dEnumC, dRg1, dRg2, dComp, dCut, dCutF, dAddF, dListF, dMulF, dRev, dPart, dNoPart, dpNil, dpE, dpF, q_isi_int, q_isi_bool, q_isi_str, q_isi_tuple, q_isi_list, q_isi_dict, dIsI, dIsB, dIsS, dIsT, dIsL, dIsD, q_add_i, q_sub, q_mul, q_div, q_mod, q_pow, q_lt, q_le, q_gt, q_ge, q_neg, q_eq_ii, q_ne_ii, q_eq_le, q_ne_le, q_eq_ve, q_ne_ve, q_eq_te, q_ne_te, q_eq_ss, q_ne_ss, q_len, q_bl, q_some, List.getElem?_cons_zero, List.getElem?_cons_succ, List.set_cons_zero, List.set_cons_succ, tru_bl, tru_non, tru_int, tru_tup, tru_lst, tru_vw, len_tup, len_lst, len_vw, len_scr, it_tup, it_lst, it_scr, itc_tup, itc_lst, itc_vw, itc_scr, sta, staL, Bool.and_true, Bool.true_and, Bool.and_eq_true, true_and, and_true, wipeR, if_true, if_false, ite_true, ite_false, Bool.false_eq_true, Bool.not_true, Bool.not_false, Option.some.injEq, exists_eq_left', exists_eq_left, reduceIte, reduceCtorEq, hasTy, tyD, Option.isSome_some, q_ix_t, q_ix_l, q_ix_v, at0, at1, at2, at_two, at_three, at_four, c_pow, c_mul1, c_mul2, Int.reducePow, Int.reduceToNat, Int.reduceMul, Int.reduceAdd, Int.reduceSub, Int.reduceNeg, Int.reduceLT, Int.reduceLE, Int.reduceBEq, Nat.reduceLT, Nat.reduceLeDiff, Nat.reducePow, decide_true, decide_false, Bool.true_and, Bool.and_true, Int.neg_neg, szl, List.length_cons, List.length_nil, Nat.zero_add, Nat.reduceAdd, dDct, List.zip_cons_cons, List.zip_nil_left, List.zip_nil_right, staK, q_add_tt, q_add_ll, q_add_vl, q_add_lv, q_addF_ll, q_addF_vl, q_cut_t, q_cut_l, q_cut_v, q_cut_s, q_rev_t, q_rev_l, q_tuple_t, q_tuple_l, q_tuple_v, q_list_t, q_list_l, q_list_v, q_int_i, q_int_b, q_abs, q_max2, q_min2, q_l1, q_l2, q_int, q_own, q_val, q_own1, q_val1, q_two, q_three, List.cons_append, List.nil_append, List.mem_cons, List.not_mem_nil, or_false, forall_eq_or_imp, forall_eq, ne_eq, not_false_eq_true, q_in_t, q_in_l]
    exact h
theorem pure_run_of (hl : ds.length = ps_run_of.length) (hs : sp_run_of ds μ R Ed) (st : staL ds = true) : t_run_of (fin R Ed) (startD N_run_of ds) μ := by
  obtain ⟨⟨k, stay⟩, ⟨on, off⟩, rfl, hp, h⟩ := hs
  show t_run_of (fin R Ed) [.val (lampD (k, stay)), .val (pD (on, off)), .un, .un, .un, .un] μ
  unfold t_run_of s_run_of_0 s_run_of_1 s_run_of_2 s_run_of_2a_0 s_run_of_3 lampD pD
  simp only [kS_hold, dsSeq, dsRaise, dsTryAs, dsTryO, dIsE, dXf, dStar, dsNever, dsDrop, dsRet, dsRetN, dsRetF, dsIf, dsAsg, dsOwn, dsNext, dsBreak, dsCont, dsAug, dsApp, dsExt, dsSet, dsPar2, dsPar3, dName, g_tup, g_lst, g_cons, g_nil, dsFor, dVar, dC, d2, d1, dL, dNil, dCons, dB, dAnd, dOr, dNot, dAndV, dOrV, dNotV, dIf, dChain, dTup, dLst, dFrz, dTru, dCall, dYes, dSeq, dSeqC, dEnum, dEnumC, dRg1, dRg2, dComp, dCut, dCutF, dAddF, dListF, dMulF, dRev, dPart, dNoPart, dpNil, dpE, dpF, q_isi_int, q_isi_bool, q_isi_str, q_isi_tuple, q_isi_list, q_isi_dict, dIsI, dIsB, dIsS, dIsT, dIsL, dIsD, q_add_i, q_sub, q_mul, q_div, q_mod, q_pow, q_lt, q_le, q_gt, q_ge, q_neg, q_eq_ii, q_ne_ii, q_eq_le, q_ne_le, q_eq_ve, q_ne_ve, q_eq_te, q_ne_te, q_eq_ss, q_ne_ss, q_len, q_bl, q_some, List.getElem?_cons_zero, List.getElem?_cons_succ, List.set_cons_zero, List.set_cons_succ, tru_bl, tru_non, tru_int, tru_tup, tru_lst, tru_vw, len_tup, len_lst, len_vw, len_scr, it_tup, it_lst, it_scr, itc_tup, itc_lst, itc_vw, itc_scr, sta, staL, Bool.and_true, Bool.true_and, Bool.and_eq_true, true_and, and_true, wipeR, if_true, if_false, ite_true, ite_false, Bool.false_eq_true, Bool.not_true, Bool.not_false, Option.some.injEq, exists_eq_left', exists_eq_left, reduceIte, reduceCtorEq, hasTy, tyD, Option.isSome_some, q_ix_t, q_ix_l, q_ix_v, at0, at1, at2, at_two, at_three, at_four, c_pow, c_mul1, c_mul2, Int.reducePow, Int.reduceToNat, Int.reduceMul, Int.reduceAdd, Int.reduceSub, Int.reduceNeg, Int.reduceLT, Int.reduceLE, Int.reduceBEq, Nat.reduceLT, Nat.reduceLeDiff, Nat.reducePow, decide_true, decide_false, Bool.true_and, Bool.and_true, Int.neg_neg, szl, List.length_cons, List.length_nil, Nat.zero_add, Nat.reduceAdd, dDct, List.zip_cons_cons, List.zip_nil_left, List.zip_nil_right, staK, q_add_tt, q_add_ll, q_add_vl, q_add_lv, q_addF_ll, q_addF_vl, q_cut_t, q_cut_l, q_cut_v, q_cut_s, q_rev_t, q_rev_l, q_tuple_t, q_tuple_l, q_tuple_v, q_list_t, q_list_l, q_list_v, q_int_i, q_int_b, q_abs, q_max2, q_min2, q_l1, q_l2, q_int, q_own, q_val, q_own1, q_val1, q_two, q_three, List.cons_append, List.nil_append, List.mem_cons, List.not_mem_nil, or_false, forall_eq_or_imp, forall_eq, ne_eq, not_false_eq_true, q_in_t, q_in_l]
  unfold runI at h
  unfold LampP at hp
  dsimp only at h hp
  by_cases h1 : off - stay = on
  · rw [if_pos h1] at h
    rw [if_pos (by simpa using h1)]
    exact h
  · rw [if_neg h1] at h
    rw [if_neg (by simpa using h1)]
    cases k with
    | true => exact h
    | false => exact ⟨dv60 (by omega) (by omega), h⟩
theorem pure_sure_runs (hl : ds.length = ps_sure_runs.length) (hs : sp_sure_runs ds μ R Ed) (st : staL ds = true) : t_sure_runs (fin R Ed) (startD N_sure_runs ds) μ := by
  obtain ⟨l, g, rfl, hp, hn, h⟩ := hs
  show t_sure_runs (fin R Ed) [.val (lampD l), .val (logD g), .un] μ
  unfold t_sure_runs s_sure_runs_0
  simp only [sta_lamp, sta_log, dsSeq, dsRaise, dsTryAs, dsTryO, dIsE, dXf, dStar, dsNever, dsDrop, dsRet, dsRetN, dsRetF, dsIf, dsAsg, dsOwn, dsNext, dsBreak, dsCont, dsAug, dsApp, dsExt, dsSet, dsPar2, dsPar3, dName, g_tup, g_lst, g_cons, g_nil, dsFor, dVar, dC, d2, d1, dL, dNil, dCons, dB, dAnd, dOr, dNot, dAndV, dOrV, dNotV, dIf, dChain, dTup, dLst, dFrz, dTru, dCall, dYes, dSeq, dSeqC, dEnum, dEnumC, dRg1, dRg2, dComp, dCut, dCutF, dAddF, dListF, dMulF, dRev, dPart, dNoPart, dpNil, dpE, dpF, q_isi_int, q_isi_bool, q_isi_str, q_isi_tuple, q_isi_list, q_isi_dict, dIsI, dIsB, dIsS, dIsT, dIsL, dIsD, q_add_i, q_sub, q_mul, q_div, q_mod, q_pow, q_lt, q_le, q_gt, q_ge, q_neg, q_eq_ii, q_ne_ii, q_eq_le, q_ne_le, q_eq_ve, q_ne_ve, q_eq_te, q_ne_te, q_eq_ss, q_ne_ss, q_len, q_bl, q_some, List.getElem?_cons_zero, List.getElem?_cons_succ, List.set_cons_zero, List.set_cons_succ, tru_bl, tru_non, tru_int, tru_tup, tru_lst, tru_vw, len_tup, len_lst, len_vw, len_scr, it_tup, it_lst, it_scr, itc_tup, itc_lst, itc_vw, itc_scr, sta, staL, Bool.and_true, Bool.true_and, Bool.and_eq_true, true_and, and_true, wipeR, if_true, if_false, ite_true, ite_false, Bool.false_eq_true, Bool.not_true, Bool.not_false, Option.some.injEq, exists_eq_left', exists_eq_left, reduceIte, reduceCtorEq, hasTy, tyD, Option.isSome_some, q_ix_t, q_ix_l, q_ix_v, at0, at1, at2, at_two, at_three, at_four, c_pow, c_mul1, c_mul2, Int.reducePow, Int.reduceToNat, Int.reduceMul, Int.reduceAdd, Int.reduceSub, Int.reduceNeg, Int.reduceLT, Int.reduceLE, Int.reduceBEq, Nat.reduceLT, Nat.reduceLeDiff, Nat.reducePow, decide_true, decide_false, Bool.true_and, Bool.and_true, Int.neg_neg, szl, List.length_cons, List.length_nil, Nat.zero_add, Nat.reduceAdd, dDct, List.zip_cons_cons, List.zip_nil_left, List.zip_nil_right, staK, q_add_tt, q_add_ll, q_add_vl, q_add_lv, q_addF_ll, q_addF_vl, q_cut_t, q_cut_l, q_cut_v, q_cut_s, q_rev_t, q_rev_l, q_tuple_t, q_tuple_l, q_tuple_v, q_list_t, q_list_l, q_list_v, q_int_i, q_int_b, q_abs, q_max2, q_min2, q_l1, q_l2, q_int, q_own, q_val, q_own1, q_val1, q_two, q_three, List.cons_append, List.nil_append, List.mem_cons, List.not_mem_nil, or_false, forall_eq_or_imp, forall_eq, ne_eq, not_false_eq_true, q_in_t, q_in_l]
  refine ⟨l, g, rfl, hp, hn, fitOr_mono _ Ed h fun h => ?_⟩
  unfold s_sure_runs_1 logD
  simp only [staL_p, sta_lamp, dsSeq, dsRaise, dsTryAs, dsTryO, dIsE, dXf, dStar, dsNever, dsDrop, dsRet, dsRetN, dsRetF, dsIf, dsAsg, dsOwn, dsNext, dsBreak, dsCont, dsAug, dsApp, dsExt, dsSet, dsPar2, dsPar3, dName, g_tup, g_lst, g_cons, g_nil, dsFor, dVar, dC, d2, d1, dL, dNil, dCons, dB, dAnd, dOr, dNot, dAndV, dOrV, dNotV, dIf, dChain, dTup, dLst, dFrz, dTru, dCall, dYes, dSeq, dSeqC, dEnum, dEnumC, dRg1, dRg2, dComp, dCut, dCutF, dAddF, dListF, dMulF, dRev, dPart, dNoPart, dpNil, dpE, dpF, q_isi_int, q_isi_bool, q_isi_str, q_isi_tuple, q_isi_list, q_isi_dict, dIsI, dIsB, dIsS, dIsT, dIsL, dIsD, q_add_i, q_sub, q_mul, q_div, q_mod, q_pow, q_lt, q_le, q_gt, q_ge, q_neg, q_eq_ii, q_ne_ii, q_eq_le, q_ne_le, q_eq_ve, q_ne_ve, q_eq_te, q_ne_te, q_eq_ss, q_ne_ss, q_len, q_bl, q_some, List.getElem?_cons_zero, List.getElem?_cons_succ, List.set_cons_zero, List.set_cons_succ, tru_bl, tru_non, tru_int, tru_tup, tru_lst, tru_vw, len_tup, len_lst, len_vw, len_scr, it_tup, it_lst, it_scr, itc_tup, itc_lst, itc_vw, itc_scr, sta, staL, Bool.and_true, Bool.true_and, Bool.and_eq_true, true_and, and_true, wipeR, if_true, if_false, ite_true, ite_false, Bool.false_eq_true, Bool.not_true, Bool.not_false, Option.some.injEq, exists_eq_left', exists_eq_left, reduceIte, reduceCtorEq, hasTy, tyD, Option.isSome_some, q_ix_t, q_ix_l, q_ix_v, at0, at1, at2, at_two, at_three, at_four, c_pow, c_mul1, c_mul2, Int.reducePow, Int.reduceToNat, Int.reduceMul, Int.reduceAdd, Int.reduceSub, Int.reduceNeg, Int.reduceLT, Int.reduceLE, Int.reduceBEq, Nat.reduceLT, Nat.reduceLeDiff, Nat.reducePow, decide_true, decide_false, Bool.true_and, Bool.and_true, Int.neg_neg, szl, List.length_cons, List.length_nil, Nat.zero_add, Nat.reduceAdd, dDct, List.zip_cons_cons, List.zip_nil_left, List.zip_nil_right, staK, q_add_tt, q_add_ll, q_add_vl, q_add_lv, q_addF_ll, q_addF_vl, q_cut_t, q_cut_l, q_cut_v, q_cut_s, q_rev_t, q_rev_l, q_tuple_t, q_tuple_l, q_tuple_v, q_list_t, q_list_l, q_list_v, q_int_i, q_int_b, q_abs, q_max2, q_min2, q_l1, q_l2, q_int, q_own, q_val, q_own1, q_val1, q_two, q_three, List.cons_append, List.nil_append, List.mem_cons, List.not_mem_nil, or_false, forall_eq_or_imp, forall_eq, ne_eq, not_false_eq_true, q_in_t, q_in_l]
  refine comp_fun (Z := Z) pD (fun s => rnD (runI l s)) (by rw [szl]; omega) (fun s _ k k' hk => ?_) (fun _ _ => rfl) ?_
  · simp only [sta_p, sta_lamp, dsSeq, dsRaise, dsTryAs, dsTryO, dIsE, dXf, dStar, dsNever, dsDrop, dsRet, dsRetN, dsRetF, dsIf, dsAsg, dsOwn, dsNext, dsBreak, dsCont, dsAug, dsApp, dsExt, dsSet, dsPar2, dsPar3, dName, g_tup, g_lst, g_cons, g_nil, dsFor, dVar, dC, d2, d1, dL, dNil, dCons, dB, dAnd, dOr, dNot, dAndV, dOrV, dNotV, dIf, dChain, dTup, dLst, dFrz, dTru, dCall, dYes, dSeq, dSeqC, dEnum, dEnumC, dRg1, dRg2, dComp, dCut, dCutF, dAddF, dListF, dMulF, dRev, dPart, dNoPart, dpNil, dpE, dpF, q_isi_int, q_isi_bool, q_isi_str, q_isi_tuple, q_isi_list, q_isi_dict, dIsI, dIsB, dIsS, dIsT, dIsL, dIsD, q_add_i, q_sub, q_mul, q_div, q_mod, q_pow, q_lt, q_le, q_gt, q_ge, q_neg, q_eq_ii, q_ne_ii, q_eq_le, q_ne_le, q_eq_ve, q_ne_ve, q_eq_te, q_ne_te, q_eq_ss, q_ne_ss, q_len, q_bl, q_some, List.getElem?_cons_zero, List.getElem?_cons_succ, List.set_cons_zero, List.set_cons_succ, tru_bl, tru_non, tru_int, tru_tup, tru_lst, tru_vw, len_tup, len_lst, len_vw, len_scr, it_tup, it_lst, it_scr, itc_tup, itc_lst, itc_vw, itc_scr, sta, staL, Bool.and_true, Bool.true_and, Bool.and_eq_true, true_and, and_true, wipeR, if_true, if_false, ite_true, ite_false, Bool.false_eq_true, Bool.not_true, Bool.not_false, Option.some.injEq, exists_eq_left', exists_eq_left, reduceIte, reduceCtorEq, hasTy, tyD, Option.isSome_some, q_ix_t, q_ix_l, q_ix_v, at0, at1, at2, at_two, at_three, at_four, c_pow, c_mul1, c_mul2, Int.reducePow, Int.reduceToNat, Int.reduceMul, Int.reduceAdd, Int.reduceSub, Int.reduceNeg, Int.reduceLT, Int.reduceLE, Int.reduceBEq, Nat.reduceLT, Nat.reduceLeDiff, Nat.reducePow, decide_true, decide_false, Bool.true_and, Bool.and_true, Int.neg_neg, szl, List.length_cons, List.length_nil, Nat.zero_add, Nat.reduceAdd, dDct, List.zip_cons_cons, List.zip_nil_left, List.zip_nil_right, staK, q_add_tt, q_add_ll, q_add_vl, q_add_lv, q_addF_ll, q_addF_vl, q_cut_t, q_cut_l, q_cut_v, q_cut_s, q_rev_t, q_rev_l, q_tuple_t, q_tuple_l, q_tuple_v, q_list_t, q_list_l, q_list_v, q_int_i, q_int_b, q_abs, q_max2, q_min2, q_l1, q_l2, q_int, q_own, q_val, q_own1, q_val1, q_two, q_three, List.cons_append, List.nil_append, List.mem_cons, List.not_mem_nil, or_false, forall_eq_or_imp, forall_eq, ne_eq, not_false_eq_true, q_in_t, q_in_l]
    exact ⟨l, s, rfl, hp, hk⟩
  · have e : g.map (fun s => rnD (runI l s)) = (g.map (runI l)).map rnD := by rw [List.map_map]; rfl
    rw [e]
    simp only [staL_rn, dsSeq, dsRaise, dsTryAs, dsTryO, dIsE, dXf, dStar, dsNever, dsDrop, dsRet, dsRetN, dsRetF, dsIf, dsAsg, dsOwn, dsNext, dsBreak, dsCont, dsAug, dsApp, dsExt, dsSet, dsPar2, dsPar3, dName, g_tup, g_lst, g_cons, g_nil, dsFor, dVar, dC, d2, d1, dL, dNil, dCons, dB, dAnd, dOr, dNot, dAndV, dOrV, dNotV, dIf, dChain, dTup, dLst, dFrz, dTru, dCall, dYes, dSeq, dSeqC, dEnum, dEnumC, dRg1, dRg2, dComp, dCut, dCutF, dAddF, dListF, dMulF, dRev, dPart, dNoPart, dpNil, dpE, dpF, q_isi_int, q_isi_bool, q_isi_str, q_isi_tuple, q_isi_list, q_isi_dict, dIsI, dIsB, dIsS, dIsT, dIsL, dIsD, q_add_i, q_sub, q_mul, q_div, q_mod, q_pow, q_lt, q_le, q_gt, q_ge, q_neg, q_eq_ii, q_ne_ii, q_eq_le, q_ne_le, q_eq_ve, q_ne_ve, q_eq_te, q_ne_te, q_eq_ss, q_ne_ss, q_len, q_bl, q_some, List.getElem?_cons_zero, List.getElem?_cons_succ, List.set_cons_zero, List.set_cons_succ, tru_bl, tru_non, tru_int, tru_tup, tru_lst, tru_vw, len_tup, len_lst, len_vw, len_scr, it_tup, it_lst, it_scr, itc_tup, itc_lst, itc_vw, itc_scr, sta, staL, Bool.and_true, Bool.true_and, Bool.and_eq_true, true_and, and_true, wipeR, if_true, if_false, ite_true, ite_false, Bool.false_eq_true, Bool.not_true, Bool.not_false, Option.some.injEq, exists_eq_left', exists_eq_left, reduceIte, reduceCtorEq, hasTy, tyD, Option.isSome_some, q_ix_t, q_ix_l, q_ix_v, at0, at1, at2, at_two, at_three, at_four, c_pow, c_mul1, c_mul2, Int.reducePow, Int.reduceToNat, Int.reduceMul, Int.reduceAdd, Int.reduceSub, Int.reduceNeg, Int.reduceLT, Int.reduceLE, Int.reduceBEq, Nat.reduceLT, Nat.reduceLeDiff, Nat.reducePow, decide_true, decide_false, Bool.true_and, Bool.and_true, Int.neg_neg, szl, List.length_cons, List.length_nil, Nat.zero_add, Nat.reduceAdd, dDct, List.zip_cons_cons, List.zip_nil_left, List.zip_nil_right, staK, q_add_tt, q_add_ll, q_add_vl, q_add_lv, q_addF_ll, q_addF_vl, q_cut_t, q_cut_l, q_cut_v, q_cut_s, q_rev_t, q_rev_l, q_tuple_t, q_tuple_l, q_tuple_v, q_list_t, q_list_l, q_list_v, q_int_i, q_int_b, q_abs, q_max2, q_min2, q_l1, q_l2, q_int, q_own, q_val, q_own1, q_val1, q_two, q_three, List.cons_append, List.nil_append, List.mem_cons, List.not_mem_nil, or_false, forall_eq_or_imp, forall_eq, ne_eq, not_false_eq_true, q_in_t, q_in_l]
    exact h
theorem pure_last_possible (hl : ds.length = ps_last_possible.length) (hs : sp_last_possible ds μ R Ed) (st : staL ds = true) : t_last_possible (fin R Ed) (startD N_last_possible ds) μ := by
  obtain ⟨⟨k, stay⟩, ⟨on, off⟩, rfl, h⟩ := hs
  show t_last_possible (fin R Ed) [.val (lampD (k, stay)), .val (pD (on, off)), .un, .un] μ
  unfold t_last_possible s_last_possible_0 s_last_possible_1 lampD pD
  simp only [kS_hold, dsSeq, dsRaise, dsTryAs, dsTryO, dIsE, dXf, dStar, dsNever, dsDrop, dsRet, dsRetN, dsRetF, dsIf, dsAsg, dsOwn, dsNext, dsBreak, dsCont, dsAug, dsApp, dsExt, dsSet, dsPar2, dsPar3, dName, g_tup, g_lst, g_cons, g_nil, dsFor, dVar, dC, d2, d1, dL, dNil, dCons, dB, dAnd, dOr, dNot, dAndV, dOrV, dNotV, dIf, dChain, dTup, dLst, dFrz, dTru, dCall, dYes, dSeq, dSeqC, dEnum, dEnumC, dRg1, dRg2, dComp, dCut, dCutF, dAddF, dListF, dMulF, dRev, dPart, dNoPart, dpNil, dpE, dpF, q_isi_int, q_isi_bool, q_isi_str, q_isi_tuple, q_isi_list, q_isi_dict, dIsI, dIsB, dIsS, dIsT, dIsL, dIsD, q_add_i, q_sub, q_mul, q_div, q_mod, q_pow, q_lt, q_le, q_gt, q_ge, q_neg, q_eq_ii, q_ne_ii, q_eq_le, q_ne_le, q_eq_ve, q_ne_ve, q_eq_te, q_ne_te, q_eq_ss, q_ne_ss, q_len, q_bl, q_some, List.getElem?_cons_zero, List.getElem?_cons_succ, List.set_cons_zero, List.set_cons_succ, tru_bl, tru_non, tru_int, tru_tup, tru_lst, tru_vw, len_tup, len_lst, len_vw, len_scr, it_tup, it_lst, it_scr, itc_tup, itc_lst, itc_vw, itc_scr, sta, staL, Bool.and_true, Bool.true_and, Bool.and_eq_true, true_and, and_true, wipeR, if_true, if_false, ite_true, ite_false, Bool.false_eq_true, Bool.not_true, Bool.not_false, Option.some.injEq, exists_eq_left', exists_eq_left, reduceIte, reduceCtorEq, hasTy, tyD, Option.isSome_some, q_ix_t, q_ix_l, q_ix_v, at0, at1, at2, at_two, at_three, at_four, c_pow, c_mul1, c_mul2, Int.reducePow, Int.reduceToNat, Int.reduceMul, Int.reduceAdd, Int.reduceSub, Int.reduceNeg, Int.reduceLT, Int.reduceLE, Int.reduceBEq, Nat.reduceLT, Nat.reduceLeDiff, Nat.reducePow, decide_true, decide_false, Bool.true_and, Bool.and_true, Int.neg_neg, szl, List.length_cons, List.length_nil, Nat.zero_add, Nat.reduceAdd, dDct, List.zip_cons_cons, List.zip_nil_left, List.zip_nil_right, staK, q_add_tt, q_add_ll, q_add_vl, q_add_lv, q_addF_ll, q_addF_vl, q_cut_t, q_cut_l, q_cut_v, q_cut_s, q_rev_t, q_rev_l, q_tuple_t, q_tuple_l, q_tuple_v, q_list_t, q_list_l, q_list_v, q_int_i, q_int_b, q_abs, q_max2, q_min2, q_l1, q_l2, q_int, q_own, q_val, q_own1, q_val1, q_two, q_three, List.cons_append, List.nil_append, List.mem_cons, List.not_mem_nil, or_false, forall_eq_or_imp, forall_eq, ne_eq, not_false_eq_true, q_in_t, q_in_l]
  unfold lastI at h
  dsimp only at h
  cases k with
  | true => exact h
  | false => exact h
theorem quietI_len (l : Lamp) : ∀ (g : Lg) (first : Int), (quietI l first g).length ≤ g.length + 1
  | [], first => by unfold quietI; split <;> simp
  | s :: g, first => by
    have := quietI_len l g (lastI l s + 1)
    rw [quietI, List.length_append, List.length_cons]
    split <;> simp <;> omega
theorem pure_quiet_spans (hl : ds.length = ps_quiet_spans.length) (hs : sp_quiet_spans ds μ R Ed) (st : staL ds = true) : t_quiet_spans (fin R Ed) (startD N_quiet_spans ds) μ := by
  obtain ⟨l, g, rfl, hp, hn, h⟩ := hs
  show t_quiet_spans (fin R Ed) [.val (lampD l), .val (logD g), .un, .un, .un] μ
  unfold t_quiet_spans s_quiet_spans_0
  simp only [sta_lamp, sta_log, dsSeq, dsRaise, dsTryAs, dsTryO, dIsE, dXf, dStar, dsNever, dsDrop, dsRet, dsRetN, dsRetF, dsIf, dsAsg, dsOwn, dsNext, dsBreak, dsCont, dsAug, dsApp, dsExt, dsSet, dsPar2, dsPar3, dName, g_tup, g_lst, g_cons, g_nil, dsFor, dVar, dC, d2, d1, dL, dNil, dCons, dB, dAnd, dOr, dNot, dAndV, dOrV, dNotV, dIf, dChain, dTup, dLst, dFrz, dTru, dCall, dYes, dSeq, dSeqC, dEnum, dEnumC, dRg1, dRg2, dComp, dCut, dCutF, dAddF, dListF, dMulF, dRev, dPart, dNoPart, dpNil, dpE, dpF, q_isi_int, q_isi_bool, q_isi_str, q_isi_tuple, q_isi_list, q_isi_dict, dIsI, dIsB, dIsS, dIsT, dIsL, dIsD, q_add_i, q_sub, q_mul, q_div, q_mod, q_pow, q_lt, q_le, q_gt, q_ge, q_neg, q_eq_ii, q_ne_ii, q_eq_le, q_ne_le, q_eq_ve, q_ne_ve, q_eq_te, q_ne_te, q_eq_ss, q_ne_ss, q_len, q_bl, q_some, List.getElem?_cons_zero, List.getElem?_cons_succ, List.set_cons_zero, List.set_cons_succ, tru_bl, tru_non, tru_int, tru_tup, tru_lst, tru_vw, len_tup, len_lst, len_vw, len_scr, it_tup, it_lst, it_scr, itc_tup, itc_lst, itc_vw, itc_scr, sta, staL, Bool.and_true, Bool.true_and, Bool.and_eq_true, true_and, and_true, wipeR, if_true, if_false, ite_true, ite_false, Bool.false_eq_true, Bool.not_true, Bool.not_false, Option.some.injEq, exists_eq_left', exists_eq_left, reduceIte, reduceCtorEq, hasTy, tyD, Option.isSome_some, q_ix_t, q_ix_l, q_ix_v, at0, at1, at2, at_two, at_three, at_four, c_pow, c_mul1, c_mul2, Int.reducePow, Int.reduceToNat, Int.reduceMul, Int.reduceAdd, Int.reduceSub, Int.reduceNeg, Int.reduceLT, Int.reduceLE, Int.reduceBEq, Nat.reduceLT, Nat.reduceLeDiff, Nat.reducePow, decide_true, decide_false, Bool.true_and, Bool.and_true, Int.neg_neg, szl, List.length_cons, List.length_nil, Nat.zero_add, Nat.reduceAdd, dDct, List.zip_cons_cons, List.zip_nil_left, List.zip_nil_right, staK, q_add_tt, q_add_ll, q_add_vl, q_add_lv, q_addF_ll, q_addF_vl, q_cut_t, q_cut_l, q_cut_v, q_cut_s, q_rev_t, q_rev_l, q_tuple_t, q_tuple_l, q_tuple_v, q_list_t, q_list_l, q_list_v, q_int_i, q_int_b, q_abs, q_max2, q_min2, q_l1, q_l2, q_int, q_own, q_val, q_own1, q_val1, q_two, q_three, List.cons_append, List.nil_append, List.mem_cons, List.not_mem_nil, or_false, forall_eq_or_imp, forall_eq, ne_eq, not_false_eq_true, q_in_t, q_in_l]
  refine ⟨l, g, rfl, hp, hn, fitOr_mono _ Ed h fun h => ?_⟩
  unfold s_quiet_spans_1 s_quiet_spans_2 logD
  simp only [staL_p, dsSeq, dsRaise, dsTryAs, dsTryO, dIsE, dXf, dStar, dsNever, dsDrop, dsRet, dsRetN, dsRetF, dsIf, dsAsg, dsOwn, dsNext, dsBreak, dsCont, dsAug, dsApp, dsExt, dsSet, dsPar2, dsPar3, dName, g_tup, g_lst, g_cons, g_nil, dsFor, dVar, dC, d2, d1, dL, dNil, dCons, dB, dAnd, dOr, dNot, dAndV, dOrV, dNotV, dIf, dChain, dTup, dLst, dFrz, dTru, dCall, dYes, dSeq, dSeqC, dEnum, dEnumC, dRg1, dRg2, dComp, dCut, dCutF, dAddF, dListF, dMulF, dRev, dPart, dNoPart, dpNil, dpE, dpF, q_isi_int, q_isi_bool, q_isi_str, q_isi_tuple, q_isi_list, q_isi_dict, dIsI, dIsB, dIsS, dIsT, dIsL, dIsD, q_add_i, q_sub, q_mul, q_div, q_mod, q_pow, q_lt, q_le, q_gt, q_ge, q_neg, q_eq_ii, q_ne_ii, q_eq_le, q_ne_le, q_eq_ve, q_ne_ve, q_eq_te, q_ne_te, q_eq_ss, q_ne_ss, q_len, q_bl, q_some, List.getElem?_cons_zero, List.getElem?_cons_succ, List.set_cons_zero, List.set_cons_succ, tru_bl, tru_non, tru_int, tru_tup, tru_lst, tru_vw, len_tup, len_lst, len_vw, len_scr, it_tup, it_lst, it_scr, itc_tup, itc_lst, itc_vw, itc_scr, sta, staL, Bool.and_true, Bool.true_and, Bool.and_eq_true, true_and, and_true, wipeR, if_true, if_false, ite_true, ite_false, Bool.false_eq_true, Bool.not_true, Bool.not_false, Option.some.injEq, exists_eq_left', exists_eq_left, reduceIte, reduceCtorEq, hasTy, tyD, Option.isSome_some, q_ix_t, q_ix_l, q_ix_v, at0, at1, at2, at_two, at_three, at_four, c_pow, c_mul1, c_mul2, Int.reducePow, Int.reduceToNat, Int.reduceMul, Int.reduceAdd, Int.reduceSub, Int.reduceNeg, Int.reduceLT, Int.reduceLE, Int.reduceBEq, Nat.reduceLT, Nat.reduceLeDiff, Nat.reducePow, decide_true, decide_false, Bool.true_and, Bool.and_true, Int.neg_neg, szl, List.length_cons, List.length_nil, Nat.zero_add, Nat.reduceAdd, dDct, List.zip_cons_cons, List.zip_nil_left, List.zip_nil_right, staK, q_add_tt, q_add_ll, q_add_vl, q_add_lv, q_addF_ll, q_addF_vl, q_cut_t, q_cut_l, q_cut_v, q_cut_s, q_rev_t, q_rev_l, q_tuple_t, q_tuple_l, q_tuple_v, q_list_t, q_list_l, q_list_v, q_int_i, q_int_b, q_abs, q_max2, q_min2, q_l1, q_l2, q_int, q_own, q_val, q_own1, q_val1, q_two, q_three, List.cons_append, List.nil_append, List.mem_cons, List.not_mem_nil, or_false, forall_eq_or_imp, forall_eq, ne_eq, not_false_eq_true, q_in_t, q_in_l]
  refine loop_t (Z := Z) pD (fun rem ρ μ' => ∃ (found : Lg) (first : Int) (a : Slot), ρ = [.val (lampD l), .val (logD g), .own (found.map pD), .val (.int first), a] ∧ μ' = μ ∧ found ++ quietI l first rem = quietI l 0 g ∧ found.length + rem.length ≤ 10000) ?_ ?_ ⟨[], 0, _, rfl, rfl, rfl, by simpa using hn⟩
  · rintro ⟨on, off⟩ rem ρ μ' N ⟨found, first, a, rfl, rfl, e, hz⟩ hN
    simp only [List.length_cons] at hz
    unfold l_quiet_spans_2 s_quiet_spans_2f_0 s_quiet_spans_2f_0a_0 s_quiet_spans_2f_1 pD
    simp only [sta_lamp, List.length_map, dsSeq, dsRaise, dsTryAs, dsTryO, dIsE, dXf, dStar, dsNever, dsDrop, dsRet, dsRetN, dsRetF, dsIf, dsAsg, dsOwn, dsNext, dsBreak, dsCont, dsAug, dsApp, dsExt, dsSet, dsPar2, dsPar3, dName, g_tup, g_lst, g_cons, g_nil, dsFor, dVar, dC, d2, d1, dL, dNil, dCons, dB, dAnd, dOr, dNot, dAndV, dOrV, dNotV, dIf, dChain, dTup, dLst, dFrz, dTru, dCall, dYes, dSeq, dSeqC, dEnum, dEnumC, dRg1, dRg2, dComp, dCut, dCutF, dAddF, dListF, dMulF, dRev, dPart, dNoPart, dpNil, dpE, dpF, q_isi_int, q_isi_bool, q_isi_str, q_isi_tuple, q_isi_list, q_isi_dict, dIsI, dIsB, dIsS, dIsT, dIsL, dIsD, q_add_i, q_sub, q_mul, q_div, q_mod, q_pow, q_lt, q_le, q_gt, q_ge, q_neg, q_eq_ii, q_ne_ii, q_eq_le, q_ne_le, q_eq_ve, q_ne_ve, q_eq_te, q_ne_te, q_eq_ss, q_ne_ss, q_len, q_bl, q_some, List.getElem?_cons_zero, List.getElem?_cons_succ, List.set_cons_zero, List.set_cons_succ, tru_bl, tru_non, tru_int, tru_tup, tru_lst, tru_vw, len_tup, len_lst, len_vw, len_scr, it_tup, it_lst, it_scr, itc_tup, itc_lst, itc_vw, itc_scr, sta, staL, Bool.and_true, Bool.true_and, Bool.and_eq_true, true_and, and_true, wipeR, if_true, if_false, ite_true, ite_false, Bool.false_eq_true, Bool.not_true, Bool.not_false, Option.some.injEq, exists_eq_left', exists_eq_left, reduceIte, reduceCtorEq, hasTy, tyD, Option.isSome_some, q_ix_t, q_ix_l, q_ix_v, at0, at1, at2, at_two, at_three, at_four, c_pow, c_mul1, c_mul2, Int.reducePow, Int.reduceToNat, Int.reduceMul, Int.reduceAdd, Int.reduceSub, Int.reduceNeg, Int.reduceLT, Int.reduceLE, Int.reduceBEq, Nat.reduceLT, Nat.reduceLeDiff, Nat.reducePow, decide_true, decide_false, Bool.true_and, Bool.and_true, Int.neg_neg, szl, List.length_cons, List.length_nil, Nat.zero_add, Nat.reduceAdd, dDct, List.zip_cons_cons, List.zip_nil_left, List.zip_nil_right, staK, q_add_tt, q_add_ll, q_add_vl, q_add_lv, q_addF_ll, q_addF_vl, q_cut_t, q_cut_l, q_cut_v, q_cut_s, q_rev_t, q_rev_l, q_tuple_t, q_tuple_l, q_tuple_v, q_list_t, q_list_l, q_list_v, q_int_i, q_int_b, q_abs, q_max2, q_min2, q_l1, q_l2, q_int, q_own, q_val, q_own1, q_val1, q_two, q_three, List.cons_append, List.nil_append, List.mem_cons, List.not_mem_nil, or_false, forall_eq_or_imp, forall_eq, ne_eq, not_false_eq_true, q_in_t, q_in_l]
    rw [quietI] at e
    dsimp only at e
    by_cases h1 : first < on
    · rw [if_pos (decide_eq_true h1)]
      rw [if_pos h1] at e
      refine ⟨by omega, l, (on, off), rfl, ?_⟩
      simp only [dsSeq, dsRaise, dsTryAs, dsTryO, dIsE, dXf, dStar, dsNever, dsDrop, dsRet, dsRetN, dsRetF, dsIf, dsAsg, dsOwn, dsNext, dsBreak, dsCont, dsAug, dsApp, dsExt, dsSet, dsPar2, dsPar3, dName, g_tup, g_lst, g_cons, g_nil, dsFor, dVar, dC, d2, d1, dL, dNil, dCons, dB, dAnd, dOr, dNot, dAndV, dOrV, dNotV, dIf, dChain, dTup, dLst, dFrz, dTru, dCall, dYes, dSeq, dSeqC, dEnum, dEnumC, dRg1, dRg2, dComp, dCut, dCutF, dAddF, dListF, dMulF, dRev, dPart, dNoPart, dpNil, dpE, dpF, q_isi_int, q_isi_bool, q_isi_str, q_isi_tuple, q_isi_list, q_isi_dict, dIsI, dIsB, dIsS, dIsT, dIsL, dIsD, q_add_i, q_sub, q_mul, q_div, q_mod, q_pow, q_lt, q_le, q_gt, q_ge, q_neg, q_eq_ii, q_ne_ii, q_eq_le, q_ne_le, q_eq_ve, q_ne_ve, q_eq_te, q_ne_te, q_eq_ss, q_ne_ss, q_len, q_bl, q_some, List.getElem?_cons_zero, List.getElem?_cons_succ, List.set_cons_zero, List.set_cons_succ, tru_bl, tru_non, tru_int, tru_tup, tru_lst, tru_vw, len_tup, len_lst, len_vw, len_scr, it_tup, it_lst, it_scr, itc_tup, itc_lst, itc_vw, itc_scr, sta, staL, Bool.and_true, Bool.true_and, Bool.and_eq_true, true_and, and_true, wipeR, if_true, if_false, ite_true, ite_false, Bool.false_eq_true, Bool.not_true, Bool.not_false, Option.some.injEq, exists_eq_left', exists_eq_left, reduceIte, reduceCtorEq, hasTy, tyD, Option.isSome_some, q_ix_t, q_ix_l, q_ix_v, at0, at1, at2, at_two, at_three, at_four, c_pow, c_mul1, c_mul2, Int.reducePow, Int.reduceToNat, Int.reduceMul, Int.reduceAdd, Int.reduceSub, Int.reduceNeg, Int.reduceLT, Int.reduceLE, Int.reduceBEq, Nat.reduceLT, Nat.reduceLeDiff, Nat.reducePow, decide_true, decide_false, Bool.true_and, Bool.and_true, Int.neg_neg, szl, List.length_cons, List.length_nil, Nat.zero_add, Nat.reduceAdd, dDct, List.zip_cons_cons, List.zip_nil_left, List.zip_nil_right, staK, q_add_tt, q_add_ll, q_add_vl, q_add_lv, q_addF_ll, q_addF_vl, q_cut_t, q_cut_l, q_cut_v, q_cut_s, q_rev_t, q_rev_l, q_tuple_t, q_tuple_l, q_tuple_v, q_list_t, q_list_l, q_list_v, q_int_i, q_int_b, q_abs, q_max2, q_min2, q_l1, q_l2, q_int, q_own, q_val, q_own1, q_val1, q_two, q_three, List.cons_append, List.nil_append, List.mem_cons, List.not_mem_nil, or_false, forall_eq_or_imp, forall_eq, ne_eq, not_false_eq_true, q_in_t, q_in_l]
      exact hN _ _ ⟨found ++ [(first, on - 1)], _, _, by rw [List.map_append]; rfl, rfl, by rw [List.append_assoc]; exact e, by simp; omega⟩
    · rw [if_neg (by simpa using h1)]
      rw [if_neg h1] at e
      refine ⟨l, (on, off), rfl, ?_⟩
      simp only [dsSeq, dsRaise, dsTryAs, dsTryO, dIsE, dXf, dStar, dsNever, dsDrop, dsRet, dsRetN, dsRetF, dsIf, dsAsg, dsOwn, dsNext, dsBreak, dsCont, dsAug, dsApp, dsExt, dsSet, dsPar2, dsPar3, dName, g_tup, g_lst, g_cons, g_nil, dsFor, dVar, dC, d2, d1, dL, dNil, dCons, dB, dAnd, dOr, dNot, dAndV, dOrV, dNotV, dIf, dChain, dTup, dLst, dFrz, dTru, dCall, dYes, dSeq, dSeqC, dEnum, dEnumC, dRg1, dRg2, dComp, dCut, dCutF, dAddF, dListF, dMulF, dRev, dPart, dNoPart, dpNil, dpE, dpF, q_isi_int, q_isi_bool, q_isi_str, q_isi_tuple, q_isi_list, q_isi_dict, dIsI, dIsB, dIsS, dIsT, dIsL, dIsD, q_add_i, q_sub, q_mul, q_div, q_mod, q_pow, q_lt, q_le, q_gt, q_ge, q_neg, q_eq_ii, q_ne_ii, q_eq_le, q_ne_le, q_eq_ve, q_ne_ve, q_eq_te, q_ne_te, q_eq_ss, q_ne_ss, q_len, q_bl, q_some, List.getElem?_cons_zero, List.getElem?_cons_succ, List.set_cons_zero, List.set_cons_succ, tru_bl, tru_non, tru_int, tru_tup, tru_lst, tru_vw, len_tup, len_lst, len_vw, len_scr, it_tup, it_lst, it_scr, itc_tup, itc_lst, itc_vw, itc_scr, sta, staL, Bool.and_true, Bool.true_and, Bool.and_eq_true, true_and, and_true, wipeR, if_true, if_false, ite_true, ite_false, Bool.false_eq_true, Bool.not_true, Bool.not_false, Option.some.injEq, exists_eq_left', exists_eq_left, reduceIte, reduceCtorEq, hasTy, tyD, Option.isSome_some, q_ix_t, q_ix_l, q_ix_v, at0, at1, at2, at_two, at_three, at_four, c_pow, c_mul1, c_mul2, Int.reducePow, Int.reduceToNat, Int.reduceMul, Int.reduceAdd, Int.reduceSub, Int.reduceNeg, Int.reduceLT, Int.reduceLE, Int.reduceBEq, Nat.reduceLT, Nat.reduceLeDiff, Nat.reducePow, decide_true, decide_false, Bool.true_and, Bool.and_true, Int.neg_neg, szl, List.length_cons, List.length_nil, Nat.zero_add, Nat.reduceAdd, dDct, List.zip_cons_cons, List.zip_nil_left, List.zip_nil_right, staK, q_add_tt, q_add_ll, q_add_vl, q_add_lv, q_addF_ll, q_addF_vl, q_cut_t, q_cut_l, q_cut_v, q_cut_s, q_rev_t, q_rev_l, q_tuple_t, q_tuple_l, q_tuple_v, q_list_t, q_list_l, q_list_v, q_int_i, q_int_b, q_abs, q_max2, q_min2, q_l1, q_l2, q_int, q_own, q_val, q_own1, q_val1, q_two, q_three, List.cons_append, List.nil_append, List.mem_cons, List.not_mem_nil, or_false, forall_eq_or_imp, forall_eq, ne_eq, not_false_eq_true, q_in_t, q_in_l]
      exact hN _ _ ⟨found, _, _, rfl, rfl, e, by omega⟩
  · rintro ρ μ' ⟨found, first, a, rfl, rfl, e, hz⟩
    unfold s_quiet_spans_3 s_quiet_spans_3a_0 s_quiet_spans_4
    simp only [List.length_map, staL_p, dsSeq, dsRaise, dsTryAs, dsTryO, dIsE, dXf, dStar, dsNever, dsDrop, dsRet, dsRetN, dsRetF, dsIf, dsAsg, dsOwn, dsNext, dsBreak, dsCont, dsAug, dsApp, dsExt, dsSet, dsPar2, dsPar3, dName, g_tup, g_lst, g_cons, g_nil, dsFor, dVar, dC, d2, d1, dL, dNil, dCons, dB, dAnd, dOr, dNot, dAndV, dOrV, dNotV, dIf, dChain, dTup, dLst, dFrz, dTru, dCall, dYes, dSeq, dSeqC, dEnum, dEnumC, dRg1, dRg2, dComp, dCut, dCutF, dAddF, dListF, dMulF, dRev, dPart, dNoPart, dpNil, dpE, dpF, q_isi_int, q_isi_bool, q_isi_str, q_isi_tuple, q_isi_list, q_isi_dict, dIsI, dIsB, dIsS, dIsT, dIsL, dIsD, q_add_i, q_sub, q_mul, q_div, q_mod, q_pow, q_lt, q_le, q_gt, q_ge, q_neg, q_eq_ii, q_ne_ii, q_eq_le, q_ne_le, q_eq_ve, q_ne_ve, q_eq_te, q_ne_te, q_eq_ss, q_ne_ss, q_len, q_bl, q_some, List.getElem?_cons_zero, List.getElem?_cons_succ, List.set_cons_zero, List.set_cons_succ, tru_bl, tru_non, tru_int, tru_tup, tru_lst, tru_vw, len_tup, len_lst, len_vw, len_scr, it_tup, it_lst, it_scr, itc_tup, itc_lst, itc_vw, itc_scr, sta, staL, Bool.and_true, Bool.true_and, Bool.and_eq_true, true_and, and_true, wipeR, if_true, if_false, ite_true, ite_false, Bool.false_eq_true, Bool.not_true, Bool.not_false, Option.some.injEq, exists_eq_left', exists_eq_left, reduceIte, reduceCtorEq, hasTy, tyD, Option.isSome_some, q_ix_t, q_ix_l, q_ix_v, at0, at1, at2, at_two, at_three, at_four, c_pow, c_mul1, c_mul2, Int.reducePow, Int.reduceToNat, Int.reduceMul, Int.reduceAdd, Int.reduceSub, Int.reduceNeg, Int.reduceLT, Int.reduceLE, Int.reduceBEq, Nat.reduceLT, Nat.reduceLeDiff, Nat.reducePow, decide_true, decide_false, Bool.true_and, Bool.and_true, Int.neg_neg, szl, List.length_cons, List.length_nil, Nat.zero_add, Nat.reduceAdd, dDct, List.zip_cons_cons, List.zip_nil_left, List.zip_nil_right, staK, q_add_tt, q_add_ll, q_add_vl, q_add_lv, q_addF_ll, q_addF_vl, q_cut_t, q_cut_l, q_cut_v, q_cut_s, q_rev_t, q_rev_l, q_tuple_t, q_tuple_l, q_tuple_v, q_list_t, q_list_l, q_list_v, q_int_i, q_int_b, q_abs, q_max2, q_min2, q_l1, q_l2, q_int, q_own, q_val, q_own1, q_val1, q_two, q_three, List.cons_append, List.nil_append, List.mem_cons, List.not_mem_nil, or_false, forall_eq_or_imp, forall_eq, ne_eq, not_false_eq_true, q_in_t, q_in_l]
    rw [quietI] at e
    by_cases h1 : first ≤ 1000000000
    · rw [if_pos (decide_eq_true h1)]
      rw [if_pos h1] at e
      have e2 : found.map pD ++ [D.tup [.int first, .int 1000000000]] = (quietI l 0 g).map pD := by rw [← e, List.map_append]; rfl
      rw [e2]
      exact ⟨by simp at hz; omega, staL_p _, h⟩
    · rw [if_neg (by simpa using h1)]
      rw [if_neg h1, List.append_nil] at e
      rw [e]
      exact h
theorem callsI_len (l : Lamp) (g : Lg) : (callsI l g).length ≤ g.length := by
  unfold callsI
  split
  · exact Nat.le_trans (List.length_filter_le ..) (by simp)
  · simp
theorem pure_call_spans (hl : ds.length = ps_call_spans.length) (hs : sp_call_spans ds μ R Ed) (st : staL ds = true) : t_call_spans (fin R Ed) (startD N_call_spans ds) μ := by
  obtain ⟨⟨k, stay⟩, g, rfl, hp, hn, h⟩ := hs
  show t_call_spans (fin R Ed) [.val (lampD (k, stay)), .val (logD g), .un, .un, .un, .un, .un, .un, .un] μ
  unfold t_call_spans s_call_spans_0
  simp only [sta_lamp, sta_log, dsSeq, dsRaise, dsTryAs, dsTryO, dIsE, dXf, dStar, dsNever, dsDrop, dsRet, dsRetN, dsRetF, dsIf, dsAsg, dsOwn, dsNext, dsBreak, dsCont, dsAug, dsApp, dsExt, dsSet, dsPar2, dsPar3, dName, g_tup, g_lst, g_cons, g_nil, dsFor, dVar, dC, d2, d1, dL, dNil, dCons, dB, dAnd, dOr, dNot, dAndV, dOrV, dNotV, dIf, dChain, dTup, dLst, dFrz, dTru, dCall, dYes, dSeq, dSeqC, dEnum, dEnumC, dRg1, dRg2, dComp, dCut, dCutF, dAddF, dListF, dMulF, dRev, dPart, dNoPart, dpNil, dpE, dpF, q_isi_int, q_isi_bool, q_isi_str, q_isi_tuple, q_isi_list, q_isi_dict, dIsI, dIsB, dIsS, dIsT, dIsL, dIsD, q_add_i, q_sub, q_mul, q_div, q_mod, q_pow, q_lt, q_le, q_gt, q_ge, q_neg, q_eq_ii, q_ne_ii, q_eq_le, q_ne_le, q_eq_ve, q_ne_ve, q_eq_te, q_ne_te, q_eq_ss, q_ne_ss, q_len, q_bl, q_some, List.getElem?_cons_zero, List.getElem?_cons_succ, List.set_cons_zero, List.set_cons_succ, tru_bl, tru_non, tru_int, tru_tup, tru_lst, tru_vw, len_tup, len_lst, len_vw, len_scr, it_tup, it_lst, it_scr, itc_tup, itc_lst, itc_vw, itc_scr, sta, staL, Bool.and_true, Bool.true_and, Bool.and_eq_true, true_and, and_true, wipeR, if_true, if_false, ite_true, ite_false, Bool.false_eq_true, Bool.not_true, Bool.not_false, Option.some.injEq, exists_eq_left', exists_eq_left, reduceIte, reduceCtorEq, hasTy, tyD, Option.isSome_some, q_ix_t, q_ix_l, q_ix_v, at0, at1, at2, at_two, at_three, at_four, c_pow, c_mul1, c_mul2, Int.reducePow, Int.reduceToNat, Int.reduceMul, Int.reduceAdd, Int.reduceSub, Int.reduceNeg, Int.reduceLT, Int.reduceLE, Int.reduceBEq, Nat.reduceLT, Nat.reduceLeDiff, Nat.reducePow, decide_true, decide_false, Bool.true_and, Bool.and_true, Int.neg_neg, szl, List.length_cons, List.length_nil, Nat.zero_add, Nat.reduceAdd, dDct, List.zip_cons_cons, List.zip_nil_left, List.zip_nil_right, staK, q_add_tt, q_add_ll, q_add_vl, q_add_lv, q_addF_ll, q_addF_vl, q_cut_t, q_cut_l, q_cut_v, q_cut_s, q_rev_t, q_rev_l, q_tuple_t, q_tuple_l, q_tuple_v, q_list_t, q_list_l, q_list_v, q_int_i, q_int_b, q_abs, q_max2, q_min2, q_l1, q_l2, q_int, q_own, q_val, q_own1, q_val1, q_two, q_three, List.cons_append, List.nil_append, List.mem_cons, List.not_mem_nil, or_false, forall_eq_or_imp, forall_eq, ne_eq, not_false_eq_true, q_in_t, q_in_l]
  refine ⟨(k, stay), g, rfl, hp, hn, fitOr_mono _ Ed h fun h => ?_⟩
  unfold s_call_spans_1 s_call_spans_2 lampD logD
  simp only [dsSeq, dsRaise, dsTryAs, dsTryO, dIsE, dXf, dStar, dsNever, dsDrop, dsRet, dsRetN, dsRetF, dsIf, dsAsg, dsOwn, dsNext, dsBreak, dsCont, dsAug, dsApp, dsExt, dsSet, dsPar2, dsPar3, dName, g_tup, g_lst, g_cons, g_nil, dsFor, dVar, dC, d2, d1, dL, dNil, dCons, dB, dAnd, dOr, dNot, dAndV, dOrV, dNotV, dIf, dChain, dTup, dLst, dFrz, dTru, dCall, dYes, dSeq, dSeqC, dEnum, dEnumC, dRg1, dRg2, dComp, dCut, dCutF, dAddF, dListF, dMulF, dRev, dPart, dNoPart, dpNil, dpE, dpF, q_isi_int, q_isi_bool, q_isi_str, q_isi_tuple, q_isi_list, q_isi_dict, dIsI, dIsB, dIsS, dIsT, dIsL, dIsD, q_add_i, q_sub, q_mul, q_div, q_mod, q_pow, q_lt, q_le, q_gt, q_ge, q_neg, q_eq_ii, q_ne_ii, q_eq_le, q_ne_le, q_eq_ve, q_ne_ve, q_eq_te, q_ne_te, q_eq_ss, q_ne_ss, q_len, q_bl, q_some, List.getElem?_cons_zero, List.getElem?_cons_succ, List.set_cons_zero, List.set_cons_succ, tru_bl, tru_non, tru_int, tru_tup, tru_lst, tru_vw, len_tup, len_lst, len_vw, len_scr, it_tup, it_lst, it_scr, itc_tup, itc_lst, itc_vw, itc_scr, sta, staL, Bool.and_true, Bool.true_and, Bool.and_eq_true, true_and, and_true, wipeR, if_true, if_false, ite_true, ite_false, Bool.false_eq_true, Bool.not_true, Bool.not_false, Option.some.injEq, exists_eq_left', exists_eq_left, reduceIte, reduceCtorEq, hasTy, tyD, Option.isSome_some, q_ix_t, q_ix_l, q_ix_v, at0, at1, at2, at_two, at_three, at_four, c_pow, c_mul1, c_mul2, Int.reducePow, Int.reduceToNat, Int.reduceMul, Int.reduceAdd, Int.reduceSub, Int.reduceNeg, Int.reduceLT, Int.reduceLE, Int.reduceBEq, Nat.reduceLT, Nat.reduceLeDiff, Nat.reducePow, decide_true, decide_false, Bool.true_and, Bool.and_true, Int.neg_neg, szl, List.length_cons, List.length_nil, Nat.zero_add, Nat.reduceAdd, dDct, List.zip_cons_cons, List.zip_nil_left, List.zip_nil_right, staK, q_add_tt, q_add_ll, q_add_vl, q_add_lv, q_addF_ll, q_addF_vl, q_cut_t, q_cut_l, q_cut_v, q_cut_s, q_rev_t, q_rev_l, q_tuple_t, q_tuple_l, q_tuple_v, q_list_t, q_list_l, q_list_v, q_int_i, q_int_b, q_abs, q_max2, q_min2, q_l1, q_l2, q_int, q_own, q_val, q_own1, q_val1, q_two, q_three, List.cons_append, List.nil_append, List.mem_cons, List.not_mem_nil, or_false, forall_eq_or_imp, forall_eq, ne_eq, not_false_eq_true, q_in_t, q_in_l]
  refine comp_opt (Z := Z) pD (fun s => if k = true then some (pD (s.1, s.2 - stay)) else none) (by rw [szl]; omega) (fun s _ kk kk' hk => ?_) (fun s _ y hy => ?_) ?_
  · unfold pD
    simp only [kS_hold, dsSeq, dsRaise, dsTryAs, dsTryO, dIsE, dXf, dStar, dsNever, dsDrop, dsRet, dsRetN, dsRetF, dsIf, dsAsg, dsOwn, dsNext, dsBreak, dsCont, dsAug, dsApp, dsExt, dsSet, dsPar2, dsPar3, dName, g_tup, g_lst, g_cons, g_nil, dsFor, dVar, dC, d2, d1, dL, dNil, dCons, dB, dAnd, dOr, dNot, dAndV, dOrV, dNotV, dIf, dChain, dTup, dLst, dFrz, dTru, dCall, dYes, dSeq, dSeqC, dEnum, dEnumC, dRg1, dRg2, dComp, dCut, dCutF, dAddF, dListF, dMulF, dRev, dPart, dNoPart, dpNil, dpE, dpF, q_isi_int, q_isi_bool, q_isi_str, q_isi_tuple, q_isi_list, q_isi_dict, dIsI, dIsB, dIsS, dIsT, dIsL, dIsD, q_add_i, q_sub, q_mul, q_div, q_mod, q_pow, q_lt, q_le, q_gt, q_ge, q_neg, q_eq_ii, q_ne_ii, q_eq_le, q_ne_le, q_eq_ve, q_ne_ve, q_eq_te, q_ne_te, q_eq_ss, q_ne_ss, q_len, q_bl, q_some, List.getElem?_cons_zero, List.getElem?_cons_succ, List.set_cons_zero, List.set_cons_succ, tru_bl, tru_non, tru_int, tru_tup, tru_lst, tru_vw, len_tup, len_lst, len_vw, len_scr, it_tup, it_lst, it_scr, itc_tup, itc_lst, itc_vw, itc_scr, sta, staL, Bool.and_true, Bool.true_and, Bool.and_eq_true, true_and, and_true, wipeR, if_true, if_false, ite_true, ite_false, Bool.false_eq_true, Bool.not_true, Bool.not_false, Option.some.injEq, exists_eq_left', exists_eq_left, reduceIte, reduceCtorEq, hasTy, tyD, Option.isSome_some, q_ix_t, q_ix_l, q_ix_v, at0, at1, at2, at_two, at_three, at_four, c_pow, c_mul1, c_mul2, Int.reducePow, Int.reduceToNat, Int.reduceMul, Int.reduceAdd, Int.reduceSub, Int.reduceNeg, Int.reduceLT, Int.reduceLE, Int.reduceBEq, Nat.reduceLT, Nat.reduceLeDiff, Nat.reducePow, decide_true, decide_false, Bool.true_and, Bool.and_true, Int.neg_neg, szl, List.length_cons, List.length_nil, Nat.zero_add, Nat.reduceAdd, dDct, List.zip_cons_cons, List.zip_nil_left, List.zip_nil_right, staK, q_add_tt, q_add_ll, q_add_vl, q_add_lv, q_addF_ll, q_addF_vl, q_cut_t, q_cut_l, q_cut_v, q_cut_s, q_rev_t, q_rev_l, q_tuple_t, q_tuple_l, q_tuple_v, q_list_t, q_list_l, q_list_v, q_int_i, q_int_b, q_abs, q_max2, q_min2, q_l1, q_l2, q_int, q_own, q_val, q_own1, q_val1, q_two, q_three, List.cons_append, List.nil_append, List.mem_cons, List.not_mem_nil, or_false, forall_eq_or_imp, forall_eq, ne_eq, not_false_eq_true, q_in_t, q_in_l]
    split
    · rename_i h1; rw [if_pos h1] at hk; exact hk
    · rename_i h1; rw [if_neg h1] at hk; exact hk
  · split at hy
    · cases hy; rfl
    · cases hy
  have e : g.filterMap (fun s => if k = true then some (pD (s.1, s.2 - stay)) else none) = (if k = true then g.map fun s => (s.1, s.2 - stay) else []).map pD := by
    cases k with
    | true => simp
    | false => simp
  rw [e]
  unfold s_call_spans_3
  simp only [staL_p, dsSeq, dsRaise, dsTryAs, dsTryO, dIsE, dXf, dStar, dsNever, dsDrop, dsRet, dsRetN, dsRetF, dsIf, dsAsg, dsOwn, dsNext, dsBreak, dsCont, dsAug, dsApp, dsExt, dsSet, dsPar2, dsPar3, dName, g_tup, g_lst, g_cons, g_nil, dsFor, dVar, dC, d2, d1, dL, dNil, dCons, dB, dAnd, dOr, dNot, dAndV, dOrV, dNotV, dIf, dChain, dTup, dLst, dFrz, dTru, dCall, dYes, dSeq, dSeqC, dEnum, dEnumC, dRg1, dRg2, dComp, dCut, dCutF, dAddF, dListF, dMulF, dRev, dPart, dNoPart, dpNil, dpE, dpF, q_isi_int, q_isi_bool, q_isi_str, q_isi_tuple, q_isi_list, q_isi_dict, dIsI, dIsB, dIsS, dIsT, dIsL, dIsD, q_add_i, q_sub, q_mul, q_div, q_mod, q_pow, q_lt, q_le, q_gt, q_ge, q_neg, q_eq_ii, q_ne_ii, q_eq_le, q_ne_le, q_eq_ve, q_ne_ve, q_eq_te, q_ne_te, q_eq_ss, q_ne_ss, q_len, q_bl, q_some, List.getElem?_cons_zero, List.getElem?_cons_succ, List.set_cons_zero, List.set_cons_succ, tru_bl, tru_non, tru_int, tru_tup, tru_lst, tru_vw, len_tup, len_lst, len_vw, len_scr, it_tup, it_lst, it_scr, itc_tup, itc_lst, itc_vw, itc_scr, sta, staL, Bool.and_true, Bool.true_and, Bool.and_eq_true, true_and, and_true, wipeR, if_true, if_false, ite_true, ite_false, Bool.false_eq_true, Bool.not_true, Bool.not_false, Option.some.injEq, exists_eq_left', exists_eq_left, reduceIte, reduceCtorEq, hasTy, tyD, Option.isSome_some, q_ix_t, q_ix_l, q_ix_v, at0, at1, at2, at_two, at_three, at_four, c_pow, c_mul1, c_mul2, Int.reducePow, Int.reduceToNat, Int.reduceMul, Int.reduceAdd, Int.reduceSub, Int.reduceNeg, Int.reduceLT, Int.reduceLE, Int.reduceBEq, Nat.reduceLT, Nat.reduceLeDiff, Nat.reducePow, decide_true, decide_false, Bool.true_and, Bool.and_true, Int.neg_neg, szl, List.length_cons, List.length_nil, Nat.zero_add, Nat.reduceAdd, dDct, List.zip_cons_cons, List.zip_nil_left, List.zip_nil_right, staK, q_add_tt, q_add_ll, q_add_vl, q_add_lv, q_addF_ll, q_addF_vl, q_cut_t, q_cut_l, q_cut_v, q_cut_s, q_rev_t, q_rev_l, q_tuple_t, q_tuple_l, q_tuple_v, q_list_t, q_list_l, q_list_v, q_int_i, q_int_b, q_abs, q_max2, q_min2, q_l1, q_l2, q_int, q_own, q_val, q_own1, q_val1, q_two, q_three, List.cons_append, List.nil_append, List.mem_cons, List.not_mem_nil, or_false, forall_eq_or_imp, forall_eq, ne_eq, not_false_eq_true, q_in_t, q_in_l]
  refine comp_opt (Z := Z) pD (fun p => if stay ≤ p.2 - p.1 + 1 then some (pD p) else none) (by rw [szl]; split <;> simp; omega) (fun p _ kk kk' hk => ?_) (fun p _ y hy => ?_) ?_
  · unfold pD
    simp only [dsSeq, dsRaise, dsTryAs, dsTryO, dIsE, dXf, dStar, dsNever, dsDrop, dsRet, dsRetN, dsRetF, dsIf, dsAsg, dsOwn, dsNext, dsBreak, dsCont, dsAug, dsApp, dsExt, dsSet, dsPar2, dsPar3, dName, g_tup, g_lst, g_cons, g_nil, dsFor, dVar, dC, d2, d1, dL, dNil, dCons, dB, dAnd, dOr, dNot, dAndV, dOrV, dNotV, dIf, dChain, dTup, dLst, dFrz, dTru, dCall, dYes, dSeq, dSeqC, dEnum, dEnumC, dRg1, dRg2, dComp, dCut, dCutF, dAddF, dListF, dMulF, dRev, dPart, dNoPart, dpNil, dpE, dpF, q_isi_int, q_isi_bool, q_isi_str, q_isi_tuple, q_isi_list, q_isi_dict, dIsI, dIsB, dIsS, dIsT, dIsL, dIsD, q_add_i, q_sub, q_mul, q_div, q_mod, q_pow, q_lt, q_le, q_gt, q_ge, q_neg, q_eq_ii, q_ne_ii, q_eq_le, q_ne_le, q_eq_ve, q_ne_ve, q_eq_te, q_ne_te, q_eq_ss, q_ne_ss, q_len, q_bl, q_some, List.getElem?_cons_zero, List.getElem?_cons_succ, List.set_cons_zero, List.set_cons_succ, tru_bl, tru_non, tru_int, tru_tup, tru_lst, tru_vw, len_tup, len_lst, len_vw, len_scr, it_tup, it_lst, it_scr, itc_tup, itc_lst, itc_vw, itc_scr, sta, staL, Bool.and_true, Bool.true_and, Bool.and_eq_true, true_and, and_true, wipeR, if_true, if_false, ite_true, ite_false, Bool.false_eq_true, Bool.not_true, Bool.not_false, Option.some.injEq, exists_eq_left', exists_eq_left, reduceIte, reduceCtorEq, hasTy, tyD, Option.isSome_some, q_ix_t, q_ix_l, q_ix_v, at0, at1, at2, at_two, at_three, at_four, c_pow, c_mul1, c_mul2, Int.reducePow, Int.reduceToNat, Int.reduceMul, Int.reduceAdd, Int.reduceSub, Int.reduceNeg, Int.reduceLT, Int.reduceLE, Int.reduceBEq, Nat.reduceLT, Nat.reduceLeDiff, Nat.reducePow, decide_true, decide_false, Bool.true_and, Bool.and_true, Int.neg_neg, szl, List.length_cons, List.length_nil, Nat.zero_add, Nat.reduceAdd, dDct, List.zip_cons_cons, List.zip_nil_left, List.zip_nil_right, staK, q_add_tt, q_add_ll, q_add_vl, q_add_lv, q_addF_ll, q_addF_vl, q_cut_t, q_cut_l, q_cut_v, q_cut_s, q_rev_t, q_rev_l, q_tuple_t, q_tuple_l, q_tuple_v, q_list_t, q_list_l, q_list_v, q_int_i, q_int_b, q_abs, q_max2, q_min2, q_l1, q_l2, q_int, q_own, q_val, q_own1, q_val1, q_two, q_three, List.cons_append, List.nil_append, List.mem_cons, List.not_mem_nil, or_false, forall_eq_or_imp, forall_eq, ne_eq, not_false_eq_true, q_in_t, q_in_l]
    split
    · rename_i h1; rw [if_pos (by simpa using h1)] at hk; exact hk
    · rename_i h1; rw [if_neg (by simpa using h1)] at hk; exact hk
  · split at hy
    · cases hy; rfl
    · cases hy
  have e2 : (if k = true then g.map fun s => (s.1, s.2 - stay) else []).filterMap (fun p => if stay ≤ p.2 - p.1 + 1 then some (pD p) else none) = (callsI (k, stay) g).map pD := by
    unfold callsI
    cases k with
    | false => simp
    | true =>
      simp only [if_true, ite_true]
      generalize g.map (fun s => (s.1, s.2 - stay)) = ps
      induction ps with
      | nil => rfl
      | cons p ps ih =>
        rw [List.filterMap_cons, List.filter_cons]
        by_cases h1 : stay ≤ p.2 - p.1 + 1
        · simp only [if_pos h1, decide_eq_true h1, if_true, List.map_cons]
          rw [ih]
        · simp only [if_neg h1, decide_eq_false h1, Bool.false_eq_true, if_false]
          exact ih
  rw [e2]
  simp only [staL_p, dsSeq, dsRaise, dsTryAs, dsTryO, dIsE, dXf, dStar, dsNever, dsDrop, dsRet, dsRetN, dsRetF, dsIf, dsAsg, dsOwn, dsNext, dsBreak, dsCont, dsAug, dsApp, dsExt, dsSet, dsPar2, dsPar3, dName, g_tup, g_lst, g_cons, g_nil, dsFor, dVar, dC, d2, d1, dL, dNil, dCons, dB, dAnd, dOr, dNot, dAndV, dOrV, dNotV, dIf, dChain, dTup, dLst, dFrz, dTru, dCall, dYes, dSeq, dSeqC, dEnum, dEnumC, dRg1, dRg2, dComp, dCut, dCutF, dAddF, dListF, dMulF, dRev, dPart, dNoPart, dpNil, dpE, dpF, q_isi_int, q_isi_bool, q_isi_str, q_isi_tuple, q_isi_list, q_isi_dict, dIsI, dIsB, dIsS, dIsT, dIsL, dIsD, q_add_i, q_sub, q_mul, q_div, q_mod, q_pow, q_lt, q_le, q_gt, q_ge, q_neg, q_eq_ii, q_ne_ii, q_eq_le, q_ne_le, q_eq_ve, q_ne_ve, q_eq_te, q_ne_te, q_eq_ss, q_ne_ss, q_len, q_bl, q_some, List.getElem?_cons_zero, List.getElem?_cons_succ, List.set_cons_zero, List.set_cons_succ, tru_bl, tru_non, tru_int, tru_tup, tru_lst, tru_vw, len_tup, len_lst, len_vw, len_scr, it_tup, it_lst, it_scr, itc_tup, itc_lst, itc_vw, itc_scr, sta, staL, Bool.and_true, Bool.true_and, Bool.and_eq_true, true_and, and_true, wipeR, if_true, if_false, ite_true, ite_false, Bool.false_eq_true, Bool.not_true, Bool.not_false, Option.some.injEq, exists_eq_left', exists_eq_left, reduceIte, reduceCtorEq, hasTy, tyD, Option.isSome_some, q_ix_t, q_ix_l, q_ix_v, at0, at1, at2, at_two, at_three, at_four, c_pow, c_mul1, c_mul2, Int.reducePow, Int.reduceToNat, Int.reduceMul, Int.reduceAdd, Int.reduceSub, Int.reduceNeg, Int.reduceLT, Int.reduceLE, Int.reduceBEq, Nat.reduceLT, Nat.reduceLeDiff, Nat.reducePow, decide_true, decide_false, Bool.true_and, Bool.and_true, Int.neg_neg, szl, List.length_cons, List.length_nil, Nat.zero_add, Nat.reduceAdd, dDct, List.zip_cons_cons, List.zip_nil_left, List.zip_nil_right, staK, q_add_tt, q_add_ll, q_add_vl, q_add_lv, q_addF_ll, q_addF_vl, q_cut_t, q_cut_l, q_cut_v, q_cut_s, q_rev_t, q_rev_l, q_tuple_t, q_tuple_l, q_tuple_v, q_list_t, q_list_l, q_list_v, q_int_i, q_int_b, q_abs, q_max2, q_min2, q_l1, q_l2, q_int, q_own, q_val, q_own1, q_val1, q_two, q_three, List.cons_append, List.nil_append, List.mem_cons, List.not_mem_nil, or_false, forall_eq_or_imp, forall_eq, ne_eq, not_false_eq_true, q_in_t, q_in_l]
  exact h
end
end LP
/-! text DLreel -/
/-! DL: the world of a reel: a list of a list of numbers (changed in place) and a count, which a ghost number bounds. -/
namespace DL
open PySem PySem.Spec PyProof.Rows L2
def ReelAt (p l : Addr) (n : Nat) (H : Hp) : Prop := ∃ (cells : List Int) (turn : Int), H p = some (.lst [.ref l, .int turn]) ∧ H l = some (.lst (cells.map V.int)) ∧ 0 < cells.length ∧ cells.length ≤ 64 ∧ p ≠ l ∧ 0 ≤ turn ∧ turn ≤ n
structure RSt where
  p : Addr
  l : Addr
  n : Nat
def ReelW : Wld where
  M := Option RSt
  reg := fun μ b => match μ with
    | none => False
    | some q => b = q.p ∨ b = q.l
  J := fun μ _ H => match μ with
    | none => True
    | some q => ReelAt q.p q.l q.n H
  held := fun {μ S H a} j r => by
    cases μ with
    | none => exact r.elim
    | some q =>
      obtain ⟨cells, turn, h1, h2, _⟩ := j
      rcases r with rfl | rfl
      · rw [h1]; simp
      · rw [h2]; simp
  loc := fun {μ S S' H H'} j _ e => by
    cases μ with
    | none => trivial
    | some q =>
      obtain ⟨cells, turn, h1, h2, h3⟩ := j
      exact ⟨cells, turn, (e _ (.inl rfl)).trans h1, (e _ (.inr rfl)).trans h2, h3⟩
theorem reel_reg0 : ∀ a, ¬ ReelW.reg none a := fun _ h => h
theorem reel_J0 : ∀ S H, ReelW.J none S H := fun _ _ => trivial
/-- the reel's state: where it stands, and how many draws there were at most -/
abbrev rs (p l : Addr) (n : Nat) : ReelW.M := some (⟨p, l, n⟩ : RSt)
def sp_spin : SpD ReelW := fun ds μ R _ => ∃ p l n many, ds = [.op (.ref p), .int many] ∧ μ = rs p l n ∧ n < 2 ^ 60 ∧ 0 < many ∧ many < 2 ^ 64 ∧ ∀ m : Int, 0 ≤ m → m < many → R (.int m) (rs p l (n + 1))
def sp_reel : SpD ReelW := fun ds μ R _ => ∃ ns, ds = [.scr ns] ∧ ns.length ≤ 63 ∧ μ = none ∧ ∀ p l : Addr, R (.op (.ref p)) (rs p l 0)
/-- what a draw does to the heap -/
structure DrP (p l : Addr) (H H' : Hp) : Prop where
  keep : ∀ a o, a ≠ p → a ≠ l → H a = some o → H' a = some o
  there : ∀ a, H a ≠ none → H' a ≠ none
theorem DrP.refl {p l : Addr} {H : Hp} : DrP p l H H := ⟨fun _ _ _ _ e => e, fun _ h => h⟩
theorem DrP.upd {p l x : Addr} {H H' : Hp} {o : HO} (d : DrP p l H H') (hx : x = p ∨ x = l) : DrP p l H (L2.upd H' x o) :=
  ⟨fun a u n1 n2 e => by rw [upd_ne (fun z => hx.elim (fun q => n1 (z.trans q)) fun q => n2 (z.trans q))]; exact d.keep a u n1 n2 e, fun a h => by
    by_cases e : a = x
    · rw [e, upd_same]; simp
    · rw [upd_ne e]; exact d.there a h⟩
theorem DrP.ext {p l : Addr} {n n' : Nat} {S H H' : Hp} (d : DrP p l H H') (ok : Ok ReelW (rs p l n) S H) (j : ReelAt p l n' H') : Ext ReelW (rs p l n) S H (rs p l n') S H' where
  ok := ⟨fun a u e => d.keep a u (fun z => by rw [z] at e; rw [ok.off p (.inl rfl)] at e; cases e) (fun z => by rw [z] at e; rw [ok.off l (.inr rfl)] at e; cases e) (ok.sub a u e), j, fun a h => ok.off a h, ok.nt⟩
  keep := fun a o h _ e => d.keep a o (fun z => h (.inl z)) (fun z => h (.inr z)) e
  same := Same.refl S
  new := fun a h => .inl h
  reg := fun a h => .inl h
  there := fun a f => Fr.of fun o e nt => by
    obtain ⟨cells, turn, h1, h2, _⟩ := j
    by_cases hp : a = p
    · rw [hp] at f; exact f.nt h1
    · by_cases hl : a = l
      · rw [hl] at f; exact f.nt h2
      · exact f.nt (d.keep a o hp hl e) nt
theorem ints_invR {K : PySem.W.Frag} {rg : Addr → Prop} {S H : Hp} : ∀ {ns : List Int} {vs : List V}, RdL K rg S H (ns.map .int) vs → vs = ns.map V.int
  | [], vs, h => h
  | n :: ns, vs, h => by
    obtain ⟨v, r, rfl, h1, h2⟩ := h
    cases h1
    rw [ints_invR h2]
    rfl
def dsRetReel (t1 : DTA ReelW) : DTS ReelW := fun B ρ μ => t1 ρ μ (fun ds1 μ1 => μ1 = none ∧ ∃ cells : List Int, ds1 = cells.map D.int ∧ 0 < cells.length ∧ cells.length ≤ 64 ∧ ∀ p l : Addr, B.rt (.op (.ref p)) (rs p l 0)) fun x μ' => B.ex x ρ μ'
/-- return [.., 0] -/
theorem ds_retReel {F : Fm} {W : WX} {e1 : Expr} {t1 : DTA ReelW} {j : Nat} {p1 pos pos' : Pos} (h1 : DF ReelW F W e1 t1)
    (hs : ∀ i, starEach (e1 :: [.Constant (.int 0) j p1]) (F.X i).env = (false, eval e1 (F.X i).env) :: starEach [.Constant (.int 0) j p1] (F.X i).env := by intro _; rfl) :
    DS ReelW F W (.Return (some (.List [e1, .Constant (.int 0) j p1] pos)) pos') (dsRetReel t1) := by
  obtain ⟨te1, pp1, h1⟩ := h1
  refine ⟨_, fun i => ps_ret (pe_lst (pa_cons (pp1 i) (pa_cons pe_int pa_nil) (hs i))), fun μ0 S0 H0 ρ σ μ S H B L r ht k => ?_⟩
  refine h1 H0 ρ σ μ S H _ _ _ r.env r.ok ht (k.wish r) fun l vs1 ds1 μ1 S1 H1 x1 n1 l1 s1 f1 r1 ht2 => ?_
  obtain ⟨rfl, cells, rfl, hc0, hc, hR⟩ := ht2
  refine ⟨by show 2 ≤ sizeLine; decide, fun p hp => ?_⟩
  have q1 := ints_invR r1
  subst q1
  have nl : l ≠ p := fun z => by rw [z, hp] at l1; cases l1
  have xx := r.ext.trans x1
  have b0 : Fr H0 p := xx.there p (.inl hp)
  have b1 : Fr H0 l := Classical.byContradiction fun w => f1 (.inr w)
  have sp : S1 p = none := by
    cases z : S1 p with
    | none => rfl
    | some o => have := x1.ok.sub p _ z; rw [hp] at this; cases this
  show L.rt (.ref p) (upd H1 p (.lst [.ref l, .int 0]))
  have J : ReelAt p l 0 (upd H1 p (.lst [.ref l, .int 0])) := ⟨cells, 0, upd_same, (upd_ne nl).trans l1, hc0, hc, Ne.symm nl, Int.le_refl _, Int.le_refl _⟩
  have fin : Ext ReelW μ0 S0 H0 (rs p l 0) S1 (upd H1 p (.lst [.ref l, .int 0])) := by
    refine ⟨⟨fun b o e => ?_, J, fun b hb => ?_, x1.ok.nt⟩, fun b o nb nt e => ?_, xx.same, xx.new, fun b hb => ?_, fun b hb => ?_⟩
    · rw [upd_ne (fun z => by rw [z, sp] at e; cases e)]
      exact x1.ok.sub b o e
    · rcases hb with h | h
      · rw [show b = p from h]; exact sp
      · rw [show b = l from h]; exact s1
    · rw [upd_ne (fun z => by rw [z] at e; exact b0.nt e nt)]
      exact xx.keep b o nb nt e
    · rcases hb with h | h
      · rw [show b = p from h]; exact .inr b0
      · rw [show b = l from h]; exact .inr b1
    · by_cases z : b = p
      · rw [z]; exact b0
      · rw [Fr, upd_ne z] at hb; exact xx.there b hb
  exact k.rt (.ref p) (.op (.ref p)) _ _ _ fin rfl rfl (hR p l)
end DL
/-! text RLs -/
/-! the defs that the laws of a reel (k11 to k24) share: specs -/
namespace RL
open PySem PySem.Spec PyProof.Rows L2 DL LP
def AscP : Int → Lg → Prop
  | _, [] => True
  | last, s :: g => last < s.1 ∧ s.1 < s.2 ∧ AscP s.2 g
structure VLog (b : Int) (g : Lg) : Prop where
  asc : AscP (-1) g
  le : ∀ s ∈ g, s.2 ≤ b
  len : g.length ≤ 60
def AscI : Int → List Int → Prop
  | _, [] => True
  | last, m :: ms => last < m ∧ AscI m ms
/-- a lamp sees one more motion; the log's last stretch stands first -/
def stepR (l : Lamp) (rev : Lg) (m : Int) : Lg := match rev with
  | [] => [(m, m + l.2)]
  | s :: r => if s.2 < m then (m, m + l.2) :: s :: r else if l.1 = true ∨ m = s.2 then (s.1, m + l.2) :: r else s :: r
def playR (l : Lamp) (ms : List Int) : Lg := ms.foldl (stepR l) []
def play (l : Lamp) (ms : List Int) : Lg := (playR l ms).reverse
def LampOk (top : Int) (l : Lamp) : Prop := 1 ≤ l.2 ∧ l.2 ≤ top
def sp__law_spin : SpD ReelW := sp_spin
def sp__law_reel : SpD ReelW := sp_reel
def sp__law_lamps : SpD ReelW := fun ds μ R _ => ∃ (p l : Addr) (n : Nat) (many top : Int), ds = [.op (.ref p), .int many, .int top] ∧ μ = rs p l n ∧ n < 2 ^ 50 ∧ 1 ≤ many ∧ many ≤ 16 ∧ 1 ≤ top ∧ top ≤ 1000000000 ∧
  ∀ (ls : List Lamp) (n' : Nat), ls ≠ [] → ls.length ≤ many → (∀ l ∈ ls, LampOk top l) → n' ≤ n + 200 → R (.tup (ls.map lampD)) (rs p l n')
def sp__law_minutes : SpD ReelW := fun ds μ R _ => ∃ (p l : Addr) (n : Nat) (many gap : Int), ds = [.op (.ref p), .int many, .int gap] ∧ μ = rs p l n ∧ n < 2 ^ 50 ∧ 0 ≤ many ∧ many ≤ 60 ∧ 1 ≤ gap ∧ gap ≤ 1000000 ∧
  ∀ (ms : List Int) (n' : Nat), AscI (-1) ms → ms.length ≤ many → (∀ m ∈ ms, m ≤ 500000000) → n' ≤ n + 1000 → R (intsL ms) (rs p l n')
def sp__law_log : SpD ReelW := fun ds μ R _ => ∃ (l : Lamp) (ms : List Int), ds = [lampD l, intsL ms] ∧ ms.length ≤ 10000 ∧ R (logD (play l ms)) μ
def sp__law_logs : SpD ReelW := fun ds μ R _ => ∃ (ls : List Lamp) (ms : List Int), ds = [.tup (ls.map lampD), intsL ms] ∧ ls.length ≤ 10000 ∧ ms.length ≤ 10000 ∧ R (.tup (ls.map fun l => logD (play l ms))) μ
def sp__law_bent : SpD ReelW := fun ds μ R _ => ∃ (p l : Addr) (n : Nat) (b : Int) (g : Lg), ds = [.op (.ref p), logD g] ∧ μ = rs p l n ∧ n < 2 ^ 50 ∧ 10 ≤ b ∧ VLog b g ∧ ∀ (g' : Lg) (n' : Nat), VLog (b + 10) g' → n' ≤ n + 10 → R (logD g') (rs p l n')
def sp__law_scene : SpD ReelW := fun ds μ R _ => ∃ (p l : Addr) (n : Nat) (many top motions : Int), ds = [.op (.ref p), .int many, .int top, .int motions] ∧ μ = rs p l n ∧ n < 2 ^ 49 ∧ 1 ≤ many ∧ many ≤ 16 ∧ 1 ≤ top ∧ top ≤ 100000 ∧ 0 ≤ motions ∧ motions ≤ 60 ∧
  ∀ (ls : List Lamp) (gs : List Lg) (n' : Nat), ls ≠ [] → ls.length ≤ many → gs.length = ls.length → (∀ l ∈ ls, LampOk top l) → (∀ g ∈ gs, VLog 600000000 g) → n' ≤ n + 5000 → R (.lst [.tup (ls.map lampD), .tup (gs.map logD)]) (rs p l n')
def sp__law_fits : SpD ReelW := fun ds μ R _ => ∃ l s, ds = [lampD l, pD s] ∧ 0 < l.2 ∧ s.1 < s.2 ∧ R (.bl (fitsB l s)) μ
end RL
/-! text RLt -/
/-! readings of defs that several laws share: printed by gen/mkshared.py -/
namespace RL
open PySem PySem.Spec PyProof.Rows L2 DL LP
def ps__law_spin : List Str := ["reel", "many"]
def N__law_reel : List Str := ["script", "cells", "cell"]
def ps__law_reel : List Str := ["script"]
def s__law_reel_0 : DTS ReelW :=
  (dsAsg (dFrz (dComp (dSeqC (dCut (dVar 0) dNoPart (dPart (dC (.int 59))))) (dName 2) dYes (dL smAbs (dCons (dVar 2) dNil)) [2])) (dName 1))
def s__law_reel_1 : DTS ReelW :=
  (dsRetReel (dAddF (dVar 1) (d2 smMul (dFrz (dLst (dCons (dC (.int 37)) dNil))) (dL smInt (dCons (d2 smEq (dVar 1) (dFrz (dLst dNil))) dNil)))))
def t__law_reel : DTS ReelW :=
  (dsSeq s__law_reel_0
    s__law_reel_1)
def N__law_lamps : List Str := ["reel", "many", "top", "found", "k", "stay"]
def ps__law_lamps : List Str := ["reel", "many", "top"]
def s__law_lamps_0 : DTS ReelW :=
  (dsOwn 3 (dLst dNil))
def s__law_lamps_1f_0 : DTS ReelW :=
  (dsAsg (d2 smIx (dFrz (dLst (dCons (d2 smAdd (dC (.int 1)) (dCall sp__law_spin (dCons (dVar 0) (dCons (dVar 2) dNil)))) (dCons (d2 smAdd (dC (.int 1)) (dCall sp__law_spin (dCons (dVar 0) (dCons (dL smMin2 (dCons (dVar 2) (dCons (dC (.int 3)) dNil))) dNil)))) dNil)))) (dCall sp__law_spin (dCons (dVar 0) (dCons (dC (.int 2)) dNil)))) (dName 5))
def s__law_lamps_1f_1 : DTS ReelW :=
  (dsApp 3 (dTup (dCons (d2 smIx (dFrz (dLst (dCons (dC (.str "hold")) (dCons (dC (.str "pulse")) dNil)))) (dCall sp__law_spin (dCons (dVar 0) (dCons (dC (.int 2)) dNil)))) (dCons (dVar 5) dNil))))
def l__law_lamps_1 : DTS ReelW :=
  (dsSeq s__law_lamps_1f_0
    s__law_lamps_1f_1)
def s__law_lamps_1 : DTS ReelW :=
  (dsFor (dRg1 (dCons (d2 smAdd (dC (.int 1)) (dCall sp__law_spin (dCons (dVar 0) (dCons (dVar 1) dNil)))) dNil)) (dName 4)
   l__law_lamps_1)
def s__law_lamps_2 : DTS ReelW :=
  (dsRet (dL smTuple (dCons (dVar 3) dNil)))
def t__law_lamps : DTS ReelW :=
  (dsSeq s__law_lamps_0
    (dsSeq s__law_lamps_1
    s__law_lamps_2))
def N__law_minutes : List Str := ["reel", "many", "gap", "here", "found", "way", "step", "k"]
def ps__law_minutes : List Str := ["reel", "many", "gap"]
def s__law_minutes_0 : DTS ReelW :=
  (dsPar3 3 4 5 (dpE (dCall sp__law_spin (dCons (dVar 0) (dCons (d2 smIx (dFrz (dLst (dCons (dC (.int 4)) (dCons (dC (.int (1000000))) dNil)))) (dCall sp__law_spin (dCons (dVar 0) (dCons (dC (.int 2)) dNil)))) dNil))) (dpF (dLst dNil) (dpE (dCall sp__law_spin (dCons (dVar 0) (dCons (dC (.int 4)) dNil))) dpNil))))
def s__law_minutes_1 : DTS ReelW :=
  (dsAsg (d2 smAdd (dC (.int 1)) (dCall sp__law_spin (dCons (dVar 0) (dCons (dVar 2) dNil)))) (dName 6))
def s__law_minutes_2f_0 : DTS ReelW :=
  (dsApp 4 (dVar 3))
def s__law_minutes_2f_1 : DTS ReelW :=
  (dsAsg (d2 smAdd (dVar 3) (d2 smIx (dFrz (dLst (dCons (d2 smAdd (dC (.int 1)) (dCall sp__law_spin (dCons (dVar 0) (dCons (dVar 2) dNil)))) (dCons (dVar 6) (dCons (dC (.int 1)) (dCons (d2 smAdd (dC (.int 1)) (dCall sp__law_spin (dCons (dVar 0) (dCons (d2 smMul (dC (.int 3)) (dVar 2)) dNil)))) dNil)))))) (dVar 5))) (dName 3))
def s__law_minutes_2f_2a_0 : DTS ReelW :=
  (dsAsg (d2 smAdd (dVar 3) (d2 smIx (dFrz (dLst (dCons (dVar 2) (dCons (dC (.int (100000))) dNil)))) (dCall sp__law_spin (dCons (dVar 0) (dCons (dC (.int 2)) dNil))))) (dName 3))
def s__law_minutes_2f_2 : DTS ReelW :=
  (dsIf (dB (d2 smEq (dCall sp__law_spin (dCons (dVar 0) (dCons (dC (.int 9)) dNil))) (dC (.int 0)))) s__law_minutes_2f_2a_0 dsNext)
def l__law_minutes_2 : DTS ReelW :=
  (dsSeq s__law_minutes_2f_0
    (dsSeq s__law_minutes_2f_1
    s__law_minutes_2f_2))
def s__law_minutes_2 : DTS ReelW :=
  (dsFor (dRg1 (dCons (dCall sp__law_spin (dCons (dVar 0) (dCons (d2 smAdd (dVar 1) (dC (.int 1))) dNil))) dNil)) (dName 7)
   l__law_minutes_2)
def s__law_minutes_3 : DTS ReelW :=
  (dsRetF (dVar 4))
def t__law_minutes : DTS ReelW :=
  (dsSeq s__law_minutes_0
    (dsSeq s__law_minutes_1
    (dsSeq s__law_minutes_2
    s__law_minutes_3)))
def N__law_log : List Str := ["lamp", "minutes", "kind", "stay", "found", "minute"]
def ps__law_log : List Str := ["lamp", "minutes"]
def s__law_log_0 : DTS ReelW :=
  (dsAsg (dVar 0) (dgTup 2 (dgCons (dName 2) (dgCons (dName 3) dgNil))))
def s__law_log_1 : DTS ReelW :=
  (dsOwn 4 (dLst dNil))
def s__law_log_2f_0a_0 : DTS ReelW :=
  (dsApp 4 (dTup (dCons (dVar 5) (dCons (d2 smAdd (dVar 5) (dVar 3)) dNil))))
def s__law_log_2f_0b_0a_0 : DTS ReelW :=
  (dsSet 4 (dC (.int (-1))) (dTup (dCons (d2 smIx (d2 smIx (dVar 4) (dC (.int (-1)))) (dC (.int 0))) (dCons (d2 smAdd (dVar 5) (dVar 3)) dNil))))
def s__law_log_2f_0b_0 : DTS ReelW :=
  (dsIf (dOr (dB (d2 smEq (dVar 2) (dC (.str "hold")))) (dB (d2 smEq (dVar 5) (d2 smIx (d2 smIx (dVar 4) (dC (.int (-1)))) (dC (.int 1)))))) s__law_log_2f_0b_0a_0 dsNext)
def s__law_log_2f_0 : DTS ReelW :=
  (dsIf (dOr (dB (d2 smEq (dVar 4) (dFrz (dLst dNil)))) (dB (d2 smGt (dVar 5) (d2 smIx (d2 smIx (dVar 4) (dC (.int (-1)))) (dC (.int 1)))))) s__law_log_2f_0a_0 s__law_log_2f_0b_0)
def l__law_log_2 : DTS ReelW :=
  s__law_log_2f_0
def s__law_log_2 : DTS ReelW :=
  (dsFor (dSeq (dVar 1)) (dName 5)
   l__law_log_2)
def s__law_log_3 : DTS ReelW :=
  (dsRet (dL smTuple (dCons (dVar 4) dNil)))
def t__law_log : DTS ReelW :=
  (dsSeq s__law_log_0
    (dsSeq s__law_log_1
    (dsSeq s__law_log_2
    s__law_log_3)))
def N__law_logs : List Str := ["lamps", "minutes", "lamp"]
def ps__law_logs : List Str := ["lamps", "minutes"]
def s__law_logs_0 : DTS ReelW :=
  (dsRet (dL smTuple (dCons (dFrz (dComp (dSeqC (dVar 0)) (dName 2) dYes (dCall sp__law_log (dCons (dVar 2) (dCons (dVar 1) dNil))) [2])) dNil)))
def t__law_logs : DTS ReelW :=
  s__law_logs_0
def N__law_bent : List Str := ["reel", "log", "at", "by", "on", "off", "some", "way", "parts", "found", "begin", "end"]
def ps__law_bent : List Str := ["reel", "log"]
def s__law_bent_0a_0 : DTS ReelW :=
  (dsRet (dTup (dCons (dTup (dCons (dC (.int 3)) (dCons (d2 smAdd (dC (.int 4)) (dCall sp__law_spin (dCons (dVar 0) (dCons (dC (.int 5)) dNil)))) dNil))) dNil)))
def s__law_bent_0 : DTS ReelW :=
  (dsIf (dB (d2 smEq (dVar 1) (dTup dNil))) s__law_bent_0a_0 dsNext)
def s__law_bent_1 : DTS ReelW :=
  (dsPar2 2 3 (dpE (dCall sp__law_spin (dCons (dVar 0) (dCons (dL smLen (dCons (dVar 1) dNil)) dNil))) (dpE (d2 smAdd (dC (.int 1)) (dCall sp__law_spin (dCons (dVar 0) (dCons (dC (.int 4)) dNil)))) dpNil)))
def s__law_bent_2 : DTS ReelW :=
  (dsAsg (d2 smIx (dVar 1) (dVar 2)) (dgTup 2 (dgCons (dName 4) (dgCons (dName 5) dgNil))))
def s__law_bent_3 : DTS ReelW :=
  (dsAsg (dFrz (dLst (dCons (dTup (dCons (dVar 4) (dCons (d2 smAdd (dVar 5) (dVar 3)) dNil))) (dCons (dTup (dCons (dVar 4) (dCons (dL smMax2 (dCons (d2 smAdd (dVar 4) (dC (.int 1))) (dCons (d2 smSub (dVar 5) (dVar 3)) dNil))) dNil))) (dCons (dTup (dCons (d2 smAdd (dVar 4) (dVar 3)) (dCons (d2 smAdd (dVar 5) (dVar 3)) dNil))) (dCons (dTup (dCons (dL smMax2 (dCons (dC (.int 0)) (dCons (d2 smSub (dVar 4) (dVar 3)) dNil))) (dCons (dVar 5) dNil))) dNil)))))) (dName 6))
def s__law_bent_4 : DTS ReelW :=
  (dsAsg (dCall sp__law_spin (dCons (dVar 0) (dCons (dC (.int 7)) dNil))) (dName 7))
def s__law_bent_5 : DTS ReelW :=
  (dsAsg (dIf (dB (d2 smLt (dVar 7) (dC (.int 4)))) (dFrz (dLst (dCons (d2 smIx (dVar 6) (dVar 7)) dNil))) (dFrz (dLst dNil))) (dName 8))
def s__law_bent_6a_0 : DTS ReelW :=
  (dsAsg (dFrz (dLst (dCons (dTup (dCons (dVar 4) (dCons (d2 smAdd (dVar 4) (d2 smDiv (d2 smSub (dVar 5) (dVar 4)) (dC (.int 2)))) dNil))) (dCons (dTup (dCons (d2 smAdd (d2 smAdd (dVar 4) (d2 smDiv (d2 smSub (dVar 5) (dVar 4)) (dC (.int 2)))) (dC (.int 1))) (dCons (dVar 5) dNil))) dNil)))) (dName 8))
def s__law_bent_6 : DTS ReelW :=
  (dsIf (dAnd (dB (d2 smEq (dVar 7) (dC (.int 4)))) (dB (d2 smGt (d2 smSub (dVar 5) (dVar 4)) (dC (.int 2))))) s__law_bent_6a_0 dsNext)
def s__law_bent_7a_0 : DTS ReelW :=
  (dsAsg (dFrz (dLst (dCons (dTup (dCons (dVar 4) (dCons (dVar 5) dNil))) (dCons (dTup (dCons (d2 smAdd (dVar 5) (dVar 3)) (dCons (d2 smAdd (dVar 5) (d2 smMul (dC (.int 2)) (dVar 3))) dNil))) dNil)))) (dName 8))
def s__law_bent_7 : DTS ReelW :=
  (dsIf (dB (d2 smEq (dVar 7) (dC (.int 5)))) s__law_bent_7a_0 dsNext)
def s__law_bent_8 : DTS ReelW :=
  (dsOwn 9 (dLst dNil))
def s__law_bent_9f_0a_0 : DTS ReelW :=
  (dsApp 9 (dTup (dCons (dVar 10) (dCons (dVar 11) dNil))))
def s__law_bent_9f_0 : DTS ReelW :=
  (dsIf (dOr (dB (d2 smEq (dVar 9) (dFrz (dLst dNil)))) (dB (d2 smGt (dVar 10) (d2 smIx (d2 smIx (dVar 9) (dC (.int (-1)))) (dC (.int 1)))))) s__law_bent_9f_0a_0 dsNext)
def l__law_bent_9 : DTS ReelW :=
  s__law_bent_9f_0
def s__law_bent_9 : DTS ReelW :=
  (dsFor (dSeq (d2 smAdd (d2 smAdd (dL smList (dCons (dCut (dVar 1) dNoPart (dPart (dVar 2))) dNil)) (dVar 8)) (dL smList (dCons (dCut (dVar 1) (dPart (d2 smAdd (dVar 2) (dC (.int 1)))) dNoPart) dNil)))) (dgTup 2 (dgCons (dName 10) (dgCons (dName 11) dgNil)))
   l__law_bent_9)
def s__law_bent_10 : DTS ReelW :=
  (dsRet (dL smTuple (dCons (dCut (dVar 9) dNoPart (dPart (dC (.int 60)))) dNil)))
def t__law_bent : DTS ReelW :=
  (dsSeq s__law_bent_0
    (dsSeq s__law_bent_1
    (dsSeq s__law_bent_2
    (dsSeq s__law_bent_3
    (dsSeq s__law_bent_4
    (dsSeq s__law_bent_5
    (dsSeq s__law_bent_6
    (dsSeq s__law_bent_7
    (dsSeq s__law_bent_8
    (dsSeq s__law_bent_9
    s__law_bent_10))))))))))
def N__law_scene : List Str := ["reel", "many", "top", "motions", "lamps", "logs", "k", "at"]
def ps__law_scene : List Str := ["reel", "many", "top", "motions"]
def s__law_scene_0 : DTS ReelW :=
  (dsAsg (dCall sp__law_lamps (dCons (dVar 0) (dCons (dVar 1) (dCons (dVar 2) dNil)))) (dName 4))
def s__law_scene_1 : DTS ReelW :=
  (dsOwn 5 (dListF (dCons (dCall sp__law_logs (dCons (dVar 4) (dCons (dCall sp__law_minutes (dCons (dVar 0) (dCons (dVar 3) (dCons (d2 smMul (dC (.int 2)) (dVar 2)) dNil)))) dNil))) dNil)))
def s__law_scene_2f_0 : DTS ReelW :=
  (dsAsg (dCall sp__law_spin (dCons (dVar 0) (dCons (dL smLen (dCons (dVar 5) dNil)) dNil))) (dName 7))
def s__law_scene_2f_1a_0 : DTS ReelW :=
  (dsSet 5 (dVar 7) (dCall sp__law_log (dCons (d2 smIx (dVar 4) (dVar 7)) (dCons (dCall sp__law_minutes (dCons (dVar 0) (dCons (dVar 3) (dCons (d2 smMul (dC (.int 2)) (dVar 2)) dNil)))) dNil))))
def s__law_scene_2f_1b_0 : DTS ReelW :=
  (dsSet 5 (dVar 7) (dCall sp__law_bent (dCons (dVar 0) (dCons (d2 smIx (dVar 5) (dVar 7)) dNil))))
def s__law_scene_2f_1 : DTS ReelW :=
  (dsIf (dB (d2 smEq (dCall sp__law_spin (dCons (dVar 0) (dCons (dC (.int 4)) dNil))) (dC (.int 0)))) s__law_scene_2f_1a_0 s__law_scene_2f_1b_0)
def l__law_scene_2 : DTS ReelW :=
  (dsSeq s__law_scene_2f_0
    s__law_scene_2f_1)
def s__law_scene_2 : DTS ReelW :=
  (dsFor (dRg1 (dCons (d2 smIx (dFrz (dLst (dCons (dC (.int 0)) (dCons (dC (.int 0)) (dCons (dC (.int 1)) (dCons (dC (.int 2)) dNil)))))) (dCall sp__law_spin (dCons (dVar 0) (dCons (dC (.int 4)) dNil)))) dNil)) (dName 6)
   l__law_scene_2)
def s__law_scene_3 : DTS ReelW :=
  (dsRet (dFrz (dLst (dCons (dVar 4) (dCons (dL smTuple (dCons (dVar 5) dNil)) dNil)))))
def t__law_scene : DTS ReelW :=
  (dsSeq s__law_scene_0
    (dsSeq s__law_scene_1
    (dsSeq s__law_scene_2
    s__law_scene_3)))
def N__law_fits : List Str := ["lamp", "stretch", "kind", "stay", "on", "off"]
def ps__law_fits : List Str := ["lamp", "stretch"]
def s__law_fits_0 : DTS ReelW :=
  (dsAsg (dVar 0) (dgTup 2 (dgCons (dName 2) (dgCons (dName 3) dgNil))))
def s__law_fits_1 : DTS ReelW :=
  (dsAsg (dVar 1) (dgTup 2 (dgCons (dName 4) (dgCons (dName 5) dgNil))))
def s__law_fits_2 : DTS ReelW :=
  (dsIf (dOr (dB (d2 smGt (d2 smSub (dVar 5) (dVar 3)) (dC (.int (1000000000))))) (dB (d2 smLt (d2 smSub (dVar 5) (dVar 4)) (dVar 3)))) (dsRet (dC (.bl false))) dsNext)
def s__law_fits_3 : DTS ReelW :=
  (dsRet (dOrV (d2 smEq (dVar 2) (dC (.str "hold"))) (d2 smEq (d2 smMod (d2 smSub (dVar 5) (dVar 4)) (dVar 3)) (dC (.int 0)))))
def t__law_fits : DTS ReelW :=
  (dsSeq s__law_fits_0
    (dsSeq s__law_fits_1
    (dsSeq s__law_fits_2
    s__law_fits_3)))
end RL
/-! text RLp -/
/-! the defs that the laws of a reel share: what they answer -/
namespace RL
open PySem PySem.Spec PyProof.Rows L2 DL LP
section
variable {p l : Addr} {n : Nat} {R : D → ReelW.M → Prop} {E : Xc → ReelW.M → Prop}
theorem q_spin {many : Int} : sp__law_spin [.op (.ref p), .int many] (rs p l n) R E ↔ (n < 2 ^ 60 ∧ 0 < many ∧ many < 2 ^ 64 ∧ ∀ m : Int, 0 ≤ m → m < many → R (.int m) (rs p l (n + 1))) := by
  constructor
  · rintro ⟨p', l', n', many', e, e2, h1, h2, h3, h4⟩
    simp only [List.cons.injEq, D.op.injEq, D.int.injEq, and_true, V.ref.injEq, Option.some.injEq, RSt.mk.injEq] at e e2
    obtain ⟨rfl, rfl⟩ := e
    obtain ⟨_, rfl, rfl⟩ := e2
    exact ⟨h1, h2, h3, h4⟩
  · rintro ⟨h1, h2, h3, h4⟩
    exact ⟨p, l, n, many, rfl, rfl, h1, h2, h3, h4⟩
end
section
variable (ds : List D) (μ : ReelW.M) (R : D → ReelW.M → Prop) (Ed : Xc → ReelW.M → Prop)
theorem pure__law_reel (hl : ds.length = ps__law_reel.length) (hs : sp__law_reel ds μ R Ed) (st : staL ds = true) : t__law_reel (fin R Ed) (startD N__law_reel ds) μ := by
  obtain ⟨ns, rfl, hn, rfl, h⟩ := hs
  show t__law_reel (fin R Ed) [.val (.scr ns), .un, .un] none
  unfold t__law_reel s__law_reel_0
  simp only [dsSeq, dsRaise, dsTryAs, dsTryO, dIsE, dXf, dStar, dsNever, dsDrop, dsRet, dsRetN, dsRetF, dsIf, dsAsg, dsOwn, dsNext, dsBreak, dsCont, dsAug, dsApp, dsExt, dsSet, dsPar2, dsPar3, dName, g_tup, g_lst, g_cons, g_nil, dsFor, dVar, dC, d2, d1, dL, dNil, dCons, dB, dAnd, dOr, dNot, dAndV, dOrV, dNotV, dIf, dChain, dTup, dLst, dFrz, dTru, dCall, dYes, dSeq, dSeqC, dEnum, dEnumC, dRg1, dRg2, dComp, dCut, dCutF, dAddF, dListF, dMulF, dRev, dPart, dNoPart, dpNil, dpE, dpF, q_isi_int, q_isi_bool, q_isi_str, q_isi_tuple, q_isi_list, q_isi_dict, dIsI, dIsB, dIsS, dIsT, dIsL, dIsD, q_add_i, q_sub, q_mul, q_div, q_mod, q_pow, q_lt, q_le, q_gt, q_ge, q_neg, q_eq_ii, q_ne_ii, q_eq_le, q_ne_le, q_eq_ve, q_ne_ve, q_eq_te, q_ne_te, q_eq_ss, q_ne_ss, q_len, q_bl, q_some, List.getElem?_cons_zero, List.getElem?_cons_succ, List.set_cons_zero, List.set_cons_succ, tru_bl, tru_non, tru_int, tru_tup, tru_lst, tru_vw, len_tup, len_lst, len_vw, len_scr, it_tup, it_lst, it_scr, itc_tup, itc_lst, itc_vw, itc_scr, sta, staL, Bool.and_true, Bool.true_and, Bool.and_eq_true, true_and, and_true, wipeR, if_true, if_false, ite_true, ite_false, Bool.false_eq_true, Bool.not_true, Bool.not_false, Option.some.injEq, exists_eq_left', exists_eq_left, reduceIte, reduceCtorEq, hasTy, tyD, Option.isSome_some, q_ix_t, q_ix_l, q_ix_v, at0, at1, at2, at_two, at_three, at_four, c_pow, c_mul1, c_mul2, Int.reducePow, Int.reduceToNat, Int.reduceMul, Int.reduceAdd, Int.reduceSub, Int.reduceNeg, Int.reduceLT, Int.reduceLE, Int.reduceBEq, Nat.reduceLT, Nat.reduceLeDiff, Nat.reducePow, decide_true, decide_false, Bool.true_and, Bool.and_true, Int.neg_neg, szl, List.length_cons, List.length_nil, Nat.zero_add, Nat.reduceAdd, dDct, List.zip_cons_cons, List.zip_nil_left, List.zip_nil_right, staK, q_add_tt, q_add_ll, q_add_vl, q_add_lv, q_addF_ll, q_addF_vl, q_cut_t, q_cut_l, q_cut_v, q_cut_s, q_rev_t, q_rev_l, q_tuple_t, q_tuple_l, q_tuple_v, q_list_t, q_list_l, q_list_v, q_int_i, q_int_b, q_abs, q_max2, q_min2, q_l1, q_l2, q_int, q_own, q_val, q_own1, q_val1, q_two, q_three, List.cons_append, List.nil_append, List.mem_cons, List.not_mem_nil, or_false, forall_eq_or_imp, forall_eq, ne_eq, not_false_eq_true, q_in_t, q_in_l]
  rw [cutL_map]
  have hc : (cutL ns none (some 59)).length ≤ 63 := by
    unfold cutL
    rw [List.length_take, List.length_drop]
    omega
  generalize cutL ns none (some 59) = cs at hc ⊢
  refine comp_fun (Z := ReelW) D.int (fun i => .int (if i < 0 then -i else i)) (by rw [szl]; omega) (fun x hx k k' hk => ?_) (fun _ _ => rfl) ?_
  · simp only [dsSeq, dsRaise, dsTryAs, dsTryO, dIsE, dXf, dStar, dsNever, dsDrop, dsRet, dsRetN, dsRetF, dsIf, dsAsg, dsOwn, dsNext, dsBreak, dsCont, dsAug, dsApp, dsExt, dsSet, dsPar2, dsPar3, dName, g_tup, g_lst, g_cons, g_nil, dsFor, dVar, dC, d2, d1, dL, dNil, dCons, dB, dAnd, dOr, dNot, dAndV, dOrV, dNotV, dIf, dChain, dTup, dLst, dFrz, dTru, dCall, dYes, dSeq, dSeqC, dEnum, dEnumC, dRg1, dRg2, dComp, dCut, dCutF, dAddF, dListF, dMulF, dRev, dPart, dNoPart, dpNil, dpE, dpF, q_isi_int, q_isi_bool, q_isi_str, q_isi_tuple, q_isi_list, q_isi_dict, dIsI, dIsB, dIsS, dIsT, dIsL, dIsD, q_add_i, q_sub, q_mul, q_div, q_mod, q_pow, q_lt, q_le, q_gt, q_ge, q_neg, q_eq_ii, q_ne_ii, q_eq_le, q_ne_le, q_eq_ve, q_ne_ve, q_eq_te, q_ne_te, q_eq_ss, q_ne_ss, q_len, q_bl, q_some, List.getElem?_cons_zero, List.getElem?_cons_succ, List.set_cons_zero, List.set_cons_succ, tru_bl, tru_non, tru_int, tru_tup, tru_lst, tru_vw, len_tup, len_lst, len_vw, len_scr, it_tup, it_lst, it_scr, itc_tup, itc_lst, itc_vw, itc_scr, sta, staL, Bool.and_true, Bool.true_and, Bool.and_eq_true, true_and, and_true, wipeR, if_true, if_false, ite_true, ite_false, Bool.false_eq_true, Bool.not_true, Bool.not_false, Option.some.injEq, exists_eq_left', exists_eq_left, reduceIte, reduceCtorEq, hasTy, tyD, Option.isSome_some, q_ix_t, q_ix_l, q_ix_v, at0, at1, at2, at_two, at_three, at_four, c_pow, c_mul1, c_mul2, Int.reducePow, Int.reduceToNat, Int.reduceMul, Int.reduceAdd, Int.reduceSub, Int.reduceNeg, Int.reduceLT, Int.reduceLE, Int.reduceBEq, Nat.reduceLT, Nat.reduceLeDiff, Nat.reducePow, decide_true, decide_false, Bool.true_and, Bool.and_true, Int.neg_neg, szl, List.length_cons, List.length_nil, Nat.zero_add, Nat.reduceAdd, dDct, List.zip_cons_cons, List.zip_nil_left, List.zip_nil_right, staK, q_add_tt, q_add_ll, q_add_vl, q_add_lv, q_addF_ll, q_addF_vl, q_cut_t, q_cut_l, q_cut_v, q_cut_s, q_rev_t, q_rev_l, q_tuple_t, q_tuple_l, q_tuple_v, q_list_t, q_list_l, q_list_v, q_int_i, q_int_b, q_abs, q_max2, q_min2, q_l1, q_l2, q_int, q_own, q_val, q_own1, q_val1, q_two, q_three, List.cons_append, List.nil_append, List.mem_cons, List.not_mem_nil, or_false, forall_eq_or_imp, forall_eq, ne_eq, not_false_eq_true, q_in_t, q_in_l]
    exact hk
  rw [show (cs.map fun i => D.int (if i < 0 then -i else i)) = (cs.map fun i => if i < 0 then -i else i).map D.int by rw [List.map_map]; rfl]
  have hc2 : (cs.map fun i => if i < 0 then -i else i).length ≤ 63 := by rw [List.length_map]; exact hc
  generalize (cs.map fun i => if i < 0 then -i else i) = cells at hc2 ⊢
  unfold s__law_reel_1 dsRetReel
  simp only [staL_ints, dsSeq, dsRaise, dsTryAs, dsTryO, dIsE, dXf, dStar, dsNever, dsDrop, dsRet, dsRetN, dsRetF, dsIf, dsAsg, dsOwn, dsNext, dsBreak, dsCont, dsAug, dsApp, dsExt, dsSet, dsPar2, dsPar3, dName, g_tup, g_lst, g_cons, g_nil, dsFor, dVar, dC, d2, d1, dL, dNil, dCons, dB, dAnd, dOr, dNot, dAndV, dOrV, dNotV, dIf, dChain, dTup, dLst, dFrz, dTru, dCall, dYes, dSeq, dSeqC, dEnum, dEnumC, dRg1, dRg2, dComp, dCut, dCutF, dAddF, dListF, dMulF, dRev, dPart, dNoPart, dpNil, dpE, dpF, q_isi_int, q_isi_bool, q_isi_str, q_isi_tuple, q_isi_list, q_isi_dict, dIsI, dIsB, dIsS, dIsT, dIsL, dIsD, q_add_i, q_sub, q_mul, q_div, q_mod, q_pow, q_lt, q_le, q_gt, q_ge, q_neg, q_eq_ii, q_ne_ii, q_eq_le, q_ne_le, q_eq_ve, q_ne_ve, q_eq_te, q_ne_te, q_eq_ss, q_ne_ss, q_len, q_bl, q_some, List.getElem?_cons_zero, List.getElem?_cons_succ, List.set_cons_zero, List.set_cons_succ, tru_bl, tru_non, tru_int, tru_tup, tru_lst, tru_vw, len_tup, len_lst, len_vw, len_scr, it_tup, it_lst, it_scr, itc_tup, itc_lst, itc_vw, itc_scr, sta, staL, Bool.and_true, Bool.true_and, Bool.and_eq_true, true_and, and_true, wipeR, if_true, if_false, ite_true, ite_false, Bool.false_eq_true, Bool.not_true, Bool.not_false, Option.some.injEq, exists_eq_left', exists_eq_left, reduceIte, reduceCtorEq, hasTy, tyD, Option.isSome_some, q_ix_t, q_ix_l, q_ix_v, at0, at1, at2, at_two, at_three, at_four, c_pow, c_mul1, c_mul2, Int.reducePow, Int.reduceToNat, Int.reduceMul, Int.reduceAdd, Int.reduceSub, Int.reduceNeg, Int.reduceLT, Int.reduceLE, Int.reduceBEq, Nat.reduceLT, Nat.reduceLeDiff, Nat.reducePow, decide_true, decide_false, Bool.true_and, Bool.and_true, Int.neg_neg, szl, List.length_cons, List.length_nil, Nat.zero_add, Nat.reduceAdd, dDct, List.zip_cons_cons, List.zip_nil_left, List.zip_nil_right, staK, q_add_tt, q_add_ll, q_add_vl, q_add_lv, q_addF_ll, q_addF_vl, q_cut_t, q_cut_l, q_cut_v, q_cut_s, q_rev_t, q_rev_l, q_tuple_t, q_tuple_l, q_tuple_v, q_list_t, q_list_l, q_list_v, q_int_i, q_int_b, q_abs, q_max2, q_min2, q_l1, q_l2, q_int, q_own, q_val, q_own1, q_val1, q_two, q_three, List.cons_append, List.nil_append, List.mem_cons, List.not_mem_nil, or_false, forall_eq_or_imp, forall_eq, ne_eq, not_false_eq_true, q_in_t, q_in_l]
  cases cells with
  | nil => exact ⟨_, rfl, by decide, by decide, by show (1 : Nat) * 1 ≤ sizeLine; decide, [], [.int 37], rfl, rfl, by decide, rfl, [37], rfl, by decide, by decide, h⟩
  | cons c cells => exact ⟨_, rfl, by show -(2 ^ 63) ≤ (0 : Int); decide, by show (0 : Int) < 2 ^ 63; decide, by show (1 : Nat) * 0 ≤ sizeLine; decide, _, [], rfl, rfl, by rw [szl]; simp at hc2 ⊢; omega, rfl, c :: cells, by simp, by simp, by simp at hc2 ⊢; omega, h⟩
theorem pure__law_lamps (hl : ds.length = ps__law_lamps.length) (hs : sp__law_lamps ds μ R Ed) (st : staL ds = true) : t__law_lamps (fin R Ed) (startD N__law_lamps ds) μ := by
  obtain ⟨p, l, n, many, top, rfl, rfl, hn, m0, m1, t0, t1, h⟩ := hs
  show t__law_lamps (fin R Ed) [.val (.op (.ref p)), .val (.int many), .val (.int top), .un, .un, .un] (rs p l n)
  unfold t__law_lamps s__law_lamps_0 s__law_lamps_1
  simp only [q_spin, dsSeq, dsRaise, dsTryAs, dsTryO, dIsE, dXf, dStar, dsNever, dsDrop, dsRet, dsRetN, dsRetF, dsIf, dsAsg, dsOwn, dsNext, dsBreak, dsCont, dsAug, dsApp, dsExt, dsSet, dsPar2, dsPar3, dName, g_tup, g_lst, g_cons, g_nil, dsFor, dVar, dC, d2, d1, dL, dNil, dCons, dB, dAnd, dOr, dNot, dAndV, dOrV, dNotV, dIf, dChain, dTup, dLst, dFrz, dTru, dCall, dYes, dSeq, dSeqC, dEnum, dEnumC, dRg1, dRg2, dComp, dCut, dCutF, dAddF, dListF, dMulF, dRev, dPart, dNoPart, dpNil, dpE, dpF, q_isi_int, q_isi_bool, q_isi_str, q_isi_tuple, q_isi_list, q_isi_dict, dIsI, dIsB, dIsS, dIsT, dIsL, dIsD, q_add_i, q_sub, q_mul, q_div, q_mod, q_pow, q_lt, q_le, q_gt, q_ge, q_neg, q_eq_ii, q_ne_ii, q_eq_le, q_ne_le, q_eq_ve, q_ne_ve, q_eq_te, q_ne_te, q_eq_ss, q_ne_ss, q_len, q_bl, q_some, List.getElem?_cons_zero, List.getElem?_cons_succ, List.set_cons_zero, List.set_cons_succ, tru_bl, tru_non, tru_int, tru_tup, tru_lst, tru_vw, len_tup, len_lst, len_vw, len_scr, it_tup, it_lst, it_scr, itc_tup, itc_lst, itc_vw, itc_scr, sta, staL, Bool.and_true, Bool.true_and, Bool.and_eq_true, true_and, and_true, wipeR, if_true, if_false, ite_true, ite_false, Bool.false_eq_true, Bool.not_true, Bool.not_false, Option.some.injEq, exists_eq_left', exists_eq_left, reduceIte, reduceCtorEq, hasTy, tyD, Option.isSome_some, q_ix_t, q_ix_l, q_ix_v, at0, at1, at2, at_two, at_three, at_four, c_pow, c_mul1, c_mul2, Int.reducePow, Int.reduceToNat, Int.reduceMul, Int.reduceAdd, Int.reduceSub, Int.reduceNeg, Int.reduceLT, Int.reduceLE, Int.reduceBEq, Nat.reduceLT, Nat.reduceLeDiff, Nat.reducePow, decide_true, decide_false, Bool.true_and, Bool.and_true, Int.neg_neg, szl, List.length_cons, List.length_nil, Nat.zero_add, Nat.reduceAdd, dDct, List.zip_cons_cons, List.zip_nil_left, List.zip_nil_right, staK, q_add_tt, q_add_ll, q_add_vl, q_add_lv, q_addF_ll, q_addF_vl, q_cut_t, q_cut_l, q_cut_v, q_cut_s, q_rev_t, q_rev_l, q_tuple_t, q_tuple_l, q_tuple_v, q_list_t, q_list_l, q_list_v, q_int_i, q_int_b, q_abs, q_max2, q_min2, q_l1, q_l2, q_int, q_own, q_val, q_own1, q_val1, q_two, q_three, List.cons_append, List.nil_append, List.mem_cons, List.not_mem_nil, or_false, forall_eq_or_imp, forall_eq, ne_eq, not_false_eq_true, q_in_t, q_in_l]
  refine ⟨by omega, by omega, by omega, fun m a0 a1 => ⟨by omega, by omega, fun rg hrg => ?_⟩⟩
  refine loop_rg (Z := ReelW) hrg (fun i ρ μ => ∃ (ls : List Lamp) (n' : Nat) (a b : Slot), ρ = [.val (.op (.ref p)), .val (.int many), .val (.int top), .own (ls.map lampD), a, b] ∧ μ = rs p l n' ∧ ls.length = i ∧ n' ≤ n + 1 + 4 * i ∧ ∀ l ∈ ls, LampOk top l) ?_ ?_ ⟨[], n + 1, _, _, rfl, rfl, rfl, by omega, by simp⟩
  · rintro i ρ μ N hi ⟨ls, n', a, b, rfl, rfl, hls, hn', hok⟩ hN
    unfold l__law_lamps_1 s__law_lamps_1f_0
    have two : ∀ (stay : Int) (n2 : Nat), 1 ≤ stay → stay ≤ top → n2 ≤ n' + 3 → s__law_lamps_1f_1 { nx := N, rt := R, ex := fun x _ μ' => Ed x μ', bk := s__law_lamps_2 (fin R Ed), ct := N } [.val (.op (.ref p)), .val (.int many), .val (.int top), .own (ls.map lampD), .val (.int (0 + i)), .val (.int stay)] (rs p l n2) := fun stay n2 s0 s1 h2 => by
      unfold s__law_lamps_1f_1
      simp only [q_spin, at_two, List.length_map, dsSeq, dsRaise, dsTryAs, dsTryO, dIsE, dXf, dStar, dsNever, dsDrop, dsRet, dsRetN, dsRetF, dsIf, dsAsg, dsOwn, dsNext, dsBreak, dsCont, dsAug, dsApp, dsExt, dsSet, dsPar2, dsPar3, dName, g_tup, g_lst, g_cons, g_nil, dsFor, dVar, dC, d2, d1, dL, dNil, dCons, dB, dAnd, dOr, dNot, dAndV, dOrV, dNotV, dIf, dChain, dTup, dLst, dFrz, dTru, dCall, dYes, dSeq, dSeqC, dEnum, dEnumC, dRg1, dRg2, dComp, dCut, dCutF, dAddF, dListF, dMulF, dRev, dPart, dNoPart, dpNil, dpE, dpF, q_isi_int, q_isi_bool, q_isi_str, q_isi_tuple, q_isi_list, q_isi_dict, dIsI, dIsB, dIsS, dIsT, dIsL, dIsD, q_add_i, q_sub, q_mul, q_div, q_mod, q_pow, q_lt, q_le, q_gt, q_ge, q_neg, q_eq_ii, q_ne_ii, q_eq_le, q_ne_le, q_eq_ve, q_ne_ve, q_eq_te, q_ne_te, q_eq_ss, q_ne_ss, q_len, q_bl, q_some, List.getElem?_cons_zero, List.getElem?_cons_succ, List.set_cons_zero, List.set_cons_succ, tru_bl, tru_non, tru_int, tru_tup, tru_lst, tru_vw, len_tup, len_lst, len_vw, len_scr, it_tup, it_lst, it_scr, itc_tup, itc_lst, itc_vw, itc_scr, sta, staL, Bool.and_true, Bool.true_and, Bool.and_eq_true, true_and, and_true, wipeR, if_true, if_false, ite_true, ite_false, Bool.false_eq_true, Bool.not_true, Bool.not_false, Option.some.injEq, exists_eq_left', exists_eq_left, reduceIte, reduceCtorEq, hasTy, tyD, Option.isSome_some, q_ix_t, q_ix_l, q_ix_v, at0, at1, at2, at_two, at_three, at_four, c_pow, c_mul1, c_mul2, Int.reducePow, Int.reduceToNat, Int.reduceMul, Int.reduceAdd, Int.reduceSub, Int.reduceNeg, Int.reduceLT, Int.reduceLE, Int.reduceBEq, Nat.reduceLT, Nat.reduceLeDiff, Nat.reducePow, decide_true, decide_false, Bool.true_and, Bool.and_true, Int.neg_neg, szl, List.length_cons, List.length_nil, Nat.zero_add, Nat.reduceAdd, dDct, List.zip_cons_cons, List.zip_nil_left, List.zip_nil_right, staK, q_add_tt, q_add_ll, q_add_vl, q_add_lv, q_addF_ll, q_addF_vl, q_cut_t, q_cut_l, q_cut_v, q_cut_s, q_rev_t, q_rev_l, q_tuple_t, q_tuple_l, q_tuple_v, q_list_t, q_list_l, q_list_v, q_int_i, q_int_b, q_abs, q_max2, q_min2, q_l1, q_l2, q_int, q_own, q_val, q_own1, q_val1, q_two, q_three, List.cons_append, List.nil_append, List.mem_cons, List.not_mem_nil, or_false, forall_eq_or_imp, forall_eq, ne_eq, not_false_eq_true, q_in_t, q_in_l]
      have fin2 : ∀ k : Bool, N [.val (.op (.ref p)), .val (.int many), .val (.int top), .own (ls.map lampD ++ [lampD (k, stay)]), .val (.int (0 + i)), .val (.int stay)] (rs p l (n2 + 1)) := fun k =>
        hN _ _ ⟨ls ++ [(k, stay)], n2 + 1, _, _, by rw [List.map_append]; rfl, rfl, by simp [hls], by omega, fun x hx => by
          rcases List.mem_append.mp hx with hx | hx
          · exact hok x hx
          · rw [List.mem_singleton.mp hx]; exact ⟨s0, s1⟩⟩
      exact ⟨by omega, ⟨by omega, fin2 true⟩, by omega, fin2 false⟩
    simp only [q_spin, at_two, dsSeq, dsRaise, dsTryAs, dsTryO, dIsE, dXf, dStar, dsNever, dsDrop, dsRet, dsRetN, dsRetF, dsIf, dsAsg, dsOwn, dsNext, dsBreak, dsCont, dsAug, dsApp, dsExt, dsSet, dsPar2, dsPar3, dName, g_tup, g_lst, g_cons, g_nil, dsFor, dVar, dC, d2, d1, dL, dNil, dCons, dB, dAnd, dOr, dNot, dAndV, dOrV, dNotV, dIf, dChain, dTup, dLst, dFrz, dTru, dCall, dYes, dSeq, dSeqC, dEnum, dEnumC, dRg1, dRg2, dComp, dCut, dCutF, dAddF, dListF, dMulF, dRev, dPart, dNoPart, dpNil, dpE, dpF, q_isi_int, q_isi_bool, q_isi_str, q_isi_tuple, q_isi_list, q_isi_dict, dIsI, dIsB, dIsS, dIsT, dIsL, dIsD, q_add_i, q_sub, q_mul, q_div, q_mod, q_pow, q_lt, q_le, q_gt, q_ge, q_neg, q_eq_ii, q_ne_ii, q_eq_le, q_ne_le, q_eq_ve, q_ne_ve, q_eq_te, q_ne_te, q_eq_ss, q_ne_ss, q_len, q_bl, q_some, List.getElem?_cons_zero, List.getElem?_cons_succ, List.set_cons_zero, List.set_cons_succ, tru_bl, tru_non, tru_int, tru_tup, tru_lst, tru_vw, len_tup, len_lst, len_vw, len_scr, it_tup, it_lst, it_scr, itc_tup, itc_lst, itc_vw, itc_scr, sta, staL, Bool.and_true, Bool.true_and, Bool.and_eq_true, true_and, and_true, wipeR, if_true, if_false, ite_true, ite_false, Bool.false_eq_true, Bool.not_true, Bool.not_false, Option.some.injEq, exists_eq_left', exists_eq_left, reduceIte, reduceCtorEq, hasTy, tyD, Option.isSome_some, q_ix_t, q_ix_l, q_ix_v, at0, at1, at2, at_two, at_three, at_four, c_pow, c_mul1, c_mul2, Int.reducePow, Int.reduceToNat, Int.reduceMul, Int.reduceAdd, Int.reduceSub, Int.reduceNeg, Int.reduceLT, Int.reduceLE, Int.reduceBEq, Nat.reduceLT, Nat.reduceLeDiff, Nat.reducePow, decide_true, decide_false, Bool.true_and, Bool.and_true, Int.neg_neg, szl, List.length_cons, List.length_nil, Nat.zero_add, Nat.reduceAdd, dDct, List.zip_cons_cons, List.zip_nil_left, List.zip_nil_right, staK, q_add_tt, q_add_ll, q_add_vl, q_add_lv, q_addF_ll, q_addF_vl, q_cut_t, q_cut_l, q_cut_v, q_cut_s, q_rev_t, q_rev_l, q_tuple_t, q_tuple_l, q_tuple_v, q_list_t, q_list_l, q_list_v, q_int_i, q_int_b, q_abs, q_max2, q_min2, q_l1, q_l2, q_int, q_own, q_val, q_own1, q_val1, q_two, q_three, List.cons_append, List.nil_append, List.mem_cons, List.not_mem_nil, or_false, forall_eq_or_imp, forall_eq, ne_eq, not_false_eq_true, q_in_t, q_in_l]
    exact ⟨by omega, by omega, by omega, fun m b0 b1 => ⟨by omega, by omega, by omega, fun m2 c0 c1 => ⟨by omega, two _ _ (by omega) (by omega) (by omega), two _ _ (by omega) (by omega) (by omega)⟩⟩⟩
  · rintro ρ μ ⟨ls, n', a, b, rfl, rfl, hls, hn', hok⟩
    unfold s__law_lamps_2
    simp only [staL_lamp, dsSeq, dsRaise, dsTryAs, dsTryO, dIsE, dXf, dStar, dsNever, dsDrop, dsRet, dsRetN, dsRetF, dsIf, dsAsg, dsOwn, dsNext, dsBreak, dsCont, dsAug, dsApp, dsExt, dsSet, dsPar2, dsPar3, dName, g_tup, g_lst, g_cons, g_nil, dsFor, dVar, dC, d2, d1, dL, dNil, dCons, dB, dAnd, dOr, dNot, dAndV, dOrV, dNotV, dIf, dChain, dTup, dLst, dFrz, dTru, dCall, dYes, dSeq, dSeqC, dEnum, dEnumC, dRg1, dRg2, dComp, dCut, dCutF, dAddF, dListF, dMulF, dRev, dPart, dNoPart, dpNil, dpE, dpF, q_isi_int, q_isi_bool, q_isi_str, q_isi_tuple, q_isi_list, q_isi_dict, dIsI, dIsB, dIsS, dIsT, dIsL, dIsD, q_add_i, q_sub, q_mul, q_div, q_mod, q_pow, q_lt, q_le, q_gt, q_ge, q_neg, q_eq_ii, q_ne_ii, q_eq_le, q_ne_le, q_eq_ve, q_ne_ve, q_eq_te, q_ne_te, q_eq_ss, q_ne_ss, q_len, q_bl, q_some, List.getElem?_cons_zero, List.getElem?_cons_succ, List.set_cons_zero, List.set_cons_succ, tru_bl, tru_non, tru_int, tru_tup, tru_lst, tru_vw, len_tup, len_lst, len_vw, len_scr, it_tup, it_lst, it_scr, itc_tup, itc_lst, itc_vw, itc_scr, sta, staL, Bool.and_true, Bool.true_and, Bool.and_eq_true, true_and, and_true, wipeR, if_true, if_false, ite_true, ite_false, Bool.false_eq_true, Bool.not_true, Bool.not_false, Option.some.injEq, exists_eq_left', exists_eq_left, reduceIte, reduceCtorEq, hasTy, tyD, Option.isSome_some, q_ix_t, q_ix_l, q_ix_v, at0, at1, at2, at_two, at_three, at_four, c_pow, c_mul1, c_mul2, Int.reducePow, Int.reduceToNat, Int.reduceMul, Int.reduceAdd, Int.reduceSub, Int.reduceNeg, Int.reduceLT, Int.reduceLE, Int.reduceBEq, Nat.reduceLT, Nat.reduceLeDiff, Nat.reducePow, decide_true, decide_false, Bool.true_and, Bool.and_true, Int.neg_neg, szl, List.length_cons, List.length_nil, Nat.zero_add, Nat.reduceAdd, dDct, List.zip_cons_cons, List.zip_nil_left, List.zip_nil_right, staK, q_add_tt, q_add_ll, q_add_vl, q_add_lv, q_addF_ll, q_addF_vl, q_cut_t, q_cut_l, q_cut_v, q_cut_s, q_rev_t, q_rev_l, q_tuple_t, q_tuple_l, q_tuple_v, q_list_t, q_list_l, q_list_v, q_int_i, q_int_b, q_abs, q_max2, q_min2, q_l1, q_l2, q_int, q_own, q_val, q_own1, q_val1, q_two, q_three, List.cons_append, List.nil_append, List.mem_cons, List.not_mem_nil, or_false, forall_eq_or_imp, forall_eq, ne_eq, not_false_eq_true, q_in_t, q_in_l]
    exact h ls n' (fun z => by rw [z] at hls; simp at hls; omega) (by omega) hok (by omega)
theorem ascI_snoc : ∀ {a x : Int} {ms : List Int}, AscI a ms → a < x → (∀ m ∈ ms, m < x) → AscI a (ms ++ [x])
  | _, _, [], _, h, _ => ⟨h, trivial⟩
  | _, _, m :: ms, h, _, k => ⟨h.1, ascI_snoc h.2 (k m (List.mem_cons_self ..)) fun y hy => k y (List.mem_cons_of_mem _ hy)⟩
theorem pure__law_minutes (hl : ds.length = ps__law_minutes.length) (hs : sp__law_minutes ds μ R Ed) (st : staL ds = true) : t__law_minutes (fin R Ed) (startD N__law_minutes ds) μ := by
  obtain ⟨p, l, n, many, gap, rfl, rfl, hn, m0, m1, g0, g1, h⟩ := hs
  show t__law_minutes (fin R Ed) [.val (.op (.ref p)), .val (.int many), .val (.int gap), .un, .un, .un, .un, .un] (rs p l n)
  have rest : ∀ (here way : Int) (n1 : Nat), 0 ≤ here → here ≤ 1000000 → 0 ≤ way → way < 4 → n1 ≤ n + 3 → dsSeq s__law_minutes_1 (dsSeq s__law_minutes_2 s__law_minutes_3) (fin R Ed) [.val (.op (.ref p)), .val (.int many), .val (.int gap), .val (.int here), .own [], .val (.int way), .un, .un] (rs p l n1) := fun here way n1 h0 h1 w0 w1 hn1 => by
    unfold s__law_minutes_1 s__law_minutes_2
    simp only [q_spin, dsSeq, dsRaise, dsTryAs, dsTryO, dIsE, dXf, dStar, dsNever, dsDrop, dsRet, dsRetN, dsRetF, dsIf, dsAsg, dsOwn, dsNext, dsBreak, dsCont, dsAug, dsApp, dsExt, dsSet, dsPar2, dsPar3, dName, g_tup, g_lst, g_cons, g_nil, dsFor, dVar, dC, d2, d1, dL, dNil, dCons, dB, dAnd, dOr, dNot, dAndV, dOrV, dNotV, dIf, dChain, dTup, dLst, dFrz, dTru, dCall, dYes, dSeq, dSeqC, dEnum, dEnumC, dRg1, dRg2, dComp, dCut, dCutF, dAddF, dListF, dMulF, dRev, dPart, dNoPart, dpNil, dpE, dpF, q_isi_int, q_isi_bool, q_isi_str, q_isi_tuple, q_isi_list, q_isi_dict, dIsI, dIsB, dIsS, dIsT, dIsL, dIsD, q_add_i, q_sub, q_mul, q_div, q_mod, q_pow, q_lt, q_le, q_gt, q_ge, q_neg, q_eq_ii, q_ne_ii, q_eq_le, q_ne_le, q_eq_ve, q_ne_ve, q_eq_te, q_ne_te, q_eq_ss, q_ne_ss, q_len, q_bl, q_some, List.getElem?_cons_zero, List.getElem?_cons_succ, List.set_cons_zero, List.set_cons_succ, tru_bl, tru_non, tru_int, tru_tup, tru_lst, tru_vw, len_tup, len_lst, len_vw, len_scr, it_tup, it_lst, it_scr, itc_tup, itc_lst, itc_vw, itc_scr, sta, staL, Bool.and_true, Bool.true_and, Bool.and_eq_true, true_and, and_true, wipeR, if_true, if_false, ite_true, ite_false, Bool.false_eq_true, Bool.not_true, Bool.not_false, Option.some.injEq, exists_eq_left', exists_eq_left, reduceIte, reduceCtorEq, hasTy, tyD, Option.isSome_some, q_ix_t, q_ix_l, q_ix_v, at0, at1, at2, at_two, at_three, at_four, c_pow, c_mul1, c_mul2, Int.reducePow, Int.reduceToNat, Int.reduceMul, Int.reduceAdd, Int.reduceSub, Int.reduceNeg, Int.reduceLT, Int.reduceLE, Int.reduceBEq, Nat.reduceLT, Nat.reduceLeDiff, Nat.reducePow, decide_true, decide_false, Bool.true_and, Bool.and_true, Int.neg_neg, szl, List.length_cons, List.length_nil, Nat.zero_add, Nat.reduceAdd, dDct, List.zip_cons_cons, List.zip_nil_left, List.zip_nil_right, staK, q_add_tt, q_add_ll, q_add_vl, q_add_lv, q_addF_ll, q_addF_vl, q_cut_t, q_cut_l, q_cut_v, q_cut_s, q_rev_t, q_rev_l, q_tuple_t, q_tuple_l, q_tuple_v, q_list_t, q_list_l, q_list_v, q_int_i, q_int_b, q_abs, q_max2, q_min2, q_l1, q_l2, q_int, q_own, q_val, q_own1, q_val1, q_two, q_three, List.cons_append, List.nil_append, List.mem_cons, List.not_mem_nil, or_false, forall_eq_or_imp, forall_eq, ne_eq, not_false_eq_true, q_in_t, q_in_l]
    refine ⟨by omega, by omega, by omega, fun s1 s10 s11 => ⟨by omega, by omega, by omega, fun m a0 a1 => ⟨by omega, by omega, fun rg hrg => ?_⟩⟩⟩
    refine loop_rg (Z := ReelW) hrg (fun i ρ μ => ∃ (ms : List Int) (here : Int) (n' : Nat) (a : Slot), ρ = [.val (.op (.ref p)), .val (.int many), .val (.int gap), .val (.int here), .own (ms.map .int), .val (.int way), .val (.int (1 + s1)), a] ∧ μ = rs p l n' ∧ ms.length = i ∧ n' ≤ n + 5 + 4 * i ∧ AscI (-1) ms ∧ (∀ m ∈ ms, m < here) ∧ 0 ≤ here ∧ here ≤ 1000000 + 4000000 * i) ?_ ?_ ⟨[], here, _, _, rfl, rfl, rfl, by omega, trivial, by simp, h0, by omega⟩
    · rintro i ρ μ N hi ⟨ms, here, n', a, rfl, rfl, hms, hn', hasc, hlt, h0, h1⟩ hN
      unfold l__law_minutes_2 s__law_minutes_2f_0 s__law_minutes_2f_1
      simp only [q_spin, List.length_map, dsSeq, dsRaise, dsTryAs, dsTryO, dIsE, dXf, dStar, dsNever, dsDrop, dsRet, dsRetN, dsRetF, dsIf, dsAsg, dsOwn, dsNext, dsBreak, dsCont, dsAug, dsApp, dsExt, dsSet, dsPar2, dsPar3, dName, g_tup, g_lst, g_cons, g_nil, dsFor, dVar, dC, d2, d1, dL, dNil, dCons, dB, dAnd, dOr, dNot, dAndV, dOrV, dNotV, dIf, dChain, dTup, dLst, dFrz, dTru, dCall, dYes, dSeq, dSeqC, dEnum, dEnumC, dRg1, dRg2, dComp, dCut, dCutF, dAddF, dListF, dMulF, dRev, dPart, dNoPart, dpNil, dpE, dpF, q_isi_int, q_isi_bool, q_isi_str, q_isi_tuple, q_isi_list, q_isi_dict, dIsI, dIsB, dIsS, dIsT, dIsL, dIsD, q_add_i, q_sub, q_mul, q_div, q_mod, q_pow, q_lt, q_le, q_gt, q_ge, q_neg, q_eq_ii, q_ne_ii, q_eq_le, q_ne_le, q_eq_ve, q_ne_ve, q_eq_te, q_ne_te, q_eq_ss, q_ne_ss, q_len, q_bl, q_some, List.getElem?_cons_zero, List.getElem?_cons_succ, List.set_cons_zero, List.set_cons_succ, tru_bl, tru_non, tru_int, tru_tup, tru_lst, tru_vw, len_tup, len_lst, len_vw, len_scr, it_tup, it_lst, it_scr, itc_tup, itc_lst, itc_vw, itc_scr, sta, staL, Bool.and_true, Bool.true_and, Bool.and_eq_true, true_and, and_true, wipeR, if_true, if_false, ite_true, ite_false, Bool.false_eq_true, Bool.not_true, Bool.not_false, Option.some.injEq, exists_eq_left', exists_eq_left, reduceIte, reduceCtorEq, hasTy, tyD, Option.isSome_some, q_ix_t, q_ix_l, q_ix_v, at0, at1, at2, at_two, at_three, at_four, c_pow, c_mul1, c_mul2, Int.reducePow, Int.reduceToNat, Int.reduceMul, Int.reduceAdd, Int.reduceSub, Int.reduceNeg, Int.reduceLT, Int.reduceLE, Int.reduceBEq, Nat.reduceLT, Nat.reduceLeDiff, Nat.reducePow, decide_true, decide_false, Bool.true_and, Bool.and_true, Int.neg_neg, szl, List.length_cons, List.length_nil, Nat.zero_add, Nat.reduceAdd, dDct, List.zip_cons_cons, List.zip_nil_left, List.zip_nil_right, staK, q_add_tt, q_add_ll, q_add_vl, q_add_lv, q_addF_ll, q_addF_vl, q_cut_t, q_cut_l, q_cut_v, q_cut_s, q_rev_t, q_rev_l, q_tuple_t, q_tuple_l, q_tuple_v, q_list_t, q_list_l, q_list_v, q_int_i, q_int_b, q_abs, q_max2, q_min2, q_l1, q_l2, q_int, q_own, q_val, q_own1, q_val1, q_two, q_three, List.cons_append, List.nil_append, List.mem_cons, List.not_mem_nil, or_false, forall_eq_or_imp, forall_eq, ne_eq, not_false_eq_true, q_in_t, q_in_l]
      refine ⟨by omega, by omega, by omega, by omega, fun m1 b0 b1 => ⟨by omega, by omega, by omega, fun m2 c0 c1 => ?_⟩⟩
      have last : ∀ (h2 : Int) (n3 : Nat), here < h2 → h2 ≤ here + 4000000 → n3 ≤ n' + 4 → N [.val (.op (.ref p)), .val (.int many), .val (.int gap), .val (.int h2), .own (ms.map .int ++ [.int here]), .val (.int way), .val (.int (1 + s1)), .val (.int (0 + i))] (rs p l n3) := fun h2 n3 k0 k1 k2 => by
        refine hN _ _ ⟨ms ++ [here], h2, n3, _, by rw [List.map_append]; rfl, rfl, by simp [hms], by omega, ascI_snoc hasc (by omega) hlt, fun x hx => ?_, by omega, by omega⟩
        rcases List.mem_append.mp hx with hx | hx
        · have := hlt x hx; omega
        · rw [List.mem_singleton.mp hx]; exact k0
      have next : ∀ (d : Int), 1 ≤ d → d ≤ 3000000 → s__law_minutes_2f_2 { nx := N, rt := R, ex := fun x _ μ' => Ed x μ', bk := s__law_minutes_3 (fin R Ed), ct := N } [.val (.op (.ref p)), .val (.int many), .val (.int gap), .val (.int (here + d)), .own (ms.map .int ++ [.int here]), .val (.int way), .val (.int (1 + s1)), .val (.int (0 + i))] (rs p l (n' + 1 + 1)) := fun d d0 d1 => by
        unfold s__law_minutes_2f_2 s__law_minutes_2f_2a_0
        simp only [q_spin, at_two, dsSeq, dsRaise, dsTryAs, dsTryO, dIsE, dXf, dStar, dsNever, dsDrop, dsRet, dsRetN, dsRetF, dsIf, dsAsg, dsOwn, dsNext, dsBreak, dsCont, dsAug, dsApp, dsExt, dsSet, dsPar2, dsPar3, dName, g_tup, g_lst, g_cons, g_nil, dsFor, dVar, dC, d2, d1, dL, dNil, dCons, dB, dAnd, dOr, dNot, dAndV, dOrV, dNotV, dIf, dChain, dTup, dLst, dFrz, dTru, dCall, dYes, dSeq, dSeqC, dEnum, dEnumC, dRg1, dRg2, dComp, dCut, dCutF, dAddF, dListF, dMulF, dRev, dPart, dNoPart, dpNil, dpE, dpF, q_isi_int, q_isi_bool, q_isi_str, q_isi_tuple, q_isi_list, q_isi_dict, dIsI, dIsB, dIsS, dIsT, dIsL, dIsD, q_add_i, q_sub, q_mul, q_div, q_mod, q_pow, q_lt, q_le, q_gt, q_ge, q_neg, q_eq_ii, q_ne_ii, q_eq_le, q_ne_le, q_eq_ve, q_ne_ve, q_eq_te, q_ne_te, q_eq_ss, q_ne_ss, q_len, q_bl, q_some, List.getElem?_cons_zero, List.getElem?_cons_succ, List.set_cons_zero, List.set_cons_succ, tru_bl, tru_non, tru_int, tru_tup, tru_lst, tru_vw, len_tup, len_lst, len_vw, len_scr, it_tup, it_lst, it_scr, itc_tup, itc_lst, itc_vw, itc_scr, sta, staL, Bool.and_true, Bool.true_and, Bool.and_eq_true, true_and, and_true, wipeR, if_true, if_false, ite_true, ite_false, Bool.false_eq_true, Bool.not_true, Bool.not_false, Option.some.injEq, exists_eq_left', exists_eq_left, reduceIte, reduceCtorEq, hasTy, tyD, Option.isSome_some, q_ix_t, q_ix_l, q_ix_v, at0, at1, at2, at_two, at_three, at_four, c_pow, c_mul1, c_mul2, Int.reducePow, Int.reduceToNat, Int.reduceMul, Int.reduceAdd, Int.reduceSub, Int.reduceNeg, Int.reduceLT, Int.reduceLE, Int.reduceBEq, Nat.reduceLT, Nat.reduceLeDiff, Nat.reducePow, decide_true, decide_false, Bool.true_and, Bool.and_true, Int.neg_neg, szl, List.length_cons, List.length_nil, Nat.zero_add, Nat.reduceAdd, dDct, List.zip_cons_cons, List.zip_nil_left, List.zip_nil_right, staK, q_add_tt, q_add_ll, q_add_vl, q_add_lv, q_addF_ll, q_addF_vl, q_cut_t, q_cut_l, q_cut_v, q_cut_s, q_rev_t, q_rev_l, q_tuple_t, q_tuple_l, q_tuple_v, q_list_t, q_list_l, q_list_v, q_int_i, q_int_b, q_abs, q_max2, q_min2, q_l1, q_l2, q_int, q_own, q_val, q_own1, q_val1, q_two, q_three, List.cons_append, List.nil_append, List.mem_cons, List.not_mem_nil, or_false, forall_eq_or_imp, forall_eq, ne_eq, not_false_eq_true, q_in_t, q_in_l]
        refine ⟨by omega, fun m3 e0 e1 => ?_⟩
        split
        · exact ⟨by omega, last _ _ (by omega) (by omega) (by omega), last _ _ (by omega) (by omega) (by omega)⟩
        · exact last _ _ (by omega) (by omega) (by omega)
      have : way = 0 ∨ way = 1 ∨ way = 2 ∨ way = 3 := by omega
      rcases this with rfl | rfl | rfl | rfl
      all_goals (simp only [at3, dsSeq, dsRaise, dsTryAs, dsTryO, dIsE, dXf, dStar, dsNever, dsDrop, dsRet, dsRetN, dsRetF, dsIf, dsAsg, dsOwn, dsNext, dsBreak, dsCont, dsAug, dsApp, dsExt, dsSet, dsPar2, dsPar3, dName, g_tup, g_lst, g_cons, g_nil, dsFor, dVar, dC, d2, d1, dL, dNil, dCons, dB, dAnd, dOr, dNot, dAndV, dOrV, dNotV, dIf, dChain, dTup, dLst, dFrz, dTru, dCall, dYes, dSeq, dSeqC, dEnum, dEnumC, dRg1, dRg2, dComp, dCut, dCutF, dAddF, dListF, dMulF, dRev, dPart, dNoPart, dpNil, dpE, dpF, q_isi_int, q_isi_bool, q_isi_str, q_isi_tuple, q_isi_list, q_isi_dict, dIsI, dIsB, dIsS, dIsT, dIsL, dIsD, q_add_i, q_sub, q_mul, q_div, q_mod, q_pow, q_lt, q_le, q_gt, q_ge, q_neg, q_eq_ii, q_ne_ii, q_eq_le, q_ne_le, q_eq_ve, q_ne_ve, q_eq_te, q_ne_te, q_eq_ss, q_ne_ss, q_len, q_bl, q_some, List.getElem?_cons_zero, List.getElem?_cons_succ, List.set_cons_zero, List.set_cons_succ, tru_bl, tru_non, tru_int, tru_tup, tru_lst, tru_vw, len_tup, len_lst, len_vw, len_scr, it_tup, it_lst, it_scr, itc_tup, itc_lst, itc_vw, itc_scr, sta, staL, Bool.and_true, Bool.true_and, Bool.and_eq_true, true_and, and_true, wipeR, if_true, if_false, ite_true, ite_false, Bool.false_eq_true, Bool.not_true, Bool.not_false, Option.some.injEq, exists_eq_left', exists_eq_left, reduceIte, reduceCtorEq, hasTy, tyD, Option.isSome_some, q_ix_t, q_ix_l, q_ix_v, at0, at1, at2, at_two, at_three, at_four, c_pow, c_mul1, c_mul2, Int.reducePow, Int.reduceToNat, Int.reduceMul, Int.reduceAdd, Int.reduceSub, Int.reduceNeg, Int.reduceLT, Int.reduceLE, Int.reduceBEq, Nat.reduceLT, Nat.reduceLeDiff, Nat.reducePow, decide_true, decide_false, Bool.true_and, Bool.and_true, Int.neg_neg, szl, List.length_cons, List.length_nil, Nat.zero_add, Nat.reduceAdd, dDct, List.zip_cons_cons, List.zip_nil_left, List.zip_nil_right, staK, q_add_tt, q_add_ll, q_add_vl, q_add_lv, q_addF_ll, q_addF_vl, q_cut_t, q_cut_l, q_cut_v, q_cut_s, q_rev_t, q_rev_l, q_tuple_t, q_tuple_l, q_tuple_v, q_list_t, q_list_l, q_list_v, q_int_i, q_int_b, q_abs, q_max2, q_min2, q_l1, q_l2, q_int, q_own, q_val, q_own1, q_val1, q_two, q_three, List.cons_append, List.nil_append, List.mem_cons, List.not_mem_nil, or_false, forall_eq_or_imp, forall_eq, ne_eq, not_false_eq_true, q_in_t, q_in_l]; exact next _ (by omega) (by omega))
    · rintro ρ μ ⟨ms, here, n', a, rfl, rfl, hms, hn', hasc, hlt, h0, h1⟩
      unfold s__law_minutes_3
      simp only [dsSeq, dsRaise, dsTryAs, dsTryO, dIsE, dXf, dStar, dsNever, dsDrop, dsRet, dsRetN, dsRetF, dsIf, dsAsg, dsOwn, dsNext, dsBreak, dsCont, dsAug, dsApp, dsExt, dsSet, dsPar2, dsPar3, dName, g_tup, g_lst, g_cons, g_nil, dsFor, dVar, dC, d2, d1, dL, dNil, dCons, dB, dAnd, dOr, dNot, dAndV, dOrV, dNotV, dIf, dChain, dTup, dLst, dFrz, dTru, dCall, dYes, dSeq, dSeqC, dEnum, dEnumC, dRg1, dRg2, dComp, dCut, dCutF, dAddF, dListF, dMulF, dRev, dPart, dNoPart, dpNil, dpE, dpF, q_isi_int, q_isi_bool, q_isi_str, q_isi_tuple, q_isi_list, q_isi_dict, dIsI, dIsB, dIsS, dIsT, dIsL, dIsD, q_add_i, q_sub, q_mul, q_div, q_mod, q_pow, q_lt, q_le, q_gt, q_ge, q_neg, q_eq_ii, q_ne_ii, q_eq_le, q_ne_le, q_eq_ve, q_ne_ve, q_eq_te, q_ne_te, q_eq_ss, q_ne_ss, q_len, q_bl, q_some, List.getElem?_cons_zero, List.getElem?_cons_succ, List.set_cons_zero, List.set_cons_succ, tru_bl, tru_non, tru_int, tru_tup, tru_lst, tru_vw, len_tup, len_lst, len_vw, len_scr, it_tup, it_lst, it_scr, itc_tup, itc_lst, itc_vw, itc_scr, sta, staL, Bool.and_true, Bool.true_and, Bool.and_eq_true, true_and, and_true, wipeR, if_true, if_false, ite_true, ite_false, Bool.false_eq_true, Bool.not_true, Bool.not_false, Option.some.injEq, exists_eq_left', exists_eq_left, reduceIte, reduceCtorEq, hasTy, tyD, Option.isSome_some, q_ix_t, q_ix_l, q_ix_v, at0, at1, at2, at_two, at_three, at_four, c_pow, c_mul1, c_mul2, Int.reducePow, Int.reduceToNat, Int.reduceMul, Int.reduceAdd, Int.reduceSub, Int.reduceNeg, Int.reduceLT, Int.reduceLE, Int.reduceBEq, Nat.reduceLT, Nat.reduceLeDiff, Nat.reducePow, decide_true, decide_false, Bool.true_and, Bool.and_true, Int.neg_neg, szl, List.length_cons, List.length_nil, Nat.zero_add, Nat.reduceAdd, dDct, List.zip_cons_cons, List.zip_nil_left, List.zip_nil_right, staK, q_add_tt, q_add_ll, q_add_vl, q_add_lv, q_addF_ll, q_addF_vl, q_cut_t, q_cut_l, q_cut_v, q_cut_s, q_rev_t, q_rev_l, q_tuple_t, q_tuple_l, q_tuple_v, q_list_t, q_list_l, q_list_v, q_int_i, q_int_b, q_abs, q_max2, q_min2, q_l1, q_l2, q_int, q_own, q_val, q_own1, q_val1, q_two, q_three, List.cons_append, List.nil_append, List.mem_cons, List.not_mem_nil, or_false, forall_eq_or_imp, forall_eq, ne_eq, not_false_eq_true, q_in_t, q_in_l]
      show R (.lst (frL (ms.map .int))) _
      rw [frL_sta _ (staL_ints ms)]
      exact h ms n' hasc (by omega) (fun x hx => by have := hlt x hx; omega) (by omega)
  unfold t__law_minutes s__law_minutes_0
  simp only [q_spin, at_two, dsSeq, dsRaise, dsTryAs, dsTryO, dIsE, dXf, dStar, dsNever, dsDrop, dsRet, dsRetN, dsRetF, dsIf, dsAsg, dsOwn, dsNext, dsBreak, dsCont, dsAug, dsApp, dsExt, dsSet, dsPar2, dsPar3, dName, g_tup, g_lst, g_cons, g_nil, dsFor, dVar, dC, d2, d1, dL, dNil, dCons, dB, dAnd, dOr, dNot, dAndV, dOrV, dNotV, dIf, dChain, dTup, dLst, dFrz, dTru, dCall, dYes, dSeq, dSeqC, dEnum, dEnumC, dRg1, dRg2, dComp, dCut, dCutF, dAddF, dListF, dMulF, dRev, dPart, dNoPart, dpNil, dpE, dpF, q_isi_int, q_isi_bool, q_isi_str, q_isi_tuple, q_isi_list, q_isi_dict, dIsI, dIsB, dIsS, dIsT, dIsL, dIsD, q_add_i, q_sub, q_mul, q_div, q_mod, q_pow, q_lt, q_le, q_gt, q_ge, q_neg, q_eq_ii, q_ne_ii, q_eq_le, q_ne_le, q_eq_ve, q_ne_ve, q_eq_te, q_ne_te, q_eq_ss, q_ne_ss, q_len, q_bl, q_some, List.getElem?_cons_zero, List.getElem?_cons_succ, List.set_cons_zero, List.set_cons_succ, tru_bl, tru_non, tru_int, tru_tup, tru_lst, tru_vw, len_tup, len_lst, len_vw, len_scr, it_tup, it_lst, it_scr, itc_tup, itc_lst, itc_vw, itc_scr, sta, staL, Bool.and_true, Bool.true_and, Bool.and_eq_true, true_and, and_true, wipeR, if_true, if_false, ite_true, ite_false, Bool.false_eq_true, Bool.not_true, Bool.not_false, Option.some.injEq, exists_eq_left', exists_eq_left, reduceIte, reduceCtorEq, hasTy, tyD, Option.isSome_some, q_ix_t, q_ix_l, q_ix_v, at0, at1, at2, at_two, at_three, at_four, c_pow, c_mul1, c_mul2, Int.reducePow, Int.reduceToNat, Int.reduceMul, Int.reduceAdd, Int.reduceSub, Int.reduceNeg, Int.reduceLT, Int.reduceLE, Int.reduceBEq, Nat.reduceLT, Nat.reduceLeDiff, Nat.reducePow, decide_true, decide_false, Bool.true_and, Bool.and_true, Int.neg_neg, szl, List.length_cons, List.length_nil, Nat.zero_add, Nat.reduceAdd, dDct, List.zip_cons_cons, List.zip_nil_left, List.zip_nil_right, staK, q_add_tt, q_add_ll, q_add_vl, q_add_lv, q_addF_ll, q_addF_vl, q_cut_t, q_cut_l, q_cut_v, q_cut_s, q_rev_t, q_rev_l, q_tuple_t, q_tuple_l, q_tuple_v, q_list_t, q_list_l, q_list_v, q_int_i, q_int_b, q_abs, q_max2, q_min2, q_l1, q_l2, q_int, q_own, q_val, q_own1, q_val1, q_two, q_three, List.cons_append, List.nil_append, List.mem_cons, List.not_mem_nil, or_false, forall_eq_or_imp, forall_eq, ne_eq, not_false_eq_true, q_in_t, q_in_l]
  exact ⟨by omega, ⟨by omega, fun m a0 a1 => ⟨by omega, fun w w0 w1 => rest _ _ _ (by omega) (by omega) w0 w1 (by omega)⟩⟩, by omega, fun m a0 a1 => ⟨by omega, fun w w0 w1 => rest _ _ _ (by omega) (by omega) w0 w1 (by omega)⟩⟩
/-! what a lamp does -/
theorem isE_map {α β : Type} {f : α → β} {xs : List α} : (xs.map f).isEmpty = xs.isEmpty := by cases xs <;> rfl
theorem pure__law_log (hl : ds.length = ps__law_log.length) (hs : sp__law_log ds μ R Ed) (st : staL ds = true) : t__law_log (fin R Ed) (startD N__law_log ds) μ := by
  obtain ⟨⟨k, s⟩, ms, rfl, hlen, h⟩ := hs
  show t__law_log (fin R Ed) [.val (lampD (k, s)), .val (intsL ms), .un, .un, .un, .un] μ
  unfold t__law_log s__law_log_0 s__law_log_1 s__law_log_2 lampD intsL
  simp only [staL_ints, dsSeq, dsRaise, dsTryAs, dsTryO, dIsE, dXf, dStar, dsNever, dsDrop, dsRet, dsRetN, dsRetF, dsIf, dsAsg, dsOwn, dsNext, dsBreak, dsCont, dsAug, dsApp, dsExt, dsSet, dsPar2, dsPar3, dName, g_tup, g_lst, g_cons, g_nil, dsFor, dVar, dC, d2, d1, dL, dNil, dCons, dB, dAnd, dOr, dNot, dAndV, dOrV, dNotV, dIf, dChain, dTup, dLst, dFrz, dTru, dCall, dYes, dSeq, dSeqC, dEnum, dEnumC, dRg1, dRg2, dComp, dCut, dCutF, dAddF, dListF, dMulF, dRev, dPart, dNoPart, dpNil, dpE, dpF, q_isi_int, q_isi_bool, q_isi_str, q_isi_tuple, q_isi_list, q_isi_dict, dIsI, dIsB, dIsS, dIsT, dIsL, dIsD, q_add_i, q_sub, q_mul, q_div, q_mod, q_pow, q_lt, q_le, q_gt, q_ge, q_neg, q_eq_ii, q_ne_ii, q_eq_le, q_ne_le, q_eq_ve, q_ne_ve, q_eq_te, q_ne_te, q_eq_ss, q_ne_ss, q_len, q_bl, q_some, List.getElem?_cons_zero, List.getElem?_cons_succ, List.set_cons_zero, List.set_cons_succ, tru_bl, tru_non, tru_int, tru_tup, tru_lst, tru_vw, len_tup, len_lst, len_vw, len_scr, it_tup, it_lst, it_scr, itc_tup, itc_lst, itc_vw, itc_scr, sta, staL, Bool.and_true, Bool.true_and, Bool.and_eq_true, true_and, and_true, wipeR, if_true, if_false, ite_true, ite_false, Bool.false_eq_true, Bool.not_true, Bool.not_false, Option.some.injEq, exists_eq_left', exists_eq_left, reduceIte, reduceCtorEq, hasTy, tyD, Option.isSome_some, q_ix_t, q_ix_l, q_ix_v, at0, at1, at2, at_two, at_three, at_four, c_pow, c_mul1, c_mul2, Int.reducePow, Int.reduceToNat, Int.reduceMul, Int.reduceAdd, Int.reduceSub, Int.reduceNeg, Int.reduceLT, Int.reduceLE, Int.reduceBEq, Nat.reduceLT, Nat.reduceLeDiff, Nat.reducePow, decide_true, decide_false, Bool.true_and, Bool.and_true, Int.neg_neg, szl, List.length_cons, List.length_nil, Nat.zero_add, Nat.reduceAdd, dDct, List.zip_cons_cons, List.zip_nil_left, List.zip_nil_right, staK, q_add_tt, q_add_ll, q_add_vl, q_add_lv, q_addF_ll, q_addF_vl, q_cut_t, q_cut_l, q_cut_v, q_cut_s, q_rev_t, q_rev_l, q_tuple_t, q_tuple_l, q_tuple_v, q_list_t, q_list_l, q_list_v, q_int_i, q_int_b, q_abs, q_max2, q_min2, q_l1, q_l2, q_int, q_own, q_val, q_own1, q_val1, q_two, q_three, List.cons_append, List.nil_append, List.mem_cons, List.not_mem_nil, or_false, forall_eq_or_imp, forall_eq, ne_eq, not_false_eq_true, q_in_t, q_in_l]
  refine loop_t (Z := ReelW) D.int (fun rem ρ μ' => ∃ (rev : Lg) (a : Slot), ρ = [.val (lampD (k, s)), .val (intsL ms), .val (.str (kS k)), .val (.int s), .own (rev.reverse.map pD), a] ∧ μ' = μ ∧ playR (k, s) ms = rem.foldl (stepR (k, s)) rev ∧ rev.length + rem.length ≤ 10000) ?_ ?_ ⟨[], _, rfl, rfl, rfl, by simpa using hlen⟩
  · rintro m rem ρ μ' N ⟨rev, a, rfl, rfl, e, hz⟩ hN
    unfold l__law_log_2 s__law_log_2f_0
    rw [List.foldl_cons] at e
    simp only [List.length_cons] at hz
    cases rev with
    | nil =>
      unfold s__law_log_2f_0a_0
      simp only [List.reverse_nil, List.map_nil, List.isEmpty_nil, dsSeq, dsRaise, dsTryAs, dsTryO, dIsE, dXf, dStar, dsNever, dsDrop, dsRet, dsRetN, dsRetF, dsIf, dsAsg, dsOwn, dsNext, dsBreak, dsCont, dsAug, dsApp, dsExt, dsSet, dsPar2, dsPar3, dName, g_tup, g_lst, g_cons, g_nil, dsFor, dVar, dC, d2, d1, dL, dNil, dCons, dB, dAnd, dOr, dNot, dAndV, dOrV, dNotV, dIf, dChain, dTup, dLst, dFrz, dTru, dCall, dYes, dSeq, dSeqC, dEnum, dEnumC, dRg1, dRg2, dComp, dCut, dCutF, dAddF, dListF, dMulF, dRev, dPart, dNoPart, dpNil, dpE, dpF, q_isi_int, q_isi_bool, q_isi_str, q_isi_tuple, q_isi_list, q_isi_dict, dIsI, dIsB, dIsS, dIsT, dIsL, dIsD, q_add_i, q_sub, q_mul, q_div, q_mod, q_pow, q_lt, q_le, q_gt, q_ge, q_neg, q_eq_ii, q_ne_ii, q_eq_le, q_ne_le, q_eq_ve, q_ne_ve, q_eq_te, q_ne_te, q_eq_ss, q_ne_ss, q_len, q_bl, q_some, List.getElem?_cons_zero, List.getElem?_cons_succ, List.set_cons_zero, List.set_cons_succ, tru_bl, tru_non, tru_int, tru_tup, tru_lst, tru_vw, len_tup, len_lst, len_vw, len_scr, it_tup, it_lst, it_scr, itc_tup, itc_lst, itc_vw, itc_scr, sta, staL, Bool.and_true, Bool.true_and, Bool.and_eq_true, true_and, and_true, wipeR, if_true, if_false, ite_true, ite_false, Bool.false_eq_true, Bool.not_true, Bool.not_false, Option.some.injEq, exists_eq_left', exists_eq_left, reduceIte, reduceCtorEq, hasTy, tyD, Option.isSome_some, q_ix_t, q_ix_l, q_ix_v, at0, at1, at2, at_two, at_three, at_four, c_pow, c_mul1, c_mul2, Int.reducePow, Int.reduceToNat, Int.reduceMul, Int.reduceAdd, Int.reduceSub, Int.reduceNeg, Int.reduceLT, Int.reduceLE, Int.reduceBEq, Nat.reduceLT, Nat.reduceLeDiff, Nat.reducePow, decide_true, decide_false, Bool.true_and, Bool.and_true, Int.neg_neg, szl, List.length_cons, List.length_nil, Nat.zero_add, Nat.reduceAdd, dDct, List.zip_cons_cons, List.zip_nil_left, List.zip_nil_right, staK, q_add_tt, q_add_ll, q_add_vl, q_add_lv, q_addF_ll, q_addF_vl, q_cut_t, q_cut_l, q_cut_v, q_cut_s, q_rev_t, q_rev_l, q_tuple_t, q_tuple_l, q_tuple_v, q_list_t, q_list_l, q_list_v, q_int_i, q_int_b, q_abs, q_max2, q_min2, q_l1, q_l2, q_int, q_own, q_val, q_own1, q_val1, q_two, q_three, List.cons_append, List.nil_append, List.mem_cons, List.not_mem_nil, or_false, forall_eq_or_imp, forall_eq, ne_eq, not_false_eq_true, q_in_t, q_in_l]
      exact hN _ _ ⟨[(m, m + s)], _, rfl, rfl, e, by simp; omega⟩
    | cons y r =>
      obtain ⟨u, v⟩ := y
      simp only [List.length_cons] at hz
      have eb : ((u, v) :: r).reverse.map pD = r.reverse.map pD ++ [.tup [.int u, .int v]] := by rw [List.reverse_cons, List.map_append]; rfl
      unfold s__law_log_2f_0a_0 s__law_log_2f_0b_0 s__law_log_2f_0b_0a_0
      rw [eb]
      simp only [app_ne, at_last, ix_last, set_last, kS_hold, q_set, dsSeq, dsRaise, dsTryAs, dsTryO, dIsE, dXf, dStar, dsNever, dsDrop, dsRet, dsRetN, dsRetF, dsIf, dsAsg, dsOwn, dsNext, dsBreak, dsCont, dsAug, dsApp, dsExt, dsSet, dsPar2, dsPar3, dName, g_tup, g_lst, g_cons, g_nil, dsFor, dVar, dC, d2, d1, dL, dNil, dCons, dB, dAnd, dOr, dNot, dAndV, dOrV, dNotV, dIf, dChain, dTup, dLst, dFrz, dTru, dCall, dYes, dSeq, dSeqC, dEnum, dEnumC, dRg1, dRg2, dComp, dCut, dCutF, dAddF, dListF, dMulF, dRev, dPart, dNoPart, dpNil, dpE, dpF, q_isi_int, q_isi_bool, q_isi_str, q_isi_tuple, q_isi_list, q_isi_dict, dIsI, dIsB, dIsS, dIsT, dIsL, dIsD, q_add_i, q_sub, q_mul, q_div, q_mod, q_pow, q_lt, q_le, q_gt, q_ge, q_neg, q_eq_ii, q_ne_ii, q_eq_le, q_ne_le, q_eq_ve, q_ne_ve, q_eq_te, q_ne_te, q_eq_ss, q_ne_ss, q_len, q_bl, q_some, List.getElem?_cons_zero, List.getElem?_cons_succ, List.set_cons_zero, List.set_cons_succ, tru_bl, tru_non, tru_int, tru_tup, tru_lst, tru_vw, len_tup, len_lst, len_vw, len_scr, it_tup, it_lst, it_scr, itc_tup, itc_lst, itc_vw, itc_scr, sta, staL, Bool.and_true, Bool.true_and, Bool.and_eq_true, true_and, and_true, wipeR, if_true, if_false, ite_true, ite_false, Bool.false_eq_true, Bool.not_true, Bool.not_false, Option.some.injEq, exists_eq_left', exists_eq_left, reduceIte, reduceCtorEq, hasTy, tyD, Option.isSome_some, q_ix_t, q_ix_l, q_ix_v, at0, at1, at2, at_two, at_three, at_four, c_pow, c_mul1, c_mul2, Int.reducePow, Int.reduceToNat, Int.reduceMul, Int.reduceAdd, Int.reduceSub, Int.reduceNeg, Int.reduceLT, Int.reduceLE, Int.reduceBEq, Nat.reduceLT, Nat.reduceLeDiff, Nat.reducePow, decide_true, decide_false, Bool.true_and, Bool.and_true, Int.neg_neg, szl, List.length_cons, List.length_nil, Nat.zero_add, Nat.reduceAdd, dDct, List.zip_cons_cons, List.zip_nil_left, List.zip_nil_right, staK, q_add_tt, q_add_ll, q_add_vl, q_add_lv, q_addF_ll, q_addF_vl, q_cut_t, q_cut_l, q_cut_v, q_cut_s, q_rev_t, q_rev_l, q_tuple_t, q_tuple_l, q_tuple_v, q_list_t, q_list_l, q_list_v, q_int_i, q_int_b, q_abs, q_max2, q_min2, q_l1, q_l2, q_int, q_own, q_val, q_own1, q_val1, q_two, q_three, List.cons_append, List.nil_append, List.mem_cons, List.not_mem_nil, or_false, forall_eq_or_imp, forall_eq, ne_eq, not_false_eq_true, q_in_t, q_in_l]
      have hz2 : (r.reverse.map pD ++ [D.tup [.int u, .int v]]).length < 16777216 := by simp; omega
      by_cases h1 : v < m
      · rw [if_pos (decide_eq_true h1)]
        refine ⟨hz2, hN _ _ ⟨(m, m + s) :: (u, v) :: r, _, by rw [List.reverse_cons, List.map_append, eb]; rfl, rfl, ?_, by simp; omega⟩⟩
        rw [e]
        simp only [stepR, if_pos h1]
      · rw [if_neg (by simpa using h1)]
        by_cases h2 : k = true ∨ m = v
        · have g2 : N [.val (lampD (k, s)), .val (intsL ms), .val (.str (kS k)), .val (.int s), .own (r.reverse.map pD ++ [.tup [.int u, .int (m + s)]]), .val (.int m)] μ' := hN _ _ ⟨(u, m + s) :: r, _, by rw [List.reverse_cons, List.map_append]; rfl, rfl, by rw [e]; simp only [stepR, if_neg h1, if_pos h2], by simp; omega⟩
          rcases h2 with h2 | h2
          · rw [if_pos h2]
            exact g2
          · split
            · exact g2
            · rw [if_pos (by simpa using h2)]
              exact g2
        · have g2 : N [.val (lampD (k, s)), .val (intsL ms), .val (.str (kS k)), .val (.int s), .own (r.reverse.map pD ++ [.tup [.int u, .int v]]), .val (.int m)] μ' := hN _ _ ⟨(u, v) :: r, _, by rw [eb], rfl, by rw [e]; simp only [stepR, if_neg h1, if_neg h2], by simp; omega⟩
          rw [if_neg (fun z => h2 (.inl z)), if_neg (fun z => h2 (.inr (by simpa using z)))]
          exact g2
  · rintro ρ μ' ⟨rev, a, rfl, rfl, e, _⟩
    unfold s__law_log_3
    simp only [staL_p, dsSeq, dsRaise, dsTryAs, dsTryO, dIsE, dXf, dStar, dsNever, dsDrop, dsRet, dsRetN, dsRetF, dsIf, dsAsg, dsOwn, dsNext, dsBreak, dsCont, dsAug, dsApp, dsExt, dsSet, dsPar2, dsPar3, dName, g_tup, g_lst, g_cons, g_nil, dsFor, dVar, dC, d2, d1, dL, dNil, dCons, dB, dAnd, dOr, dNot, dAndV, dOrV, dNotV, dIf, dChain, dTup, dLst, dFrz, dTru, dCall, dYes, dSeq, dSeqC, dEnum, dEnumC, dRg1, dRg2, dComp, dCut, dCutF, dAddF, dListF, dMulF, dRev, dPart, dNoPart, dpNil, dpE, dpF, q_isi_int, q_isi_bool, q_isi_str, q_isi_tuple, q_isi_list, q_isi_dict, dIsI, dIsB, dIsS, dIsT, dIsL, dIsD, q_add_i, q_sub, q_mul, q_div, q_mod, q_pow, q_lt, q_le, q_gt, q_ge, q_neg, q_eq_ii, q_ne_ii, q_eq_le, q_ne_le, q_eq_ve, q_ne_ve, q_eq_te, q_ne_te, q_eq_ss, q_ne_ss, q_len, q_bl, q_some, List.getElem?_cons_zero, List.getElem?_cons_succ, List.set_cons_zero, List.set_cons_succ, tru_bl, tru_non, tru_int, tru_tup, tru_lst, tru_vw, len_tup, len_lst, len_vw, len_scr, it_tup, it_lst, it_scr, itc_tup, itc_lst, itc_vw, itc_scr, sta, staL, Bool.and_true, Bool.true_and, Bool.and_eq_true, true_and, and_true, wipeR, if_true, if_false, ite_true, ite_false, Bool.false_eq_true, Bool.not_true, Bool.not_false, Option.some.injEq, exists_eq_left', exists_eq_left, reduceIte, reduceCtorEq, hasTy, tyD, Option.isSome_some, q_ix_t, q_ix_l, q_ix_v, at0, at1, at2, at_two, at_three, at_four, c_pow, c_mul1, c_mul2, Int.reducePow, Int.reduceToNat, Int.reduceMul, Int.reduceAdd, Int.reduceSub, Int.reduceNeg, Int.reduceLT, Int.reduceLE, Int.reduceBEq, Nat.reduceLT, Nat.reduceLeDiff, Nat.reducePow, decide_true, decide_false, Bool.true_and, Bool.and_true, Int.neg_neg, szl, List.length_cons, List.length_nil, Nat.zero_add, Nat.reduceAdd, dDct, List.zip_cons_cons, List.zip_nil_left, List.zip_nil_right, staK, q_add_tt, q_add_ll, q_add_vl, q_add_lv, q_addF_ll, q_addF_vl, q_cut_t, q_cut_l, q_cut_v, q_cut_s, q_rev_t, q_rev_l, q_tuple_t, q_tuple_l, q_tuple_v, q_list_t, q_list_l, q_list_v, q_int_i, q_int_b, q_abs, q_max2, q_min2, q_l1, q_l2, q_int, q_own, q_val, q_own1, q_val1, q_two, q_three, List.cons_append, List.nil_append, List.mem_cons, List.not_mem_nil, or_false, forall_eq_or_imp, forall_eq, ne_eq, not_false_eq_true, q_in_t, q_in_l]
    have e2 : play (k, s) ms = rev.reverse := by unfold play; rw [e]; rfl
    rw [e2] at h
    exact h
theorem pure__law_logs (hl : ds.length = ps__law_logs.length) (hs : sp__law_logs ds μ R Ed) (st : staL ds = true) : t__law_logs (fin R Ed) (startD N__law_logs ds) μ := by
  obtain ⟨ls, ms, rfl, h1, h2, h⟩ := hs
  show t__law_logs (fin R Ed) [.val (.tup (ls.map lampD)), .val (intsL ms), .un] μ
  unfold t__law_logs s__law_logs_0
  simp only [dsSeq, dsRaise, dsTryAs, dsTryO, dIsE, dXf, dStar, dsNever, dsDrop, dsRet, dsRetN, dsRetF, dsIf, dsAsg, dsOwn, dsNext, dsBreak, dsCont, dsAug, dsApp, dsExt, dsSet, dsPar2, dsPar3, dName, g_tup, g_lst, g_cons, g_nil, dsFor, dVar, dC, d2, d1, dL, dNil, dCons, dB, dAnd, dOr, dNot, dAndV, dOrV, dNotV, dIf, dChain, dTup, dLst, dFrz, dTru, dCall, dYes, dSeq, dSeqC, dEnum, dEnumC, dRg1, dRg2, dComp, dCut, dCutF, dAddF, dListF, dMulF, dRev, dPart, dNoPart, dpNil, dpE, dpF, q_isi_int, q_isi_bool, q_isi_str, q_isi_tuple, q_isi_list, q_isi_dict, dIsI, dIsB, dIsS, dIsT, dIsL, dIsD, q_add_i, q_sub, q_mul, q_div, q_mod, q_pow, q_lt, q_le, q_gt, q_ge, q_neg, q_eq_ii, q_ne_ii, q_eq_le, q_ne_le, q_eq_ve, q_ne_ve, q_eq_te, q_ne_te, q_eq_ss, q_ne_ss, q_len, q_bl, q_some, List.getElem?_cons_zero, List.getElem?_cons_succ, List.set_cons_zero, List.set_cons_succ, tru_bl, tru_non, tru_int, tru_tup, tru_lst, tru_vw, len_tup, len_lst, len_vw, len_scr, it_tup, it_lst, it_scr, itc_tup, itc_lst, itc_vw, itc_scr, sta, staL, Bool.and_true, Bool.true_and, Bool.and_eq_true, true_and, and_true, wipeR, if_true, if_false, ite_true, ite_false, Bool.false_eq_true, Bool.not_true, Bool.not_false, Option.some.injEq, exists_eq_left', exists_eq_left, reduceIte, reduceCtorEq, hasTy, tyD, Option.isSome_some, q_ix_t, q_ix_l, q_ix_v, at0, at1, at2, at_two, at_three, at_four, c_pow, c_mul1, c_mul2, Int.reducePow, Int.reduceToNat, Int.reduceMul, Int.reduceAdd, Int.reduceSub, Int.reduceNeg, Int.reduceLT, Int.reduceLE, Int.reduceBEq, Nat.reduceLT, Nat.reduceLeDiff, Nat.reducePow, decide_true, decide_false, Bool.true_and, Bool.and_true, Int.neg_neg, szl, List.length_cons, List.length_nil, Nat.zero_add, Nat.reduceAdd, dDct, List.zip_cons_cons, List.zip_nil_left, List.zip_nil_right, staK, q_add_tt, q_add_ll, q_add_vl, q_add_lv, q_addF_ll, q_addF_vl, q_cut_t, q_cut_l, q_cut_v, q_cut_s, q_rev_t, q_rev_l, q_tuple_t, q_tuple_l, q_tuple_v, q_list_t, q_list_l, q_list_v, q_int_i, q_int_b, q_abs, q_max2, q_min2, q_l1, q_l2, q_int, q_own, q_val, q_own1, q_val1, q_two, q_three, List.cons_append, List.nil_append, List.mem_cons, List.not_mem_nil, or_false, forall_eq_or_imp, forall_eq, ne_eq, not_false_eq_true, q_in_t, q_in_l]
  refine comp_fun (Z := ReelW) lampD (fun l => logD (play l ms)) (by rw [szl]; omega) (fun x hx k k' hk => ?_) (fun x _ => sta_log _) ?_
  · simp only [sta_lamp, dsSeq, dsRaise, dsTryAs, dsTryO, dIsE, dXf, dStar, dsNever, dsDrop, dsRet, dsRetN, dsRetF, dsIf, dsAsg, dsOwn, dsNext, dsBreak, dsCont, dsAug, dsApp, dsExt, dsSet, dsPar2, dsPar3, dName, g_tup, g_lst, g_cons, g_nil, dsFor, dVar, dC, d2, d1, dL, dNil, dCons, dB, dAnd, dOr, dNot, dAndV, dOrV, dNotV, dIf, dChain, dTup, dLst, dFrz, dTru, dCall, dYes, dSeq, dSeqC, dEnum, dEnumC, dRg1, dRg2, dComp, dCut, dCutF, dAddF, dListF, dMulF, dRev, dPart, dNoPart, dpNil, dpE, dpF, q_isi_int, q_isi_bool, q_isi_str, q_isi_tuple, q_isi_list, q_isi_dict, dIsI, dIsB, dIsS, dIsT, dIsL, dIsD, q_add_i, q_sub, q_mul, q_div, q_mod, q_pow, q_lt, q_le, q_gt, q_ge, q_neg, q_eq_ii, q_ne_ii, q_eq_le, q_ne_le, q_eq_ve, q_ne_ve, q_eq_te, q_ne_te, q_eq_ss, q_ne_ss, q_len, q_bl, q_some, List.getElem?_cons_zero, List.getElem?_cons_succ, List.set_cons_zero, List.set_cons_succ, tru_bl, tru_non, tru_int, tru_tup, tru_lst, tru_vw, len_tup, len_lst, len_vw, len_scr, it_tup, it_lst, it_scr, itc_tup, itc_lst, itc_vw, itc_scr, sta, staL, Bool.and_true, Bool.true_and, Bool.and_eq_true, true_and, and_true, wipeR, if_true, if_false, ite_true, ite_false, Bool.false_eq_true, Bool.not_true, Bool.not_false, Option.some.injEq, exists_eq_left', exists_eq_left, reduceIte, reduceCtorEq, hasTy, tyD, Option.isSome_some, q_ix_t, q_ix_l, q_ix_v, at0, at1, at2, at_two, at_three, at_four, c_pow, c_mul1, c_mul2, Int.reducePow, Int.reduceToNat, Int.reduceMul, Int.reduceAdd, Int.reduceSub, Int.reduceNeg, Int.reduceLT, Int.reduceLE, Int.reduceBEq, Nat.reduceLT, Nat.reduceLeDiff, Nat.reducePow, decide_true, decide_false, Bool.true_and, Bool.and_true, Int.neg_neg, szl, List.length_cons, List.length_nil, Nat.zero_add, Nat.reduceAdd, dDct, List.zip_cons_cons, List.zip_nil_left, List.zip_nil_right, staK, q_add_tt, q_add_ll, q_add_vl, q_add_lv, q_addF_ll, q_addF_vl, q_cut_t, q_cut_l, q_cut_v, q_cut_s, q_rev_t, q_rev_l, q_tuple_t, q_tuple_l, q_tuple_v, q_list_t, q_list_l, q_list_v, q_int_i, q_int_b, q_abs, q_max2, q_min2, q_l1, q_l2, q_int, q_own, q_val, q_own1, q_val1, q_two, q_three, List.cons_append, List.nil_append, List.mem_cons, List.not_mem_nil, or_false, forall_eq_or_imp, forall_eq, ne_eq, not_false_eq_true, q_in_t, q_in_l]
    exact ⟨by unfold intsL; simp only [staL_ints, dsSeq, dsRaise, dsTryAs, dsTryO, dIsE, dXf, dStar, dsNever, dsDrop, dsRet, dsRetN, dsRetF, dsIf, dsAsg, dsOwn, dsNext, dsBreak, dsCont, dsAug, dsApp, dsExt, dsSet, dsPar2, dsPar3, dName, g_tup, g_lst, g_cons, g_nil, dsFor, dVar, dC, d2, d1, dL, dNil, dCons, dB, dAnd, dOr, dNot, dAndV, dOrV, dNotV, dIf, dChain, dTup, dLst, dFrz, dTru, dCall, dYes, dSeq, dSeqC, dEnum, dEnumC, dRg1, dRg2, dComp, dCut, dCutF, dAddF, dListF, dMulF, dRev, dPart, dNoPart, dpNil, dpE, dpF, q_isi_int, q_isi_bool, q_isi_str, q_isi_tuple, q_isi_list, q_isi_dict, dIsI, dIsB, dIsS, dIsT, dIsL, dIsD, q_add_i, q_sub, q_mul, q_div, q_mod, q_pow, q_lt, q_le, q_gt, q_ge, q_neg, q_eq_ii, q_ne_ii, q_eq_le, q_ne_le, q_eq_ve, q_ne_ve, q_eq_te, q_ne_te, q_eq_ss, q_ne_ss, q_len, q_bl, q_some, List.getElem?_cons_zero, List.getElem?_cons_succ, List.set_cons_zero, List.set_cons_succ, tru_bl, tru_non, tru_int, tru_tup, tru_lst, tru_vw, len_tup, len_lst, len_vw, len_scr, it_tup, it_lst, it_scr, itc_tup, itc_lst, itc_vw, itc_scr, sta, staL, Bool.and_true, Bool.true_and, Bool.and_eq_true, true_and, and_true, wipeR, if_true, if_false, ite_true, ite_false, Bool.false_eq_true, Bool.not_true, Bool.not_false, Option.some.injEq, exists_eq_left', exists_eq_left, reduceIte, reduceCtorEq, hasTy, tyD, Option.isSome_some, q_ix_t, q_ix_l, q_ix_v, at0, at1, at2, at_two, at_three, at_four, c_pow, c_mul1, c_mul2, Int.reducePow, Int.reduceToNat, Int.reduceMul, Int.reduceAdd, Int.reduceSub, Int.reduceNeg, Int.reduceLT, Int.reduceLE, Int.reduceBEq, Nat.reduceLT, Nat.reduceLeDiff, Nat.reducePow, decide_true, decide_false, Bool.true_and, Bool.and_true, Int.neg_neg, szl, List.length_cons, List.length_nil, Nat.zero_add, Nat.reduceAdd, dDct, List.zip_cons_cons, List.zip_nil_left, List.zip_nil_right, staK, q_add_tt, q_add_ll, q_add_vl, q_add_lv, q_addF_ll, q_addF_vl, q_cut_t, q_cut_l, q_cut_v, q_cut_s, q_rev_t, q_rev_l, q_tuple_t, q_tuple_l, q_tuple_v, q_list_t, q_list_l, q_list_v, q_int_i, q_int_b, q_abs, q_max2, q_min2, q_l1, q_l2, q_int, q_own, q_val, q_own1, q_val1, q_two, q_three, List.cons_append, List.nil_append, List.mem_cons, List.not_mem_nil, or_false, forall_eq_or_imp, forall_eq, ne_eq, not_false_eq_true, q_in_t, q_in_l], x, ms, rfl, by omega, hk⟩
  · exact ⟨staL_map (fun _ => sta_log _) ls, h⟩
theorem pure__law_fits (hl : ds.length = ps__law_fits.length) (hs : sp__law_fits ds μ R Ed) (st : staL ds = true) : t__law_fits (fin R Ed) (startD N__law_fits ds) μ := by
  obtain ⟨⟨k, s⟩, ⟨on, off⟩, rfl, hp, ho, h⟩ := hs
  show t__law_fits (fin R Ed) [.val (lampD (k, s)), .val (pD (on, off)), .un, .un, .un, .un] μ
  unfold t__law_fits s__law_fits_0 s__law_fits_1 s__law_fits_2 s__law_fits_3 lampD pD
  simp only [kS_hold, dsSeq, dsRaise, dsTryAs, dsTryO, dIsE, dXf, dStar, dsNever, dsDrop, dsRet, dsRetN, dsRetF, dsIf, dsAsg, dsOwn, dsNext, dsBreak, dsCont, dsAug, dsApp, dsExt, dsSet, dsPar2, dsPar3, dName, g_tup, g_lst, g_cons, g_nil, dsFor, dVar, dC, d2, d1, dL, dNil, dCons, dB, dAnd, dOr, dNot, dAndV, dOrV, dNotV, dIf, dChain, dTup, dLst, dFrz, dTru, dCall, dYes, dSeq, dSeqC, dEnum, dEnumC, dRg1, dRg2, dComp, dCut, dCutF, dAddF, dListF, dMulF, dRev, dPart, dNoPart, dpNil, dpE, dpF, q_isi_int, q_isi_bool, q_isi_str, q_isi_tuple, q_isi_list, q_isi_dict, dIsI, dIsB, dIsS, dIsT, dIsL, dIsD, q_add_i, q_sub, q_mul, q_div, q_mod, q_pow, q_lt, q_le, q_gt, q_ge, q_neg, q_eq_ii, q_ne_ii, q_eq_le, q_ne_le, q_eq_ve, q_ne_ve, q_eq_te, q_ne_te, q_eq_ss, q_ne_ss, q_len, q_bl, q_some, List.getElem?_cons_zero, List.getElem?_cons_succ, List.set_cons_zero, List.set_cons_succ, tru_bl, tru_non, tru_int, tru_tup, tru_lst, tru_vw, len_tup, len_lst, len_vw, len_scr, it_tup, it_lst, it_scr, itc_tup, itc_lst, itc_vw, itc_scr, sta, staL, Bool.and_true, Bool.true_and, Bool.and_eq_true, true_and, and_true, wipeR, if_true, if_false, ite_true, ite_false, Bool.false_eq_true, Bool.not_true, Bool.not_false, Option.some.injEq, exists_eq_left', exists_eq_left, reduceIte, reduceCtorEq, hasTy, tyD, Option.isSome_some, q_ix_t, q_ix_l, q_ix_v, at0, at1, at2, at_two, at_three, at_four, c_pow, c_mul1, c_mul2, Int.reducePow, Int.reduceToNat, Int.reduceMul, Int.reduceAdd, Int.reduceSub, Int.reduceNeg, Int.reduceLT, Int.reduceLE, Int.reduceBEq, Nat.reduceLT, Nat.reduceLeDiff, Nat.reducePow, decide_true, decide_false, Bool.true_and, Bool.and_true, Int.neg_neg, szl, List.length_cons, List.length_nil, Nat.zero_add, Nat.reduceAdd, dDct, List.zip_cons_cons, List.zip_nil_left, List.zip_nil_right, staK, q_add_tt, q_add_ll, q_add_vl, q_add_lv, q_addF_ll, q_addF_vl, q_cut_t, q_cut_l, q_cut_v, q_cut_s, q_rev_t, q_rev_l, q_tuple_t, q_tuple_l, q_tuple_v, q_list_t, q_list_l, q_list_v, q_int_i, q_int_b, q_abs, q_max2, q_min2, q_l1, q_l2, q_int, q_own, q_val, q_own1, q_val1, q_two, q_three, List.cons_append, List.nil_append, List.mem_cons, List.not_mem_nil, or_false, forall_eq_or_imp, forall_eq, ne_eq, not_false_eq_true, q_in_t, q_in_l]
  unfold fitsB at h
  dsimp only at h hp ho
  by_cases hg : 1000000000 < off - s
  · rw [if_pos (decide_eq_true hg)]
    simpa [hg] using h
  · rw [if_neg (by simpa using hg)]
    by_cases hs : off - on < s
    · rw [if_pos (decide_eq_true hs)]
      cases k
      · have : (off - on) % s = off - on := Int.emod_eq_of_lt (by omega) hs
        have ne : ((off - on) % s == 0) = false := by rw [this]; simp; omega
        simpa [hg, ne] using h
      · have : ¬ s ≤ off - on := by omega
        simpa [hg, this] using h
    · rw [if_neg (by simpa using hs)]
      have : s ≤ off - on := by omega
      cases k
      · simpa [hg, hp] using h
      · simpa [hg, this] using h
end
end RL
/-! text RLq -/
/-! the defs that the laws of a reel share: logs bent, scenes -/
namespace RL
open PySem PySem.Spec PyProof.Rows L2 DL LP
theorem ascP_snoc : ∀ {a : Int} {g : Lg} {y x : Int × Int}, AscP a (g ++ [y]) → y.2 < x.1 → x.1 < x.2 → AscP a (g ++ [y] ++ [x])
  | _, [], _, _, h, h1, h2 => ⟨h.1, h.2.1, h1, h2, trivial⟩
  | _, _ :: g, _, _, h, h1, h2 => ⟨h.1, h.2.1, ascP_snoc (g := g) h.2.2 h1 h2⟩
theorem ascP_take : ∀ {a : Int} {g : Lg} (n : Nat), AscP a g → AscP a (g.take n)
  | _, _, 0, _ => trivial
  | _, [], _ + 1, h => h
  | _, _ :: g, n + 1, h => ⟨h.1, h.2.1, ascP_take n h.2.2⟩
theorem ascP_mono : ∀ {a b : Int} {g : Lg}, b ≤ a → AscP a g → AscP b g
  | _, _, [], _, _ => trivial
  | _, _, _ :: _, h, k => ⟨by have := k.1; omega, k.2⟩
theorem ascP_mem : ∀ {a : Int} {g : Lg}, AscP a g → ∀ s ∈ g, a < s.1 ∧ s.1 < s.2
  | _, s :: g, h, x, hx => by
    rcases List.mem_cons.mp hx with e | e
    · rw [e]; exact ⟨h.1, h.2.1⟩
    · have := ascP_mem h.2.2 x e
      have h1 := h.1
      have h2 := h.2.1
      exact ⟨by omega, this.2⟩
theorem VLog.mem {b : Int} {g : Lg} (h : VLog b g) {s : Int × Int} (hs : s ∈ g) : 0 ≤ s.1 ∧ s.1 < s.2 ∧ s.2 ≤ b := by
  have := ascP_mem h.asc s hs
  exact ⟨by omega, this.2, h.le s hs⟩
theorem VLog.mono {b c : Int} {g : Lg} (h : VLog b g) (l : b ≤ c) : VLog c g := ⟨h.asc, fun s hs => Int.le_trans (h.le s hs) l, h.len⟩
section
variable (ds : List D) (μ : ReelW.M) (R : D → ReelW.M → Prop) (Ed : Xc → ReelW.M → Prop)
theorem pure__law_bent (hl : ds.length = ps__law_bent.length) (hs : sp__law_bent ds μ R Ed) (st : staL ds = true) : t__law_bent (fin R Ed) (startD N__law_bent ds) μ := by
  obtain ⟨p, l, n, b, g, rfl, rfl, hn, hb, hg, h⟩ := hs
  show t__law_bent (fin R Ed) [.val (.op (.ref p)), .val (logD g), .un, .un, .un, .un, .un, .un, .un, .un, .un, .un] (rs p l n)
  unfold t__law_bent s__law_bent_0 s__law_bent_0a_0 logD
  simp only [map_nil_iff, q_spin, dsSeq, dsRaise, dsTryAs, dsTryO, dIsE, dXf, dStar, dsNever, dsDrop, dsRet, dsRetN, dsRetF, dsIf, dsAsg, dsOwn, dsNext, dsBreak, dsCont, dsAug, dsApp, dsExt, dsSet, dsPar2, dsPar3, dName, g_tup, g_lst, g_cons, g_nil, dsFor, dVar, dC, d2, d1, dL, dNil, dCons, dB, dAnd, dOr, dNot, dAndV, dOrV, dNotV, dIf, dChain, dTup, dLst, dFrz, dTru, dCall, dYes, dSeq, dSeqC, dEnum, dEnumC, dRg1, dRg2, dComp, dCut, dCutF, dAddF, dListF, dMulF, dRev, dPart, dNoPart, dpNil, dpE, dpF, q_isi_int, q_isi_bool, q_isi_str, q_isi_tuple, q_isi_list, q_isi_dict, dIsI, dIsB, dIsS, dIsT, dIsL, dIsD, q_add_i, q_sub, q_mul, q_div, q_mod, q_pow, q_lt, q_le, q_gt, q_ge, q_neg, q_eq_ii, q_ne_ii, q_eq_le, q_ne_le, q_eq_ve, q_ne_ve, q_eq_te, q_ne_te, q_eq_ss, q_ne_ss, q_len, q_bl, q_some, List.getElem?_cons_zero, List.getElem?_cons_succ, List.set_cons_zero, List.set_cons_succ, tru_bl, tru_non, tru_int, tru_tup, tru_lst, tru_vw, len_tup, len_lst, len_vw, len_scr, it_tup, it_lst, it_scr, itc_tup, itc_lst, itc_vw, itc_scr, sta, staL, Bool.and_true, Bool.true_and, Bool.and_eq_true, true_and, and_true, wipeR, if_true, if_false, ite_true, ite_false, Bool.false_eq_true, Bool.not_true, Bool.not_false, Option.some.injEq, exists_eq_left', exists_eq_left, reduceIte, reduceCtorEq, hasTy, tyD, Option.isSome_some, q_ix_t, q_ix_l, q_ix_v, at0, at1, at2, at_two, at_three, at_four, c_pow, c_mul1, c_mul2, Int.reducePow, Int.reduceToNat, Int.reduceMul, Int.reduceAdd, Int.reduceSub, Int.reduceNeg, Int.reduceLT, Int.reduceLE, Int.reduceBEq, Nat.reduceLT, Nat.reduceLeDiff, Nat.reducePow, decide_true, decide_false, Bool.true_and, Bool.and_true, Int.neg_neg, szl, List.length_cons, List.length_nil, Nat.zero_add, Nat.reduceAdd, dDct, List.zip_cons_cons, List.zip_nil_left, List.zip_nil_right, staK, q_add_tt, q_add_ll, q_add_vl, q_add_lv, q_addF_ll, q_addF_vl, q_cut_t, q_cut_l, q_cut_v, q_cut_s, q_rev_t, q_rev_l, q_tuple_t, q_tuple_l, q_tuple_v, q_list_t, q_list_l, q_list_v, q_int_i, q_int_b, q_abs, q_max2, q_min2, q_l1, q_l2, q_int, q_own, q_val, q_own1, q_val1, q_two, q_three, List.cons_append, List.nil_append, List.mem_cons, List.not_mem_nil, or_false, forall_eq_or_imp, forall_eq, ne_eq, not_false_eq_true, q_in_t, q_in_l]
  by_cases h0 : g = []
  · subst h0
    refine itT rfl ⟨by omega, fun m a0 a1 => h [(3, 4 + m)] _ ⟨⟨by omega, by show (3 : Int) < 4 + m; omega, trivial⟩, fun s hs => ?_, by simp⟩ (by omega)⟩
    rw [List.mem_singleton.mp hs]
    show 4 + m ≤ _
    omega
  refine itF (by simpa using h0) ?_
  have p0 : 0 < g.length := List.length_pos_iff.mpr h0
  have p1 := hg.len
  unfold s__law_bent_1
  simp only [q_spin, List.length_map, dsSeq, dsRaise, dsTryAs, dsTryO, dIsE, dXf, dStar, dsNever, dsDrop, dsRet, dsRetN, dsRetF, dsIf, dsAsg, dsOwn, dsNext, dsBreak, dsCont, dsAug, dsApp, dsExt, dsSet, dsPar2, dsPar3, dName, g_tup, g_lst, g_cons, g_nil, dsFor, dVar, dC, d2, d1, dL, dNil, dCons, dB, dAnd, dOr, dNot, dAndV, dOrV, dNotV, dIf, dChain, dTup, dLst, dFrz, dTru, dCall, dYes, dSeq, dSeqC, dEnum, dEnumC, dRg1, dRg2, dComp, dCut, dCutF, dAddF, dListF, dMulF, dRev, dPart, dNoPart, dpNil, dpE, dpF, q_isi_int, q_isi_bool, q_isi_str, q_isi_tuple, q_isi_list, q_isi_dict, dIsI, dIsB, dIsS, dIsT, dIsL, dIsD, q_add_i, q_sub, q_mul, q_div, q_mod, q_pow, q_lt, q_le, q_gt, q_ge, q_neg, q_eq_ii, q_ne_ii, q_eq_le, q_ne_le, q_eq_ve, q_ne_ve, q_eq_te, q_ne_te, q_eq_ss, q_ne_ss, q_len, q_bl, q_some, List.getElem?_cons_zero, List.getElem?_cons_succ, List.set_cons_zero, List.set_cons_succ, tru_bl, tru_non, tru_int, tru_tup, tru_lst, tru_vw, len_tup, len_lst, len_vw, len_scr, it_tup, it_lst, it_scr, itc_tup, itc_lst, itc_vw, itc_scr, sta, staL, Bool.and_true, Bool.true_and, Bool.and_eq_true, true_and, and_true, wipeR, if_true, if_false, ite_true, ite_false, Bool.false_eq_true, Bool.not_true, Bool.not_false, Option.some.injEq, exists_eq_left', exists_eq_left, reduceIte, reduceCtorEq, hasTy, tyD, Option.isSome_some, q_ix_t, q_ix_l, q_ix_v, at0, at1, at2, at_two, at_three, at_four, c_pow, c_mul1, c_mul2, Int.reducePow, Int.reduceToNat, Int.reduceMul, Int.reduceAdd, Int.reduceSub, Int.reduceNeg, Int.reduceLT, Int.reduceLE, Int.reduceBEq, Nat.reduceLT, Nat.reduceLeDiff, Nat.reducePow, decide_true, decide_false, Bool.true_and, Bool.and_true, Int.neg_neg, szl, List.length_cons, List.length_nil, Nat.zero_add, Nat.reduceAdd, dDct, List.zip_cons_cons, List.zip_nil_left, List.zip_nil_right, staK, q_add_tt, q_add_ll, q_add_vl, q_add_lv, q_addF_ll, q_addF_vl, q_cut_t, q_cut_l, q_cut_v, q_cut_s, q_rev_t, q_rev_l, q_tuple_t, q_tuple_l, q_tuple_v, q_list_t, q_list_l, q_list_v, q_int_i, q_int_b, q_abs, q_max2, q_min2, q_l1, q_l2, q_int, q_own, q_val, q_own1, q_val1, q_two, q_three, List.cons_append, List.nil_append, List.mem_cons, List.not_mem_nil, or_false, forall_eq_or_imp, forall_eq, ne_eq, not_false_eq_true, q_in_t, q_in_l]
  refine ⟨by omega, by omega, by omega, fun at' a0 a1 => ⟨by omega, fun by' b0 b1 => ?_⟩⟩
  obtain ⟨⟨on, off⟩, e, hm, _⟩ := at_nat (l := g) a0 (by omega)
  obtain ⟨k0, k1, k2⟩ := hg.mem hm
  dsimp only at k0 k1 k2
  unfold s__law_bent_2 s__law_bent_3
  simp only [atI_map, e, Option.map_some, pD, dsSeq, dsRaise, dsTryAs, dsTryO, dIsE, dXf, dStar, dsNever, dsDrop, dsRet, dsRetN, dsRetF, dsIf, dsAsg, dsOwn, dsNext, dsBreak, dsCont, dsAug, dsApp, dsExt, dsSet, dsPar2, dsPar3, dName, g_tup, g_lst, g_cons, g_nil, dsFor, dVar, dC, d2, d1, dL, dNil, dCons, dB, dAnd, dOr, dNot, dAndV, dOrV, dNotV, dIf, dChain, dTup, dLst, dFrz, dTru, dCall, dYes, dSeq, dSeqC, dEnum, dEnumC, dRg1, dRg2, dComp, dCut, dCutF, dAddF, dListF, dMulF, dRev, dPart, dNoPart, dpNil, dpE, dpF, q_isi_int, q_isi_bool, q_isi_str, q_isi_tuple, q_isi_list, q_isi_dict, dIsI, dIsB, dIsS, dIsT, dIsL, dIsD, q_add_i, q_sub, q_mul, q_div, q_mod, q_pow, q_lt, q_le, q_gt, q_ge, q_neg, q_eq_ii, q_ne_ii, q_eq_le, q_ne_le, q_eq_ve, q_ne_ve, q_eq_te, q_ne_te, q_eq_ss, q_ne_ss, q_len, q_bl, q_some, List.getElem?_cons_zero, List.getElem?_cons_succ, List.set_cons_zero, List.set_cons_succ, tru_bl, tru_non, tru_int, tru_tup, tru_lst, tru_vw, len_tup, len_lst, len_vw, len_scr, it_tup, it_lst, it_scr, itc_tup, itc_lst, itc_vw, itc_scr, sta, staL, Bool.and_true, Bool.true_and, Bool.and_eq_true, true_and, and_true, wipeR, if_true, if_false, ite_true, ite_false, Bool.false_eq_true, Bool.not_true, Bool.not_false, Option.some.injEq, exists_eq_left', exists_eq_left, reduceIte, reduceCtorEq, hasTy, tyD, Option.isSome_some, q_ix_t, q_ix_l, q_ix_v, at0, at1, at2, at_two, at_three, at_four, c_pow, c_mul1, c_mul2, Int.reducePow, Int.reduceToNat, Int.reduceMul, Int.reduceAdd, Int.reduceSub, Int.reduceNeg, Int.reduceLT, Int.reduceLE, Int.reduceBEq, Nat.reduceLT, Nat.reduceLeDiff, Nat.reducePow, decide_true, decide_false, Bool.true_and, Bool.and_true, Int.neg_neg, szl, List.length_cons, List.length_nil, Nat.zero_add, Nat.reduceAdd, dDct, List.zip_cons_cons, List.zip_nil_left, List.zip_nil_right, staK, q_add_tt, q_add_ll, q_add_vl, q_add_lv, q_addF_ll, q_addF_vl, q_cut_t, q_cut_l, q_cut_v, q_cut_s, q_rev_t, q_rev_l, q_tuple_t, q_tuple_l, q_tuple_v, q_list_t, q_list_l, q_list_v, q_int_i, q_int_b, q_abs, q_max2, q_min2, q_l1, q_l2, q_int, q_own, q_val, q_own1, q_val1, q_two, q_three, List.cons_append, List.nil_append, List.mem_cons, List.not_mem_nil, or_false, forall_eq_or_imp, forall_eq, ne_eq, not_false_eq_true, q_in_t, q_in_l]
  -- whatever stands in the place of the stretch
  have rest : ∀ (parts : Lg) (way : Int) (sm : Slot) (n1 : Nat), n1 ≤ n + 5 → parts.length ≤ 2 → (∀ s ∈ parts, 0 ≤ s.1 ∧ s.1 < s.2 ∧ s.2 ≤ b + 10) → dsSeq s__law_bent_8 (dsSeq s__law_bent_9 s__law_bent_10) (fin R Ed) [.val (.op (.ref p)), .val (.tup (g.map pD)), .val (.int at'), .val (.int (1 + by')), .val (.int on), .val (.int off), sm, .val (.int way), .val (.lst (parts.map pD)), .un, .un, .un] (rs p l n1) := fun parts way sm n1 h1 hp hparts => by
    unfold s__law_bent_8 s__law_bent_9
    simp only [staL_p, cutL_map, dsSeq, dsRaise, dsTryAs, dsTryO, dIsE, dXf, dStar, dsNever, dsDrop, dsRet, dsRetN, dsRetF, dsIf, dsAsg, dsOwn, dsNext, dsBreak, dsCont, dsAug, dsApp, dsExt, dsSet, dsPar2, dsPar3, dName, g_tup, g_lst, g_cons, g_nil, dsFor, dVar, dC, d2, d1, dL, dNil, dCons, dB, dAnd, dOr, dNot, dAndV, dOrV, dNotV, dIf, dChain, dTup, dLst, dFrz, dTru, dCall, dYes, dSeq, dSeqC, dEnum, dEnumC, dRg1, dRg2, dComp, dCut, dCutF, dAddF, dListF, dMulF, dRev, dPart, dNoPart, dpNil, dpE, dpF, q_isi_int, q_isi_bool, q_isi_str, q_isi_tuple, q_isi_list, q_isi_dict, dIsI, dIsB, dIsS, dIsT, dIsL, dIsD, q_add_i, q_sub, q_mul, q_div, q_mod, q_pow, q_lt, q_le, q_gt, q_ge, q_neg, q_eq_ii, q_ne_ii, q_eq_le, q_ne_le, q_eq_ve, q_ne_ve, q_eq_te, q_ne_te, q_eq_ss, q_ne_ss, q_len, q_bl, q_some, List.getElem?_cons_zero, List.getElem?_cons_succ, List.set_cons_zero, List.set_cons_succ, tru_bl, tru_non, tru_int, tru_tup, tru_lst, tru_vw, len_tup, len_lst, len_vw, len_scr, it_tup, it_lst, it_scr, itc_tup, itc_lst, itc_vw, itc_scr, sta, staL, Bool.and_true, Bool.true_and, Bool.and_eq_true, true_and, and_true, wipeR, if_true, if_false, ite_true, ite_false, Bool.false_eq_true, Bool.not_true, Bool.not_false, Option.some.injEq, exists_eq_left', exists_eq_left, reduceIte, reduceCtorEq, hasTy, tyD, Option.isSome_some, q_ix_t, q_ix_l, q_ix_v, at0, at1, at2, at_two, at_three, at_four, c_pow, c_mul1, c_mul2, Int.reducePow, Int.reduceToNat, Int.reduceMul, Int.reduceAdd, Int.reduceSub, Int.reduceNeg, Int.reduceLT, Int.reduceLE, Int.reduceBEq, Nat.reduceLT, Nat.reduceLeDiff, Nat.reducePow, decide_true, decide_false, Bool.true_and, Bool.and_true, Int.neg_neg, szl, List.length_cons, List.length_nil, Nat.zero_add, Nat.reduceAdd, dDct, List.zip_cons_cons, List.zip_nil_left, List.zip_nil_right, staK, q_add_tt, q_add_ll, q_add_vl, q_add_lv, q_addF_ll, q_addF_vl, q_cut_t, q_cut_l, q_cut_v, q_cut_s, q_rev_t, q_rev_l, q_tuple_t, q_tuple_l, q_tuple_v, q_list_t, q_list_l, q_list_v, q_int_i, q_int_b, q_abs, q_max2, q_min2, q_l1, q_l2, q_int, q_own, q_val, q_own1, q_val1, q_two, q_three, List.cons_append, List.nil_append, List.mem_cons, List.not_mem_nil, or_false, forall_eq_or_imp, forall_eq, ne_eq, not_false_eq_true, q_in_t, q_in_l]
    have c1 : (cutL g none (some at')).length ≤ 60 := by unfold cutL; rw [List.length_take, List.length_drop]; omega
    have c2 : (cutL g (some (at' + 1)) none).length ≤ 60 := by unfold cutL; rw [List.length_take, List.length_drop]; omega
    have m1 : ∀ s ∈ cutL g none (some at'), s ∈ g := fun s hs => List.mem_of_mem_drop (List.mem_of_mem_take hs)
    have m2 : ∀ s ∈ cutL g (some (at' + 1)) none, s ∈ g := fun s hs => List.mem_of_mem_drop (List.mem_of_mem_take hs)
    generalize cutL g none (some at') = A at c1 m1 ⊢
    generalize cutL g (some (at' + 1)) none = C at c2 m2 ⊢
    refine ⟨by simp; omega, by simp; omega, ?_, ?_⟩
    · exact staL_append (staL_append (staL_p _) (staL_p _)) (staL_p _)
    rw [show A.map pD ++ parts.map pD ++ C.map pD = (A ++ parts ++ C).map pD by simp]
    have hall : ∀ s ∈ A ++ parts ++ C, 0 ≤ s.1 ∧ s.1 < s.2 ∧ s.2 ≤ b + 10 := fun s hs => by
      rcases List.mem_append.mp hs with hs | hs
      · rcases List.mem_append.mp hs with hs | hs
        · have := hg.mem (m1 s hs); omega
        · exact hparts s hs
      · have := hg.mem (m2 s hs); omega
    have hlen : (A ++ parts ++ C).length ≤ 130 := by simp; omega
    generalize A ++ parts ++ C = all at hall hlen ⊢
    refine loop_t (Z := ReelW) pD (fun rem ρ μ' => ∃ (rev : Lg) (u v : Slot), ρ = [.val (.op (.ref p)), .val (.tup (g.map pD)), .val (.int at'), .val (.int (1 + by')), .val (.int on), .val (.int off), sm, .val (.int way), .val (.lst (parts.map pD)), .own (rev.reverse.map pD), u, v] ∧ μ' = rs p l n1 ∧ AscP (-1) rev.reverse ∧ (∀ s ∈ rev, s.2 ≤ b + 10) ∧ (∀ s ∈ rem, 0 ≤ s.1 ∧ s.1 < s.2 ∧ s.2 ≤ b + 10) ∧ rev.length + rem.length ≤ 130) ?_ ?_ ⟨[], _, _, rfl, rfl, trivial, by simp, hall, by simpa using hlen⟩
    · rintro ⟨x, y⟩ rem ρ μ' N ⟨rev, u, v, rfl, rfl, hasc, hle, hrem, hz⟩ hN
      have hx := hrem _ (List.mem_cons_self ..)
      dsimp only at hx
      simp only [List.length_cons] at hz
      have hr2 : ∀ s ∈ rem, 0 ≤ s.1 ∧ s.1 < s.2 ∧ s.2 ≤ b + 10 := fun s hs => hrem s (List.mem_cons_of_mem _ hs)
      unfold l__law_bent_9 s__law_bent_9f_0 s__law_bent_9f_0a_0
      cases rev with
      | nil =>
        simp only [pD, List.reverse_nil, List.map_nil, List.isEmpty_nil, dsSeq, dsRaise, dsTryAs, dsTryO, dIsE, dXf, dStar, dsNever, dsDrop, dsRet, dsRetN, dsRetF, dsIf, dsAsg, dsOwn, dsNext, dsBreak, dsCont, dsAug, dsApp, dsExt, dsSet, dsPar2, dsPar3, dName, g_tup, g_lst, g_cons, g_nil, dsFor, dVar, dC, d2, d1, dL, dNil, dCons, dB, dAnd, dOr, dNot, dAndV, dOrV, dNotV, dIf, dChain, dTup, dLst, dFrz, dTru, dCall, dYes, dSeq, dSeqC, dEnum, dEnumC, dRg1, dRg2, dComp, dCut, dCutF, dAddF, dListF, dMulF, dRev, dPart, dNoPart, dpNil, dpE, dpF, q_isi_int, q_isi_bool, q_isi_str, q_isi_tuple, q_isi_list, q_isi_dict, dIsI, dIsB, dIsS, dIsT, dIsL, dIsD, q_add_i, q_sub, q_mul, q_div, q_mod, q_pow, q_lt, q_le, q_gt, q_ge, q_neg, q_eq_ii, q_ne_ii, q_eq_le, q_ne_le, q_eq_ve, q_ne_ve, q_eq_te, q_ne_te, q_eq_ss, q_ne_ss, q_len, q_bl, q_some, List.getElem?_cons_zero, List.getElem?_cons_succ, List.set_cons_zero, List.set_cons_succ, tru_bl, tru_non, tru_int, tru_tup, tru_lst, tru_vw, len_tup, len_lst, len_vw, len_scr, it_tup, it_lst, it_scr, itc_tup, itc_lst, itc_vw, itc_scr, sta, staL, Bool.and_true, Bool.true_and, Bool.and_eq_true, true_and, and_true, wipeR, if_true, if_false, ite_true, ite_false, Bool.false_eq_true, Bool.not_true, Bool.not_false, Option.some.injEq, exists_eq_left', exists_eq_left, reduceIte, reduceCtorEq, hasTy, tyD, Option.isSome_some, q_ix_t, q_ix_l, q_ix_v, at0, at1, at2, at_two, at_three, at_four, c_pow, c_mul1, c_mul2, Int.reducePow, Int.reduceToNat, Int.reduceMul, Int.reduceAdd, Int.reduceSub, Int.reduceNeg, Int.reduceLT, Int.reduceLE, Int.reduceBEq, Nat.reduceLT, Nat.reduceLeDiff, Nat.reducePow, decide_true, decide_false, Bool.true_and, Bool.and_true, Int.neg_neg, szl, List.length_cons, List.length_nil, Nat.zero_add, Nat.reduceAdd, dDct, List.zip_cons_cons, List.zip_nil_left, List.zip_nil_right, staK, q_add_tt, q_add_ll, q_add_vl, q_add_lv, q_addF_ll, q_addF_vl, q_cut_t, q_cut_l, q_cut_v, q_cut_s, q_rev_t, q_rev_l, q_tuple_t, q_tuple_l, q_tuple_v, q_list_t, q_list_l, q_list_v, q_int_i, q_int_b, q_abs, q_max2, q_min2, q_l1, q_l2, q_int, q_own, q_val, q_own1, q_val1, q_two, q_three, List.cons_append, List.nil_append, List.mem_cons, List.not_mem_nil, or_false, forall_eq_or_imp, forall_eq, ne_eq, not_false_eq_true, q_in_t, q_in_l]
        exact hN _ _ ⟨[(x, y)], _, _, rfl, rfl, ⟨by show (-1 : Int) < x; omega, hx.2.1, trivial⟩, by simp; omega, hr2, by simp; omega⟩
      | cons q r =>
        obtain ⟨c, d⟩ := q
        simp only [List.length_cons] at hz
        have eb : ((c, d) :: r).reverse.map pD = r.reverse.map pD ++ [.tup [.int c, .int d]] := by rw [List.reverse_cons, List.map_append]; rfl
        rw [eb]
        simp only [pD, app_ne, at_last, dsSeq, dsRaise, dsTryAs, dsTryO, dIsE, dXf, dStar, dsNever, dsDrop, dsRet, dsRetN, dsRetF, dsIf, dsAsg, dsOwn, dsNext, dsBreak, dsCont, dsAug, dsApp, dsExt, dsSet, dsPar2, dsPar3, dName, g_tup, g_lst, g_cons, g_nil, dsFor, dVar, dC, d2, d1, dL, dNil, dCons, dB, dAnd, dOr, dNot, dAndV, dOrV, dNotV, dIf, dChain, dTup, dLst, dFrz, dTru, dCall, dYes, dSeq, dSeqC, dEnum, dEnumC, dRg1, dRg2, dComp, dCut, dCutF, dAddF, dListF, dMulF, dRev, dPart, dNoPart, dpNil, dpE, dpF, q_isi_int, q_isi_bool, q_isi_str, q_isi_tuple, q_isi_list, q_isi_dict, dIsI, dIsB, dIsS, dIsT, dIsL, dIsD, q_add_i, q_sub, q_mul, q_div, q_mod, q_pow, q_lt, q_le, q_gt, q_ge, q_neg, q_eq_ii, q_ne_ii, q_eq_le, q_ne_le, q_eq_ve, q_ne_ve, q_eq_te, q_ne_te, q_eq_ss, q_ne_ss, q_len, q_bl, q_some, List.getElem?_cons_zero, List.getElem?_cons_succ, List.set_cons_zero, List.set_cons_succ, tru_bl, tru_non, tru_int, tru_tup, tru_lst, tru_vw, len_tup, len_lst, len_vw, len_scr, it_tup, it_lst, it_scr, itc_tup, itc_lst, itc_vw, itc_scr, sta, staL, Bool.and_true, Bool.true_and, Bool.and_eq_true, true_and, and_true, wipeR, if_true, if_false, ite_true, ite_false, Bool.false_eq_true, Bool.not_true, Bool.not_false, Option.some.injEq, exists_eq_left', exists_eq_left, reduceIte, reduceCtorEq, hasTy, tyD, Option.isSome_some, q_ix_t, q_ix_l, q_ix_v, at0, at1, at2, at_two, at_three, at_four, c_pow, c_mul1, c_mul2, Int.reducePow, Int.reduceToNat, Int.reduceMul, Int.reduceAdd, Int.reduceSub, Int.reduceNeg, Int.reduceLT, Int.reduceLE, Int.reduceBEq, Nat.reduceLT, Nat.reduceLeDiff, Nat.reducePow, decide_true, decide_false, Bool.true_and, Bool.and_true, Int.neg_neg, szl, List.length_cons, List.length_nil, Nat.zero_add, Nat.reduceAdd, dDct, List.zip_cons_cons, List.zip_nil_left, List.zip_nil_right, staK, q_add_tt, q_add_ll, q_add_vl, q_add_lv, q_addF_ll, q_addF_vl, q_cut_t, q_cut_l, q_cut_v, q_cut_s, q_rev_t, q_rev_l, q_tuple_t, q_tuple_l, q_tuple_v, q_list_t, q_list_l, q_list_v, q_int_i, q_int_b, q_abs, q_max2, q_min2, q_l1, q_l2, q_int, q_own, q_val, q_own1, q_val1, q_two, q_three, List.cons_append, List.nil_append, List.mem_cons, List.not_mem_nil, or_false, forall_eq_or_imp, forall_eq, ne_eq, not_false_eq_true, q_in_t, q_in_l]
        by_cases h1 : d < x
        · rw [if_pos (decide_eq_true h1)]
          refine ⟨by simp; omega, hN _ _ ⟨(x, y) :: (c, d) :: r, _, _, by rw [List.reverse_cons, List.map_append, eb]; rfl, rfl, ?_, ?_, hr2, by simp; omega⟩⟩
          · rw [List.reverse_cons, List.reverse_cons]
            rw [List.reverse_cons] at hasc
            exact ascP_snoc hasc h1 hx.2.1
          · intro s hs
            rcases List.mem_cons.mp hs with e | e
            · rw [e]; exact hx.2.2
            · exact hle s e
        · rw [if_neg (by simpa using h1)]
          exact hN _ _ ⟨(c, d) :: r, _, _, by rw [eb], rfl, hasc, hle, hr2, by simp; omega⟩
    · rintro ρ μ' ⟨rev, u, v, rfl, rfl, hasc, hle, _, hz⟩
      unfold s__law_bent_10
      simp only [cutL_map, staL_p, dsSeq, dsRaise, dsTryAs, dsTryO, dIsE, dXf, dStar, dsNever, dsDrop, dsRet, dsRetN, dsRetF, dsIf, dsAsg, dsOwn, dsNext, dsBreak, dsCont, dsAug, dsApp, dsExt, dsSet, dsPar2, dsPar3, dName, g_tup, g_lst, g_cons, g_nil, dsFor, dVar, dC, d2, d1, dL, dNil, dCons, dB, dAnd, dOr, dNot, dAndV, dOrV, dNotV, dIf, dChain, dTup, dLst, dFrz, dTru, dCall, dYes, dSeq, dSeqC, dEnum, dEnumC, dRg1, dRg2, dComp, dCut, dCutF, dAddF, dListF, dMulF, dRev, dPart, dNoPart, dpNil, dpE, dpF, q_isi_int, q_isi_bool, q_isi_str, q_isi_tuple, q_isi_list, q_isi_dict, dIsI, dIsB, dIsS, dIsT, dIsL, dIsD, q_add_i, q_sub, q_mul, q_div, q_mod, q_pow, q_lt, q_le, q_gt, q_ge, q_neg, q_eq_ii, q_ne_ii, q_eq_le, q_ne_le, q_eq_ve, q_ne_ve, q_eq_te, q_ne_te, q_eq_ss, q_ne_ss, q_len, q_bl, q_some, List.getElem?_cons_zero, List.getElem?_cons_succ, List.set_cons_zero, List.set_cons_succ, tru_bl, tru_non, tru_int, tru_tup, tru_lst, tru_vw, len_tup, len_lst, len_vw, len_scr, it_tup, it_lst, it_scr, itc_tup, itc_lst, itc_vw, itc_scr, sta, staL, Bool.and_true, Bool.true_and, Bool.and_eq_true, true_and, and_true, wipeR, if_true, if_false, ite_true, ite_false, Bool.false_eq_true, Bool.not_true, Bool.not_false, Option.some.injEq, exists_eq_left', exists_eq_left, reduceIte, reduceCtorEq, hasTy, tyD, Option.isSome_some, q_ix_t, q_ix_l, q_ix_v, at0, at1, at2, at_two, at_three, at_four, c_pow, c_mul1, c_mul2, Int.reducePow, Int.reduceToNat, Int.reduceMul, Int.reduceAdd, Int.reduceSub, Int.reduceNeg, Int.reduceLT, Int.reduceLE, Int.reduceBEq, Nat.reduceLT, Nat.reduceLeDiff, Nat.reducePow, decide_true, decide_false, Bool.true_and, Bool.and_true, Int.neg_neg, szl, List.length_cons, List.length_nil, Nat.zero_add, Nat.reduceAdd, dDct, List.zip_cons_cons, List.zip_nil_left, List.zip_nil_right, staK, q_add_tt, q_add_ll, q_add_vl, q_add_lv, q_addF_ll, q_addF_vl, q_cut_t, q_cut_l, q_cut_v, q_cut_s, q_rev_t, q_rev_l, q_tuple_t, q_tuple_l, q_tuple_v, q_list_t, q_list_l, q_list_v, q_int_i, q_int_b, q_abs, q_max2, q_min2, q_l1, q_l2, q_int, q_own, q_val, q_own1, q_val1, q_two, q_three, List.cons_append, List.nil_append, List.mem_cons, List.not_mem_nil, or_false, forall_eq_or_imp, forall_eq, ne_eq, not_false_eq_true, q_in_t, q_in_l]
      refine h _ n1 ⟨?_, fun s hs => hle s (List.mem_reverse.mp (List.mem_of_mem_drop (List.mem_of_mem_take hs))), ?_⟩ (by omega)
      · have e0 : cutL rev.reverse none (some 60) = rev.reverse.take 60 := by
          unfold cutL
          simp [HT.sIx]
        rw [e0]
        exact ascP_take _ hasc
      · unfold cutL
        rw [List.length_take]
        simp [HT.sIx]
        omega
  unfold s__law_bent_4
  simp only [q_spin, dsSeq, dsRaise, dsTryAs, dsTryO, dIsE, dXf, dStar, dsNever, dsDrop, dsRet, dsRetN, dsRetF, dsIf, dsAsg, dsOwn, dsNext, dsBreak, dsCont, dsAug, dsApp, dsExt, dsSet, dsPar2, dsPar3, dName, g_tup, g_lst, g_cons, g_nil, dsFor, dVar, dC, d2, d1, dL, dNil, dCons, dB, dAnd, dOr, dNot, dAndV, dOrV, dNotV, dIf, dChain, dTup, dLst, dFrz, dTru, dCall, dYes, dSeq, dSeqC, dEnum, dEnumC, dRg1, dRg2, dComp, dCut, dCutF, dAddF, dListF, dMulF, dRev, dPart, dNoPart, dpNil, dpE, dpF, q_isi_int, q_isi_bool, q_isi_str, q_isi_tuple, q_isi_list, q_isi_dict, dIsI, dIsB, dIsS, dIsT, dIsL, dIsD, q_add_i, q_sub, q_mul, q_div, q_mod, q_pow, q_lt, q_le, q_gt, q_ge, q_neg, q_eq_ii, q_ne_ii, q_eq_le, q_ne_le, q_eq_ve, q_ne_ve, q_eq_te, q_ne_te, q_eq_ss, q_ne_ss, q_len, q_bl, q_some, List.getElem?_cons_zero, List.getElem?_cons_succ, List.set_cons_zero, List.set_cons_succ, tru_bl, tru_non, tru_int, tru_tup, tru_lst, tru_vw, len_tup, len_lst, len_vw, len_scr, it_tup, it_lst, it_scr, itc_tup, itc_lst, itc_vw, itc_scr, sta, staL, Bool.and_true, Bool.true_and, Bool.and_eq_true, true_and, and_true, wipeR, if_true, if_false, ite_true, ite_false, Bool.false_eq_true, Bool.not_true, Bool.not_false, Option.some.injEq, exists_eq_left', exists_eq_left, reduceIte, reduceCtorEq, hasTy, tyD, Option.isSome_some, q_ix_t, q_ix_l, q_ix_v, at0, at1, at2, at_two, at_three, at_four, c_pow, c_mul1, c_mul2, Int.reducePow, Int.reduceToNat, Int.reduceMul, Int.reduceAdd, Int.reduceSub, Int.reduceNeg, Int.reduceLT, Int.reduceLE, Int.reduceBEq, Nat.reduceLT, Nat.reduceLeDiff, Nat.reducePow, decide_true, decide_false, Bool.true_and, Bool.and_true, Int.neg_neg, szl, List.length_cons, List.length_nil, Nat.zero_add, Nat.reduceAdd, dDct, List.zip_cons_cons, List.zip_nil_left, List.zip_nil_right, staK, q_add_tt, q_add_ll, q_add_vl, q_add_lv, q_addF_ll, q_addF_vl, q_cut_t, q_cut_l, q_cut_v, q_cut_s, q_rev_t, q_rev_l, q_tuple_t, q_tuple_l, q_tuple_v, q_list_t, q_list_l, q_list_v, q_int_i, q_int_b, q_abs, q_max2, q_min2, q_l1, q_l2, q_int, q_own, q_val, q_own1, q_val1, q_two, q_three, List.cons_append, List.nil_append, List.mem_cons, List.not_mem_nil, or_false, forall_eq_or_imp, forall_eq, ne_eq, not_false_eq_true, q_in_t, q_in_l]
  refine ⟨by omega, fun way w0 w1 => ?_⟩
  have : way = 0 ∨ way = 1 ∨ way = 2 ∨ way = 3 ∨ way = 4 ∨ way = 5 ∨ way = 6 := by omega
  unfold s__law_bent_5 s__law_bent_6 s__law_bent_7 s__law_bent_6a_0 s__law_bent_7a_0
  rcases this with rfl | rfl | rfl | rfl | rfl | rfl | rfl
  all_goals simp only [at3, staL_p, q_eq_ii, dsSeq, dsRaise, dsTryAs, dsTryO, dIsE, dXf, dStar, dsNever, dsDrop, dsRet, dsRetN, dsRetF, dsIf, dsAsg, dsOwn, dsNext, dsBreak, dsCont, dsAug, dsApp, dsExt, dsSet, dsPar2, dsPar3, dName, g_tup, g_lst, g_cons, g_nil, dsFor, dVar, dC, d2, d1, dL, dNil, dCons, dB, dAnd, dOr, dNot, dAndV, dOrV, dNotV, dIf, dChain, dTup, dLst, dFrz, dTru, dCall, dYes, dSeq, dSeqC, dEnum, dEnumC, dRg1, dRg2, dComp, dCut, dCutF, dAddF, dListF, dMulF, dRev, dPart, dNoPart, dpNil, dpE, dpF, q_isi_int, q_isi_bool, q_isi_str, q_isi_tuple, q_isi_list, q_isi_dict, dIsI, dIsB, dIsS, dIsT, dIsL, dIsD, q_add_i, q_sub, q_mul, q_div, q_mod, q_pow, q_lt, q_le, q_gt, q_ge, q_neg, q_eq_ii, q_ne_ii, q_eq_le, q_ne_le, q_eq_ve, q_ne_ve, q_eq_te, q_ne_te, q_eq_ss, q_ne_ss, q_len, q_bl, q_some, List.getElem?_cons_zero, List.getElem?_cons_succ, List.set_cons_zero, List.set_cons_succ, tru_bl, tru_non, tru_int, tru_tup, tru_lst, tru_vw, len_tup, len_lst, len_vw, len_scr, it_tup, it_lst, it_scr, itc_tup, itc_lst, itc_vw, itc_scr, sta, staL, Bool.and_true, Bool.true_and, Bool.and_eq_true, true_and, and_true, wipeR, if_true, if_false, ite_true, ite_false, Bool.false_eq_true, Bool.not_true, Bool.not_false, Option.some.injEq, exists_eq_left', exists_eq_left, reduceIte, reduceCtorEq, hasTy, tyD, Option.isSome_some, q_ix_t, q_ix_l, q_ix_v, at0, at1, at2, at_two, at_three, at_four, c_pow, c_mul1, c_mul2, Int.reducePow, Int.reduceToNat, Int.reduceMul, Int.reduceAdd, Int.reduceSub, Int.reduceNeg, Int.reduceLT, Int.reduceLE, Int.reduceBEq, Nat.reduceLT, Nat.reduceLeDiff, Nat.reducePow, decide_true, decide_false, Bool.true_and, Bool.and_true, Int.neg_neg, szl, List.length_cons, List.length_nil, Nat.zero_add, Nat.reduceAdd, dDct, List.zip_cons_cons, List.zip_nil_left, List.zip_nil_right, staK, q_add_tt, q_add_ll, q_add_vl, q_add_lv, q_addF_ll, q_addF_vl, q_cut_t, q_cut_l, q_cut_v, q_cut_s, q_rev_t, q_rev_l, q_tuple_t, q_tuple_l, q_tuple_v, q_list_t, q_list_l, q_list_v, q_int_i, q_int_b, q_abs, q_max2, q_min2, q_l1, q_l2, q_int, q_own, q_val, q_own1, q_val1, q_two, q_three, List.cons_append, List.nil_append, List.mem_cons, List.not_mem_nil, or_false, forall_eq_or_imp, forall_eq, ne_eq, not_false_eq_true, q_in_t, q_in_l]
  · exact rest [(on, off + (1 + by'))] 0 _ _ (by omega) (by simp) (by simp; omega)
  · exact rest [(on, max (on + 1) (off - (1 + by')))] 1 _ _ (by omega) (by simp) (by simp; omega)
  · exact rest [(on + (1 + by'), off + (1 + by'))] 2 _ _ (by omega) (by simp) (by simp; omega)
  · exact rest [(max 0 (on - (1 + by')), off)] 3 _ _ (by omega) (by simp) (by simp; omega)
  · have hc : CDivW (off - on) 2 := ⟨by decide, by decide⟩
    by_cases h3 : 2 < off - on
    · rw [if_pos (decide_eq_true h3)]
      exact ⟨hc, hc, rest [(on, on + (off - on) / 2), (on + (off - on) / 2 + 1, off)] 4 _ _ (by omega) (by simp) (by simp; omega)⟩
    · rw [if_neg (by simpa using h3)]
      exact rest [] 4 _ _ (by omega) (by simp) (by simp)
  · exact rest [(on, off), (off + (1 + by'), off + 2 * (1 + by'))] 5 _ _ (by omega) (by simp) (by simp; omega)
  · exact rest [] 6 _ _ (by omega) (by simp) (by simp)
end
end RL
/-! text RLr -/
/-! the defs that the laws of a reel share: what is played is a log; scenes -/
namespace RL
open PySem PySem.Spec PyProof.Rows L2 DL LP
theorem ascP_lastset : ∀ {a : Int} {g : Lg} {y : Int × Int} {e : Int}, AscP a (g ++ [y]) → y.1 < e → AscP a (g ++ [(y.1, e)])
  | _, [], _, _, h, h1 => ⟨h.1, h1, trivial⟩
  | _, _ :: g, _, _, h, h1 => ⟨h.1, h.2.1, ascP_lastset (g := g) h.2.2 h1⟩
structure PInv (l : Lamp) (rev : Lg) (prev : Int) : Prop where
  asc : AscP (-1) rev.reverse
  le : ∀ s ∈ rev, s.1 ≤ prev ∧ s.2 ≤ prev + l.2
theorem PInv.step {l : Lamp} {rev : Lg} {prev m : Int} (hl : 1 ≤ l.2) (h : PInv l rev prev) (h0 : 0 ≤ m) (hm : prev < m) : PInv l (stepR l rev m) m := by
  cases rev with
  | nil => exact ⟨⟨by show (-1 : Int) < m; omega, by show m < m + l.2; omega, trivial⟩, fun s hs => by rw [List.mem_singleton.mp hs]; show m ≤ m ∧ m + l.2 ≤ m + l.2; omega⟩
  | cons s r =>
    have hs := h.le s (List.mem_cons_self ..)
    have ha := h.asc
    rw [List.reverse_cons] at ha
    have hr : ∀ x ∈ s :: r, x.1 ≤ m ∧ x.2 ≤ m + l.2 := fun x hx => by have := h.le x hx; omega
    unfold stepR
    dsimp only
    split
    · rename_i h1
      refine ⟨?_, fun x hx => ?_⟩
      · rw [List.reverse_cons, List.reverse_cons]
        exact ascP_snoc ha h1 (by show m < m + l.2; omega)
      · rcases List.mem_cons.mp hx with e | e
        · rw [e]; show m ≤ m ∧ m + l.2 ≤ m + l.2; omega
        · exact hr x e
    · split
      · refine ⟨?_, fun x hx => ?_⟩
        · rw [List.reverse_cons]
          exact ascP_lastset ha (by omega)
        · rcases List.mem_cons.mp hx with e | e
          · rw [e]; show s.1 ≤ m ∧ m + l.2 ≤ m + l.2; omega
          · exact hr x (List.mem_cons_of_mem _ e)
      · exact ⟨h.asc, hr⟩
theorem stepR_length (l : Lamp) (rev : Lg) (m : Int) : (stepR l rev m).length ≤ rev.length + 1 := by
  unfold stepR
  split
  · simp
  · split
    · simp
    · split <;> simp
theorem pinv_all {l : Lamp} (hl : 1 ≤ l.2) : ∀ {ms : List Int} {rev : Lg} {prev M : Int}, -1 ≤ prev → prev ≤ M → PInv l rev prev → AscI prev ms → (∀ m ∈ ms, m ≤ M) → ∃ q, q ≤ M ∧ PInv l (ms.foldl (stepR l) rev) q ∧ (ms.foldl (stepR l) rev).length ≤ rev.length + ms.length
  | [], rev, prev, M, _, hM, h, _, _ => ⟨prev, hM, h, by simp⟩
  | m :: ms, rev, prev, M, h0, hM, h, ha, hm => by
    have hm0 := hm m (List.mem_cons_self ..)
    have h1 := ha.1
    obtain ⟨q, q1, q2, q3⟩ := pinv_all hl (ms := ms) (rev := stepR l rev m) (by omega) hm0 (h.step hl (by omega) h1) ha.2 fun x hx => hm x (List.mem_cons_of_mem _ hx)
    refine ⟨q, q1, q2, ?_⟩
    have := stepR_length l rev m
    rw [List.foldl_cons, List.length_cons]
    omega
theorem play_ok {l : Lamp} (hl : 1 ≤ l.2) {ms : List Int} {M : Int} (hM : -1 ≤ M) (ha : AscI (-1) ms) (hm : ∀ m ∈ ms, m ≤ M) : AscP (-1) (play l ms) ∧ (∀ s ∈ play l ms, s.2 ≤ M + l.2) ∧ (play l ms).length ≤ ms.length := by
  obtain ⟨q, q1, q2, q3⟩ := pinv_all hl (rev := []) (by omega) hM ⟨trivial, by simp⟩ ha hm
  exact ⟨q2.asc, fun s hs => by have := q2.le s (List.mem_reverse.mp hs); omega, by unfold play playR; rw [List.length_reverse]; simpa using q3⟩
section
variable (ds : List D) (μ : ReelW.M) (R : D → ReelW.M → Prop) (Ed : Xc → ReelW.M → Prop)
theorem at_natZ {α : Type} {xs : List α} {i : Int} (h0 : 0 ≤ i) (h : i < xs.length) : ∃ a, atI xs i = some a ∧ a ∈ xs ∧ ixN xs.length i = some i.toNat ∧ i.toNat < xs.length := by
  obtain ⟨a, e, m, _⟩ := at_nat h0 h
  refine ⟨a, e, m, ?_, by omega⟩
  unfold ixN
  rw [if_pos h0, if_pos h]
theorem pure__law_scene (hl : ds.length = ps__law_scene.length) (hs : sp__law_scene ds μ R Ed) (st : staL ds = true) : t__law_scene (fin R Ed) (startD N__law_scene ds) μ := by
  obtain ⟨p, l, n, many, top, motions, rfl, rfl, hn, m0, m1, t0, t1, o0, o1, h⟩ := hs
  show t__law_scene (fin R Ed) [.val (.op (.ref p)), .val (.int many), .val (.int top), .val (.int motions), .un, .un, .un, .un] (rs p l n)
  unfold t__law_scene s__law_scene_0
  simp only [dsSeq, dsRaise, dsTryAs, dsTryO, dIsE, dXf, dStar, dsNever, dsDrop, dsRet, dsRetN, dsRetF, dsIf, dsAsg, dsOwn, dsNext, dsBreak, dsCont, dsAug, dsApp, dsExt, dsSet, dsPar2, dsPar3, dName, g_tup, g_lst, g_cons, g_nil, dsFor, dVar, dC, d2, d1, dL, dNil, dCons, dB, dAnd, dOr, dNot, dAndV, dOrV, dNotV, dIf, dChain, dTup, dLst, dFrz, dTru, dCall, dYes, dSeq, dSeqC, dEnum, dEnumC, dRg1, dRg2, dComp, dCut, dCutF, dAddF, dListF, dMulF, dRev, dPart, dNoPart, dpNil, dpE, dpF, q_isi_int, q_isi_bool, q_isi_str, q_isi_tuple, q_isi_list, q_isi_dict, dIsI, dIsB, dIsS, dIsT, dIsL, dIsD, q_add_i, q_sub, q_mul, q_div, q_mod, q_pow, q_lt, q_le, q_gt, q_ge, q_neg, q_eq_ii, q_ne_ii, q_eq_le, q_ne_le, q_eq_ve, q_ne_ve, q_eq_te, q_ne_te, q_eq_ss, q_ne_ss, q_len, q_bl, q_some, List.getElem?_cons_zero, List.getElem?_cons_succ, List.set_cons_zero, List.set_cons_succ, tru_bl, tru_non, tru_int, tru_tup, tru_lst, tru_vw, len_tup, len_lst, len_vw, len_scr, it_tup, it_lst, it_scr, itc_tup, itc_lst, itc_vw, itc_scr, sta, staL, Bool.and_true, Bool.true_and, Bool.and_eq_true, true_and, and_true, wipeR, if_true, if_false, ite_true, ite_false, Bool.false_eq_true, Bool.not_true, Bool.not_false, Option.some.injEq, exists_eq_left', exists_eq_left, reduceIte, reduceCtorEq, hasTy, tyD, Option.isSome_some, q_ix_t, q_ix_l, q_ix_v, at0, at1, at2, at_two, at_three, at_four, c_pow, c_mul1, c_mul2, Int.reducePow, Int.reduceToNat, Int.reduceMul, Int.reduceAdd, Int.reduceSub, Int.reduceNeg, Int.reduceLT, Int.reduceLE, Int.reduceBEq, Nat.reduceLT, Nat.reduceLeDiff, Nat.reducePow, decide_true, decide_false, Bool.true_and, Bool.and_true, Int.neg_neg, szl, List.length_cons, List.length_nil, Nat.zero_add, Nat.reduceAdd, dDct, List.zip_cons_cons, List.zip_nil_left, List.zip_nil_right, staK, q_add_tt, q_add_ll, q_add_vl, q_add_lv, q_addF_ll, q_addF_vl, q_cut_t, q_cut_l, q_cut_v, q_cut_s, q_rev_t, q_rev_l, q_tuple_t, q_tuple_l, q_tuple_v, q_list_t, q_list_l, q_list_v, q_int_i, q_int_b, q_abs, q_max2, q_min2, q_l1, q_l2, q_int, q_own, q_val, q_own1, q_val1, q_two, q_three, List.cons_append, List.nil_append, List.mem_cons, List.not_mem_nil, or_false, forall_eq_or_imp, forall_eq, ne_eq, not_false_eq_true, q_in_t, q_in_l]
  refine ⟨p, l, n, many, top, rfl, rfl, by omega, m0, m1, t0, by omega, fun ls n1 hls hlen hok hn1 => ?_⟩
  have minutes : ∀ (n2 : Nat) (k : D → ReelW.M → Prop), n2 < 2 ^ 50 → (∀ (ms : List Int) (n3 : Nat), AscI (-1) ms → ms.length ≤ 60 → (∀ m ∈ ms, m ≤ 500000000) → n3 ≤ n2 + 1000 → k (intsL ms) (rs p l n3)) → sp__law_minutes [.op (.ref p), .int motions, .int (2 * top)] (rs p l n2) k fun x μ' => Ed x μ' := fun n2 k h2 hk =>
    ⟨p, l, n2, motions, 2 * top, rfl, rfl, h2, o0, by omega, by omega, by omega, fun ms n3 ha hl hm h3 => hk ms n3 ha (by omega) hm h3⟩
  have good : ∀ {x : Lamp} {ms : List Int}, LampOk top x → AscI (-1) ms → ms.length ≤ 60 → (∀ m ∈ ms, m ≤ 500000000) → VLog 599999900 (play x ms) := fun hx ha hl hm => by
    obtain ⟨q1, q2, q3⟩ := play_ok hx.1 (by decide) ha hm
    exact ⟨q1, fun s hs => by have := q2 s hs; have := hx.2; omega, by omega⟩
  unfold s__law_scene_1
  simp only [staL_lamp, dsSeq, dsRaise, dsTryAs, dsTryO, dIsE, dXf, dStar, dsNever, dsDrop, dsRet, dsRetN, dsRetF, dsIf, dsAsg, dsOwn, dsNext, dsBreak, dsCont, dsAug, dsApp, dsExt, dsSet, dsPar2, dsPar3, dName, g_tup, g_lst, g_cons, g_nil, dsFor, dVar, dC, d2, d1, dL, dNil, dCons, dB, dAnd, dOr, dNot, dAndV, dOrV, dNotV, dIf, dChain, dTup, dLst, dFrz, dTru, dCall, dYes, dSeq, dSeqC, dEnum, dEnumC, dRg1, dRg2, dComp, dCut, dCutF, dAddF, dListF, dMulF, dRev, dPart, dNoPart, dpNil, dpE, dpF, q_isi_int, q_isi_bool, q_isi_str, q_isi_tuple, q_isi_list, q_isi_dict, dIsI, dIsB, dIsS, dIsT, dIsL, dIsD, q_add_i, q_sub, q_mul, q_div, q_mod, q_pow, q_lt, q_le, q_gt, q_ge, q_neg, q_eq_ii, q_ne_ii, q_eq_le, q_ne_le, q_eq_ve, q_ne_ve, q_eq_te, q_ne_te, q_eq_ss, q_ne_ss, q_len, q_bl, q_some, List.getElem?_cons_zero, List.getElem?_cons_succ, List.set_cons_zero, List.set_cons_succ, tru_bl, tru_non, tru_int, tru_tup, tru_lst, tru_vw, len_tup, len_lst, len_vw, len_scr, it_tup, it_lst, it_scr, itc_tup, itc_lst, itc_vw, itc_scr, sta, staL, Bool.and_true, Bool.true_and, Bool.and_eq_true, true_and, and_true, wipeR, if_true, if_false, ite_true, ite_false, Bool.false_eq_true, Bool.not_true, Bool.not_false, Option.some.injEq, exists_eq_left', exists_eq_left, reduceIte, reduceCtorEq, hasTy, tyD, Option.isSome_some, q_ix_t, q_ix_l, q_ix_v, at0, at1, at2, at_two, at_three, at_four, c_pow, c_mul1, c_mul2, Int.reducePow, Int.reduceToNat, Int.reduceMul, Int.reduceAdd, Int.reduceSub, Int.reduceNeg, Int.reduceLT, Int.reduceLE, Int.reduceBEq, Nat.reduceLT, Nat.reduceLeDiff, Nat.reducePow, decide_true, decide_false, Bool.true_and, Bool.and_true, Int.neg_neg, szl, List.length_cons, List.length_nil, Nat.zero_add, Nat.reduceAdd, dDct, List.zip_cons_cons, List.zip_nil_left, List.zip_nil_right, staK, q_add_tt, q_add_ll, q_add_vl, q_add_lv, q_addF_ll, q_addF_vl, q_cut_t, q_cut_l, q_cut_v, q_cut_s, q_rev_t, q_rev_l, q_tuple_t, q_tuple_l, q_tuple_v, q_list_t, q_list_l, q_list_v, q_int_i, q_int_b, q_abs, q_max2, q_min2, q_l1, q_l2, q_int, q_own, q_val, q_own1, q_val1, q_two, q_three, List.cons_append, List.nil_append, List.mem_cons, List.not_mem_nil, or_false, forall_eq_or_imp, forall_eq, ne_eq, not_false_eq_true, q_in_t, q_in_l]
  refine minutes _ _ (by omega) fun ms n2 ha hml hmm hn2 => ?_
  refine ⟨sta_ints ms, ls, ms, rfl, by omega, by omega, ?_⟩
  refine ⟨_, _, rfl, rfl, staL_map (fun _ => sta_log _) ls, ?_⟩
  have p0 : 0 < ls.length := List.length_pos_iff.mpr hls
  have loop : ∀ (tot : Nat) (rg : List D) (n0 : Nat), tot ≤ 2 → n0 ≤ n2 + 1 → IsRg 0 tot rg → loopD (dName 6) l__law_scene_2 { nx := s__law_scene_3 (fin R Ed), rt := R, ex := fun x x_1 μ' => Ed x μ' } rg [.val (.op (.ref p)), .val (.int many), .val (.int top), .val (.int motions), .val (.tup (ls.map lampD)), .own (ls.map fun x => logD (play x ms)), .un, .un] (rs p l n0) := fun tot rg n0 h2 h3 hrg => by
    refine loop_rg (Z := ReelW) hrg (fun i ρ μ => ∃ (gs : List Lg) (n' : Nat) (a b : Slot), ρ = [.val (.op (.ref p)), .val (.int many), .val (.int top), .val (.int motions), .val (.tup (ls.map lampD)), .own (gs.map logD), a, b] ∧ μ = rs p l n' ∧ gs.length = ls.length ∧ n' ≤ n0 + 1050 * i ∧ ∀ g ∈ gs, VLog (599999900 + 10 * i) g) ?_ ?_ ⟨ls.map fun x => play x ms, n0, _, _, by rw [List.map_map]; rfl, rfl, by simp, by omega, fun g hg => ?_⟩
    · rintro i ρ μ N hi ⟨gs, n', a, b, rfl, rfl, hgs, hn', hv⟩ hN
      have hi2 : i < 2 := by omega
      unfold l__law_scene_2 s__law_scene_2f_0
      simp only [q_spin, List.length_map, dsSeq, dsRaise, dsTryAs, dsTryO, dIsE, dXf, dStar, dsNever, dsDrop, dsRet, dsRetN, dsRetF, dsIf, dsAsg, dsOwn, dsNext, dsBreak, dsCont, dsAug, dsApp, dsExt, dsSet, dsPar2, dsPar3, dName, g_tup, g_lst, g_cons, g_nil, dsFor, dVar, dC, d2, d1, dL, dNil, dCons, dB, dAnd, dOr, dNot, dAndV, dOrV, dNotV, dIf, dChain, dTup, dLst, dFrz, dTru, dCall, dYes, dSeq, dSeqC, dEnum, dEnumC, dRg1, dRg2, dComp, dCut, dCutF, dAddF, dListF, dMulF, dRev, dPart, dNoPart, dpNil, dpE, dpF, q_isi_int, q_isi_bool, q_isi_str, q_isi_tuple, q_isi_list, q_isi_dict, dIsI, dIsB, dIsS, dIsT, dIsL, dIsD, q_add_i, q_sub, q_mul, q_div, q_mod, q_pow, q_lt, q_le, q_gt, q_ge, q_neg, q_eq_ii, q_ne_ii, q_eq_le, q_ne_le, q_eq_ve, q_ne_ve, q_eq_te, q_ne_te, q_eq_ss, q_ne_ss, q_len, q_bl, q_some, List.getElem?_cons_zero, List.getElem?_cons_succ, List.set_cons_zero, List.set_cons_succ, tru_bl, tru_non, tru_int, tru_tup, tru_lst, tru_vw, len_tup, len_lst, len_vw, len_scr, it_tup, it_lst, it_scr, itc_tup, itc_lst, itc_vw, itc_scr, sta, staL, Bool.and_true, Bool.true_and, Bool.and_eq_true, true_and, and_true, wipeR, if_true, if_false, ite_true, ite_false, Bool.false_eq_true, Bool.not_true, Bool.not_false, Option.some.injEq, exists_eq_left', exists_eq_left, reduceIte, reduceCtorEq, hasTy, tyD, Option.isSome_some, q_ix_t, q_ix_l, q_ix_v, at0, at1, at2, at_two, at_three, at_four, c_pow, c_mul1, c_mul2, Int.reducePow, Int.reduceToNat, Int.reduceMul, Int.reduceAdd, Int.reduceSub, Int.reduceNeg, Int.reduceLT, Int.reduceLE, Int.reduceBEq, Nat.reduceLT, Nat.reduceLeDiff, Nat.reducePow, decide_true, decide_false, Bool.true_and, Bool.and_true, Int.neg_neg, szl, List.length_cons, List.length_nil, Nat.zero_add, Nat.reduceAdd, dDct, List.zip_cons_cons, List.zip_nil_left, List.zip_nil_right, staK, q_add_tt, q_add_ll, q_add_vl, q_add_lv, q_addF_ll, q_addF_vl, q_cut_t, q_cut_l, q_cut_v, q_cut_s, q_rev_t, q_rev_l, q_tuple_t, q_tuple_l, q_tuple_v, q_list_t, q_list_l, q_list_v, q_int_i, q_int_b, q_abs, q_max2, q_min2, q_l1, q_l2, q_int, q_own, q_val, q_own1, q_val1, q_two, q_three, List.cons_append, List.nil_append, List.mem_cons, List.not_mem_nil, or_false, forall_eq_or_imp, forall_eq, ne_eq, not_false_eq_true, q_in_t, q_in_l]
      refine ⟨by omega, by omega, by omega, fun at' a0 a1 => ?_⟩
      obtain ⟨g, eg, mg', ig, ltg⟩ := at_natZ (xs := gs) a0 (by omega)
      obtain ⟨x, ex, mx, _, _⟩ := at_natZ (xs := ls) a0 (by omega)
      have put : ∀ (g' : Lg) (n3 : Nat), VLog (599999900 + 10 * (i + 1 : Nat)) g' → n3 ≤ n' + 1040 → N [.val (.op (.ref p)), .val (.int many), .val (.int top), .val (.int motions), .val (.tup (ls.map lampD)), .own ((gs.map logD).set at'.toNat (logD g')), .val (.int (0 + i)), .val (.int at')] (rs p l n3) := fun g' n3 hg' h3 => by
        refine hN _ _ ⟨gs.set at'.toNat g', n3, _, _, by rw [List.map_set], rfl, by simp [hgs], by omega, fun y hy => ?_⟩
        rcases List.mem_or_eq_of_mem_set hy with z | z
        · exact (hv y z).mono (by omega)
        · rw [z]; exact hg'
      unfold s__law_scene_2f_1 s__law_scene_2f_1a_0 s__law_scene_2f_1b_0
      simp only [q_spin, atI_map, ex, eg, Option.map_some, List.length_map, ig, q_set, dsSeq, dsRaise, dsTryAs, dsTryO, dIsE, dXf, dStar, dsNever, dsDrop, dsRet, dsRetN, dsRetF, dsIf, dsAsg, dsOwn, dsNext, dsBreak, dsCont, dsAug, dsApp, dsExt, dsSet, dsPar2, dsPar3, dName, g_tup, g_lst, g_cons, g_nil, dsFor, dVar, dC, d2, d1, dL, dNil, dCons, dB, dAnd, dOr, dNot, dAndV, dOrV, dNotV, dIf, dChain, dTup, dLst, dFrz, dTru, dCall, dYes, dSeq, dSeqC, dEnum, dEnumC, dRg1, dRg2, dComp, dCut, dCutF, dAddF, dListF, dMulF, dRev, dPart, dNoPart, dpNil, dpE, dpF, q_isi_int, q_isi_bool, q_isi_str, q_isi_tuple, q_isi_list, q_isi_dict, dIsI, dIsB, dIsS, dIsT, dIsL, dIsD, q_add_i, q_sub, q_mul, q_div, q_mod, q_pow, q_lt, q_le, q_gt, q_ge, q_neg, q_eq_ii, q_ne_ii, q_eq_le, q_ne_le, q_eq_ve, q_ne_ve, q_eq_te, q_ne_te, q_eq_ss, q_ne_ss, q_len, q_bl, q_some, List.getElem?_cons_zero, List.getElem?_cons_succ, List.set_cons_zero, List.set_cons_succ, tru_bl, tru_non, tru_int, tru_tup, tru_lst, tru_vw, len_tup, len_lst, len_vw, len_scr, it_tup, it_lst, it_scr, itc_tup, itc_lst, itc_vw, itc_scr, sta, staL, Bool.and_true, Bool.true_and, Bool.and_eq_true, true_and, and_true, wipeR, if_true, if_false, ite_true, ite_false, Bool.false_eq_true, Bool.not_true, Bool.not_false, Option.some.injEq, exists_eq_left', exists_eq_left, reduceIte, reduceCtorEq, hasTy, tyD, Option.isSome_some, q_ix_t, q_ix_l, q_ix_v, at0, at1, at2, at_two, at_three, at_four, c_pow, c_mul1, c_mul2, Int.reducePow, Int.reduceToNat, Int.reduceMul, Int.reduceAdd, Int.reduceSub, Int.reduceNeg, Int.reduceLT, Int.reduceLE, Int.reduceBEq, Nat.reduceLT, Nat.reduceLeDiff, Nat.reducePow, decide_true, decide_false, Bool.true_and, Bool.and_true, Int.neg_neg, szl, List.length_cons, List.length_nil, Nat.zero_add, Nat.reduceAdd, dDct, List.zip_cons_cons, List.zip_nil_left, List.zip_nil_right, staK, q_add_tt, q_add_ll, q_add_vl, q_add_lv, q_addF_ll, q_addF_vl, q_cut_t, q_cut_l, q_cut_v, q_cut_s, q_rev_t, q_rev_l, q_tuple_t, q_tuple_l, q_tuple_v, q_list_t, q_list_l, q_list_v, q_int_i, q_int_b, q_abs, q_max2, q_min2, q_l1, q_l2, q_int, q_own, q_val, q_own1, q_val1, q_two, q_three, List.cons_append, List.nil_append, List.mem_cons, List.not_mem_nil, or_false, forall_eq_or_imp, forall_eq, ne_eq, not_false_eq_true, q_in_t, q_in_l]
      refine ⟨by omega, fun m2 b0 b1 => ?_⟩
      split
      · refine minutes _ _ (by omega) fun ms2 n3 ha2 hml2 hmm2 hn3 => ?_
        refine ⟨⟨sta_lamp x, sta_ints ms2⟩, x, ms2, rfl, by omega, sta_log _, put _ _ ((good (hok x mx) ha2 hml2 hmm2).mono (by omega)) (by omega)⟩
      · refine ⟨sta_log _, p, l, _, _, g, rfl, rfl, by omega, by omega, hv g mg', fun g' n3 hg' hn3 => ⟨sta_log _, put g' n3 (hg'.mono (by omega)) (by omega)⟩⟩
    · rintro ρ μ ⟨gs, n', a, b, rfl, rfl, hgs, hn', hv⟩
      unfold s__law_scene_3
      simp only [staL_lamp, staL_log, dsSeq, dsRaise, dsTryAs, dsTryO, dIsE, dXf, dStar, dsNever, dsDrop, dsRet, dsRetN, dsRetF, dsIf, dsAsg, dsOwn, dsNext, dsBreak, dsCont, dsAug, dsApp, dsExt, dsSet, dsPar2, dsPar3, dName, g_tup, g_lst, g_cons, g_nil, dsFor, dVar, dC, d2, d1, dL, dNil, dCons, dB, dAnd, dOr, dNot, dAndV, dOrV, dNotV, dIf, dChain, dTup, dLst, dFrz, dTru, dCall, dYes, dSeq, dSeqC, dEnum, dEnumC, dRg1, dRg2, dComp, dCut, dCutF, dAddF, dListF, dMulF, dRev, dPart, dNoPart, dpNil, dpE, dpF, q_isi_int, q_isi_bool, q_isi_str, q_isi_tuple, q_isi_list, q_isi_dict, dIsI, dIsB, dIsS, dIsT, dIsL, dIsD, q_add_i, q_sub, q_mul, q_div, q_mod, q_pow, q_lt, q_le, q_gt, q_ge, q_neg, q_eq_ii, q_ne_ii, q_eq_le, q_ne_le, q_eq_ve, q_ne_ve, q_eq_te, q_ne_te, q_eq_ss, q_ne_ss, q_len, q_bl, q_some, List.getElem?_cons_zero, List.getElem?_cons_succ, List.set_cons_zero, List.set_cons_succ, tru_bl, tru_non, tru_int, tru_tup, tru_lst, tru_vw, len_tup, len_lst, len_vw, len_scr, it_tup, it_lst, it_scr, itc_tup, itc_lst, itc_vw, itc_scr, sta, staL, Bool.and_true, Bool.true_and, Bool.and_eq_true, true_and, and_true, wipeR, if_true, if_false, ite_true, ite_false, Bool.false_eq_true, Bool.not_true, Bool.not_false, Option.some.injEq, exists_eq_left', exists_eq_left, reduceIte, reduceCtorEq, hasTy, tyD, Option.isSome_some, q_ix_t, q_ix_l, q_ix_v, at0, at1, at2, at_two, at_three, at_four, c_pow, c_mul1, c_mul2, Int.reducePow, Int.reduceToNat, Int.reduceMul, Int.reduceAdd, Int.reduceSub, Int.reduceNeg, Int.reduceLT, Int.reduceLE, Int.reduceBEq, Nat.reduceLT, Nat.reduceLeDiff, Nat.reducePow, decide_true, decide_false, Bool.true_and, Bool.and_true, Int.neg_neg, szl, List.length_cons, List.length_nil, Nat.zero_add, Nat.reduceAdd, dDct, List.zip_cons_cons, List.zip_nil_left, List.zip_nil_right, staK, q_add_tt, q_add_ll, q_add_vl, q_add_lv, q_addF_ll, q_addF_vl, q_cut_t, q_cut_l, q_cut_v, q_cut_s, q_rev_t, q_rev_l, q_tuple_t, q_tuple_l, q_tuple_v, q_list_t, q_list_l, q_list_v, q_int_i, q_int_b, q_abs, q_max2, q_min2, q_l1, q_l2, q_int, q_own, q_val, q_own1, q_val1, q_two, q_three, List.cons_append, List.nil_append, List.mem_cons, List.not_mem_nil, or_false, forall_eq_or_imp, forall_eq, ne_eq, not_false_eq_true, q_in_t, q_in_l]
      exact h ls gs n' hls hlen hgs hok (fun g hg => (hv g hg).mono (by omega)) (by omega)
    · obtain ⟨x, hx, rfl⟩ := List.mem_map.mp hg
      exact (good (hok x hx) ha hml hmm).mono (by omega)
  unfold s__law_scene_2
  simp only [q_spin, dsSeq, dsRaise, dsTryAs, dsTryO, dIsE, dXf, dStar, dsNever, dsDrop, dsRet, dsRetN, dsRetF, dsIf, dsAsg, dsOwn, dsNext, dsBreak, dsCont, dsAug, dsApp, dsExt, dsSet, dsPar2, dsPar3, dName, g_tup, g_lst, g_cons, g_nil, dsFor, dVar, dC, d2, d1, dL, dNil, dCons, dB, dAnd, dOr, dNot, dAndV, dOrV, dNotV, dIf, dChain, dTup, dLst, dFrz, dTru, dCall, dYes, dSeq, dSeqC, dEnum, dEnumC, dRg1, dRg2, dComp, dCut, dCutF, dAddF, dListF, dMulF, dRev, dPart, dNoPart, dpNil, dpE, dpF, q_isi_int, q_isi_bool, q_isi_str, q_isi_tuple, q_isi_list, q_isi_dict, dIsI, dIsB, dIsS, dIsT, dIsL, dIsD, q_add_i, q_sub, q_mul, q_div, q_mod, q_pow, q_lt, q_le, q_gt, q_ge, q_neg, q_eq_ii, q_ne_ii, q_eq_le, q_ne_le, q_eq_ve, q_ne_ve, q_eq_te, q_ne_te, q_eq_ss, q_ne_ss, q_len, q_bl, q_some, List.getElem?_cons_zero, List.getElem?_cons_succ, List.set_cons_zero, List.set_cons_succ, tru_bl, tru_non, tru_int, tru_tup, tru_lst, tru_vw, len_tup, len_lst, len_vw, len_scr, it_tup, it_lst, it_scr, itc_tup, itc_lst, itc_vw, itc_scr, sta, staL, Bool.and_true, Bool.true_and, Bool.and_eq_true, true_and, and_true, wipeR, if_true, if_false, ite_true, ite_false, Bool.false_eq_true, Bool.not_true, Bool.not_false, Option.some.injEq, exists_eq_left', exists_eq_left, reduceIte, reduceCtorEq, hasTy, tyD, Option.isSome_some, q_ix_t, q_ix_l, q_ix_v, at0, at1, at2, at_two, at_three, at_four, c_pow, c_mul1, c_mul2, Int.reducePow, Int.reduceToNat, Int.reduceMul, Int.reduceAdd, Int.reduceSub, Int.reduceNeg, Int.reduceLT, Int.reduceLE, Int.reduceBEq, Nat.reduceLT, Nat.reduceLeDiff, Nat.reducePow, decide_true, decide_false, Bool.true_and, Bool.and_true, Int.neg_neg, szl, List.length_cons, List.length_nil, Nat.zero_add, Nat.reduceAdd, dDct, List.zip_cons_cons, List.zip_nil_left, List.zip_nil_right, staK, q_add_tt, q_add_ll, q_add_vl, q_add_lv, q_addF_ll, q_addF_vl, q_cut_t, q_cut_l, q_cut_v, q_cut_s, q_rev_t, q_rev_l, q_tuple_t, q_tuple_l, q_tuple_v, q_list_t, q_list_l, q_list_v, q_int_i, q_int_b, q_abs, q_max2, q_min2, q_l1, q_l2, q_int, q_own, q_val, q_own1, q_val1, q_two, q_three, List.cons_append, List.nil_append, List.mem_cons, List.not_mem_nil, or_false, forall_eq_or_imp, forall_eq, ne_eq, not_false_eq_true, q_in_t, q_in_l]
  exact ⟨by omega, fun rg hrg => loop 0 rg _ (by omega) (by omega) hrg, fun rg hrg => loop 0 rg _ (by omega) (by omega) hrg, fun rg hrg => loop 1 rg _ (by omega) (by omega) hrg, fun rg hrg => loop 2 rg _ (by omega) (by omega) hrg⟩
end
end RL
/-! text WR -/
/-! the indexes of the stretches that do not fit, as a law finds them -/
namespace RL
open PySem PySem.Spec PyProof.Rows L2 DL LP
theorem wrong_filter (l : Lamp) : ∀ (i : Int) (g : Lg), (enI i g).filterMap (fun p => if fitsB l p.2 = true then none else some (D.int p.1)) = (wrongI l i g).map D.int
  | _, [] => rfl
  | i, s :: g => by
    rw [enI, List.filterMap_cons, wrongI]
    have ih := wrong_filter l (i + 1) g
    by_cases hf : fitsB l s = true
    · simp only [hf, if_true]
      exact ih
    · have hf' : fitsB l s = false := by simpa using hf
      simp only [hf', Bool.false_eq_true, if_false, List.map_cons]
      rw [← ih]
theorem wrongI_mem {l : Lamp} : ∀ {i : Int} {g : Lg} {k : Int}, k ∈ wrongI l i g → i ≤ k ∧ k < i + g.length
  | i, s :: g, k, h => by
    unfold wrongI at h
    rw [List.length_cons]
    split at h
    · have := wrongI_mem h; omega
    · rcases List.mem_cons.mp h with e | e
      · omega
      · have := wrongI_mem e; omega
theorem wrongI_len {l : Lamp} : ∀ (i : Int) (g : Lg), (wrongI l i g).length ≤ g.length
  | _, [] => Nat.le_refl _
  | i, s :: g => by
    unfold wrongI
    rw [List.length_cons]
    have := wrongI_len (l := l) (i + 1) g
    split
    · omega
    · rw [List.length_cons]; omega
/-- a log that a law of the reel asks about -/
structure LogOk (g : Lg) : Prop where
  len : g.length ≤ 100
  ok : ∀ s ∈ g, s.1 < s.2 ∧ -10000000000 ≤ s.1 ∧ s.2 ≤ 10000000000
theorem LogOk.bp {g : Lg} (h : LogOk g) : ∀ s ∈ g, BP s := fun s hs => by
  have := h.ok s hs
  exact ⟨by unfold BI; omega, by unfold BI; omega⟩
theorem VLog.ok {b : Int} {g : Lg} (h : VLog b g) (hb : b ≤ 10000000000) : LogOk g := ⟨by have := h.len; omega, fun s hs => by have := h.mem hs; omega⟩
theorem tm_wrong {l : Lamp} {g : Lg} (h : LogOk g) : DL.Tm 101 1 (intsT (wrongI l 0 g)) :=
  (tm_intsT 100 (fun k hk => by have := wrongI_mem hk; have := h.len; unfold BI; omega) (by have := wrongI_len (l := l) 0 g; have := h.len; omega)).mono (by omega) (by omega)
end RL
/-! text K13a -/
namespace K13
open PySem PySem.Spec PyProof.Rows L2 DL
def top (i : Nat) : Stmt := PySem.Challenge.pw_lampstays_k13_quiet_minutes_and_calls.main.body.getD i (.Pass ⟨0, 0, 0, 0⟩)
abbrev R : PySem.W.OpenRow := PySem.W.OpenLaw.row PySem.Challenge.rw_lampstays_k13_quiet_minutes_and_calls
def dd (x : Str) (i : Nat) : He.DefD := ⟨(x, none), x, x, defArgs (top i), defBody (top i), defScope (top i), [], []⟩
def cst (i : Nat) : Stmt := match top i with
  | .ClassDef _ _ _ body _ _ _ _ _ _ _ => body.getD 0 (.Pass ⟨0, 0, 0, 0⟩)
  | _ => .Pass ⟨0, 0, 0, 0⟩
def di (x : Str) (i : Nat) : He.DefD := ⟨(x, some "__init__"), "__init__", x ++ ".__init__", defArgs (cst i), defBody (cst i), defScope (cst i), [], []⟩
def fn : List He.DefD := [dd "does_fit" 13, dd "wrong_stretches" 14, dd "require_fit" 15, dd "last_possible" 16, dd "quiet_spans" 17, dd "call_spans" 18, dd "_law_reel" 20, dd "_law_spin" 21, dd "_law_lamps" 22, dd "_law_minutes" 23, dd "_law_log" 24, dd "_law_logs" 25, dd "_law_bent" 26, dd "_law_scene" 27, dd "_law_fits" 28, dd "_law_quiet" 29, dd "_law_told" 30, dd "_law_due" 31, dd "law" 32, di "Unexplained" 8]
def fa : List He.Fa := [.int "MAX_MINUTE" 1000000000, .str "HOLD" "hold", .str "STRETCH" "stretch", .glo "does_fit", .glo "wrong_stretches", .glo "require_fit", .glo "last_possible", .glo "quiet_spans", .glo "call_spans", .glo "_law_reel", .glo "_law_spin", .glo "_law_lamps", .glo "_law_minutes", .glo "_law_log", .glo "_law_logs", .glo "_law_bent", .glo "_law_scene", .glo "_law_fits", .glo "_law_quiet", .glo "_law_told", .glo "_law_due", .glo "law", .free "ValueError", .free "abs", .free "enumerate", .free "int", .free "isinstance", .free "len", .free "list", .free "max", .free "min", .free "range", .free "repr", .free "tuple", .glo "BadLamp", .glo "BadLog", .glo "LampError", .glo "NoIndex", .glo "NoMinute", .glo "OtherCount", .glo "TooLarge", .glo "Unexplained"]
def ex : List (Str × Str) := [("NoIndex", "index"), ("NoMinute", "value"), ("OtherCount", "count"), ("Unexplained", "reason")]
def rel : List (Str × Str × Bool) := [("Unexplained", "BadLamp", false), ("Unexplained", "BadLog", false), ("Unexplained", "LampError", true), ("Unexplained", "NoIndex", false), ("Unexplained", "NoMinute", false), ("Unexplained", "OtherCount", false), ("Unexplained", "TooLarge", false), ("Unexplained", "Unexplained", true), ("Unexplained", "ValueError", true)]
abbrev hk : PySem.W.Hook := hookT 4 fa fn ex rel
def ob (s : PySem.W.SharedT) : He.AlD := obsTG 4 fa fn ex rel (HandSHeadRun.getT s)
theorem ob_eq (s : PySem.W.SharedT) : ob s = hk.obs s.abs := obsTG_eq (HandSHeadRun.getT_eq s)
def names : List PySem.Str := ["MAX_MINUTE", "HOLD", "STRETCH", "does_fit", "wrong_stretches", "require_fit", "last_possible", "quiet_spans", "call_spans", "_law_reel", "_law_spin", "_law_lamps", "_law_minutes", "_law_log", "_law_logs", "_law_bent", "_law_scene", "_law_fits", "_law_quiet", "_law_told", "_law_due", "BadLamp", "BadLog", "LampError", "NoIndex", "NoMinute", "OtherCount", "TooLarge", "Unexplained"]
theorem run (w : World) : HandSHeadRun.RunEq R (PySem.W.view R.prog [32]) hk ob 3000 names w := by
  intro os
  kernel_rfl
end K13
/-! text K13b -/
namespace K13
open PySem PySem.Spec PyProof.Rows L2 DL
section
variable {P : Program} {w : World} {K : PySem.W.Frag} {mg : Str → Option Value} {base : Heap} {f : Addr} {fd : FuncData}
theorem modb {m : Int} (x : Int) (h : 0 < m) (h2 : m ≤ 2 ^ 64) : -(2 ^ 64) < x % m ∧ x % m < 2 ^ 64 := by
  have p1 := Int.emod_nonneg x (Int.ne_of_gt h)
  have p2 := Int.emod_lt_of_pos x h
  omega
theorem sc_spin : FnScope ["reel", "many", "cells", "turn", "seat", "cell", "mixed"] ["reel", "many"] (defScope (top 21)) := ⟨rfl, rfl, rfl, by decide +kernel, rfl, by decide +kernel, by decide +kernel⟩
theorem draw_ok (F : Fun K "_law_spin" "_law_spin" (top 21) f fd) (m_len : mg "len" = none) : FnG P w K mg base 1 f fd ["reel", "many"] (spOf K ReelW 2 sp_spin) := by
  refine fn_g F sc_spin (fun vs H Q E q => q.1) fun cdv A outer s H vs Q E hr gu h => ⟨_, pss_cons (ps_asg (pv 0) (pg_lst rfl (pgs_cons (pg_name (i := 2) sc_spin.nd rfl (.inl rfl)) (pgs_cons (pg_name (i := 3) sc_spin.nd rfl (.inl rfl)) pgs_nil))))
   (pss_cons (ps_asg (pe_op op_add (pv 3) pe_int) (pg_sub (pv 0) pe_int set_list))
   (pss_cons (ps_set (i := 4) sc_spin.nd rfl (.inl rfl) (pe_op op_mod (pv 3) (pe_callB call_len_seq rfl m_len (by decide +kernel) (pa_cons (pv 2) pa_nil))))
   (pss_cons (ps_set (i := 5) sc_spin.nd rfl (.inl rfl) (pe_ix ix_list (pv 2) (pv 4) (fun _ _ => rfl)))
   (pss_cons (ps_if (pt_cmpR op_ge (pv 5) (pe_op op_pow pe_int pe_int) (nomark _)) (pss_cons (ps_asg (pe_op op_fdivW (pv 5) (pv 1)) (pg_sub (pv 2) (pv 4) set_list)) (pss_one (ps_ret (pe_op op_mod (pv 5) (pv 1))))) pss_nil)
   (pss_cons (ps_set (i := 6) sc_spin.nd rfl (.inl rfl) (pe_op op_add (pe_op op_mul (pe_op op_mod (pv 5) pe_int) pe_int) (pe_op op_mul (pe_op op_mul (pv 3) (pv 3)) pe_int)))
   (pss_cons (ps_set (i := 6) sc_spin.nd rfl (.inl rfl) (pe_op op_mod (pe_op op_add (pe_op op_add (pv 6) (pe_op op_mul pe_int (pv 3))) pe_int) pe_int))
   (pss_cons (ps_set (i := 6) sc_spin.nd rfl (.inl rfl) (pe_op op_mod (pe_op op_mul (pe_op op_mod (pe_op op_mul (pv 6) (pv 6)) pe_int) pe_int) pe_int))
   (pss_one (ps_ret (pe_op op_mod (pe_op op_fdivW (pe_op op_mod (pe_op op_mul (pv 6) (pe_op op_add (pe_op op_add (pv 6) (pe_op op_mul pe_int (pv 3))) pe_int)) pe_int) pe_int) (pv 1))))))))))), ?_⟩
  obtain ⟨hlen, ds, μ, S, R, Ed, ok, rd, st, ⟨p, l, n, many, rfl, rfl, hn, hm0, hm1, hR⟩, hQ, hE⟩ := h
  obtain ⟨v0, vs1, rfl, r0, v1, vs2, rfl, r1, rfl⟩ := rd
  cases r0
  cases r1
  have hret : ∀ (H' : Hp) (m : Int), DrP p l H H' → ReelAt p l (n + 1) H' → 0 ≤ m → m < many → Q (.int m) H' := fun H' m d j h0 h1 => hQ (.int m) (.int m) (rs p l (n + 1)) S H' (d.ext ok j) rfl rfl (hR m h0 h1)
  obtain ⟨cells, turn, h1, h2, hc0, hc1, npl, ht0, htn⟩ := ok.j
  have htn : turn ≤ (n : Int) := htn
  refine ⟨_, rfl, p, _, rfl, SqL.of h1, rfl, _, _, rfl, _, _, rfl, rfl, ?_⟩
  refine ⟨_, rfl, _, _, rfl, rfl, _, rfl, p, _, 1, 1, rfl, rfl, h1, rfl, ?_⟩
  have dr1 := (DrP.refl (p := p) (l := l) (H := H)).upd (o := .lst [.ref l, .int (turn + 1)]) (x := p) (.inl rfl)
  have k1 : upd H p (.lst [.ref l, .int (turn + 1)]) p = some (.lst [.ref l, .int (turn + 1)]) := upd_same
  have k2 := (upd_ne (H := H) (o := .lst [.ref l, .int (turn + 1)]) (Ne.symm npl)).trans h2
  have p0 : (0 : Int) < cells.length := by omega
  have p1 := Int.emod_nonneg turn (Int.ne_of_gt p0)
  have p2 := Int.emod_lt_of_pos turn p0
  have p3 : (turn % (cells.length : Int)).toNat < cells.length := by omega
  have hi : ixN (cells.map V.int).length (turn % (cells.length : Int)) = some (turn % (cells.length : Int)).toNat := by
    unfold ixN
    rw [if_pos p1, List.length_map, if_pos (by omega)]
  have hc : atI (cells.map V.int) (turn % (((cells.map V.int).length : Nat) : Int)) = some (.int (cells[(turn % (cells.length : Int)).toNat]'p3)) := by
    unfold atI
    rw [List.length_map]
    rw [List.length_map] at hi
    rw [hi]
    show (cells.map V.int)[(turn % (cells.length : Int)).toNat]? = _
    rw [List.getElem?_map, List.getElem?_eq_getElem p3] <;> rfl
  generalize cells[(turn % (cells.length : Int)).toNat]'p3 = c at hc
  refine ⟨_, rfl, _, rfl, l, _, rfl, .inl (SqL.of k2), _, _, rfl, rfl, by rw [List.length_map]; show (0 : Int) < _; omega, ?_⟩
  refine ⟨_, rfl, _, rfl, l, _, _, _, rfl, rfl, SqL.of k2, hc, ?_⟩
  refine ⟨_, rfl, _, _, rfl, rfl, ⟨by decide, by decide⟩, _, _, rfl, rfl, _, rfl, ?_⟩
  have jj : ∀ {H' : Hp} {cs : List Int}, H' p = some (.lst [.ref l, .int (turn + 1)]) → H' l = some (.lst (cs.map V.int)) → cs.length = cells.length → ReelAt p l (n + 1) H' := fun a b e => ⟨_, turn + 1, a, b, by omega, by omega, npl, by omega, by omega⟩
  by_cases hbig : (10 : Int) ^ (18 : Int).toNat ≤ c
  · refine itT (decide_eq_true hbig) ?_
    have hdiv : CDivW c many := wide_div (b := 64) hm0 (by omega) (by decide) (by decide)
    refine ⟨_, rfl, _, rfl, _, _, rfl, rfl, hdiv, _, rfl, _, rfl, l, _, _, _, rfl, rfl, k2, by rw [List.length_map]; rw [List.length_map] at hi; exact hi, ?_⟩
    refine ⟨_, rfl, _, rfl, _, _, rfl, rfl, hm0, ?_⟩
    refine hret _ _ (dr1.upd (.inr rfl)) (jj (cs := cells.set (turn % (cells.length : Int)).toNat (c / many)) ((upd_ne npl).trans k1) (upd_same.trans (by rw [List.map_set])) (by simp)) (Int.emod_nonneg _ (Int.ne_of_gt hm0)) (Int.emod_lt_of_pos _ hm0)
  · refine itF (by simpa using hbig) ?_
    have tb : -(2 ^ 64) < turn ∧ turn < 2 ^ 64 := by omega
    refine ⟨_, rfl, _, _, rfl, rfl, by show (0 : Int) < _; decide, _, _, rfl, rfl, .inr ⟨by decide, by decide⟩, _, rfl, _, rfl, _, _, rfl, rfl, .inl tb, _, _, rfl, rfl, .inr ⟨by decide, by decide⟩, _, _, rfl, rfl, ?_⟩
    refine ⟨_, rfl, _, rfl, _, _, rfl, rfl, .inl ⟨by decide, by decide⟩, _, _, rfl, rfl, _, _, rfl, rfl, _, _, rfl, rfl, by show (0 : Int) < _; decide, ?_⟩
    refine ⟨_, rfl, _, rfl, _, _, rfl, rfl, .inl (modb _ (by decide) (by decide)), _, _, rfl, rfl, by show (0 : Int) < _; decide, _, _, rfl, rfl, .inr ⟨by decide, by decide⟩, _, _, rfl, rfl, by show (0 : Int) < _; decide, ?_⟩
    refine ⟨_, rfl, _, rfl, _, rfl, _, _, rfl, rfl, .inl ⟨by decide, by decide⟩, _, _, rfl, rfl, _, _, rfl, rfl, _, _, rfl, rfl, .inl (modb _ (by decide) (by decide)), _, _, rfl, rfl, by show (0 : Int) < _; decide, _, _, rfl, rfl, ⟨by decide, by decide⟩, _, rfl, _, _, rfl, rfl, hm0, ?_⟩
    exact hret _ _ dr1 (jj k1 k2 rfl) (Int.emod_nonneg _ (Int.ne_of_gt hm0)) (Int.emod_lt_of_pos _ hm0)
end
end K13
/-! text K13s -/
namespace K13
open PySem PySem.Spec PyProof.Rows L2 DL LP RL
def spT__law_told : ∀ M : Type, Th M → M → (D → M → Prop) → Prop := fun M th μ R => th μ (fun d μ' => R (.tup [.str "result", d]) μ') (fun x μ' => ∃ r, x = unexX r ∧ sta r = true ∧ R (.tup [.str "Unexplained", r]) μ')
/-- what the law expects: the answer, or the first wrong stretch -/
def dueD (l : Lamp) (g : Lg) (ok : D) : D := match wrongI l 0 g with
  | [] => .tup [.str "result", ok]
  | w :: _ => .tup [.str "Unexplained", .tup [.str "stretch", .int 0, .int w]]
/-- the quiet spans as the law finds them -/
def quietL (l : Lamp) : Int → Lg → Lg
  | first, [] => if first ≤ 1000000000 then [(first, 1000000000)] else []
  | first, s :: g => (if first < s.1 then [(first, s.1 - 1)] else []) ++ quietL l (if l.1 = true then s.2 - l.2 + 1 else s.2) g
structure LogG (g : Lg) : Prop where
  ok : LogOk g
  asc : AscP (-1) g
def sp__law_quiet : SpD ReelW := fun ds μ R _ => ∃ l g, ds = [lampD l, logD g] ∧ LampOk 10000 l ∧ LogOk g ∧ R (.lst ((quietL l 0 g).map pD)) μ
def sp__law_due : SpD ReelW := fun ds μ R _ => ∃ way l g, ds = [.int way, lampD l, logD g] ∧ LampOk 10000 l ∧ LogG g ∧ R (dueD l g (logD (if way = 0 then quietI l 0 g else callsI l g))) μ
def sp_law : SpD ReelW := fun ds μ R _ => ∃ ns, ds = [.scr ns] ∧ ns.length ≤ 63 ∧ μ = none ∧ ∀ μ', R (.bl true) μ'
theorem law_start : ∀ ns : List Int, ns.length ≤ 63 → (∀ z ∈ ns, Builtin.Int.intBits z ≤ 1048576) → sp_law [.scr ns] none (fun d _ => d = .bl true) fun _ _ => False := fun ns h _ => ⟨ns, rfl, h, rfl, fun q => rfl⟩
end K13
/-! text K13t -/
/-! the readings of the defs: printed by gen/mk.py -/
namespace K13
open PySem PySem.Spec PyProof.Rows L2 DL LP RL
theorem sc_does_fit : FnScope N_does_fit ps_does_fit (defScope (top 13)) := ⟨rfl, rfl, rfl, by decide +kernel, rfl, by decide +kernel, by decide +kernel⟩
theorem sc_wrong_stretches : FnScope N_wrong_stretches ps_wrong_stretches (defScope (top 14)) := ⟨rfl, rfl, rfl, by decide +kernel, rfl, by decide +kernel, by decide +kernel⟩
theorem sc_require_fit : FnScope N_require_fit ps_require_fit (defScope (top 15)) := ⟨rfl, rfl, rfl, by decide +kernel, rfl, by decide +kernel, by decide +kernel⟩
theorem sc_last_possible : FnScope N_last_possible ps_last_possible (defScope (top 16)) := ⟨rfl, rfl, rfl, by decide +kernel, rfl, by decide +kernel, by decide +kernel⟩
theorem sc_quiet_spans : FnScope N_quiet_spans ps_quiet_spans (defScope (top 17)) := ⟨rfl, rfl, rfl, by decide +kernel, rfl, by decide +kernel, by decide +kernel⟩
theorem sc_call_spans : FnScope N_call_spans ps_call_spans (defScope (top 18)) := ⟨rfl, rfl, rfl, by decide +kernel, rfl, by decide +kernel, by decide +kernel⟩
theorem sc__law_reel : FnScope N__law_reel ps__law_reel (defScope (top 20)) := ⟨rfl, rfl, rfl, by decide +kernel, rfl, by decide +kernel, by decide +kernel⟩
theorem sc__law_lamps : FnScope N__law_lamps ps__law_lamps (defScope (top 22)) := ⟨rfl, rfl, rfl, by decide +kernel, rfl, by decide +kernel, by decide +kernel⟩
theorem sc__law_minutes : FnScope N__law_minutes ps__law_minutes (defScope (top 23)) := ⟨rfl, rfl, rfl, by decide +kernel, rfl, by decide +kernel, by decide +kernel⟩
theorem sc__law_log : FnScope N__law_log ps__law_log (defScope (top 24)) := ⟨rfl, rfl, rfl, by decide +kernel, rfl, by decide +kernel, by decide +kernel⟩
theorem sc__law_logs : FnScope N__law_logs ps__law_logs (defScope (top 25)) := ⟨rfl, rfl, rfl, by decide +kernel, rfl, by decide +kernel, by decide +kernel⟩
theorem sc__law_bent : FnScope N__law_bent ps__law_bent (defScope (top 26)) := ⟨rfl, rfl, rfl, by decide +kernel, rfl, by decide +kernel, by decide +kernel⟩
theorem sc__law_scene : FnScope N__law_scene ps__law_scene (defScope (top 27)) := ⟨rfl, rfl, rfl, by decide +kernel, rfl, by decide +kernel, by decide +kernel⟩
theorem sc__law_fits : FnScope N__law_fits ps__law_fits (defScope (top 28)) := ⟨rfl, rfl, rfl, by decide +kernel, rfl, by decide +kernel, by decide +kernel⟩
def N__law_quiet : List Str := ["lamp", "log", "kind", "stay", "found", "first", "on", "off"]
def ps__law_quiet : List Str := ["lamp", "log"]
def s__law_quiet_0 : DTS ReelW :=
  (dsAsg (dVar 0) (dgTup 2 (dgCons (dName 2) (dgCons (dName 3) dgNil))))
def s__law_quiet_1 : DTS ReelW :=
  (dsPar2 4 5 (dpE (dFrz (dLst dNil)) (dpE (dC (.int 0)) dpNil)))
def s__law_quiet_2f_0 : DTS ReelW :=
  (dsAsg (d2 smAdd (dVar 4) (d2 smMul (dFrz (dLst (dCons (dTup (dCons (dVar 5) (dCons (d2 smSub (dVar 6) (dC (.int 1))) dNil))) dNil))) (dL smInt (dCons (d2 smLt (dVar 5) (dVar 6)) dNil)))) (dName 4))
def s__law_quiet_2f_1 : DTS ReelW :=
  (dsAsg (dIf (dB (d2 smEq (dVar 2) (dC (.str "hold")))) (d2 smAdd (d2 smSub (dVar 7) (dVar 3)) (dC (.int 1))) (dVar 7)) (dName 5))
def l__law_quiet_2 : DTS ReelW :=
  (dsSeq s__law_quiet_2f_0
    s__law_quiet_2f_1)
def s__law_quiet_2 : DTS ReelW :=
  (dsFor (dSeq (dVar 1)) (dgTup 2 (dgCons (dName 6) (dgCons (dName 7) dgNil)))
   l__law_quiet_2)
def s__law_quiet_3 : DTS ReelW :=
  (dsRet (d2 smAdd (dVar 4) (d2 smMul (dFrz (dLst (dCons (dTup (dCons (dVar 5) (dCons (dC (.int (1000000000))) dNil))) dNil))) (dL smInt (dCons (d2 smLe (dVar 5) (dC (.int (1000000000)))) dNil)))))
def t__law_quiet : DTS ReelW :=
  (dsSeq s__law_quiet_0
    (dsSeq s__law_quiet_1
    (dsSeq s__law_quiet_2
    s__law_quiet_3)))
theorem sc__law_quiet : FnScope N__law_quiet ps__law_quiet (defScope (top 29)) := ⟨rfl, rfl, rfl, by decide +kernel, rfl, by decide +kernel, by decide +kernel⟩
def N__law_told : List Str := ["call", "found", "error"]
def ps__law_told : List Str := ["call"]
def t__law_told {M : Type} (f0 : Addr) (th : Th M) : DTS0 M :=
  (dsSeq (dsOwn 1 (dLst dNil))
    (dsSeq (dsTryAs 2 ["Unexplained"] "LampError" (dsRet (dTup (dCons (dC (.str "result")) (dCons (dAct 0 f0 th) dNil)))) (fun ea ec ed => (dsSeq (dsIf (dTru (dIsE ea ec ed 2 ["Unexplained"] ["OtherCount"])) (dsApp 1 (dTup (dCons (dC (.str "OtherCount")) (dCons (dXf ea ec ed 2 "OtherCount" "count") dNil)))) dsNext)
    (dsSeq (dsIf (dTru (dIsE ea ec ed 2 ["Unexplained"] ["Unexplained"])) (dsApp 1 (dTup (dCons (dC (.str "Unexplained")) (dCons (dXf ea ec ed 2 "Unexplained" "reason") dNil)))) dsNext)
    (dsSeq (dsIf (dTru (dIsE ea ec ed 2 ["Unexplained"] ["NoMinute"])) (dsApp 1 (dTup (dCons (dC (.str "NoMinute")) (dCons (dXf ea ec ed 2 "NoMinute" "value") dNil)))) dsNext)
    (dsSeq (dsIf (dTru (dIsE ea ec ed 2 ["Unexplained"] ["NoIndex"])) (dsApp 1 (dTup (dCons (dC (.str "NoIndex")) (dCons (dXf ea ec ed 2 "NoIndex" "index") dNil)))) dsNext)
    (dsIf (dOr (dNot (dTru (dIsE ea ec ed 2 ["Unexplained"] ["ValueError"]))) (dTru (dIsE ea ec ed 2 ["Unexplained"] ["BadLamp", "BadLog", "TooLarge"]))) (dsApp 1 (dTup (dCons (dC (.str "other")) dNil))) dsNext)))))))
    (dsRet (dIf (dB (d2 smEq (dL smLen (dCons (dVar 1) dNil)) (dC (.int 1)))) (d2 smIx (dVar 1) (dC (.int 0))) (dTup (dCons (dC (.str "other")) dNil))))))
theorem sc__law_told : FnScope N__law_told ps__law_told (defScope (top 30)) := ⟨rfl, rfl, rfl, by decide +kernel, rfl, by decide +kernel, by decide +kernel⟩
def N__law_due : List Str := ["way", "lamp", "log", "wrong", "stay", "spans", "k", "on", "off"]
def ps__law_due : List Str := ["way", "lamp", "log"]
def s__law_due_0 : DTS ReelW :=
  (dsAsg (dFrz (dComp (dRg1 (dCons (dL smLen (dCons (dVar 2) dNil)) dNil)) (dName 6) (dNot (dTru (dCall sp__law_fits (dCons (dVar 1) (dCons (d2 smIx (dVar 2) (dVar 6)) dNil))))) (dVar 6) [6])) (dName 3))
def s__law_due_1a_0 : DTS ReelW :=
  (dsRet (dTup (dCons (dC (.str "Unexplained")) (dCons (dTup (dCons (dC (.str "stretch")) (dCons (dC (.int 0)) (dCons (d2 smIx (dVar 3) (dC (.int 0))) dNil)))) dNil))))
def s__law_due_1 : DTS ReelW :=
  (dsIf (dB (d2 smNe (dVar 3) (dFrz (dLst dNil)))) s__law_due_1a_0 dsNext)
def s__law_due_2a_0 : DTS ReelW :=
  (dsRet (dTup (dCons (dC (.str "result")) (dCons (dL smTuple (dCons (dCall sp__law_quiet (dCons (dVar 1) (dCons (dVar 2) dNil))) dNil)) dNil))))
def s__law_due_2 : DTS ReelW :=
  (dsIf (dB (d2 smEq (dVar 0) (dC (.int 0)))) s__law_due_2a_0 dsNext)
def s__law_due_3 : DTS ReelW :=
  (dsAsg (d2 smIx (dVar 1) (dC (.int 1))) (dName 4))
def s__law_due_4 : DTS ReelW :=
  (dsAsg (dFrz (dComp (dSeqC (dVar 2)) (dgTup 2 (dgCons (dName 7) (dgCons (dName 8) dgNil))) (dAnd (dB (d2 smEq (d2 smIx (dVar 1) (dC (.int 0))) (dC (.str "hold")))) (dB (d2 smGe (d2 smSub (dVar 8) (dVar 7)) (d2 smSub (d2 smMul (dC (.int 2)) (dVar 4)) (dC (.int 1)))))) (dTup (dCons (dVar 7) (dCons (d2 smSub (dVar 8) (dVar 4)) dNil))) [7, 8])) (dName 5))
def s__law_due_5 : DTS ReelW :=
  (dsRet (dTup (dCons (dC (.str "result")) (dCons (dL smTuple (dCons (dVar 5) dNil)) dNil))))
def t__law_due : DTS ReelW :=
  (dsSeq s__law_due_0
    (dsSeq s__law_due_1
    (dsSeq s__law_due_2
    (dsSeq s__law_due_3
    (dsSeq s__law_due_4
    s__law_due_5)))))
theorem sc__law_due : FnScope N__law_due ps__law_due (defScope (top 31)) := ⟨rfl, rfl, rfl, by decide +kernel, rfl, by decide +kernel, by decide +kernel⟩
def N_law : List Str := ["script", "reel", "turn", "lamps", "logs", "stay", "far", "wide", "shown", "told", "again", "first", "due", "lamp", "log"]
def ps_law : List Str := ["script"]
def s_law_0 : DTS ReelW :=
  (dsAsg (dCall sp__law_reel (dCons (dVar 0) dNil)) (dName 1))
def s_law_1f_0 : DTS ReelW :=
  (dsAsg (dCall sp__law_scene (dCons (dVar 1) (dCons (dC (.int 3)) (dCons (d2 smIx (dFrz (dLst (dCons (dC (.int 3)) (dCons (dC (.int 12)) (dCons (dC (.int (10000))) dNil))))) (d2 smMod (dVar 2) (dC (.int 3)))) (dCons (dC (.int 30)) dNil))))) (dgTup 2 (dgCons (dName 3) (dgCons (dName 4) dgNil))))
def s_law_1f_1f_0 : DTS ReelW :=
  (dsAsg (d2 smIx (dVar 13) (dC (.int 1))) (dName 5))
def s_law_1f_1f_1 : DTS ReelW :=
  (dsAsg (dTup (dCons (dTup (dCons (dC (.int 0)) (dCons (d2 smMul (dC (.int 2)) (dVar 5)) dNil))) (dCons (dTup (dCons (d2 smSub (dC (.int (1000000000))) (d2 smMul (dC (.int 3)) (dVar 5))) (dCons (d2 smAdd (dC (.int (1000000000))) (d2 smMul (dVar 5) (dCall sp__law_spin (dCons (dVar 1) (dCons (dC (.int 2)) dNil))))) dNil))) dNil))) (dName 6))
def s_law_1f_1f_2 : DTS ReelW :=
  (dsAsg (dTup (dCons (dTup (dCons (dC (.int 3)) (dCons (d2 smSub (d2 smAdd (dC (.int 3)) (d2 smMul (dC (.int 2)) (dVar 5))) (dC (.int 1))) dNil))) (dCons (dTup (dCons (dC (.int (1000000))) (dCons (d2 smAdd (dC (.int (1000000))) (d2 smMul (dC (.int 2)) (dVar 5))) dNil))) (dCons (dTup (dCons (dC (.int (10000000))) (dCons (d2 smAdd (dC (.int (10000000))) (dVar 5)) dNil))) dNil)))) (dName 7))
def s_law_1f_1f_3f_0 : DTS ReelW :=
  (dsPar2 8 9 (dpE (dL smShow (dCons (dFrz (dLst (dCons (dVar 13) (dCons (dVar 14) dNil)))) dNil)) (dpF (dLst dNil) dpNil)))
def s_law_1f_1f_3f_1f_0 : DTS ReelW :=
  (dsAsg (dLam spT__law_told (dCall sp_quiet_spans (dCons (dVar 13) (dCons (dVar 14) dNil)))) (dName 11))
def s_law_1f_1f_3f_1f_1 : DTS ReelW :=
  (dsApp 9 (dFrz (dLst (dCons (dVar 11) (dCons (dLam spT__law_told (dCall sp_call_spans (dCons (dVar 13) (dCons (dVar 14) dNil)))) dNil)))))
def l_law_1f_1f_3f_1 : DTS ReelW :=
  (dsSeq s_law_1f_1f_3f_1f_0
    s_law_1f_1f_3f_1f_1)
def s_law_1f_1f_3f_1 : DTS ReelW :=
  (dsFor (dRg1 (dCons (dC (.int 2)) dNil)) (dName 10)
   l_law_1f_1f_3f_1)
def s_law_1f_1f_3f_2 : DTS ReelW :=
  (dsAsg (dFrz (dLst (dCons (dCall sp__law_due (dCons (dC (.int 0)) (dCons (dVar 13) (dCons (dVar 14) dNil)))) (dCons (dCall sp__law_due (dCons (dC (.int 1)) (dCons (dVar 13) (dCons (dVar 14) dNil)))) dNil)))) (dName 12))
def s_law_1f_1f_3f_3 : DTS ReelW :=
  (dsIf (dOr (dB (d2 smNe (dL smShow (dCons (dVar 9) dNil)) (dL smShow (dCons (dFrz (dLst (dCons (dVar 12) (dCons (dVar 12) dNil)))) dNil)))) (dB (d2 smNe (dL smShow (dCons (dFrz (dLst (dCons (dVar 13) (dCons (dVar 14) dNil)))) dNil)) (dVar 8)))) (dsRet (dC (.bl false))) dsNext)
def l_law_1f_1f_3 : DTS ReelW :=
  (dsSeq s_law_1f_1f_3f_0
    (dsSeq s_law_1f_1f_3f_1
    (dsSeq s_law_1f_1f_3f_2
    s_law_1f_1f_3f_3)))
def s_law_1f_1f_3 : DTS ReelW :=
  (dsFor (dSeq (d2 smAdd (dVar 4) (dTup (dCons (dVar 6) (dCons (dVar 7) (dCons (dTup dNil) dNil)))))) (dName 14)
   l_law_1f_1f_3)
def l_law_1f_1 : DTS ReelW :=
  (dsSeq s_law_1f_1f_0
    (dsSeq s_law_1f_1f_1
    (dsSeq s_law_1f_1f_2
    s_law_1f_1f_3)))
def s_law_1f_1 : DTS ReelW :=
  (dsFor (dSeq (dVar 3)) (dName 13)
   l_law_1f_1)
def l_law_1 : DTS ReelW :=
  (dsSeq s_law_1f_0
    s_law_1f_1)
def s_law_1 : DTS ReelW :=
  (dsFor (dRg1 (dCons (dC (.int 8)) dNil)) (dName 2)
   l_law_1)
def s_law_2 : DTS ReelW :=
  (dsRet (d2 smEq (dCall sp_quiet_spans (dCons (dTup (dCons (dC (.str "pulse")) (dCons (dC (.int 5)) dNil))) (dCons (dTup (dCons (dTup (dCons (dC (.int (999999997))) (dCons (dC (.int (1000000002))) dNil))) dNil)) dNil))) (dTup (dCons (dTup (dCons (dC (.int 0)) (dCons (dC (.int (999999996))) dNil))) dNil))))
def t_law : DTS ReelW :=
  (dsSeq s_law_0
    (dsSeq s_law_1
    s_law_2))
def q_law : Str := (envOfC "law" (defScope (top 32)) 0 0 .none).qual ++ "<lambda>"
theorem sc_law : FnScope N_law ps_law (defScope (top 32)) := ⟨rfl, rfl, rfl, by decide +kernel, rfl, by decide +kernel, by decide +kernel⟩
end K13
/-! text K13u -/
/-! the defs read by the rules: printed by gen/mk.py -/
namespace K13
open PySem PySem.Spec PyProof.Rows L2 DL LP RL
section
variable {P : Program} {w : World} {K : PySem.W.Frag} {mg : Str → Option Value} {base : Heap} {f : Addr} {fd : FuncData}
theorem b_does_fit {k_HOLD : Tok} (m_HOLD : mg "HOLD" = some (.str "hold" k_HOLD)) {k_MAX_MINUTE : Tok} (m_MAX_MINUTE : mg "MAX_MINUTE" = some (.int 1000000000 k_MAX_MINUTE)) (cdv : Value) (A : Around) (outer : List PySem.Env) (s : Shared) (H : Hp) (E : XK) (hr : Room 0 (A.deeper (envOfC "does_fit" (defScope (top 13)) s.heap.objs.size f cdv))) (gu : (A.deeper (envOfC "does_fit" (defScope (top 13)) s.heap.objs.size f cdv)).guards = some []) :
    DSs ReelW (Fm.one (cxOf (L2.CX P w) P w K mg base N_does_fit "does_fit" (defScope (top 13)) f cdv A outer s H E)) (fun cls d _ H' => E cls d H') (defBody (top 13)) t_does_fit := by
  have un := hr.un
  exact (dss_cons (ds_asg (dx_var fun _ => pv 0) (dg_tup (fun _ => rfl) (dgs_cons (dg_name (fun _ => sc_does_fit.nd) (fun _ => rfl) (fun _ => .inl rfl)) (dgs_cons (dg_name (fun _ => sc_does_fit.nd) (fun _ => rfl) (fun _ => .inl rfl)) dgs_nil))))
    (dss_cons (ds_asg (dx_var fun _ => pv 1) (dg_tup (fun _ => rfl) (dgs_cons (dg_name (fun _ => sc_does_fit.nd) (fun _ => rfl) (fun _ => .inl rfl)) (dgs_cons (dg_name (fun _ => sc_does_fit.nd) (fun _ => rfl) (fun _ => .inl rfl)) dgs_nil))))
    (dss_cons (ds_if (db_cmp od_gt (dx_op od_sub (dx_var fun _ => pv 5) (dx_var fun _ => pv 3)) (dx_gint (fun _ => rfl) fun _ => m_MAX_MINUTE) (nomark _)) (dss_one (ds_ret dx_bl)) dss_nil)
    (dss_one (ds_ret (dx_if (db_cmp (od_eq (fun _ => un_of hr)) (dx_var fun _ => pv 2) (dx_gstr (fun _ => rfl) fun _ => m_HOLD) (nomark _)) (dx_cmp od_ge (dx_op od_sub (dx_var fun _ => pv 5) (dx_var fun _ => pv 4)) (dx_var fun _ => pv 3) (nomark _)) (dx_cmp (od_eq (fun _ => un_of hr)) (dx_op od_mod (dx_op od_sub (dx_var fun _ => pv 5) (dx_var fun _ => pv 4)) (dx_var fun _ => pv 3)) dx_int (nomark _))))))))
theorem b_wrong_stretches {f_does_fit : Addr} {fd_does_fit : FuncData} (n_does_fit : Kn P w K mg base "does_fit" 1 ps_does_fit f_does_fit fd_does_fit (spOf K ReelW 2 sp_does_fit)) (m_enumerate : mg "enumerate" = none) (m_tuple : mg "tuple" = none) (cdv : Value) (A : Around) (outer : List PySem.Env) (s : Shared) (H : Hp) (E : XK) (hr : Room 1 (A.deeper (envOfC "wrong_stretches" (defScope (top 14)) s.heap.objs.size f cdv))) (gu : (A.deeper (envOfC "wrong_stretches" (defScope (top 14)) s.heap.objs.size f cdv)).guards = some []) :
    DSs ReelW (Fm.one (cxOf (L2.CX P w) P w K mg base N_wrong_stretches "wrong_stretches" (defScope (top 14)) f cdv A outer s H E)) (fun cls d _ H' => E cls d H') (defBody (top 14)) t_wrong_stretches := by
  have un := hr.un
  exact (dss_one (ds_ret (dx_callTy cd_tuple (fun _ => rfl) (fun _ => m_tuple) (by decide +kernel) (da_cons (dx_frz (df_comp (own := [("index", 2), ("stretch", 3)]) (fun _ => rfl) (fun _ => sc_wrong_stretches.nd) (dic_enum (fun _ => rfl) (fun _ => m_enumerate) (dx_var fun _ => pv 1)) (fun _ => blkOk_by (N := N_wrong_stretches) (sc := defScope (top 14)) (by decide +kernel)) (dg_tup (fun _ => rfl) (dgs_cons (dg_name (fun _ => sc_wrong_stretches.nd) (fun _ => rfl) (fun _ => .inl rfl)) (dgs_cons (dg_name (fun _ => sc_wrong_stretches.nd) (fun _ => rfl) (fun _ => .inl rfl)) dgs_nil))) (by decide) (dts_one (db_not (db_tru (dx_call (fun _ => n_does_fit.G) (fun _ => hr.mono (by decide)) (fun _ => gu) (fun _ => rfl) (fun _ => n_does_fit.m) (fun _ => n_does_fit.kp) (fun _ => n_does_fit.bd) (fun _ => takes0) (da_cons (dx_var fun _ => pv 0) (da_cons (dx_var fun _ => pv 3) da_nil))) (fun _ _ => rfl)))) (dx_var fun _ => pv 2))) da_nil))))
theorem b_require_fit {f_wrong_stretches : Addr} {fd_wrong_stretches : FuncData} (n_wrong_stretches : Kn P w K mg base "wrong_stretches" 2 ps_wrong_stretches f_wrong_stretches fd_wrong_stretches (spOf K ReelW 2 sp_wrong_stretches)) {k_STRETCH : Tok} (m_STRETCH : mg "STRETCH" = some (.str "stretch" k_STRETCH)) (kx_Unexplained : KEx P w K mg base "Unexplained" "reason") (cdv : Value) (A : Around) (outer : List PySem.Env) (s : Shared) (H : Hp) (E : XK) (hr : Room 2 (A.deeper (envOfC "require_fit" (defScope (top 15)) s.heap.objs.size f cdv))) (gu : (A.deeper (envOfC "require_fit" (defScope (top 15)) s.heap.objs.size f cdv)).guards = some []) :
    DSs ReelW (Fm.one (cxOf (L2.CX P w) P w K mg base N_require_fit "require_fit" (defScope (top 15)) f cdv A outer s H E)) (fun cls d _ H' => E cls d H') (defBody (top 15)) t_require_fit := by
  have un := hr.un
  exact (dss_cons (ds_set (dx_call (fun _ => n_wrong_stretches.G) (fun _ => hr.mono (by decide)) (fun _ => gu) (fun _ => rfl) (fun _ => n_wrong_stretches.m) (fun _ => n_wrong_stretches.kp) (fun _ => n_wrong_stretches.bd) (fun _ => takes_of rfl rfl rfl rfl) (da_cons (dx_var fun _ => pv 0) (da_cons (dx_var fun _ => pv 1) da_nil))) (fun _ => sc_require_fit.nd) (fun _ => rfl) (fun _ => .inl rfl))
    (dss_one (ds_if (db_cmp (od_ne (fun _ => un_of hr)) (dx_var fun _ => pv 2) (dx_tup da_nil) (nomark _)) (dss_one (ds_raise (fun _ => kx_Unexplained) (fun _ => hr.mono (by decide)) (fun _ => rfl) (fun _ => rfl) (fun _ => takes_of rfl rfl rfl rfl) (dx_tup (da_cons (dx_gstr (fun _ => rfl) fun _ => m_STRETCH) (da_cons dx_int (da_cons (dx_ix (dx_var fun _ => pv 2) dx_int) da_nil)))))) dss_nil)))
theorem b_last_possible {k_HOLD : Tok} (m_HOLD : mg "HOLD" = some (.str "hold" k_HOLD)) {k_MAX_MINUTE : Tok} (m_MAX_MINUTE : mg "MAX_MINUTE" = some (.int 1000000000 k_MAX_MINUTE)) (m_min : mg "min" = none) (cdv : Value) (A : Around) (outer : List PySem.Env) (s : Shared) (H : Hp) (E : XK) (hr : Room 0 (A.deeper (envOfC "last_possible" (defScope (top 16)) s.heap.objs.size f cdv))) (gu : (A.deeper (envOfC "last_possible" (defScope (top 16)) s.heap.objs.size f cdv)).guards = some []) :
    DSs ReelW (Fm.one (cxOf (L2.CX P w) P w K mg base N_last_possible "last_possible" (defScope (top 16)) f cdv A outer s H E)) (fun cls d _ H' => E cls d H') (defBody (top 16)) t_last_possible := by
  have un := hr.un
  exact (dss_cons (ds_asg (dx_var fun _ => pv 0) (dg_tup (fun _ => rfl) (dgs_cons (dg_name (fun _ => sc_last_possible.nd) (fun _ => rfl) (fun _ => .inl rfl)) (dgs_cons (dg_name (fun _ => sc_last_possible.nd) (fun _ => rfl) (fun _ => .inl rfl)) dgs_nil))))
    (dss_one (ds_ret (dx_if (db_cmp (od_eq (fun _ => un_of hr)) (dx_var fun _ => pv 2) (dx_gstr (fun _ => rfl) fun _ => m_HOLD) (nomark _)) (dx_op od_sub (dx_ix (dx_var fun _ => pv 1) dx_int) (dx_var fun _ => pv 3)) (dx_callB (cd_min2 (fun _ => rfl)) (fun _ => rfl) (fun _ => m_min) (by decide +kernel) (da_cons (dx_op od_sub (dx_ix (dx_var fun _ => pv 1) dx_int) dx_int) (da_cons (dx_gint (fun _ => rfl) fun _ => m_MAX_MINUTE) da_nil)))))))
theorem b_quiet_spans {f_require_fit : Addr} {fd_require_fit : FuncData} (n_require_fit : Kn P w K mg base "require_fit" 3 ps_require_fit f_require_fit fd_require_fit (spOf K ReelW 2 sp_require_fit)) {f_last_possible : Addr} {fd_last_possible : FuncData} (n_last_possible : Kn P w K mg base "last_possible" 1 ps_last_possible f_last_possible fd_last_possible (spOf K ReelW 2 sp_last_possible)) {k_MAX_MINUTE : Tok} (m_MAX_MINUTE : mg "MAX_MINUTE" = some (.int 1000000000 k_MAX_MINUTE)) (m_tuple : mg "tuple" = none) (cdv : Value) (A : Around) (outer : List PySem.Env) (s : Shared) (H : Hp) (E : XK) (hr : Room 3 (A.deeper (envOfC "quiet_spans" (defScope (top 17)) s.heap.objs.size f cdv))) (gu : (A.deeper (envOfC "quiet_spans" (defScope (top 17)) s.heap.objs.size f cdv)).guards = some []) :
    DSs ReelW (Fm.one (cxOf (L2.CX P w) P w K mg base N_quiet_spans "quiet_spans" (defScope (top 17)) f cdv A outer s H E)) (fun cls d _ H' => E cls d H') (defBody (top 17)) t_quiet_spans := by
  have un := hr.un
  exact (dss_cons (ds_expr (dx_call (fun _ => n_require_fit.G) (fun _ => hr.mono (by decide)) (fun _ => gu) (fun _ => rfl) (fun _ => n_require_fit.m) (fun _ => n_require_fit.kp) (fun _ => n_require_fit.bd) (fun _ => takes_of rfl rfl rfl rfl) (da_cons (dx_var fun _ => pv 0) (da_cons (dx_var fun _ => pv 1) da_nil))))
    (dss_cons (ds_par2 (fun _ => rfl) (fun _ => sc_quiet_spans.nd) (fun _ => rfl) (fun _ => rfl) (by decide) (fun _ => rfl) (fun _ => rfl) (dp_f (df_lst da_nil) (dp_e dx_int dp_nil)) (fun _ => by rfl))
    (dss_cons (ds_for (fun _ => passes_of rfl) (fun _ => rfl) (di_seq (dx_var fun _ => pv 1)) (dg_name (fun _ => sc_quiet_spans.nd) (fun _ => rfl) (fun _ => .inl rfl))
   (dss_cons (ds_if (db_cmp od_lt (dx_var fun _ => pv 3) (dx_ix (dx_var fun _ => pv 4) dx_int) (nomark _)) (dss_one (ds_app (dx_tup (da_cons (dx_var fun _ => pv 3) (da_cons (dx_op od_sub (dx_ix (dx_var fun _ => pv 4) dx_int) dx_int) da_nil))) (fun _ => pv 2))) dss_nil)
    (dss_one (ds_set (dx_op od_add (dx_call (fun _ => n_last_possible.G) (fun _ => hr.mono (by decide)) (fun _ => gu) (fun _ => rfl) (fun _ => n_last_possible.m) (fun _ => n_last_possible.kp) (fun _ => n_last_possible.bd) (fun _ => takes_of rfl rfl rfl rfl) (da_cons (dx_var fun _ => pv 0) (da_cons (dx_var fun _ => pv 4) da_nil))) dx_int) (fun _ => sc_quiet_spans.nd) (fun _ => rfl) (fun _ => .inl rfl)))))
    (dss_cons (ds_if (db_cmp od_le (dx_var fun _ => pv 3) (dx_gint (fun _ => rfl) fun _ => m_MAX_MINUTE) (nomark _)) (dss_one (ds_app (dx_tup (da_cons (dx_var fun _ => pv 3) (da_cons (dx_gint (fun _ => rfl) fun _ => m_MAX_MINUTE) da_nil))) (fun _ => pv 2))) dss_nil)
    (dss_one (ds_ret (dx_callTy cd_tuple (fun _ => rfl) (fun _ => m_tuple) (by decide +kernel) (da_cons (dx_var fun _ => pv 2) da_nil))))))))
theorem b_call_spans {f_require_fit : Addr} {fd_require_fit : FuncData} (n_require_fit : Kn P w K mg base "require_fit" 3 ps_require_fit f_require_fit fd_require_fit (spOf K ReelW 2 sp_require_fit)) {k_HOLD : Tok} (m_HOLD : mg "HOLD" = some (.str "hold" k_HOLD)) (m_tuple : mg "tuple" = none) (cdv : Value) (A : Around) (outer : List PySem.Env) (s : Shared) (H : Hp) (E : XK) (hr : Room 3 (A.deeper (envOfC "call_spans" (defScope (top 18)) s.heap.objs.size f cdv))) (gu : (A.deeper (envOfC "call_spans" (defScope (top 18)) s.heap.objs.size f cdv)).guards = some []) :
    DSs ReelW (Fm.one (cxOf (L2.CX P w) P w K mg base N_call_spans "call_spans" (defScope (top 18)) f cdv A outer s H E)) (fun cls d _ H' => E cls d H') (defBody (top 18)) t_call_spans := by
  have un := hr.un
  exact (dss_cons (ds_expr (dx_call (fun _ => n_require_fit.G) (fun _ => hr.mono (by decide)) (fun _ => gu) (fun _ => rfl) (fun _ => n_require_fit.m) (fun _ => n_require_fit.kp) (fun _ => n_require_fit.bd) (fun _ => takes_of rfl rfl rfl rfl) (da_cons (dx_var fun _ => pv 0) (da_cons (dx_var fun _ => pv 1) da_nil))))
    (dss_cons (ds_asg (dx_var fun _ => pv 0) (dg_tup (fun _ => rfl) (dgs_cons (dg_name (fun _ => sc_call_spans.nd) (fun _ => rfl) (fun _ => .inr rfl)) (dgs_cons (dg_name (fun _ => sc_call_spans.nd) (fun _ => rfl) (fun _ => .inr rfl)) dgs_nil))))
    (dss_cons (ds_setLc (own := [("on", 5), ("off", 6)]) (fun _ => rfl) (fun _ => sc_call_spans.nd) (fun _ => rfl) (fun _ => rfl) (fun _ => rfl) (dic_seq (dx_var fun _ => pv 1)) (fun _ => blkOk_by (N := N_call_spans) (sc := defScope (top 18)) (by decide +kernel)) (dg_tup (fun _ => rfl) (dgs_cons (dg_name (fun _ => sc_call_spans.nd) (fun _ => rfl) (fun _ => .inl rfl)) (dgs_cons (dg_name (fun _ => sc_call_spans.nd) (fun _ => rfl) (fun _ => .inl rfl)) dgs_nil))) (by decide) (dts_one (db_cmp (od_eq (fun _ => un_of hr)) (dx_var fun _ => pv 2) (dx_gstr (fun _ => rfl) fun _ => m_HOLD) (nomark _))) (dx_tup (da_cons (dx_var fun _ => pv 5) (da_cons (dx_op od_sub (dx_var fun _ => pv 6) (dx_var fun _ => pv 3)) da_nil))))
    (dss_one (ds_ret (dx_callTy cd_tuple (fun _ => rfl) (fun _ => m_tuple) (by decide +kernel) (da_cons (dx_frz (df_comp (own := [("first", 7), ("last", 8)]) (fun _ => rfl) (fun _ => sc_call_spans.nd) (dic_seq (dx_var fun _ => pv 4)) (fun _ => blkOk_by (N := N_call_spans) (sc := defScope (top 18)) (by decide +kernel)) (dg_tup (fun _ => rfl) (dgs_cons (dg_name (fun _ => sc_call_spans.nd) (fun _ => rfl) (fun _ => .inl rfl)) (dgs_cons (dg_name (fun _ => sc_call_spans.nd) (fun _ => rfl) (fun _ => .inl rfl)) dgs_nil))) (by decide) (dts_one (db_cmp od_ge (dx_op od_add (dx_op od_sub (dx_var fun _ => pv 8) (dx_var fun _ => pv 7)) dx_int) (dx_var fun _ => pv 3) (nomark _))) (dx_tup (da_cons (dx_var fun _ => pv 7) (da_cons (dx_var fun _ => pv 8) da_nil))))) da_nil)))))))
theorem b__law_reel (m_abs : mg "abs" = none) (m_int : mg "int" = none) (cdv : Value) (A : Around) (outer : List PySem.Env) (s : Shared) (H : Hp) (E : XK) (hr : Room 0 (A.deeper (envOfC "_law_reel" (defScope (top 20)) s.heap.objs.size f cdv))) (gu : (A.deeper (envOfC "_law_reel" (defScope (top 20)) s.heap.objs.size f cdv)).guards = some []) :
    DSs ReelW (Fm.one (cxOf (L2.CX P w) P w K mg base N__law_reel "_law_reel" (defScope (top 20)) f cdv A outer s H E)) (fun cls d _ H' => E cls d H') (defBody (top 20)) t__law_reel := by
  have un := hr.un
  exact (dss_cons (ds_setLc (own := [("cell", 2)]) (fun _ => rfl) (fun _ => sc__law_reel.nd) (fun _ => rfl) (fun _ => rfl) (fun _ => rfl) (dic_seq (dx_cut (dx_var fun _ => pv 0) do_none (do_some dx_int))) (fun _ => blkOk_by (N := N__law_reel) (sc := defScope (top 20)) (by decide +kernel)) (dg_name (fun _ => sc__law_reel.nd) (fun _ => rfl) (fun _ => .inl rfl)) (by decide) dts_nil (dx_callB cd_abs (fun _ => rfl) (fun _ => m_abs) (by decide +kernel) (da_cons (dx_var fun _ => pv 2) da_nil)))
    (dss_one (ds_retReel (df_add (dx_var fun _ => pv 1) (dx_op od_mul (dx_frz (df_lst (da_cons dx_int da_nil))) (dx_callTy cd_int (fun _ => rfl) (fun _ => m_int) (by decide +kernel) (da_cons (dx_cmp (od_eq (fun _ => un_of hr)) (dx_var fun _ => pv 1) (dx_frz (df_lst da_nil)) (nomark _)) da_nil)))))))
theorem b__law_lamps {f__law_spin : Addr} {fd__law_spin : FuncData} (n__law_spin : Kn P w K mg base "_law_spin" 1 ps__law_spin f__law_spin fd__law_spin (spOf K ReelW 2 sp__law_spin)) (m_min : mg "min" = none) (m_range : mg "range" = none) (m_tuple : mg "tuple" = none) (cdv : Value) (A : Around) (outer : List PySem.Env) (s : Shared) (H : Hp) (E : XK) (hr : Room 1 (A.deeper (envOfC "_law_lamps" (defScope (top 22)) s.heap.objs.size f cdv))) (gu : (A.deeper (envOfC "_law_lamps" (defScope (top 22)) s.heap.objs.size f cdv)).guards = some []) :
    DSs ReelW (Fm.one (cxOf (L2.CX P w) P w K mg base N__law_lamps "_law_lamps" (defScope (top 22)) f cdv A outer s H E)) (fun cls d _ H' => E cls d H') (defBody (top 22)) t__law_lamps := by
  have un := hr.un
  exact (dss_cons (ds_own (df_lst da_nil) (fun _ => sc__law_lamps.nd) (fun _ => rfl) (fun _ => .inl rfl))
    (dss_cons (ds_for (fun _ => passes_of rfl) (fun _ => rfl) (di_rg1 (fun _ => rfl) (fun _ => m_range) (da_cons (dx_op od_add dx_int (dx_call (fun _ => n__law_spin.G) (fun _ => hr.mono (by decide)) (fun _ => gu) (fun _ => rfl) (fun _ => n__law_spin.m) (fun _ => n__law_spin.kp) (fun _ => n__law_spin.bd) (fun _ => takes_of rfl rfl rfl rfl) (da_cons (dx_var fun _ => pv 0) (da_cons (dx_var fun _ => pv 1) da_nil)))) da_nil)) (dg_name (fun _ => sc__law_lamps.nd) (fun _ => rfl) (fun _ => .inl rfl))
   (dss_cons (ds_set (dx_ix (dx_frz (df_lst (da_cons (dx_op od_add dx_int (dx_call (fun _ => n__law_spin.G) (fun _ => hr.mono (by decide)) (fun _ => gu) (fun _ => rfl) (fun _ => n__law_spin.m) (fun _ => n__law_spin.kp) (fun _ => n__law_spin.bd) (fun _ => takes_of rfl rfl rfl rfl) (da_cons (dx_var fun _ => pv 0) (da_cons (dx_var fun _ => pv 2) da_nil)))) (da_cons (dx_op od_add dx_int (dx_call (fun _ => n__law_spin.G) (fun _ => hr.mono (by decide)) (fun _ => gu) (fun _ => rfl) (fun _ => n__law_spin.m) (fun _ => n__law_spin.kp) (fun _ => n__law_spin.bd) (fun _ => takes_of rfl rfl rfl rfl) (da_cons (dx_var fun _ => pv 0) (da_cons (dx_callB (cd_min2 (fun _ => rfl)) (fun _ => rfl) (fun _ => m_min) (by decide +kernel) (da_cons (dx_var fun _ => pv 2) (da_cons dx_int da_nil))) da_nil)))) da_nil)))) (dx_call (fun _ => n__law_spin.G) (fun _ => hr.mono (by decide)) (fun _ => gu) (fun _ => rfl) (fun _ => n__law_spin.m) (fun _ => n__law_spin.kp) (fun _ => n__law_spin.bd) (fun _ => takes_of rfl rfl rfl rfl) (da_cons (dx_var fun _ => pv 0) (da_cons dx_int da_nil)))) (fun _ => sc__law_lamps.nd) (fun _ => rfl) (fun _ => .inl rfl))
    (dss_one (ds_app (dx_tup (da_cons (dx_ix (dx_frz (df_lst (da_cons dx_str (da_cons dx_str da_nil)))) (dx_call (fun _ => n__law_spin.G) (fun _ => hr.mono (by decide)) (fun _ => gu) (fun _ => rfl) (fun _ => n__law_spin.m) (fun _ => n__law_spin.kp) (fun _ => n__law_spin.bd) (fun _ => takes_of rfl rfl rfl rfl) (da_cons (dx_var fun _ => pv 0) (da_cons dx_int da_nil)))) (da_cons (dx_var fun _ => pv 5) da_nil))) (fun _ => pv 3)))))
    (dss_one (ds_ret (dx_callTy cd_tuple (fun _ => rfl) (fun _ => m_tuple) (by decide +kernel) (da_cons (dx_var fun _ => pv 3) da_nil))))))
theorem b__law_minutes {f__law_spin : Addr} {fd__law_spin : FuncData} (n__law_spin : Kn P w K mg base "_law_spin" 1 ps__law_spin f__law_spin fd__law_spin (spOf K ReelW 2 sp__law_spin)) (m_range : mg "range" = none) (cdv : Value) (A : Around) (outer : List PySem.Env) (s : Shared) (H : Hp) (E : XK) (hr : Room 1 (A.deeper (envOfC "_law_minutes" (defScope (top 23)) s.heap.objs.size f cdv))) (gu : (A.deeper (envOfC "_law_minutes" (defScope (top 23)) s.heap.objs.size f cdv)).guards = some []) :
    DSs ReelW (Fm.one (cxOf (L2.CX P w) P w K mg base N__law_minutes "_law_minutes" (defScope (top 23)) f cdv A outer s H E)) (fun cls d _ H' => E cls d H') (defBody (top 23)) t__law_minutes := by
  have un := hr.un
  exact (dss_cons (ds_par3 (fun _ => rfl) (fun _ => sc__law_minutes.nd) (fun _ => rfl) (fun _ => rfl) (fun _ => rfl) (by decide) (by decide) (by decide) (fun _ => rfl) (fun _ => rfl) (fun _ => rfl) (dp_e (dx_call (fun _ => n__law_spin.G) (fun _ => hr.mono (by decide)) (fun _ => gu) (fun _ => rfl) (fun _ => n__law_spin.m) (fun _ => n__law_spin.kp) (fun _ => n__law_spin.bd) (fun _ => takes_of rfl rfl rfl rfl) (da_cons (dx_var fun _ => pv 0) (da_cons (dx_ix (dx_frz (df_lst (da_cons dx_int (da_cons (dx_kpow (v := 1000000) dx_int dx_int (by show _ ∧ _; decide)) da_nil)))) (dx_call (fun _ => n__law_spin.G) (fun _ => hr.mono (by decide)) (fun _ => gu) (fun _ => rfl) (fun _ => n__law_spin.m) (fun _ => n__law_spin.kp) (fun _ => n__law_spin.bd) (fun _ => takes_of rfl rfl rfl rfl) (da_cons (dx_var fun _ => pv 0) (da_cons dx_int da_nil)))) da_nil))) (dp_f (df_lst da_nil) (dp_e (dx_call (fun _ => n__law_spin.G) (fun _ => hr.mono (by decide)) (fun _ => gu) (fun _ => rfl) (fun _ => n__law_spin.m) (fun _ => n__law_spin.kp) (fun _ => n__law_spin.bd) (fun _ => takes_of rfl rfl rfl rfl) (da_cons (dx_var fun _ => pv 0) (da_cons dx_int da_nil))) dp_nil))) (fun _ => by rfl))
    (dss_cons (ds_set (dx_op od_add dx_int (dx_call (fun _ => n__law_spin.G) (fun _ => hr.mono (by decide)) (fun _ => gu) (fun _ => rfl) (fun _ => n__law_spin.m) (fun _ => n__law_spin.kp) (fun _ => n__law_spin.bd) (fun _ => takes_of rfl rfl rfl rfl) (da_cons (dx_var fun _ => pv 0) (da_cons (dx_var fun _ => pv 2) da_nil)))) (fun _ => sc__law_minutes.nd) (fun _ => rfl) (fun _ => .inl rfl))
    (dss_cons (ds_for (fun _ => passes_of rfl) (fun _ => rfl) (di_rg1 (fun _ => rfl) (fun _ => m_range) (da_cons (dx_call (fun _ => n__law_spin.G) (fun _ => hr.mono (by decide)) (fun _ => gu) (fun _ => rfl) (fun _ => n__law_spin.m) (fun _ => n__law_spin.kp) (fun _ => n__law_spin.bd) (fun _ => takes_of rfl rfl rfl rfl) (da_cons (dx_var fun _ => pv 0) (da_cons (dx_op od_add (dx_var fun _ => pv 1) dx_int) da_nil))) da_nil)) (dg_name (fun _ => sc__law_minutes.nd) (fun _ => rfl) (fun _ => .inl rfl))
   (dss_cons (ds_app (dx_var fun _ => pv 3) (fun _ => pv 4))
    (dss_cons (ds_set (dx_op od_add (dx_var fun _ => pv 3) (dx_ix (dx_frz (df_lst (da_cons (dx_op od_add dx_int (dx_call (fun _ => n__law_spin.G) (fun _ => hr.mono (by decide)) (fun _ => gu) (fun _ => rfl) (fun _ => n__law_spin.m) (fun _ => n__law_spin.kp) (fun _ => n__law_spin.bd) (fun _ => takes_of rfl rfl rfl rfl) (da_cons (dx_var fun _ => pv 0) (da_cons (dx_var fun _ => pv 2) da_nil)))) (da_cons (dx_var fun _ => pv 6) (da_cons dx_int (da_cons (dx_op od_add dx_int (dx_call (fun _ => n__law_spin.G) (fun _ => hr.mono (by decide)) (fun _ => gu) (fun _ => rfl) (fun _ => n__law_spin.m) (fun _ => n__law_spin.kp) (fun _ => n__law_spin.bd) (fun _ => takes_of rfl rfl rfl rfl) (da_cons (dx_var fun _ => pv 0) (da_cons (dx_op od_mul dx_int (dx_var fun _ => pv 2)) da_nil)))) da_nil)))))) (dx_var fun _ => pv 5))) (fun _ => sc__law_minutes.nd) (fun _ => rfl) (fun _ => .inl rfl))
    (dss_one (ds_if (db_cmp (od_eq (fun _ => un_of hr)) (dx_call (fun _ => n__law_spin.G) (fun _ => hr.mono (by decide)) (fun _ => gu) (fun _ => rfl) (fun _ => n__law_spin.m) (fun _ => n__law_spin.kp) (fun _ => n__law_spin.bd) (fun _ => takes_of rfl rfl rfl rfl) (da_cons (dx_var fun _ => pv 0) (da_cons dx_int da_nil))) dx_int (nomark _)) (dss_one (ds_set (dx_op od_add (dx_var fun _ => pv 3) (dx_ix (dx_frz (df_lst (da_cons (dx_var fun _ => pv 2) (da_cons (dx_kpow (v := 100000) dx_int dx_int (by show _ ∧ _; decide)) da_nil)))) (dx_call (fun _ => n__law_spin.G) (fun _ => hr.mono (by decide)) (fun _ => gu) (fun _ => rfl) (fun _ => n__law_spin.m) (fun _ => n__law_spin.kp) (fun _ => n__law_spin.bd) (fun _ => takes_of rfl rfl rfl rfl) (da_cons (dx_var fun _ => pv 0) (da_cons dx_int da_nil))))) (fun _ => sc__law_minutes.nd) (fun _ => rfl) (fun _ => .inl rfl))) dss_nil)))))
    (dss_one (ds_retF (dx_var fun _ => pv 4))))))
theorem b__law_log (m_tuple : mg "tuple" = none) (cdv : Value) (A : Around) (outer : List PySem.Env) (s : Shared) (H : Hp) (E : XK) (hr : Room 0 (A.deeper (envOfC "_law_log" (defScope (top 24)) s.heap.objs.size f cdv))) (gu : (A.deeper (envOfC "_law_log" (defScope (top 24)) s.heap.objs.size f cdv)).guards = some []) :
    DSs ReelW (Fm.one (cxOf (L2.CX P w) P w K mg base N__law_log "_law_log" (defScope (top 24)) f cdv A outer s H E)) (fun cls d _ H' => E cls d H') (defBody (top 24)) t__law_log := by
  have un := hr.un
  exact (dss_cons (ds_asg (dx_var fun _ => pv 0) (dg_tup (fun _ => rfl) (dgs_cons (dg_name (fun _ => sc__law_log.nd) (fun _ => rfl) (fun _ => .inl rfl)) (dgs_cons (dg_name (fun _ => sc__law_log.nd) (fun _ => rfl) (fun _ => .inl rfl)) dgs_nil))))
    (dss_cons (ds_own (df_lst da_nil) (fun _ => sc__law_log.nd) (fun _ => rfl) (fun _ => .inl rfl))
    (dss_cons (ds_for (fun _ => passes_of rfl) (fun _ => rfl) (di_seq (dx_var fun _ => pv 1)) (dg_name (fun _ => sc__law_log.nd) (fun _ => rfl) (fun _ => .inl rfl))
   (dss_one (ds_if (dw_b (dw_or (db_cmp (od_eq (fun _ => un_of hr)) (dx_var fun _ => pv 4) (dx_frz (df_lst da_nil)) (nomark _)) (dw_or1 (db_cmp od_gt (dx_var fun _ => pv 5) (dx_ix (dx_ix (dx_var fun _ => pv 4) (dx_kneg dx_int)) dx_int) (nomark _))))) (dss_one (ds_app (dx_tup (da_cons (dx_var fun _ => pv 5) (da_cons (dx_op od_add (dx_var fun _ => pv 5) (dx_var fun _ => pv 3)) da_nil))) (fun _ => pv 4))) (dss_one (ds_if (dw_b (dw_or (db_cmp (od_eq (fun _ => un_of hr)) (dx_var fun _ => pv 2) dx_str (nomark _)) (dw_or1 (db_cmp (od_eq (fun _ => un_of hr)) (dx_var fun _ => pv 5) (dx_ix (dx_ix (dx_var fun _ => pv 4) (dx_kneg dx_int)) dx_int) (nomark _))))) (dss_one (ds_setOwn (dx_tup (da_cons (dx_ix (dx_ix (dx_var fun _ => pv 4) (dx_kneg dx_int)) dx_int) (da_cons (dx_op od_add (dx_var fun _ => pv 5) (dx_var fun _ => pv 3)) da_nil))) (dx_kneg dx_int) (fun _ => pv 4) (fun _ _ h => pg_sub (pv 4) h set_list))) dss_nil)))))
    (dss_one (ds_ret (dx_callTy cd_tuple (fun _ => rfl) (fun _ => m_tuple) (by decide +kernel) (da_cons (dx_var fun _ => pv 4) da_nil)))))))
theorem b__law_logs {f__law_log : Addr} {fd__law_log : FuncData} (n__law_log : Kn P w K mg base "_law_log" 1 ps__law_log f__law_log fd__law_log (spOf K ReelW 2 sp__law_log)) (m_tuple : mg "tuple" = none) (cdv : Value) (A : Around) (outer : List PySem.Env) (s : Shared) (H : Hp) (E : XK) (hr : Room 1 (A.deeper (envOfC "_law_logs" (defScope (top 25)) s.heap.objs.size f cdv))) (gu : (A.deeper (envOfC "_law_logs" (defScope (top 25)) s.heap.objs.size f cdv)).guards = some []) :
    DSs ReelW (Fm.one (cxOf (L2.CX P w) P w K mg base N__law_logs "_law_logs" (defScope (top 25)) f cdv A outer s H E)) (fun cls d _ H' => E cls d H') (defBody (top 25)) t__law_logs := by
  have un := hr.un
  exact (dss_one (ds_ret (dx_callTy cd_tuple (fun _ => rfl) (fun _ => m_tuple) (by decide +kernel) (da_cons (dx_frz (df_comp (own := [("lamp", 2)]) (fun _ => rfl) (fun _ => sc__law_logs.nd) (dic_seq (dx_var fun _ => pv 0)) (fun _ => blkOk_by (N := N__law_logs) (sc := defScope (top 25)) (by decide +kernel)) (dg_name (fun _ => sc__law_logs.nd) (fun _ => rfl) (fun _ => .inl rfl)) (by decide) dts_nil (dx_call (fun _ => n__law_log.G) (fun _ => hr.mono (by decide)) (fun _ => gu) (fun _ => rfl) (fun _ => n__law_log.m) (fun _ => n__law_log.kp) (fun _ => n__law_log.bd) (fun _ => takes0) (da_cons (dx_var fun _ => pv 2) (da_cons (dx_var fun _ => pv 1) da_nil))))) da_nil))))
theorem b__law_bent {f__law_spin : Addr} {fd__law_spin : FuncData} (n__law_spin : Kn P w K mg base "_law_spin" 1 ps__law_spin f__law_spin fd__law_spin (spOf K ReelW 2 sp__law_spin)) (m_len : mg "len" = none) (m_list : mg "list" = none) (m_max : mg "max" = none) (m_tuple : mg "tuple" = none) (cdv : Value) (A : Around) (outer : List PySem.Env) (s : Shared) (H : Hp) (E : XK) (hr : Room 1 (A.deeper (envOfC "_law_bent" (defScope (top 26)) s.heap.objs.size f cdv))) (gu : (A.deeper (envOfC "_law_bent" (defScope (top 26)) s.heap.objs.size f cdv)).guards = some []) :
    DSs ReelW (Fm.one (cxOf (L2.CX P w) P w K mg base N__law_bent "_law_bent" (defScope (top 26)) f cdv A outer s H E)) (fun cls d _ H' => E cls d H') (defBody (top 26)) t__law_bent := by
  have un := hr.un
  exact (dss_cons (ds_if (db_cmp (od_eq (fun _ => un_of hr)) (dx_var fun _ => pv 1) (dx_tup da_nil) (nomark _)) (dss_one (ds_ret (dx_tup (da_cons (dx_tup (da_cons dx_int (da_cons (dx_op od_add dx_int (dx_call (fun _ => n__law_spin.G) (fun _ => hr.mono (by decide)) (fun _ => gu) (fun _ => rfl) (fun _ => n__law_spin.m) (fun _ => n__law_spin.kp) (fun _ => n__law_spin.bd) (fun _ => takes_of rfl rfl rfl rfl) (da_cons (dx_var fun _ => pv 0) (da_cons dx_int da_nil)))) da_nil))) da_nil)))) dss_nil)
    (dss_cons (ds_par2 (fun _ => rfl) (fun _ => sc__law_bent.nd) (fun _ => rfl) (fun _ => rfl) (by decide) (fun _ => rfl) (fun _ => rfl) (dp_e (dx_call (fun _ => n__law_spin.G) (fun _ => hr.mono (by decide)) (fun _ => gu) (fun _ => rfl) (fun _ => n__law_spin.m) (fun _ => n__law_spin.kp) (fun _ => n__law_spin.bd) (fun _ => takes_of rfl rfl rfl rfl) (da_cons (dx_var fun _ => pv 0) (da_cons (dx_callB cd_len (fun _ => rfl) (fun _ => m_len) (by decide +kernel) (da_cons (dx_var fun _ => pv 1) da_nil)) da_nil))) (dp_e (dx_op od_add dx_int (dx_call (fun _ => n__law_spin.G) (fun _ => hr.mono (by decide)) (fun _ => gu) (fun _ => rfl) (fun _ => n__law_spin.m) (fun _ => n__law_spin.kp) (fun _ => n__law_spin.bd) (fun _ => takes_of rfl rfl rfl rfl) (da_cons (dx_var fun _ => pv 0) (da_cons dx_int da_nil)))) dp_nil)) (fun _ => by rfl))
    (dss_cons (ds_asg (dx_ix (dx_var fun _ => pv 1) (dx_var fun _ => pv 2)) (dg_tup (fun _ => rfl) (dgs_cons (dg_name (fun _ => sc__law_bent.nd) (fun _ => rfl) (fun _ => .inl rfl)) (dgs_cons (dg_name (fun _ => sc__law_bent.nd) (fun _ => rfl) (fun _ => .inl rfl)) dgs_nil))))
    (dss_cons (ds_set (dx_frz (df_lst (da_cons (dx_tup (da_cons (dx_var fun _ => pv 4) (da_cons (dx_op od_add (dx_var fun _ => pv 5) (dx_var fun _ => pv 3)) da_nil))) (da_cons (dx_tup (da_cons (dx_var fun _ => pv 4) (da_cons (dx_callB (cd_max2 (fun _ => rfl)) (fun _ => rfl) (fun _ => m_max) (by decide +kernel) (da_cons (dx_op od_add (dx_var fun _ => pv 4) dx_int) (da_cons (dx_op od_sub (dx_var fun _ => pv 5) (dx_var fun _ => pv 3)) da_nil))) da_nil))) (da_cons (dx_tup (da_cons (dx_op od_add (dx_var fun _ => pv 4) (dx_var fun _ => pv 3)) (da_cons (dx_op od_add (dx_var fun _ => pv 5) (dx_var fun _ => pv 3)) da_nil))) (da_cons (dx_tup (da_cons (dx_callB (cd_max2 (fun _ => rfl)) (fun _ => rfl) (fun _ => m_max) (by decide +kernel) (da_cons dx_int (da_cons (dx_op od_sub (dx_var fun _ => pv 4) (dx_var fun _ => pv 3)) da_nil))) (da_cons (dx_var fun _ => pv 5) da_nil))) da_nil)))))) (fun _ => sc__law_bent.nd) (fun _ => rfl) (fun _ => .inl rfl))
    (dss_cons (ds_set (dx_call (fun _ => n__law_spin.G) (fun _ => hr.mono (by decide)) (fun _ => gu) (fun _ => rfl) (fun _ => n__law_spin.m) (fun _ => n__law_spin.kp) (fun _ => n__law_spin.bd) (fun _ => takes_of rfl rfl rfl rfl) (da_cons (dx_var fun _ => pv 0) (da_cons dx_int da_nil))) (fun _ => sc__law_bent.nd) (fun _ => rfl) (fun _ => .inl rfl))
    (dss_cons (ds_set (dx_if (db_cmp od_lt (dx_var fun _ => pv 7) dx_int (nomark _)) (dx_frz (df_lst (da_cons (dx_ix (dx_var fun _ => pv 6) (dx_var fun _ => pv 7)) da_nil))) (dx_frz (df_lst da_nil))) (fun _ => sc__law_bent.nd) (fun _ => rfl) (fun _ => .inl rfl))
    (dss_cons (ds_if (dw_b (dw_and (db_cmp (od_eq (fun _ => un_of hr)) (dx_var fun _ => pv 7) dx_int (nomark _)) (dw_and1 (db_cmp od_gt (dx_op od_sub (dx_var fun _ => pv 5) (dx_var fun _ => pv 4)) dx_int (nomark _))))) (dss_one (ds_set (dx_frz (df_lst (da_cons (dx_tup (da_cons (dx_var fun _ => pv 4) (da_cons (dx_op od_add (dx_var fun _ => pv 4) (dx_op od_div (dx_op od_sub (dx_var fun _ => pv 5) (dx_var fun _ => pv 4)) dx_int)) da_nil))) (da_cons (dx_tup (da_cons (dx_op od_add (dx_op od_add (dx_var fun _ => pv 4) (dx_op od_div (dx_op od_sub (dx_var fun _ => pv 5) (dx_var fun _ => pv 4)) dx_int)) dx_int) (da_cons (dx_var fun _ => pv 5) da_nil))) da_nil)))) (fun _ => sc__law_bent.nd) (fun _ => rfl) (fun _ => .inl rfl))) dss_nil)
    (dss_cons (ds_if (db_cmp (od_eq (fun _ => un_of hr)) (dx_var fun _ => pv 7) dx_int (nomark _)) (dss_one (ds_set (dx_frz (df_lst (da_cons (dx_tup (da_cons (dx_var fun _ => pv 4) (da_cons (dx_var fun _ => pv 5) da_nil))) (da_cons (dx_tup (da_cons (dx_op od_add (dx_var fun _ => pv 5) (dx_var fun _ => pv 3)) (da_cons (dx_op od_add (dx_var fun _ => pv 5) (dx_op od_mul dx_int (dx_var fun _ => pv 3))) da_nil))) da_nil)))) (fun _ => sc__law_bent.nd) (fun _ => rfl) (fun _ => .inl rfl))) dss_nil)
    (dss_cons (ds_own (df_lst da_nil) (fun _ => sc__law_bent.nd) (fun _ => rfl) (fun _ => .inl rfl))
    (dss_cons (ds_for (fun _ => passes_of rfl) (fun _ => rfl) (di_seq (dx_op od_add (dx_op od_add (dx_callTy cd_list (fun _ => rfl) (fun _ => m_list) (by decide +kernel) (da_cons (dx_cut (dx_var fun _ => pv 1) do_none (do_some (dx_var fun _ => pv 2))) da_nil)) (dx_var fun _ => pv 8)) (dx_callTy cd_list (fun _ => rfl) (fun _ => m_list) (by decide +kernel) (da_cons (dx_cut (dx_var fun _ => pv 1) (do_some (dx_op od_add (dx_var fun _ => pv 2) dx_int)) do_none) da_nil)))) (dg_tup (fun _ => rfl) (dgs_cons (dg_name (fun _ => sc__law_bent.nd) (fun _ => rfl) (fun _ => .inl rfl)) (dgs_cons (dg_name (fun _ => sc__law_bent.nd) (fun _ => rfl) (fun _ => .inl rfl)) dgs_nil)))
   (dss_one (ds_if (dw_b (dw_or (db_cmp (od_eq (fun _ => un_of hr)) (dx_var fun _ => pv 9) (dx_frz (df_lst da_nil)) (nomark _)) (dw_or1 (db_cmp od_gt (dx_var fun _ => pv 10) (dx_ix (dx_ix (dx_var fun _ => pv 9) (dx_kneg dx_int)) dx_int) (nomark _))))) (dss_one (ds_app (dx_tup (da_cons (dx_var fun _ => pv 10) (da_cons (dx_var fun _ => pv 11) da_nil))) (fun _ => pv 9))) dss_nil)))
    (dss_one (ds_ret (dx_callTy cd_tuple (fun _ => rfl) (fun _ => m_tuple) (by decide +kernel) (da_cons (dx_cut (dx_var fun _ => pv 9) do_none (do_some dx_int)) da_nil))))))))))))))
theorem b__law_scene {f__law_lamps : Addr} {fd__law_lamps : FuncData} (n__law_lamps : Kn P w K mg base "_law_lamps" 2 ps__law_lamps f__law_lamps fd__law_lamps (spOf K ReelW 3 sp__law_lamps)) {f__law_logs : Addr} {fd__law_logs : FuncData} (n__law_logs : Kn P w K mg base "_law_logs" 2 ps__law_logs f__law_logs fd__law_logs (spOf K ReelW 2 sp__law_logs)) {f__law_minutes : Addr} {fd__law_minutes : FuncData} (n__law_minutes : Kn P w K mg base "_law_minutes" 2 ps__law_minutes f__law_minutes fd__law_minutes (spOf K ReelW 3 sp__law_minutes)) {f__law_spin : Addr} {fd__law_spin : FuncData} (n__law_spin : Kn P w K mg base "_law_spin" 1 ps__law_spin f__law_spin fd__law_spin (spOf K ReelW 2 sp__law_spin)) {f__law_log : Addr} {fd__law_log : FuncData} (n__law_log : Kn P w K mg base "_law_log" 1 ps__law_log f__law_log fd__law_log (spOf K ReelW 2 sp__law_log)) {f__law_bent : Addr} {fd__law_bent : FuncData} (n__law_bent : Kn P w K mg base "_law_bent" 2 ps__law_bent f__law_bent fd__law_bent (spOf K ReelW 2 sp__law_bent)) (m_len : mg "len" = none) (m_list : mg "list" = none) (m_range : mg "range" = none) (m_tuple : mg "tuple" = none) (cdv : Value) (A : Around) (outer : List PySem.Env) (s : Shared) (H : Hp) (E : XK) (hr : Room 2 (A.deeper (envOfC "_law_scene" (defScope (top 27)) s.heap.objs.size f cdv))) (gu : (A.deeper (envOfC "_law_scene" (defScope (top 27)) s.heap.objs.size f cdv)).guards = some []) :
    DSs ReelW (Fm.one (cxOf (L2.CX P w) P w K mg base N__law_scene "_law_scene" (defScope (top 27)) f cdv A outer s H E)) (fun cls d _ H' => E cls d H') (defBody (top 27)) t__law_scene := by
  have un := hr.un
  exact (dss_cons (ds_set (dx_call (fun _ => n__law_lamps.G) (fun _ => hr.mono (by decide)) (fun _ => gu) (fun _ => rfl) (fun _ => n__law_lamps.m) (fun _ => n__law_lamps.kp) (fun _ => n__law_lamps.bd) (fun _ => takes_of rfl rfl rfl rfl) (da_cons (dx_var fun _ => pv 0) (da_cons (dx_var fun _ => pv 1) (da_cons (dx_var fun _ => pv 2) da_nil)))) (fun _ => sc__law_scene.nd) (fun _ => rfl) (fun _ => .inl rfl))
    (dss_cons (ds_own (df_list (fun _ => rfl) (fun _ => m_list) (by decide +kernel) (da_cons (dx_call (fun _ => n__law_logs.G) (fun _ => hr.mono (by decide)) (fun _ => gu) (fun _ => rfl) (fun _ => n__law_logs.m) (fun _ => n__law_logs.kp) (fun _ => n__law_logs.bd) (fun _ => takes_of rfl rfl rfl rfl) (da_cons (dx_var fun _ => pv 4) (da_cons (dx_call (fun _ => n__law_minutes.G) (fun _ => hr.mono (by decide)) (fun _ => gu) (fun _ => rfl) (fun _ => n__law_minutes.m) (fun _ => n__law_minutes.kp) (fun _ => n__law_minutes.bd) (fun _ => takes_of rfl rfl rfl rfl) (da_cons (dx_var fun _ => pv 0) (da_cons (dx_var fun _ => pv 3) (da_cons (dx_op od_mul dx_int (dx_var fun _ => pv 2)) da_nil)))) da_nil))) da_nil)) (fun _ => sc__law_scene.nd) (fun _ => rfl) (fun _ => .inl rfl))
    (dss_cons (ds_for (fun _ => passes_of rfl) (fun _ => rfl) (di_rg1 (fun _ => rfl) (fun _ => m_range) (da_cons (dx_ix (dx_frz (df_lst (da_cons dx_int (da_cons dx_int (da_cons dx_int (da_cons dx_int da_nil)))))) (dx_call (fun _ => n__law_spin.G) (fun _ => hr.mono (by decide)) (fun _ => gu) (fun _ => rfl) (fun _ => n__law_spin.m) (fun _ => n__law_spin.kp) (fun _ => n__law_spin.bd) (fun _ => takes_of rfl rfl rfl rfl) (da_cons (dx_var fun _ => pv 0) (da_cons dx_int da_nil)))) da_nil)) (dg_name (fun _ => sc__law_scene.nd) (fun _ => rfl) (fun _ => .inl rfl))
   (dss_cons (ds_set (dx_call (fun _ => n__law_spin.G) (fun _ => hr.mono (by decide)) (fun _ => gu) (fun _ => rfl) (fun _ => n__law_spin.m) (fun _ => n__law_spin.kp) (fun _ => n__law_spin.bd) (fun _ => takes_of rfl rfl rfl rfl) (da_cons (dx_var fun _ => pv 0) (da_cons (dx_callB cd_len (fun _ => rfl) (fun _ => m_len) (by decide +kernel) (da_cons (dx_var fun _ => pv 5) da_nil)) da_nil))) (fun _ => sc__law_scene.nd) (fun _ => rfl) (fun _ => .inl rfl))
    (dss_one (ds_if (db_cmp (od_eq (fun _ => un_of hr)) (dx_call (fun _ => n__law_spin.G) (fun _ => hr.mono (by decide)) (fun _ => gu) (fun _ => rfl) (fun _ => n__law_spin.m) (fun _ => n__law_spin.kp) (fun _ => n__law_spin.bd) (fun _ => takes_of rfl rfl rfl rfl) (da_cons (dx_var fun _ => pv 0) (da_cons dx_int da_nil))) dx_int (nomark _)) (dss_one (ds_setOwn (dx_call (fun _ => n__law_log.G) (fun _ => hr.mono (by decide)) (fun _ => gu) (fun _ => rfl) (fun _ => n__law_log.m) (fun _ => n__law_log.kp) (fun _ => n__law_log.bd) (fun _ => takes_of rfl rfl rfl rfl) (da_cons (dx_ix (dx_var fun _ => pv 4) (dx_var fun _ => pv 7)) (da_cons (dx_call (fun _ => n__law_minutes.G) (fun _ => hr.mono (by decide)) (fun _ => gu) (fun _ => rfl) (fun _ => n__law_minutes.m) (fun _ => n__law_minutes.kp) (fun _ => n__law_minutes.bd) (fun _ => takes_of rfl rfl rfl rfl) (da_cons (dx_var fun _ => pv 0) (da_cons (dx_var fun _ => pv 3) (da_cons (dx_op od_mul dx_int (dx_var fun _ => pv 2)) da_nil)))) da_nil))) (dx_var fun _ => pv 7) (fun _ => pv 5) (fun _ _ h => pg_sub (pv 5) h set_list))) (dss_one (ds_setOwn (dx_call (fun _ => n__law_bent.G) (fun _ => hr.mono (by decide)) (fun _ => gu) (fun _ => rfl) (fun _ => n__law_bent.m) (fun _ => n__law_bent.kp) (fun _ => n__law_bent.bd) (fun _ => takes_of rfl rfl rfl rfl) (da_cons (dx_var fun _ => pv 0) (da_cons (dx_ix (dx_var fun _ => pv 5) (dx_var fun _ => pv 7)) da_nil))) (dx_var fun _ => pv 7) (fun _ => pv 5) (fun _ _ h => pg_sub (pv 5) h set_list)))))))
    (dss_one (ds_ret (dx_frz (df_lst (da_cons (dx_var fun _ => pv 4) (da_cons (dx_callTy cd_tuple (fun _ => rfl) (fun _ => m_tuple) (by decide +kernel) (da_cons (dx_var fun _ => pv 5) da_nil)) da_nil)))))))))
theorem b__law_fits (cdv : Value) (A : Around) (outer : List PySem.Env) (s : Shared) (H : Hp) (E : XK) (hr : Room 0 (A.deeper (envOfC "_law_fits" (defScope (top 28)) s.heap.objs.size f cdv))) (gu : (A.deeper (envOfC "_law_fits" (defScope (top 28)) s.heap.objs.size f cdv)).guards = some []) :
    DSs ReelW (Fm.one (cxOf (L2.CX P w) P w K mg base N__law_fits "_law_fits" (defScope (top 28)) f cdv A outer s H E)) (fun cls d _ H' => E cls d H') (defBody (top 28)) t__law_fits := by
  have un := hr.un
  exact (dss_cons (ds_asg (dx_var fun _ => pv 0) (dg_tup (fun _ => rfl) (dgs_cons (dg_name (fun _ => sc__law_fits.nd) (fun _ => rfl) (fun _ => .inl rfl)) (dgs_cons (dg_name (fun _ => sc__law_fits.nd) (fun _ => rfl) (fun _ => .inl rfl)) dgs_nil))))
    (dss_cons (ds_asg (dx_var fun _ => pv 1) (dg_tup (fun _ => rfl) (dgs_cons (dg_name (fun _ => sc__law_fits.nd) (fun _ => rfl) (fun _ => .inl rfl)) (dgs_cons (dg_name (fun _ => sc__law_fits.nd) (fun _ => rfl) (fun _ => .inl rfl)) dgs_nil))))
    (dss_cons (ds_if (dw_b (dw_or (db_cmp od_gt (dx_op od_sub (dx_var fun _ => pv 5) (dx_var fun _ => pv 3)) (dx_kpow (v := 1000000000) dx_int dx_int (by show _ ∧ _; decide)) (nomark _)) (dw_or1 (db_cmp od_lt (dx_op od_sub (dx_var fun _ => pv 5) (dx_var fun _ => pv 4)) (dx_var fun _ => pv 3) (nomark _))))) (dss_one (ds_ret dx_bl)) dss_nil)
    (dss_one (ds_ret (dx_or (dx_cmp (od_eq (fun _ => un_of hr)) (dx_var fun _ => pv 2) dx_str (nomark _)) (dx_one (dx_cmp (od_eq (fun _ => un_of hr)) (dx_op od_mod (dx_op od_sub (dx_var fun _ => pv 5) (dx_var fun _ => pv 4)) (dx_var fun _ => pv 3)) dx_int (nomark _)))))))))
theorem b__law_quiet (m_int : mg "int" = none) (cdv : Value) (A : Around) (outer : List PySem.Env) (s : Shared) (H : Hp) (E : XK) (hr : Room 0 (A.deeper (envOfC "_law_quiet" (defScope (top 29)) s.heap.objs.size f cdv))) (gu : (A.deeper (envOfC "_law_quiet" (defScope (top 29)) s.heap.objs.size f cdv)).guards = some []) :
    DSs ReelW (Fm.one (cxOf (L2.CX P w) P w K mg base N__law_quiet "_law_quiet" (defScope (top 29)) f cdv A outer s H E)) (fun cls d _ H' => E cls d H') (defBody (top 29)) t__law_quiet := by
  have un := hr.un
  exact (dss_cons (ds_asg (dx_var fun _ => pv 0) (dg_tup (fun _ => rfl) (dgs_cons (dg_name (fun _ => sc__law_quiet.nd) (fun _ => rfl) (fun _ => .inl rfl)) (dgs_cons (dg_name (fun _ => sc__law_quiet.nd) (fun _ => rfl) (fun _ => .inl rfl)) dgs_nil))))
    (dss_cons (ds_par2 (fun _ => rfl) (fun _ => sc__law_quiet.nd) (fun _ => rfl) (fun _ => rfl) (by decide) (fun _ => rfl) (fun _ => rfl) (dp_e (dx_frz (df_lst da_nil)) (dp_e dx_int dp_nil)) (fun _ => by rfl))
    (dss_cons (ds_for (fun _ => passes_of rfl) (fun _ => rfl) (di_seq (dx_var fun _ => pv 1)) (dg_tup (fun _ => rfl) (dgs_cons (dg_name (fun _ => sc__law_quiet.nd) (fun _ => rfl) (fun _ => .inl rfl)) (dgs_cons (dg_name (fun _ => sc__law_quiet.nd) (fun _ => rfl) (fun _ => .inl rfl)) dgs_nil)))
   (dss_cons (ds_set (dx_op od_add (dx_var fun _ => pv 4) (dx_op od_mul (dx_frz (df_lst (da_cons (dx_tup (da_cons (dx_var fun _ => pv 5) (da_cons (dx_op od_sub (dx_var fun _ => pv 6) dx_int) da_nil))) da_nil))) (dx_callTy cd_int (fun _ => rfl) (fun _ => m_int) (by decide +kernel) (da_cons (dx_cmp od_lt (dx_var fun _ => pv 5) (dx_var fun _ => pv 6) (nomark _)) da_nil)))) (fun _ => sc__law_quiet.nd) (fun _ => rfl) (fun _ => .inl rfl))
    (dss_one (ds_set (dx_if (db_cmp (od_eq (fun _ => un_of hr)) (dx_var fun _ => pv 2) dx_str (nomark _)) (dx_op od_add (dx_op od_sub (dx_var fun _ => pv 7) (dx_var fun _ => pv 3)) dx_int) (dx_var fun _ => pv 7)) (fun _ => sc__law_quiet.nd) (fun _ => rfl) (fun _ => .inl rfl)))))
    (dss_one (ds_ret (dx_op od_add (dx_var fun _ => pv 4) (dx_op od_mul (dx_frz (df_lst (da_cons (dx_tup (da_cons (dx_var fun _ => pv 5) (da_cons (dx_kpow (v := 1000000000) dx_int dx_int (by show _ ∧ _; decide)) da_nil))) da_nil))) (dx_callTy cd_int (fun _ => rfl) (fun _ => m_int) (by decide +kernel) (da_cons (dx_cmp od_le (dx_var fun _ => pv 5) (dx_kpow (v := 1000000000) dx_int dx_int (by show _ ∧ _; decide)) (nomark _)) da_nil)))))))))
theorem b__law_told {Z1 : Wld} (f0 : Addr) (th : Th Z1.M) (m_BadLamp : mg "BadLamp" = some (.ref (He.ga K "BadLamp"))) (m_BadLog : mg "BadLog" = some (.ref (He.ga K "BadLog"))) (m_LampError : mg "LampError" = some (.ref (He.ga K "LampError"))) (m_NoIndex : mg "NoIndex" = some (.ref (He.ga K "NoIndex"))) (m_NoMinute : mg "NoMinute" = some (.ref (He.ga K "NoMinute"))) (m_OtherCount : mg "OtherCount" = some (.ref (He.ga K "OtherCount"))) (m_TooLarge : mg "TooLarge" = some (.ref (He.ga K "TooLarge"))) (m_Unexplained : mg "Unexplained" = some (.ref (He.ga K "Unexplained"))) (m_ValueError : mg "ValueError" = none) (xa : ExAll K ["Unexplained"] ["BadLamp", "BadLog", "LampError", "NoIndex", "NoMinute", "OtherCount", "TooLarge", "Unexplained", "ValueError"]) (m_isinstance : mg "isinstance" = none) (m_len : mg "len" = none) (xf_NoIndex : ExFacts K "NoIndex" "index") (xf_NoMinute : ExFacts K "NoMinute" "value") (xf_OtherCount : ExFacts K "OtherCount" "count") (xf_Unexplained : ExFacts K "Unexplained" "reason") (cdv : Value) (A : Around) (outer : List PySem.Env) (s : Shared) (H : Hp) (E : XK) (hr : Room 5 (A.deeper (envOfC "_law_told" (defScope (top 30)) s.heap.objs.size f cdv))) (gu : (A.deeper (envOfC "_law_told" (defScope (top 30)) s.heap.objs.size f cdv)).guards = some []) (act : ∀ (W' : WX) (p1 p2 : Pos), DE Z1 ((Fm.one (cxOf (L2.CX P w) P w K mg base N__law_told "_law_told" (defScope (top 30)) f cdv A outer s H E)).tr W') W' (.Call (.Name "call" p1) [] [] p2) (dAct 0 f0 th)) :
    DSs Z1 (Fm.one (cxOf (L2.CX P w) P w K mg base N__law_told "_law_told" (defScope (top 30)) f cdv A outer s H E)) (fun cls d _ H' => E cls d H') (defBody (top 30)) (t__law_told f0 th) := by
  have un := hr.un
  exact (dss_cons (ds_own (df_lst da_nil) (fun _ => sc__law_told.nd) (fun _ => rfl) (fun _ => .inl rfl))
    (dss_cons (ds_tryAs (i := 2) (xs := ["Unexplained"]) (ys := ["BadLamp", "BadLog", "LampError", "NoIndex", "NoMinute", "OtherCount", "TooLarge", "Unexplained", "ValueError"]) xa (by decide) (fun _ => rfl) (fun _ => rfl) (fun _ => sc__law_told.nd) (fun _ => rfl) (fun _ => rfl) (fun _ => ⟨rfl, by decide, .inl (mcl m_LampError)⟩) (fun _ => takes_of rfl rfl rfl rfl) (fun _ => (dss_one (ds_ret (dx_tup (da_cons dx_str (da_cons (act _ _ _) da_nil)))))) (fun ea ec ed => (dss_cons (ds_if (db_tru (dx_isE (xs := ["Unexplained"]) (ys := ["BadLamp", "BadLog", "LampError", "NoIndex", "NoMinute", "OtherCount", "TooLarge", "Unexplained", "ValueError"]) (c := "OtherCount") xa (by decide) (fun _ => rfl) (fun _ => m_isinstance) (fun _ => pv 2) (fun _ => (pe_clsO rfl m_OtherCount))) (fun _ _ => rfl)) (dss_one (ds_app (dx_tup (da_cons dx_str (da_cons (dx_xf (by decide) xf_OtherCount.xf xf_OtherCount.nof (fun _ => pv 2)) da_nil))) (fun _ => pv 1))) dss_nil)
    (dss_cons (ds_if (db_tru (dx_isE (xs := ["Unexplained"]) (ys := ["BadLamp", "BadLog", "LampError", "NoIndex", "NoMinute", "OtherCount", "TooLarge", "Unexplained", "ValueError"]) (c := "Unexplained") xa (by decide) (fun _ => rfl) (fun _ => m_isinstance) (fun _ => pv 2) (fun _ => (pe_clsO rfl m_Unexplained))) (fun _ _ => rfl)) (dss_one (ds_app (dx_tup (da_cons dx_str (da_cons (dx_xf (by decide) xf_Unexplained.xf xf_Unexplained.nof (fun _ => pv 2)) da_nil))) (fun _ => pv 1))) dss_nil)
    (dss_cons (ds_if (db_tru (dx_isE (xs := ["Unexplained"]) (ys := ["BadLamp", "BadLog", "LampError", "NoIndex", "NoMinute", "OtherCount", "TooLarge", "Unexplained", "ValueError"]) (c := "NoMinute") xa (by decide) (fun _ => rfl) (fun _ => m_isinstance) (fun _ => pv 2) (fun _ => (pe_clsO rfl m_NoMinute))) (fun _ _ => rfl)) (dss_one (ds_app (dx_tup (da_cons dx_str (da_cons (dx_xf (by decide) xf_NoMinute.xf xf_NoMinute.nof (fun _ => pv 2)) da_nil))) (fun _ => pv 1))) dss_nil)
    (dss_cons (ds_if (db_tru (dx_isE (xs := ["Unexplained"]) (ys := ["BadLamp", "BadLog", "LampError", "NoIndex", "NoMinute", "OtherCount", "TooLarge", "Unexplained", "ValueError"]) (c := "NoIndex") xa (by decide) (fun _ => rfl) (fun _ => m_isinstance) (fun _ => pv 2) (fun _ => (pe_clsO rfl m_NoIndex))) (fun _ _ => rfl)) (dss_one (ds_app (dx_tup (da_cons dx_str (da_cons (dx_xf (by decide) xf_NoIndex.xf xf_NoIndex.nof (fun _ => pv 2)) da_nil))) (fun _ => pv 1))) dss_nil)
    (dss_one (ds_if (dw_b (dw_or (db_not (db_tru (dx_isE (xs := ["Unexplained"]) (ys := ["BadLamp", "BadLog", "LampError", "NoIndex", "NoMinute", "OtherCount", "TooLarge", "Unexplained", "ValueError"]) (c := "ValueError") xa (by decide) (fun _ => rfl) (fun _ => m_isinstance) (fun _ => pv 2) (fun _ => (pe_clsB rfl m_ValueError (by decide +kernel) rfl))) (fun _ _ => rfl))) (dw_or1 (db_tru (dx_isEs (xs := ["Unexplained"]) (ys := ["BadLamp", "BadLog", "LampError", "NoIndex", "NoMinute", "OtherCount", "TooLarge", "Unexplained", "ValueError"]) (cs := ["BadLamp", "BadLog", "TooLarge"]) xa (by decide) (by decide) (fun _ => rfl) (fun _ => m_isinstance) (fun _ => pv 2) (fun _ => (pa_cons (pe_clsO rfl m_BadLamp) (pa_cons (pe_clsO rfl m_BadLog) (pa_cons (pe_clsO rfl m_TooLarge) pa_nil))))) (fun _ _ => rfl))))) (dss_one (ds_app (dx_tup (da_cons dx_str da_nil)) (fun _ => pv 1))) dss_nil))))))))
    (dss_one (ds_ret (dx_if (db_cmp (od_eq (fun _ => un_of hr)) (dx_callB cd_len (fun _ => rfl) (fun _ => m_len) (by decide +kernel) (da_cons (dx_var fun _ => pv 1) da_nil)) dx_int (nomark _)) (dx_ix (dx_var fun _ => pv 1) dx_int) (dx_tup (da_cons dx_str da_nil)))))))
theorem b__law_due {f__law_fits : Addr} {fd__law_fits : FuncData} (n__law_fits : Kn P w K mg base "_law_fits" 1 ps__law_fits f__law_fits fd__law_fits (spOf K ReelW 2 sp__law_fits)) {f__law_quiet : Addr} {fd__law_quiet : FuncData} (n__law_quiet : Kn P w K mg base "_law_quiet" 1 ps__law_quiet f__law_quiet fd__law_quiet (spOf K ReelW 2 sp__law_quiet)) (m_len : mg "len" = none) (m_range : mg "range" = none) (m_tuple : mg "tuple" = none) (cdv : Value) (A : Around) (outer : List PySem.Env) (s : Shared) (H : Hp) (E : XK) (hr : Room 1 (A.deeper (envOfC "_law_due" (defScope (top 31)) s.heap.objs.size f cdv))) (gu : (A.deeper (envOfC "_law_due" (defScope (top 31)) s.heap.objs.size f cdv)).guards = some []) :
    DSs ReelW (Fm.one (cxOf (L2.CX P w) P w K mg base N__law_due "_law_due" (defScope (top 31)) f cdv A outer s H E)) (fun cls d _ H' => E cls d H') (defBody (top 31)) t__law_due := by
  have un := hr.un
  exact (dss_cons (ds_setLc (own := [("k", 6)]) (fun _ => rfl) (fun _ => sc__law_due.nd) (fun _ => rfl) (fun _ => rfl) (fun _ => rfl) (DI.c (di_rg1 (fun _ => rfl) (fun _ => m_range) (da_cons (dx_callB cd_len (fun _ => rfl) (fun _ => m_len) (by decide +kernel) (da_cons (dx_var fun _ => pv 2) da_nil)) da_nil))) (fun _ => blkOk_by (N := N__law_due) (sc := defScope (top 31)) (by decide +kernel)) (dg_name (fun _ => sc__law_due.nd) (fun _ => rfl) (fun _ => .inl rfl)) (by decide) (dts_one (db_not (db_tru (dx_call (fun _ => n__law_fits.G) (fun _ => hr.mono (by decide)) (fun _ => gu) (fun _ => rfl) (fun _ => n__law_fits.m) (fun _ => n__law_fits.kp) (fun _ => n__law_fits.bd) (fun _ => takes0) (da_cons (dx_var fun _ => pv 1) (da_cons (dx_ix (dx_var fun _ => pv 2) (dx_var fun _ => pv 6)) da_nil))) (fun _ _ => rfl)))) (dx_var fun _ => pv 6))
    (dss_cons (ds_if (db_cmp (od_ne (fun _ => un_of hr)) (dx_var fun _ => pv 3) (dx_frz (df_lst da_nil)) (nomark _)) (dss_one (ds_ret (dx_tup (da_cons dx_str (da_cons (dx_tup (da_cons dx_str (da_cons dx_int (da_cons (dx_ix (dx_var fun _ => pv 3) dx_int) da_nil)))) da_nil))))) dss_nil)
    (dss_cons (ds_if (db_cmp (od_eq (fun _ => un_of hr)) (dx_var fun _ => pv 0) dx_int (nomark _)) (dss_one (ds_ret (dx_tup (da_cons dx_str (da_cons (dx_callTy cd_tuple (fun _ => rfl) (fun _ => m_tuple) (by decide +kernel) (da_cons (dx_call (fun _ => n__law_quiet.G) (fun _ => hr.mono (by decide)) (fun _ => gu) (fun _ => rfl) (fun _ => n__law_quiet.m) (fun _ => n__law_quiet.kp) (fun _ => n__law_quiet.bd) (fun _ => takes_of rfl rfl rfl rfl) (da_cons (dx_var fun _ => pv 1) (da_cons (dx_var fun _ => pv 2) da_nil))) da_nil)) da_nil))))) dss_nil)
    (dss_cons (ds_set (dx_ix (dx_var fun _ => pv 1) dx_int) (fun _ => sc__law_due.nd) (fun _ => rfl) (fun _ => .inr rfl))
    (dss_cons (ds_setLc (own := [("on", 7), ("off", 8)]) (fun _ => rfl) (fun _ => sc__law_due.nd) (fun _ => rfl) (fun _ => rfl) (fun _ => rfl) (dic_seq (dx_var fun _ => pv 2)) (fun _ => blkOk_by (N := N__law_due) (sc := defScope (top 31)) (by decide +kernel)) (dg_tup (fun _ => rfl) (dgs_cons (dg_name (fun _ => sc__law_due.nd) (fun _ => rfl) (fun _ => .inl rfl)) (dgs_cons (dg_name (fun _ => sc__law_due.nd) (fun _ => rfl) (fun _ => .inl rfl)) dgs_nil))) (by decide) (dts_one (dw_b (dw_and (db_cmp (od_eq (fun _ => un_of hr)) (dx_ix (dx_var fun _ => pv 1) dx_int) dx_str (nomark _)) (dw_and1 (db_cmp od_ge (dx_op od_sub (dx_var fun _ => pv 8) (dx_var fun _ => pv 7)) (dx_op od_sub (dx_op od_mul dx_int (dx_var fun _ => pv 4)) dx_int) (nomark _)))))) (dx_tup (da_cons (dx_var fun _ => pv 7) (da_cons (dx_op od_sub (dx_var fun _ => pv 8) (dx_var fun _ => pv 4)) da_nil))))
    (dss_one (ds_ret (dx_tup (da_cons dx_str (da_cons (dx_callTy cd_tuple (fun _ => rfl) (fun _ => m_tuple) (by decide +kernel) (da_cons (dx_var fun _ => pv 5) da_nil)) da_nil))))))))))
theorem b_law {f__law_reel : Addr} {fd__law_reel : FuncData} (n__law_reel : Kn P w K mg base "_law_reel" 1 ps__law_reel f__law_reel fd__law_reel (spOf K ReelW 1 sp__law_reel)) {f__law_scene : Addr} {fd__law_scene : FuncData} (n__law_scene : Kn P w K mg base "_law_scene" 3 ps__law_scene f__law_scene fd__law_scene (spOf K ReelW 4 sp__law_scene)) {f__law_spin : Addr} {fd__law_spin : FuncData} (n__law_spin : Kn P w K mg base "_law_spin" 1 ps__law_spin f__law_spin fd__law_spin (spOf K ReelW 2 sp__law_spin)) {f_quiet_spans : Addr} {fd_quiet_spans : FuncData} (n_quiet_spans : Kn P w K mg base "quiet_spans" 4 ps_quiet_spans f_quiet_spans fd_quiet_spans (spOf K ReelW 2 sp_quiet_spans)) {f_call_spans : Addr} {fd_call_spans : FuncData} (n_call_spans : Kn P w K mg base "call_spans" 4 ps_call_spans f_call_spans fd_call_spans (spOf K ReelW 2 sp_call_spans)) {f__law_due : Addr} {fd__law_due : FuncData} (n__law_due : Kn P w K mg base "_law_due" 2 ps__law_due f__law_due fd__law_due (spOf K ReelW 3 sp__law_due)) (m_range : mg "range" = none) (m_repr : mg "repr" = none) (sb : ∃ mm, base.Ns sysModules mm) {f__law_told : Addr} {fd__law_told : FuncData} (tl__law_told : Teller P w K mg base "_law_told" "call" ["call", "found", "error"] (defScope (top 30)) 5 f__law_told fd__law_told spT__law_told) {c Pt : Addr} (TB : LamX.TabB base mg c Pt) (A : Around) (outer : List PySem.Env) (s : Shared) (H : Hp) (E : XK) (hr : Room 6 (A.deeper (envOfC "law" (defScope (top 32)) s.heap.objs.size f (.ref c)))) (gu : (A.deeper (envOfC "law" (defScope (top 32)) s.heap.objs.size f (.ref c))).guards = some []) :
    DSs (tblW ReelW [(Pt, q_law)]) (Fm.one (cxOf (L2.CX P w) P w K mg base N_law "law" (defScope (top 32)) f (.ref c) A outer s H E)) (fun cls d _ H' => E cls d H') (defBody (top 32)) t_law := by
  have un := hr.un
  have n__law_reel := n__law_reel.tb (T := [(Pt, q_law)])
  have n__law_scene := n__law_scene.tb (T := [(Pt, q_law)])
  have n__law_spin := n__law_spin.tb (T := [(Pt, q_law)])
  have n_quiet_spans := n_quiet_spans.tb (T := [(Pt, q_law)])
  have n_call_spans := n_call_spans.tb (T := [(Pt, q_law)])
  have n__law_due := n__law_due.tb (T := [(Pt, q_law)])
  exact (dss_cons (ds_set (dx_call (fun _ => n__law_reel.G) (fun _ => hr.mono (by decide)) (fun _ => gu) (fun _ => rfl) (fun _ => n__law_reel.m) (fun _ => n__law_reel.kp) (fun _ => n__law_reel.bd) (fun _ => takes_of rfl rfl rfl rfl) (da_cons (dx_var fun _ => pv 0) da_nil)) (fun _ => sc_law.nd) (fun _ => rfl) (fun _ => .inl rfl))
    (dss_cons (ds_for (fun _ => passes_of rfl) (fun _ => rfl) (di_rg1 (fun _ => rfl) (fun _ => m_range) (da_cons dx_int da_nil)) (dg_name (fun _ => sc_law.nd) (fun _ => rfl) (fun _ => .inl rfl))
   (dss_cons (ds_asg (dx_call (fun _ => n__law_scene.G) (fun _ => hr.mono (by decide)) (fun _ => gu) (fun _ => rfl) (fun _ => n__law_scene.m) (fun _ => n__law_scene.kp) (fun _ => n__law_scene.bd) (fun _ => takes_of rfl rfl rfl rfl) (da_cons (dx_var fun _ => pv 1) (da_cons dx_int (da_cons (dx_ix (dx_frz (df_lst (da_cons dx_int (da_cons dx_int (da_cons (dx_kpow (v := 10000) dx_int dx_int (by show _ ∧ _; decide)) da_nil))))) (dx_op od_mod (dx_var fun _ => pv 2) dx_int)) (da_cons dx_int da_nil))))) (dg_tup (fun _ => rfl) (dgs_cons (dg_name (fun _ => sc_law.nd) (fun _ => rfl) (fun _ => .inl rfl)) (dgs_cons (dg_name (fun _ => sc_law.nd) (fun _ => rfl) (fun _ => .inl rfl)) dgs_nil))))
    (dss_one (ds_for (fun _ => passes_of rfl) (fun _ => rfl) (di_seq (dx_var fun _ => pv 3)) (dg_name (fun _ => sc_law.nd) (fun _ => rfl) (fun _ => .inr rfl))
   (dss_cons (ds_set (dx_ix (dx_var fun _ => pv 13) dx_int) (fun _ => sc_law.nd) (fun _ => rfl) (fun _ => .inl rfl))
    (dss_cons (ds_set (dx_tup (da_cons (dx_tup (da_cons dx_int (da_cons (dx_op od_mul dx_int (dx_var fun _ => pv 5)) da_nil))) (da_cons (dx_tup (da_cons (dx_op od_sub (dx_kpow (v := 1000000000) dx_int dx_int (by show _ ∧ _; decide)) (dx_op od_mul dx_int (dx_var fun _ => pv 5))) (da_cons (dx_op od_add (dx_kpow (v := 1000000000) dx_int dx_int (by show _ ∧ _; decide)) (dx_op od_mul (dx_var fun _ => pv 5) (dx_call (fun _ => n__law_spin.G) (fun _ => hr.mono (by decide)) (fun _ => gu) (fun _ => rfl) (fun _ => n__law_spin.m) (fun _ => n__law_spin.kp) (fun _ => n__law_spin.bd) (fun _ => takes_of rfl rfl rfl rfl) (da_cons (dx_var fun _ => pv 1) (da_cons dx_int da_nil))))) da_nil))) da_nil))) (fun _ => sc_law.nd) (fun _ => rfl) (fun _ => .inl rfl))
    (dss_cons (ds_set (dx_tup (da_cons (dx_tup (da_cons dx_int (da_cons (dx_op od_sub (dx_op od_add dx_int (dx_op od_mul dx_int (dx_var fun _ => pv 5))) dx_int) da_nil))) (da_cons (dx_tup (da_cons (dx_kpow (v := 1000000) dx_int dx_int (by show _ ∧ _; decide)) (da_cons (dx_op od_add (dx_kpow (v := 1000000) dx_int dx_int (by show _ ∧ _; decide)) (dx_op od_mul dx_int (dx_var fun _ => pv 5))) da_nil))) (da_cons (dx_tup (da_cons (dx_kpow (v := 10000000) dx_int dx_int (by show _ ∧ _; decide)) (da_cons (dx_op od_add (dx_kpow (v := 10000000) dx_int dx_int (by show _ ∧ _; decide)) (dx_var fun _ => pv 5)) da_nil))) da_nil)))) (fun _ => sc_law.nd) (fun _ => rfl) (fun _ => .inl rfl))
    (dss_one (ds_for (fun _ => passes_of rfl) (fun _ => rfl) (di_seq (dx_op od_add (dx_var fun _ => pv 4) (dx_tup (da_cons (dx_var fun _ => pv 6) (da_cons (dx_var fun _ => pv 7) (da_cons (dx_tup da_nil) da_nil)))))) (dg_name (fun _ => sc_law.nd) (fun _ => rfl) (fun _ => .inr rfl))
   (dss_cons (ds_par2 (fun _ => rfl) (fun _ => sc_law.nd) (fun _ => rfl) (fun _ => rfl) (by decide) (fun _ => rfl) (fun _ => rfl) (dp_e (dx_callB (cd_repr (fun _ => sb) (fun _ => gu) (fun _ => un_of65 hr)) (fun _ => rfl) (fun _ => m_repr) (by decide +kernel) (da_cons (dx_frz (df_lst (da_cons (dx_var fun _ => pv 13) (da_cons (dx_var fun _ => pv 14) da_nil)))) da_nil)) (dp_f (df_lst da_nil) dp_nil)) (fun _ => by rfl))
    (dss_cons (ds_for (fun _ => passes_of rfl) (fun _ => rfl) (di_rg1 (fun _ => rfl) (fun _ => m_range) (da_cons dx_int da_nil)) (dg_name (fun _ => sc_law.nd) (fun _ => rfl) (fun _ => .inl rfl))
   (dss_cons (ds_set (dx_lam (kl := 4) (fun _ => tl__law_told) (fun _ => TB) (fun _ => rfl) (fun _ => rfl) (List.mem_singleton.mpr rfl) (fun p hp _ => by rw [List.mem_singleton.mp hp]) (fun _ => LamX.lamS_by (sc := defScope (top 32)) (by decide +kernel)) (fun _ => rfl) (fun _ _ _ _ _ => rfl) (fun _ => hr.mono (by decide)) (by decide) (fun _ => gu) (fun _ => rfl) (fun _ E f c' => (dx_call (fun _ => n_quiet_spans.G) (fun j => j.2.1.mono (by decide)) (fun j => j.2.2) (fun _ => rfl) (fun _ => n_quiet_spans.m) (fun _ => n_quiet_spans.kp) (fun _ => n_quiet_spans.bd) (fun _ => takes_of rfl rfl rfl rfl) (da_cons (dx_var fun _ => pv 13) (da_cons (dx_var fun _ => pv 14) da_nil))))) (fun _ => sc_law.nd) (fun _ => rfl) (fun _ => .inl rfl))
    (dss_one (ds_app (dx_frz (df_lst (da_cons (dx_var fun _ => pv 11) (da_cons (dx_lam (kl := 4) (fun _ => tl__law_told) (fun _ => TB) (fun _ => rfl) (fun _ => rfl) (List.mem_singleton.mpr rfl) (fun p hp _ => by rw [List.mem_singleton.mp hp]) (fun _ => LamX.lamS_by (sc := defScope (top 32)) (by decide +kernel)) (fun _ => rfl) (fun _ _ _ _ _ => rfl) (fun _ => hr.mono (by decide)) (by decide) (fun _ => gu) (fun _ => rfl) (fun _ E f c' => (dx_call (fun _ => n_call_spans.G) (fun j => j.2.1.mono (by decide)) (fun j => j.2.2) (fun _ => rfl) (fun _ => n_call_spans.m) (fun _ => n_call_spans.kp) (fun _ => n_call_spans.bd) (fun _ => takes_of rfl rfl rfl rfl) (da_cons (dx_var fun _ => pv 13) (da_cons (dx_var fun _ => pv 14) da_nil))))) da_nil)))) (fun _ => pv 9)))))
    (dss_cons (ds_set (dx_frz (df_lst (da_cons (dx_call (fun _ => n__law_due.G) (fun _ => hr.mono (by decide)) (fun _ => gu) (fun _ => rfl) (fun _ => n__law_due.m) (fun _ => n__law_due.kp) (fun _ => n__law_due.bd) (fun _ => takes_of rfl rfl rfl rfl) (da_cons dx_int (da_cons (dx_var fun _ => pv 13) (da_cons (dx_var fun _ => pv 14) da_nil)))) (da_cons (dx_call (fun _ => n__law_due.G) (fun _ => hr.mono (by decide)) (fun _ => gu) (fun _ => rfl) (fun _ => n__law_due.m) (fun _ => n__law_due.kp) (fun _ => n__law_due.bd) (fun _ => takes_of rfl rfl rfl rfl) (da_cons dx_int (da_cons (dx_var fun _ => pv 13) (da_cons (dx_var fun _ => pv 14) da_nil)))) da_nil)))) (fun _ => sc_law.nd) (fun _ => rfl) (fun _ => .inl rfl))
    (dss_one (ds_if (dw_b (dw_or (db_cmp (od_ne (fun _ => un_of hr)) (dx_callB (cd_repr (fun _ => sb) (fun _ => gu) (fun _ => un_of65 hr)) (fun _ => rfl) (fun _ => m_repr) (by decide +kernel) (da_cons (dx_var fun _ => pv 9) da_nil)) (dx_callB (cd_repr (fun _ => sb) (fun _ => gu) (fun _ => un_of65 hr)) (fun _ => rfl) (fun _ => m_repr) (by decide +kernel) (da_cons (dx_frz (df_lst (da_cons (dx_var fun _ => pv 12) (da_cons (dx_var fun _ => pv 12) da_nil)))) da_nil)) (nomark _)) (dw_or1 (db_cmp (od_ne (fun _ => un_of hr)) (dx_callB (cd_repr (fun _ => sb) (fun _ => gu) (fun _ => un_of65 hr)) (fun _ => rfl) (fun _ => m_repr) (by decide +kernel) (da_cons (dx_frz (df_lst (da_cons (dx_var fun _ => pv 13) (da_cons (dx_var fun _ => pv 14) da_nil)))) da_nil)) (dx_var fun _ => pv 8) (nomark _))))) (dss_one (ds_ret dx_bl)) dss_nil))))))))))))))
    (dss_one (ds_ret (dx_cmp (od_eq (fun _ => un_of hr)) (dx_call (fun _ => n_quiet_spans.G) (fun _ => hr.mono (by decide)) (fun _ => gu) (fun _ => rfl) (fun _ => n_quiet_spans.m) (fun _ => n_quiet_spans.kp) (fun _ => n_quiet_spans.bd) (fun _ => takes_of rfl rfl rfl rfl) (da_cons (dx_tup (da_cons dx_str (da_cons dx_int da_nil))) (da_cons (dx_tup (da_cons (dx_tup (da_cons (dx_ksub (v := 999999997) (dx_kpow (v := 1000000000) dx_int dx_int (by show _ ∧ _; decide)) dx_int) (da_cons (dx_kadd (v := 1000000002) (dx_kpow (v := 1000000000) dx_int dx_int (by show _ ∧ _; decide)) dx_int) da_nil))) da_nil)) da_nil))) (dx_tup (da_cons (dx_tup (da_cons dx_int (da_cons (dx_ksub (v := 999999996) (dx_kpow (v := 1000000000) dx_int dx_int (by show _ ∧ _; decide)) dx_int) da_nil))) da_nil)) (nomark _))))))
end
end K13
/-! text K13p -/
namespace K13
open PySem PySem.Spec PyProof.Rows L2 DL LP RL
theorem pure__law_told (M : Type) (f0 : Addr) (th : Th M) (μ : M) (R : D → M → Prop) (m : ThM th) (h : spT__law_told M th μ R) : t__law_told f0 th { nx := fun _ μ' => R .non μ', rt := R, ex := fun _ _ _ => False } (startD N__law_told [.op (.ref f0)]) μ := by
  show t__law_told f0 th { nx := fun _ μ' => R .non μ', rt := R, ex := fun _ _ _ => False } [.val (.op (.ref f0)), .un, .un] μ
  unfold t__law_told dAct
  simp only [dsSeq, dsRaise, dsTryAs, dsTryO, dIsE, dXf, dStar, dsNever, dsDrop, dsRet, dsRetN, dsRetF, dsIf, dsAsg, dsOwn, dsNext, dsBreak, dsCont, dsAug, dsApp, dsExt, dsSet, dsPar2, dsPar3, dName, g_tup, g_lst, g_cons, g_nil, dsFor, dVar, dC, d2, d1, dL, dNil, dCons, dB, dAnd, dOr, dNot, dAndV, dOrV, dNotV, dIf, dChain, dTup, dLst, dFrz, dTru, dCall, dYes, dSeq, dSeqC, dEnum, dEnumC, dRg1, dRg2, dComp, dCut, dCutF, dAddF, dListF, dMulF, dRev, dPart, dNoPart, dpNil, dpE, dpF, q_isi_int, q_isi_bool, q_isi_str, q_isi_tuple, q_isi_list, q_isi_dict, dIsI, dIsB, dIsS, dIsT, dIsL, dIsD, q_add_i, q_sub, q_mul, q_div, q_mod, q_pow, q_lt, q_le, q_gt, q_ge, q_neg, q_eq_ii, q_ne_ii, q_eq_le, q_ne_le, q_eq_ve, q_ne_ve, q_eq_te, q_ne_te, q_eq_ss, q_ne_ss, q_len, q_bl, q_some, List.getElem?_cons_zero, List.getElem?_cons_succ, List.set_cons_zero, List.set_cons_succ, tru_bl, tru_non, tru_int, tru_tup, tru_lst, tru_vw, len_tup, len_lst, len_vw, len_scr, it_tup, it_lst, it_scr, itc_tup, itc_lst, itc_vw, itc_scr, sta, staL, Bool.and_true, Bool.true_and, Bool.and_eq_true, true_and, and_true, wipeR, if_true, if_false, ite_true, ite_false, Bool.false_eq_true, Bool.not_true, Bool.not_false, Option.some.injEq, exists_eq_left', exists_eq_left, reduceIte, reduceCtorEq, hasTy, tyD, Option.isSome_some, q_ix_t, q_ix_l, q_ix_v, at0, at1, at2, at_two, at_three, at_four, c_pow, c_mul1, c_mul2, Int.reducePow, Int.reduceToNat, Int.reduceMul, Int.reduceAdd, Int.reduceSub, Int.reduceNeg, Int.reduceLT, Int.reduceLE, Int.reduceBEq, Nat.reduceLT, Nat.reduceLeDiff, Nat.reducePow, decide_true, decide_false, Bool.true_and, Bool.and_true, Int.neg_neg, szl, List.length_cons, List.length_nil, Nat.zero_add, Nat.reduceAdd, dDct, List.zip_cons_cons, List.zip_nil_left, List.zip_nil_right, staK, q_add_tt, q_add_ll, q_add_vl, q_add_lv, q_addF_ll, q_addF_vl, q_cut_t, q_cut_l, q_cut_v, q_cut_s, q_rev_t, q_rev_l, q_tuple_t, q_tuple_l, q_tuple_v, q_list_t, q_list_l, q_list_v, q_int_i, q_int_b, q_abs, q_max2, q_min2, q_l1, q_l2, q_int, q_own, q_val, q_own1, q_val1, q_two, q_three, List.cons_append, List.nil_append, List.mem_cons, List.not_mem_nil, or_false, forall_eq_or_imp, forall_eq, ne_eq, not_false_eq_true, q_in_t, q_in_l]
  refine m _ _ _ _ _ h (fun d μ' q st => ?_) fun x μ' q => ?_
  · simp only [st, dsSeq, dsRaise, dsTryAs, dsTryO, dIsE, dXf, dStar, dsNever, dsDrop, dsRet, dsRetN, dsRetF, dsIf, dsAsg, dsOwn, dsNext, dsBreak, dsCont, dsAug, dsApp, dsExt, dsSet, dsPar2, dsPar3, dName, g_tup, g_lst, g_cons, g_nil, dsFor, dVar, dC, d2, d1, dL, dNil, dCons, dB, dAnd, dOr, dNot, dAndV, dOrV, dNotV, dIf, dChain, dTup, dLst, dFrz, dTru, dCall, dYes, dSeq, dSeqC, dEnum, dEnumC, dRg1, dRg2, dComp, dCut, dCutF, dAddF, dListF, dMulF, dRev, dPart, dNoPart, dpNil, dpE, dpF, q_isi_int, q_isi_bool, q_isi_str, q_isi_tuple, q_isi_list, q_isi_dict, dIsI, dIsB, dIsS, dIsT, dIsL, dIsD, q_add_i, q_sub, q_mul, q_div, q_mod, q_pow, q_lt, q_le, q_gt, q_ge, q_neg, q_eq_ii, q_ne_ii, q_eq_le, q_ne_le, q_eq_ve, q_ne_ve, q_eq_te, q_ne_te, q_eq_ss, q_ne_ss, q_len, q_bl, q_some, List.getElem?_cons_zero, List.getElem?_cons_succ, List.set_cons_zero, List.set_cons_succ, tru_bl, tru_non, tru_int, tru_tup, tru_lst, tru_vw, len_tup, len_lst, len_vw, len_scr, it_tup, it_lst, it_scr, itc_tup, itc_lst, itc_vw, itc_scr, sta, staL, Bool.and_true, Bool.true_and, Bool.and_eq_true, true_and, and_true, wipeR, if_true, if_false, ite_true, ite_false, Bool.false_eq_true, Bool.not_true, Bool.not_false, Option.some.injEq, exists_eq_left', exists_eq_left, reduceIte, reduceCtorEq, hasTy, tyD, Option.isSome_some, q_ix_t, q_ix_l, q_ix_v, at0, at1, at2, at_two, at_three, at_four, c_pow, c_mul1, c_mul2, Int.reducePow, Int.reduceToNat, Int.reduceMul, Int.reduceAdd, Int.reduceSub, Int.reduceNeg, Int.reduceLT, Int.reduceLE, Int.reduceBEq, Nat.reduceLT, Nat.reduceLeDiff, Nat.reducePow, decide_true, decide_false, Bool.true_and, Bool.and_true, Int.neg_neg, szl, List.length_cons, List.length_nil, Nat.zero_add, Nat.reduceAdd, dDct, List.zip_cons_cons, List.zip_nil_left, List.zip_nil_right, staK, q_add_tt, q_add_ll, q_add_vl, q_add_lv, q_addF_ll, q_addF_vl, q_cut_t, q_cut_l, q_cut_v, q_cut_s, q_rev_t, q_rev_l, q_tuple_t, q_tuple_l, q_tuple_v, q_list_t, q_list_l, q_list_v, q_int_i, q_int_b, q_abs, q_max2, q_min2, q_l1, q_l2, q_int, q_own, q_val, q_own1, q_val1, q_two, q_three, List.cons_append, List.nil_append, List.mem_cons, List.not_mem_nil, or_false, forall_eq_or_imp, forall_eq, ne_eq, not_false_eq_true, q_in_t, q_in_l]
    exact q
  · obtain ⟨r, rfl, st, hr⟩ := q
    have e1 : (["OtherCount"].any fun c => isSub "Unexplained" c) = false := rfl
    have e2 : (["Unexplained"].any fun c => isSub "Unexplained" c) = true := rfl
    have e3 : (["NoMinute"].any fun c => isSub "Unexplained" c) = false := rfl
    have e4 : (["NoIndex"].any fun c => isSub "Unexplained" c) = false := rfl
    have e5 : (["ValueError"].any fun c => isSub "Unexplained" c) = true := rfl
    have e6 : (["BadLamp", "BadLog", "TooLarge"].any fun c => isSub "Unexplained" c) = false := rfl
    refine ⟨by simp [unexX], ?_⟩
    rw [if_pos (show isSub (unexX r).cls "LampError" = true from rfl)]
    intro a cls d
    unfold unexX
    simp only [st, e1, e2, e3, e4, e5, e6, dsSeq, dsRaise, dsTryAs, dsTryO, dIsE, dXf, dStar, dsNever, dsDrop, dsRet, dsRetN, dsRetF, dsIf, dsAsg, dsOwn, dsNext, dsBreak, dsCont, dsAug, dsApp, dsExt, dsSet, dsPar2, dsPar3, dName, g_tup, g_lst, g_cons, g_nil, dsFor, dVar, dC, d2, d1, dL, dNil, dCons, dB, dAnd, dOr, dNot, dAndV, dOrV, dNotV, dIf, dChain, dTup, dLst, dFrz, dTru, dCall, dYes, dSeq, dSeqC, dEnum, dEnumC, dRg1, dRg2, dComp, dCut, dCutF, dAddF, dListF, dMulF, dRev, dPart, dNoPart, dpNil, dpE, dpF, q_isi_int, q_isi_bool, q_isi_str, q_isi_tuple, q_isi_list, q_isi_dict, dIsI, dIsB, dIsS, dIsT, dIsL, dIsD, q_add_i, q_sub, q_mul, q_div, q_mod, q_pow, q_lt, q_le, q_gt, q_ge, q_neg, q_eq_ii, q_ne_ii, q_eq_le, q_ne_le, q_eq_ve, q_ne_ve, q_eq_te, q_ne_te, q_eq_ss, q_ne_ss, q_len, q_bl, q_some, List.getElem?_cons_zero, List.getElem?_cons_succ, List.set_cons_zero, List.set_cons_succ, tru_bl, tru_non, tru_int, tru_tup, tru_lst, tru_vw, len_tup, len_lst, len_vw, len_scr, it_tup, it_lst, it_scr, itc_tup, itc_lst, itc_vw, itc_scr, sta, staL, Bool.and_true, Bool.true_and, Bool.and_eq_true, true_and, and_true, wipeR, if_true, if_false, ite_true, ite_false, Bool.false_eq_true, Bool.not_true, Bool.not_false, Option.some.injEq, exists_eq_left', exists_eq_left, reduceIte, reduceCtorEq, hasTy, tyD, Option.isSome_some, q_ix_t, q_ix_l, q_ix_v, at0, at1, at2, at_two, at_three, at_four, c_pow, c_mul1, c_mul2, Int.reducePow, Int.reduceToNat, Int.reduceMul, Int.reduceAdd, Int.reduceSub, Int.reduceNeg, Int.reduceLT, Int.reduceLE, Int.reduceBEq, Nat.reduceLT, Nat.reduceLeDiff, Nat.reducePow, decide_true, decide_false, Bool.true_and, Bool.and_true, Int.neg_neg, szl, List.length_cons, List.length_nil, Nat.zero_add, Nat.reduceAdd, dDct, List.zip_cons_cons, List.zip_nil_left, List.zip_nil_right, staK, q_add_tt, q_add_ll, q_add_vl, q_add_lv, q_addF_ll, q_addF_vl, q_cut_t, q_cut_l, q_cut_v, q_cut_s, q_rev_t, q_rev_l, q_tuple_t, q_tuple_l, q_tuple_v, q_list_t, q_list_l, q_list_v, q_int_i, q_int_b, q_abs, q_max2, q_min2, q_l1, q_l2, q_int, q_own, q_val, q_own1, q_val1, q_two, q_three, List.cons_append, List.nil_append, List.mem_cons, List.not_mem_nil, or_false, forall_eq_or_imp, forall_eq, ne_eq, not_false_eq_true, q_in_t, q_in_l]
    refine ⟨r, rfl, st, ?_⟩
    simp only [st, dsSeq, dsRaise, dsTryAs, dsTryO, dIsE, dXf, dStar, dsNever, dsDrop, dsRet, dsRetN, dsRetF, dsIf, dsAsg, dsOwn, dsNext, dsBreak, dsCont, dsAug, dsApp, dsExt, dsSet, dsPar2, dsPar3, dName, g_tup, g_lst, g_cons, g_nil, dsFor, dVar, dC, d2, d1, dL, dNil, dCons, dB, dAnd, dOr, dNot, dAndV, dOrV, dNotV, dIf, dChain, dTup, dLst, dFrz, dTru, dCall, dYes, dSeq, dSeqC, dEnum, dEnumC, dRg1, dRg2, dComp, dCut, dCutF, dAddF, dListF, dMulF, dRev, dPart, dNoPart, dpNil, dpE, dpF, q_isi_int, q_isi_bool, q_isi_str, q_isi_tuple, q_isi_list, q_isi_dict, dIsI, dIsB, dIsS, dIsT, dIsL, dIsD, q_add_i, q_sub, q_mul, q_div, q_mod, q_pow, q_lt, q_le, q_gt, q_ge, q_neg, q_eq_ii, q_ne_ii, q_eq_le, q_ne_le, q_eq_ve, q_ne_ve, q_eq_te, q_ne_te, q_eq_ss, q_ne_ss, q_len, q_bl, q_some, List.getElem?_cons_zero, List.getElem?_cons_succ, List.set_cons_zero, List.set_cons_succ, tru_bl, tru_non, tru_int, tru_tup, tru_lst, tru_vw, len_tup, len_lst, len_vw, len_scr, it_tup, it_lst, it_scr, itc_tup, itc_lst, itc_vw, itc_scr, sta, staL, Bool.and_true, Bool.true_and, Bool.and_eq_true, true_and, and_true, wipeR, if_true, if_false, ite_true, ite_false, Bool.false_eq_true, Bool.not_true, Bool.not_false, Option.some.injEq, exists_eq_left', exists_eq_left, reduceIte, reduceCtorEq, hasTy, tyD, Option.isSome_some, q_ix_t, q_ix_l, q_ix_v, at0, at1, at2, at_two, at_three, at_four, c_pow, c_mul1, c_mul2, Int.reducePow, Int.reduceToNat, Int.reduceMul, Int.reduceAdd, Int.reduceSub, Int.reduceNeg, Int.reduceLT, Int.reduceLE, Int.reduceBEq, Nat.reduceLT, Nat.reduceLeDiff, Nat.reducePow, decide_true, decide_false, Bool.true_and, Bool.and_true, Int.neg_neg, szl, List.length_cons, List.length_nil, Nat.zero_add, Nat.reduceAdd, dDct, List.zip_cons_cons, List.zip_nil_left, List.zip_nil_right, staK, q_add_tt, q_add_ll, q_add_vl, q_add_lv, q_addF_ll, q_addF_vl, q_cut_t, q_cut_l, q_cut_v, q_cut_s, q_rev_t, q_rev_l, q_tuple_t, q_tuple_l, q_tuple_v, q_list_t, q_list_l, q_list_v, q_int_i, q_int_b, q_abs, q_max2, q_min2, q_l1, q_l2, q_int, q_own, q_val, q_own1, q_val1, q_two, q_three, List.cons_append, List.nil_append, List.mem_cons, List.not_mem_nil, or_false, forall_eq_or_imp, forall_eq, ne_eq, not_false_eq_true, q_in_t, q_in_l]
    exact hr
end K13
namespace K13
open PySem PySem.Spec PyProof.Rows L2 DL LP RL
theorem quietL_eq (l : Lamp) : ∀ (g : Lg) (p f f' : Int), AscP p g → (∀ s ∈ g, s.1 ≤ 1000000000) → (f = f' ∨ (1000000000 < f ∧ 1000000000 < f' ∧ 1000000000 ≤ p)) → quietL l f g = quietI l f' g
  | [], p, f, f', _, _, h => by
    unfold quietL quietI
    rcases h with rfl | h
    · rfl
    · rw [if_neg (by omega), if_neg (by omega)]
  | s :: g, p, f, f', ha, hb, h => by
    have hs := hb s (List.mem_cons_self ..)
    obtain ⟨a1, a2, a3⟩ := ha
    have e : f = f' := by
      rcases h with h | h
      · exact h
      · omega
    subst e
    unfold quietL quietI
    congr 1
    refine quietL_eq l g s.2 _ _ a3 (fun x hx => hb x (List.mem_cons_of_mem _ hx)) ?_
    unfold lastI
    split
    · exact .inl rfl
    · by_cases q : s.2 - 1 ≤ 1000000000
      · left; rw [Int.min_eq_left q]; omega
      · right; rw [Int.min_eq_right (by omega)]; omega
theorem fits_le {l : Lamp} {s : Int × Int} (h0 : 1 ≤ l.2) (h1 : s.1 < s.2) (h : fitsB l s = true) : s.1 ≤ 1000000000 := by
  unfold fitsB at h
  simp only [Bool.and_eq_true, Bool.not_eq_true', decide_eq_false_iff_not] at h
  obtain ⟨ha, hb⟩ := h
  split at hb
  · have := of_decide_eq_true hb; omega
  · have hb := eq_of_beq hb
    have := Int.emod_add_mul_ediv (s.2 - s.1) l.2
    rw [hb, Int.zero_add] at this
    have q0 : 0 ≤ (s.2 - s.1) / l.2 := Int.ediv_nonneg (by omega) (by omega)
    by_cases q1 : (s.2 - s.1) / l.2 = 0
    · rw [q1, Int.mul_zero] at this
      omega
    · have := Int.mul_le_mul (Int.le_refl l.2) (show 1 ≤ (s.2 - s.1) / l.2 by omega) (by omega) (by omega)
      omega
section
variable (ds : List D) (μ : ReelW.M) (R : D → ReelW.M → Prop) (Ed : Xc → ReelW.M → Prop)
theorem pure__law_quiet (hl : ds.length = ps__law_quiet.length) (hs : sp__law_quiet ds μ R Ed) (st : staL ds = true) : t__law_quiet (fin R Ed) (startD N__law_quiet ds) μ := by
  obtain ⟨⟨k, stay⟩, g, rfl, hx, hg, h⟩ := hs
  have hx' := hx
  unfold LampOk at hx'
  dsimp only at hx'
  have hlen := hg.len
  show t__law_quiet (fin R Ed) [.val (lampD (k, stay)), .val (logD g), .un, .un, .un, .un, .un, .un] μ
  unfold t__law_quiet s__law_quiet_0 s__law_quiet_1 s__law_quiet_2 lampD logD
  simp only [staL_p, dsSeq, dsRaise, dsTryAs, dsTryO, dIsE, dXf, dStar, dsNever, dsDrop, dsRet, dsRetN, dsRetF, dsIf, dsAsg, dsOwn, dsNext, dsBreak, dsCont, dsAug, dsApp, dsExt, dsSet, dsPar2, dsPar3, dName, g_tup, g_lst, g_cons, g_nil, dsFor, dVar, dC, d2, d1, dL, dNil, dCons, dB, dAnd, dOr, dNot, dAndV, dOrV, dNotV, dIf, dChain, dTup, dLst, dFrz, dTru, dCall, dYes, dSeq, dSeqC, dEnum, dEnumC, dRg1, dRg2, dComp, dCut, dCutF, dAddF, dListF, dMulF, dRev, dPart, dNoPart, dpNil, dpE, dpF, q_isi_int, q_isi_bool, q_isi_str, q_isi_tuple, q_isi_list, q_isi_dict, dIsI, dIsB, dIsS, dIsT, dIsL, dIsD, q_add_i, q_sub, q_mul, q_div, q_mod, q_pow, q_lt, q_le, q_gt, q_ge, q_neg, q_eq_ii, q_ne_ii, q_eq_le, q_ne_le, q_eq_ve, q_ne_ve, q_eq_te, q_ne_te, q_eq_ss, q_ne_ss, q_len, q_bl, q_some, List.getElem?_cons_zero, List.getElem?_cons_succ, List.set_cons_zero, List.set_cons_succ, tru_bl, tru_non, tru_int, tru_tup, tru_lst, tru_vw, len_tup, len_lst, len_vw, len_scr, it_tup, it_lst, it_scr, itc_tup, itc_lst, itc_vw, itc_scr, sta, staL, Bool.and_true, Bool.true_and, Bool.and_eq_true, true_and, and_true, wipeR, if_true, if_false, ite_true, ite_false, Bool.false_eq_true, Bool.not_true, Bool.not_false, Option.some.injEq, exists_eq_left', exists_eq_left, reduceIte, reduceCtorEq, hasTy, tyD, Option.isSome_some, q_ix_t, q_ix_l, q_ix_v, at0, at1, at2, at_two, at_three, at_four, c_pow, c_mul1, c_mul2, Int.reducePow, Int.reduceToNat, Int.reduceMul, Int.reduceAdd, Int.reduceSub, Int.reduceNeg, Int.reduceLT, Int.reduceLE, Int.reduceBEq, Nat.reduceLT, Nat.reduceLeDiff, Nat.reducePow, decide_true, decide_false, Bool.true_and, Bool.and_true, Int.neg_neg, szl, List.length_cons, List.length_nil, Nat.zero_add, Nat.reduceAdd, dDct, List.zip_cons_cons, List.zip_nil_left, List.zip_nil_right, staK, q_add_tt, q_add_ll, q_add_vl, q_add_lv, q_addF_ll, q_addF_vl, q_cut_t, q_cut_l, q_cut_v, q_cut_s, q_rev_t, q_rev_l, q_tuple_t, q_tuple_l, q_tuple_v, q_list_t, q_list_l, q_list_v, q_int_i, q_int_b, q_abs, q_max2, q_min2, q_l1, q_l2, q_int, q_own, q_val, q_own1, q_val1, q_two, q_three, List.cons_append, List.nil_append, List.mem_cons, List.not_mem_nil, or_false, forall_eq_or_imp, forall_eq, ne_eq, not_false_eq_true, q_in_t, q_in_l]
  refine loop_t (Z := ReelW) pD (fun rem ρ μ' => ∃ (found : Lg) (first : Int) (a b : Slot), ρ = [.val (.tup [.str (kS k), .int stay]), .val (.tup (g.map pD)), .val (.str (kS k)), .val (.int stay), .val (.lst (found.map pD)), .val (.int first), a, b] ∧ μ' = μ ∧ found ++ quietL (k, stay) first rem = quietL (k, stay) 0 g ∧ found.length + rem.length ≤ 1000) ?_ ?_ ⟨[], 0, _, _, rfl, rfl, rfl, by simp; omega⟩
  · rintro ⟨on, off⟩ rem ρ μ' N ⟨found, first, a, b, rfl, rfl, e, hz⟩ hN
    unfold l__law_quiet_2 s__law_quiet_2f_0 s__law_quiet_2f_1 pD
    simp only [kS_hold, List.length_map, dsSeq, dsRaise, dsTryAs, dsTryO, dIsE, dXf, dStar, dsNever, dsDrop, dsRet, dsRetN, dsRetF, dsIf, dsAsg, dsOwn, dsNext, dsBreak, dsCont, dsAug, dsApp, dsExt, dsSet, dsPar2, dsPar3, dName, g_tup, g_lst, g_cons, g_nil, dsFor, dVar, dC, d2, d1, dL, dNil, dCons, dB, dAnd, dOr, dNot, dAndV, dOrV, dNotV, dIf, dChain, dTup, dLst, dFrz, dTru, dCall, dYes, dSeq, dSeqC, dEnum, dEnumC, dRg1, dRg2, dComp, dCut, dCutF, dAddF, dListF, dMulF, dRev, dPart, dNoPart, dpNil, dpE, dpF, q_isi_int, q_isi_bool, q_isi_str, q_isi_tuple, q_isi_list, q_isi_dict, dIsI, dIsB, dIsS, dIsT, dIsL, dIsD, q_add_i, q_sub, q_mul, q_div, q_mod, q_pow, q_lt, q_le, q_gt, q_ge, q_neg, q_eq_ii, q_ne_ii, q_eq_le, q_ne_le, q_eq_ve, q_ne_ve, q_eq_te, q_ne_te, q_eq_ss, q_ne_ss, q_len, q_bl, q_some, List.getElem?_cons_zero, List.getElem?_cons_succ, List.set_cons_zero, List.set_cons_succ, tru_bl, tru_non, tru_int, tru_tup, tru_lst, tru_vw, len_tup, len_lst, len_vw, len_scr, it_tup, it_lst, it_scr, itc_tup, itc_lst, itc_vw, itc_scr, sta, staL, Bool.and_true, Bool.true_and, Bool.and_eq_true, true_and, and_true, wipeR, if_true, if_false, ite_true, ite_false, Bool.false_eq_true, Bool.not_true, Bool.not_false, Option.some.injEq, exists_eq_left', exists_eq_left, reduceIte, reduceCtorEq, hasTy, tyD, Option.isSome_some, q_ix_t, q_ix_l, q_ix_v, at0, at1, at2, at_two, at_three, at_four, c_pow, c_mul1, c_mul2, Int.reducePow, Int.reduceToNat, Int.reduceMul, Int.reduceAdd, Int.reduceSub, Int.reduceNeg, Int.reduceLT, Int.reduceLE, Int.reduceBEq, Nat.reduceLT, Nat.reduceLeDiff, Nat.reducePow, decide_true, decide_false, Bool.true_and, Bool.and_true, Int.neg_neg, szl, List.length_cons, List.length_nil, Nat.zero_add, Nat.reduceAdd, dDct, List.zip_cons_cons, List.zip_nil_left, List.zip_nil_right, staK, q_add_tt, q_add_ll, q_add_vl, q_add_lv, q_addF_ll, q_addF_vl, q_cut_t, q_cut_l, q_cut_v, q_cut_s, q_rev_t, q_rev_l, q_tuple_t, q_tuple_l, q_tuple_v, q_list_t, q_list_l, q_list_v, q_int_i, q_int_b, q_abs, q_max2, q_min2, q_l1, q_l2, q_int, q_own, q_val, q_own1, q_val1, q_two, q_three, List.cons_append, List.nil_append, List.mem_cons, List.not_mem_nil, or_false, forall_eq_or_imp, forall_eq, ne_eq, not_false_eq_true, q_in_t, q_in_l]
    rw [quietL] at e
    dsimp only at e
    simp only [List.length_cons] at hz
    refine mul_bit (by simp [sizeLine]) ?_
    have key : ∀ f2 : Lg, (if first < on then [(first, on - 1)] else []) = f2 → f2.length ≤ 1 → ∀ nf, (if k = true then off - stay + 1 else off) = nf → N [.val (.tup [.str (kS k), .int stay]), .val (.tup (g.map pD)), .val (.str (kS k)), .val (.int stay), .val (.lst (found.map pD ++ f2.map pD)), .val (.int nf), .val (.int on), .val (.int off)] μ' := fun f2 e2 l2 nf e3 => by
      rw [e2, e3] at e
      exact hN _ _ ⟨found ++ f2, nf, _, _, by rw [List.map_append], rfl, by rw [List.append_assoc]; exact e, by rw [List.length_append]; omega⟩
    by_cases h1 : first < on
    · rw [if_pos (decide_eq_true h1)]
      have key2 := key [(first, on - 1)] (if_pos h1) (by simp)
      simp only [List.length_map, staL_p, dsSeq, dsRaise, dsTryAs, dsTryO, dIsE, dXf, dStar, dsNever, dsDrop, dsRet, dsRetN, dsRetF, dsIf, dsAsg, dsOwn, dsNext, dsBreak, dsCont, dsAug, dsApp, dsExt, dsSet, dsPar2, dsPar3, dName, g_tup, g_lst, g_cons, g_nil, dsFor, dVar, dC, d2, d1, dL, dNil, dCons, dB, dAnd, dOr, dNot, dAndV, dOrV, dNotV, dIf, dChain, dTup, dLst, dFrz, dTru, dCall, dYes, dSeq, dSeqC, dEnum, dEnumC, dRg1, dRg2, dComp, dCut, dCutF, dAddF, dListF, dMulF, dRev, dPart, dNoPart, dpNil, dpE, dpF, q_isi_int, q_isi_bool, q_isi_str, q_isi_tuple, q_isi_list, q_isi_dict, dIsI, dIsB, dIsS, dIsT, dIsL, dIsD, q_add_i, q_sub, q_mul, q_div, q_mod, q_pow, q_lt, q_le, q_gt, q_ge, q_neg, q_eq_ii, q_ne_ii, q_eq_le, q_ne_le, q_eq_ve, q_ne_ve, q_eq_te, q_ne_te, q_eq_ss, q_ne_ss, q_len, q_bl, q_some, List.getElem?_cons_zero, List.getElem?_cons_succ, List.set_cons_zero, List.set_cons_succ, tru_bl, tru_non, tru_int, tru_tup, tru_lst, tru_vw, len_tup, len_lst, len_vw, len_scr, it_tup, it_lst, it_scr, itc_tup, itc_lst, itc_vw, itc_scr, sta, staL, Bool.and_true, Bool.true_and, Bool.and_eq_true, true_and, and_true, wipeR, if_true, if_false, ite_true, ite_false, Bool.false_eq_true, Bool.not_true, Bool.not_false, Option.some.injEq, exists_eq_left', exists_eq_left, reduceIte, reduceCtorEq, hasTy, tyD, Option.isSome_some, q_ix_t, q_ix_l, q_ix_v, at0, at1, at2, at_two, at_three, at_four, c_pow, c_mul1, c_mul2, Int.reducePow, Int.reduceToNat, Int.reduceMul, Int.reduceAdd, Int.reduceSub, Int.reduceNeg, Int.reduceLT, Int.reduceLE, Int.reduceBEq, Nat.reduceLT, Nat.reduceLeDiff, Nat.reducePow, decide_true, decide_false, Bool.true_and, Bool.and_true, Int.neg_neg, szl, List.length_cons, List.length_nil, Nat.zero_add, Nat.reduceAdd, dDct, List.zip_cons_cons, List.zip_nil_left, List.zip_nil_right, staK, q_add_tt, q_add_ll, q_add_vl, q_add_lv, q_addF_ll, q_addF_vl, q_cut_t, q_cut_l, q_cut_v, q_cut_s, q_rev_t, q_rev_l, q_tuple_t, q_tuple_l, q_tuple_v, q_list_t, q_list_l, q_list_v, q_int_i, q_int_b, q_abs, q_max2, q_min2, q_l1, q_l2, q_int, q_own, q_val, q_own1, q_val1, q_two, q_three, List.cons_append, List.nil_append, List.mem_cons, List.not_mem_nil, or_false, forall_eq_or_imp, forall_eq, ne_eq, not_false_eq_true, q_in_t, q_in_l]
      refine ⟨by omega, staL_append (staL_p found) (staL_p [(first, on - 1)]), ?_⟩
      cases k with
      | true => rw [if_pos rfl]; exact key2 _ (if_pos rfl)
      | false => rw [if_neg (by decide)]; exact key2 _ (if_neg (by decide))
    · rw [if_neg (by simpa using h1)]
      have key2 := key [] (if_neg h1) (by simp)
      simp only [List.length_map, staL_p, dsSeq, dsRaise, dsTryAs, dsTryO, dIsE, dXf, dStar, dsNever, dsDrop, dsRet, dsRetN, dsRetF, dsIf, dsAsg, dsOwn, dsNext, dsBreak, dsCont, dsAug, dsApp, dsExt, dsSet, dsPar2, dsPar3, dName, g_tup, g_lst, g_cons, g_nil, dsFor, dVar, dC, d2, d1, dL, dNil, dCons, dB, dAnd, dOr, dNot, dAndV, dOrV, dNotV, dIf, dChain, dTup, dLst, dFrz, dTru, dCall, dYes, dSeq, dSeqC, dEnum, dEnumC, dRg1, dRg2, dComp, dCut, dCutF, dAddF, dListF, dMulF, dRev, dPart, dNoPart, dpNil, dpE, dpF, q_isi_int, q_isi_bool, q_isi_str, q_isi_tuple, q_isi_list, q_isi_dict, dIsI, dIsB, dIsS, dIsT, dIsL, dIsD, q_add_i, q_sub, q_mul, q_div, q_mod, q_pow, q_lt, q_le, q_gt, q_ge, q_neg, q_eq_ii, q_ne_ii, q_eq_le, q_ne_le, q_eq_ve, q_ne_ve, q_eq_te, q_ne_te, q_eq_ss, q_ne_ss, q_len, q_bl, q_some, List.getElem?_cons_zero, List.getElem?_cons_succ, List.set_cons_zero, List.set_cons_succ, tru_bl, tru_non, tru_int, tru_tup, tru_lst, tru_vw, len_tup, len_lst, len_vw, len_scr, it_tup, it_lst, it_scr, itc_tup, itc_lst, itc_vw, itc_scr, sta, staL, Bool.and_true, Bool.true_and, Bool.and_eq_true, true_and, and_true, wipeR, if_true, if_false, ite_true, ite_false, Bool.false_eq_true, Bool.not_true, Bool.not_false, Option.some.injEq, exists_eq_left', exists_eq_left, reduceIte, reduceCtorEq, hasTy, tyD, Option.isSome_some, q_ix_t, q_ix_l, q_ix_v, at0, at1, at2, at_two, at_three, at_four, c_pow, c_mul1, c_mul2, Int.reducePow, Int.reduceToNat, Int.reduceMul, Int.reduceAdd, Int.reduceSub, Int.reduceNeg, Int.reduceLT, Int.reduceLE, Int.reduceBEq, Nat.reduceLT, Nat.reduceLeDiff, Nat.reducePow, decide_true, decide_false, Bool.true_and, Bool.and_true, Int.neg_neg, szl, List.length_cons, List.length_nil, Nat.zero_add, Nat.reduceAdd, dDct, List.zip_cons_cons, List.zip_nil_left, List.zip_nil_right, staK, q_add_tt, q_add_ll, q_add_vl, q_add_lv, q_addF_ll, q_addF_vl, q_cut_t, q_cut_l, q_cut_v, q_cut_s, q_rev_t, q_rev_l, q_tuple_t, q_tuple_l, q_tuple_v, q_list_t, q_list_l, q_list_v, q_int_i, q_int_b, q_abs, q_max2, q_min2, q_l1, q_l2, q_int, q_own, q_val, q_own1, q_val1, q_two, q_three, List.cons_append, List.nil_append, List.mem_cons, List.not_mem_nil, or_false, forall_eq_or_imp, forall_eq, ne_eq, not_false_eq_true, q_in_t, q_in_l]
      refine ⟨by omega, staL_append (staL_p found) rfl, ?_⟩
      cases k with
      | true => rw [if_pos rfl]; exact key2 _ (if_pos rfl)
      | false => rw [if_neg (by decide)]; exact key2 _ (if_neg (by decide))
  · rintro ρ μ' ⟨found, first, a, b, rfl, rfl, e, hz⟩
    unfold s__law_quiet_3
    simp only [List.length_map, dsSeq, dsRaise, dsTryAs, dsTryO, dIsE, dXf, dStar, dsNever, dsDrop, dsRet, dsRetN, dsRetF, dsIf, dsAsg, dsOwn, dsNext, dsBreak, dsCont, dsAug, dsApp, dsExt, dsSet, dsPar2, dsPar3, dName, g_tup, g_lst, g_cons, g_nil, dsFor, dVar, dC, d2, d1, dL, dNil, dCons, dB, dAnd, dOr, dNot, dAndV, dOrV, dNotV, dIf, dChain, dTup, dLst, dFrz, dTru, dCall, dYes, dSeq, dSeqC, dEnum, dEnumC, dRg1, dRg2, dComp, dCut, dCutF, dAddF, dListF, dMulF, dRev, dPart, dNoPart, dpNil, dpE, dpF, q_isi_int, q_isi_bool, q_isi_str, q_isi_tuple, q_isi_list, q_isi_dict, dIsI, dIsB, dIsS, dIsT, dIsL, dIsD, q_add_i, q_sub, q_mul, q_div, q_mod, q_pow, q_lt, q_le, q_gt, q_ge, q_neg, q_eq_ii, q_ne_ii, q_eq_le, q_ne_le, q_eq_ve, q_ne_ve, q_eq_te, q_ne_te, q_eq_ss, q_ne_ss, q_len, q_bl, q_some, List.getElem?_cons_zero, List.getElem?_cons_succ, List.set_cons_zero, List.set_cons_succ, tru_bl, tru_non, tru_int, tru_tup, tru_lst, tru_vw, len_tup, len_lst, len_vw, len_scr, it_tup, it_lst, it_scr, itc_tup, itc_lst, itc_vw, itc_scr, sta, staL, Bool.and_true, Bool.true_and, Bool.and_eq_true, true_and, and_true, wipeR, if_true, if_false, ite_true, ite_false, Bool.false_eq_true, Bool.not_true, Bool.not_false, Option.some.injEq, exists_eq_left', exists_eq_left, reduceIte, reduceCtorEq, hasTy, tyD, Option.isSome_some, q_ix_t, q_ix_l, q_ix_v, at0, at1, at2, at_two, at_three, at_four, c_pow, c_mul1, c_mul2, Int.reducePow, Int.reduceToNat, Int.reduceMul, Int.reduceAdd, Int.reduceSub, Int.reduceNeg, Int.reduceLT, Int.reduceLE, Int.reduceBEq, Nat.reduceLT, Nat.reduceLeDiff, Nat.reducePow, decide_true, decide_false, Bool.true_and, Bool.and_true, Int.neg_neg, szl, List.length_cons, List.length_nil, Nat.zero_add, Nat.reduceAdd, dDct, List.zip_cons_cons, List.zip_nil_left, List.zip_nil_right, staK, q_add_tt, q_add_ll, q_add_vl, q_add_lv, q_addF_ll, q_addF_vl, q_cut_t, q_cut_l, q_cut_v, q_cut_s, q_rev_t, q_rev_l, q_tuple_t, q_tuple_l, q_tuple_v, q_list_t, q_list_l, q_list_v, q_int_i, q_int_b, q_abs, q_max2, q_min2, q_l1, q_l2, q_int, q_own, q_val, q_own1, q_val1, q_two, q_three, List.cons_append, List.nil_append, List.mem_cons, List.not_mem_nil, or_false, forall_eq_or_imp, forall_eq, ne_eq, not_false_eq_true, q_in_t, q_in_l]
    rw [quietL] at e
    refine mul_bit (by simp [sizeLine]) ?_
    by_cases h1 : first ≤ 1000000000
    · rw [if_pos (decide_eq_true h1)]
      rw [if_pos h1] at e
      have e2 : found.map pD ++ [D.tup [.int first, .int 1000000000]] = (quietL (k, stay) 0 g).map pD := by rw [← e, List.map_append]; rfl
      simp only [List.length_map, dsSeq, dsRaise, dsTryAs, dsTryO, dIsE, dXf, dStar, dsNever, dsDrop, dsRet, dsRetN, dsRetF, dsIf, dsAsg, dsOwn, dsNext, dsBreak, dsCont, dsAug, dsApp, dsExt, dsSet, dsPar2, dsPar3, dName, g_tup, g_lst, g_cons, g_nil, dsFor, dVar, dC, d2, d1, dL, dNil, dCons, dB, dAnd, dOr, dNot, dAndV, dOrV, dNotV, dIf, dChain, dTup, dLst, dFrz, dTru, dCall, dYes, dSeq, dSeqC, dEnum, dEnumC, dRg1, dRg2, dComp, dCut, dCutF, dAddF, dListF, dMulF, dRev, dPart, dNoPart, dpNil, dpE, dpF, q_isi_int, q_isi_bool, q_isi_str, q_isi_tuple, q_isi_list, q_isi_dict, dIsI, dIsB, dIsS, dIsT, dIsL, dIsD, q_add_i, q_sub, q_mul, q_div, q_mod, q_pow, q_lt, q_le, q_gt, q_ge, q_neg, q_eq_ii, q_ne_ii, q_eq_le, q_ne_le, q_eq_ve, q_ne_ve, q_eq_te, q_ne_te, q_eq_ss, q_ne_ss, q_len, q_bl, q_some, List.getElem?_cons_zero, List.getElem?_cons_succ, List.set_cons_zero, List.set_cons_succ, tru_bl, tru_non, tru_int, tru_tup, tru_lst, tru_vw, len_tup, len_lst, len_vw, len_scr, it_tup, it_lst, it_scr, itc_tup, itc_lst, itc_vw, itc_scr, sta, staL, Bool.and_true, Bool.true_and, Bool.and_eq_true, true_and, and_true, wipeR, if_true, if_false, ite_true, ite_false, Bool.false_eq_true, Bool.not_true, Bool.not_false, Option.some.injEq, exists_eq_left', exists_eq_left, reduceIte, reduceCtorEq, hasTy, tyD, Option.isSome_some, q_ix_t, q_ix_l, q_ix_v, at0, at1, at2, at_two, at_three, at_four, c_pow, c_mul1, c_mul2, Int.reducePow, Int.reduceToNat, Int.reduceMul, Int.reduceAdd, Int.reduceSub, Int.reduceNeg, Int.reduceLT, Int.reduceLE, Int.reduceBEq, Nat.reduceLT, Nat.reduceLeDiff, Nat.reducePow, decide_true, decide_false, Bool.true_and, Bool.and_true, Int.neg_neg, szl, List.length_cons, List.length_nil, Nat.zero_add, Nat.reduceAdd, dDct, List.zip_cons_cons, List.zip_nil_left, List.zip_nil_right, staK, q_add_tt, q_add_ll, q_add_vl, q_add_lv, q_addF_ll, q_addF_vl, q_cut_t, q_cut_l, q_cut_v, q_cut_s, q_rev_t, q_rev_l, q_tuple_t, q_tuple_l, q_tuple_v, q_list_t, q_list_l, q_list_v, q_int_i, q_int_b, q_abs, q_max2, q_min2, q_l1, q_l2, q_int, q_own, q_val, q_own1, q_val1, q_two, q_three, List.cons_append, List.nil_append, List.mem_cons, List.not_mem_nil, or_false, forall_eq_or_imp, forall_eq, ne_eq, not_false_eq_true, q_in_t, q_in_l]
      rw [e2]
      exact ⟨by simp at hz; omega, staL_p _, h⟩
    · rw [if_neg (by simpa using h1)]
      rw [if_neg h1, List.append_nil] at e
      simp only [List.length_map, dsSeq, dsRaise, dsTryAs, dsTryO, dIsE, dXf, dStar, dsNever, dsDrop, dsRet, dsRetN, dsRetF, dsIf, dsAsg, dsOwn, dsNext, dsBreak, dsCont, dsAug, dsApp, dsExt, dsSet, dsPar2, dsPar3, dName, g_tup, g_lst, g_cons, g_nil, dsFor, dVar, dC, d2, d1, dL, dNil, dCons, dB, dAnd, dOr, dNot, dAndV, dOrV, dNotV, dIf, dChain, dTup, dLst, dFrz, dTru, dCall, dYes, dSeq, dSeqC, dEnum, dEnumC, dRg1, dRg2, dComp, dCut, dCutF, dAddF, dListF, dMulF, dRev, dPart, dNoPart, dpNil, dpE, dpF, q_isi_int, q_isi_bool, q_isi_str, q_isi_tuple, q_isi_list, q_isi_dict, dIsI, dIsB, dIsS, dIsT, dIsL, dIsD, q_add_i, q_sub, q_mul, q_div, q_mod, q_pow, q_lt, q_le, q_gt, q_ge, q_neg, q_eq_ii, q_ne_ii, q_eq_le, q_ne_le, q_eq_ve, q_ne_ve, q_eq_te, q_ne_te, q_eq_ss, q_ne_ss, q_len, q_bl, q_some, List.getElem?_cons_zero, List.getElem?_cons_succ, List.set_cons_zero, List.set_cons_succ, tru_bl, tru_non, tru_int, tru_tup, tru_lst, tru_vw, len_tup, len_lst, len_vw, len_scr, it_tup, it_lst, it_scr, itc_tup, itc_lst, itc_vw, itc_scr, sta, staL, Bool.and_true, Bool.true_and, Bool.and_eq_true, true_and, and_true, wipeR, if_true, if_false, ite_true, ite_false, Bool.false_eq_true, Bool.not_true, Bool.not_false, Option.some.injEq, exists_eq_left', exists_eq_left, reduceIte, reduceCtorEq, hasTy, tyD, Option.isSome_some, q_ix_t, q_ix_l, q_ix_v, at0, at1, at2, at_two, at_three, at_four, c_pow, c_mul1, c_mul2, Int.reducePow, Int.reduceToNat, Int.reduceMul, Int.reduceAdd, Int.reduceSub, Int.reduceNeg, Int.reduceLT, Int.reduceLE, Int.reduceBEq, Nat.reduceLT, Nat.reduceLeDiff, Nat.reducePow, decide_true, decide_false, Bool.true_and, Bool.and_true, Int.neg_neg, szl, List.length_cons, List.length_nil, Nat.zero_add, Nat.reduceAdd, dDct, List.zip_cons_cons, List.zip_nil_left, List.zip_nil_right, staK, q_add_tt, q_add_ll, q_add_vl, q_add_lv, q_addF_ll, q_addF_vl, q_cut_t, q_cut_l, q_cut_v, q_cut_s, q_rev_t, q_rev_l, q_tuple_t, q_tuple_l, q_tuple_v, q_list_t, q_list_l, q_list_v, q_int_i, q_int_b, q_abs, q_max2, q_min2, q_l1, q_l2, q_int, q_own, q_val, q_own1, q_val1, q_two, q_three, List.cons_append, List.nil_append, List.mem_cons, List.not_mem_nil, or_false, forall_eq_or_imp, forall_eq, ne_eq, not_false_eq_true, q_in_t, q_in_l]
      refine ⟨by simp at hz; omega, ?_⟩
      rw [List.append_nil, e]
      exact ⟨staL_p _, h⟩
theorem pure__law_due (hl : ds.length = ps__law_due.length) (hs : sp__law_due ds μ R Ed) (st : staL ds = true) : t__law_due (fin R Ed) (startD N__law_due ds) μ := by
  obtain ⟨way, ⟨k, stay⟩, g, rfl, hx, hgg, h⟩ := hs
  have hg := hgg.ok
  have hx' := hx
  unfold LampOk at hx'
  dsimp only at hx'
  show t__law_due (fin R Ed) [.val (.int way), .val (lampD (k, stay)), .val (logD g), .un, .un, .un, .un, .un, .un] μ
  unfold t__law_due s__law_due_0
  simp only [dsSeq, dsRaise, dsTryAs, dsTryO, dIsE, dXf, dStar, dsNever, dsDrop, dsRet, dsRetN, dsRetF, dsIf, dsAsg, dsOwn, dsNext, dsBreak, dsCont, dsAug, dsApp, dsExt, dsSet, dsPar2, dsPar3, dName, g_tup, g_lst, g_cons, g_nil, dsFor, dVar, dC, d2, d1, dL, dNil, dCons, dB, dAnd, dOr, dNot, dAndV, dOrV, dNotV, dIf, dChain, dTup, dLst, dFrz, dTru, dCall, dYes, dSeq, dSeqC, dEnum, dEnumC, dRg1, dRg2, dComp, dCut, dCutF, dAddF, dListF, dMulF, dRev, dPart, dNoPart, dpNil, dpE, dpF, q_isi_int, q_isi_bool, q_isi_str, q_isi_tuple, q_isi_list, q_isi_dict, dIsI, dIsB, dIsS, dIsT, dIsL, dIsD, q_add_i, q_sub, q_mul, q_div, q_mod, q_pow, q_lt, q_le, q_gt, q_ge, q_neg, q_eq_ii, q_ne_ii, q_eq_le, q_ne_le, q_eq_ve, q_ne_ve, q_eq_te, q_ne_te, q_eq_ss, q_ne_ss, q_len, q_bl, q_some, List.getElem?_cons_zero, List.getElem?_cons_succ, List.set_cons_zero, List.set_cons_succ, tru_bl, tru_non, tru_int, tru_tup, tru_lst, tru_vw, len_tup, len_lst, len_vw, len_scr, it_tup, it_lst, it_scr, itc_tup, itc_lst, itc_vw, itc_scr, sta, staL, Bool.and_true, Bool.true_and, Bool.and_eq_true, true_and, and_true, wipeR, if_true, if_false, ite_true, ite_false, Bool.false_eq_true, Bool.not_true, Bool.not_false, Option.some.injEq, exists_eq_left', exists_eq_left, reduceIte, reduceCtorEq, hasTy, tyD, Option.isSome_some, q_ix_t, q_ix_l, q_ix_v, at0, at1, at2, at_two, at_three, at_four, c_pow, c_mul1, c_mul2, Int.reducePow, Int.reduceToNat, Int.reduceMul, Int.reduceAdd, Int.reduceSub, Int.reduceNeg, Int.reduceLT, Int.reduceLE, Int.reduceBEq, Nat.reduceLT, Nat.reduceLeDiff, Nat.reducePow, decide_true, decide_false, Bool.true_and, Bool.and_true, Int.neg_neg, szl, List.length_cons, List.length_nil, Nat.zero_add, Nat.reduceAdd, dDct, List.zip_cons_cons, List.zip_nil_left, List.zip_nil_right, staK, q_add_tt, q_add_ll, q_add_vl, q_add_lv, q_addF_ll, q_addF_vl, q_cut_t, q_cut_l, q_cut_v, q_cut_s, q_rev_t, q_rev_l, q_tuple_t, q_tuple_l, q_tuple_v, q_list_t, q_list_l, q_list_v, q_int_i, q_int_b, q_abs, q_max2, q_min2, q_l1, q_l2, q_int, q_own, q_val, q_own1, q_val1, q_two, q_three, List.cons_append, List.nil_append, List.mem_cons, List.not_mem_nil, or_false, forall_eq_or_imp, forall_eq, ne_eq, not_false_eq_true, q_in_t, q_in_l]
  have el : lenD (logD g) = some (g.length : Nat) := by unfold logD lenD; simp
  rw [el]
  simp only [dsSeq, dsRaise, dsTryAs, dsTryO, dIsE, dXf, dStar, dsNever, dsDrop, dsRet, dsRetN, dsRetF, dsIf, dsAsg, dsOwn, dsNext, dsBreak, dsCont, dsAug, dsApp, dsExt, dsSet, dsPar2, dsPar3, dName, g_tup, g_lst, g_cons, g_nil, dsFor, dVar, dC, d2, d1, dL, dNil, dCons, dB, dAnd, dOr, dNot, dAndV, dOrV, dNotV, dIf, dChain, dTup, dLst, dFrz, dTru, dCall, dYes, dSeq, dSeqC, dEnum, dEnumC, dRg1, dRg2, dComp, dCut, dCutF, dAddF, dListF, dMulF, dRev, dPart, dNoPart, dpNil, dpE, dpF, q_isi_int, q_isi_bool, q_isi_str, q_isi_tuple, q_isi_list, q_isi_dict, dIsI, dIsB, dIsS, dIsT, dIsL, dIsD, q_add_i, q_sub, q_mul, q_div, q_mod, q_pow, q_lt, q_le, q_gt, q_ge, q_neg, q_eq_ii, q_ne_ii, q_eq_le, q_ne_le, q_eq_ve, q_ne_ve, q_eq_te, q_ne_te, q_eq_ss, q_ne_ss, q_len, q_bl, q_some, List.getElem?_cons_zero, List.getElem?_cons_succ, List.set_cons_zero, List.set_cons_succ, tru_bl, tru_non, tru_int, tru_tup, tru_lst, tru_vw, len_tup, len_lst, len_vw, len_scr, it_tup, it_lst, it_scr, itc_tup, itc_lst, itc_vw, itc_scr, sta, staL, Bool.and_true, Bool.true_and, Bool.and_eq_true, true_and, and_true, wipeR, if_true, if_false, ite_true, ite_false, Bool.false_eq_true, Bool.not_true, Bool.not_false, Option.some.injEq, exists_eq_left', exists_eq_left, reduceIte, reduceCtorEq, hasTy, tyD, Option.isSome_some, q_ix_t, q_ix_l, q_ix_v, at0, at1, at2, at_two, at_three, at_four, c_pow, c_mul1, c_mul2, Int.reducePow, Int.reduceToNat, Int.reduceMul, Int.reduceAdd, Int.reduceSub, Int.reduceNeg, Int.reduceLT, Int.reduceLE, Int.reduceBEq, Nat.reduceLT, Nat.reduceLeDiff, Nat.reducePow, decide_true, decide_false, Bool.true_and, Bool.and_true, Int.neg_neg, szl, List.length_cons, List.length_nil, Nat.zero_add, Nat.reduceAdd, dDct, List.zip_cons_cons, List.zip_nil_left, List.zip_nil_right, staK, q_add_tt, q_add_ll, q_add_vl, q_add_lv, q_addF_ll, q_addF_vl, q_cut_t, q_cut_l, q_cut_v, q_cut_s, q_rev_t, q_rev_l, q_tuple_t, q_tuple_l, q_tuple_v, q_list_t, q_list_l, q_list_v, q_int_i, q_int_b, q_abs, q_max2, q_min2, q_l1, q_l2, q_int, q_own, q_val, q_own1, q_val1, q_two, q_three, List.cons_append, List.nil_append, List.mem_cons, List.not_mem_nil, or_false, forall_eq_or_imp, forall_eq, ne_eq, not_false_eq_true, q_in_t, q_in_l]
  have hlen := hg.len
  refine ⟨by omega, by omega, fun rg hrg => ?_⟩
  rw [hrg.e, show ((g.length : Nat) : Int).toNat = g.length by omega, rangeF_en]
  refine comp_opt (Z := ReelW) _ (fun q => if fitsB (k, stay) q.2 = true then none else some (.int q.1)) (by rw [enI_length, szl]; omega) (fun q hq kk kk' hk => ?_) (fun q _ y hy => ?_) ?_
  · have e1 := enI_atI hq
    have h1 := hg.ok _ (enI_mem hq)
    unfold logD
    simp only [atI_map, e1, Option.map_some, sta_p, sta_lamp, dsSeq, dsRaise, dsTryAs, dsTryO, dIsE, dXf, dStar, dsNever, dsDrop, dsRet, dsRetN, dsRetF, dsIf, dsAsg, dsOwn, dsNext, dsBreak, dsCont, dsAug, dsApp, dsExt, dsSet, dsPar2, dsPar3, dName, g_tup, g_lst, g_cons, g_nil, dsFor, dVar, dC, d2, d1, dL, dNil, dCons, dB, dAnd, dOr, dNot, dAndV, dOrV, dNotV, dIf, dChain, dTup, dLst, dFrz, dTru, dCall, dYes, dSeq, dSeqC, dEnum, dEnumC, dRg1, dRg2, dComp, dCut, dCutF, dAddF, dListF, dMulF, dRev, dPart, dNoPart, dpNil, dpE, dpF, q_isi_int, q_isi_bool, q_isi_str, q_isi_tuple, q_isi_list, q_isi_dict, dIsI, dIsB, dIsS, dIsT, dIsL, dIsD, q_add_i, q_sub, q_mul, q_div, q_mod, q_pow, q_lt, q_le, q_gt, q_ge, q_neg, q_eq_ii, q_ne_ii, q_eq_le, q_ne_le, q_eq_ve, q_ne_ve, q_eq_te, q_ne_te, q_eq_ss, q_ne_ss, q_len, q_bl, q_some, List.getElem?_cons_zero, List.getElem?_cons_succ, List.set_cons_zero, List.set_cons_succ, tru_bl, tru_non, tru_int, tru_tup, tru_lst, tru_vw, len_tup, len_lst, len_vw, len_scr, it_tup, it_lst, it_scr, itc_tup, itc_lst, itc_vw, itc_scr, sta, staL, Bool.and_true, Bool.true_and, Bool.and_eq_true, true_and, and_true, wipeR, if_true, if_false, ite_true, ite_false, Bool.false_eq_true, Bool.not_true, Bool.not_false, Option.some.injEq, exists_eq_left', exists_eq_left, reduceIte, reduceCtorEq, hasTy, tyD, Option.isSome_some, q_ix_t, q_ix_l, q_ix_v, at0, at1, at2, at_two, at_three, at_four, c_pow, c_mul1, c_mul2, Int.reducePow, Int.reduceToNat, Int.reduceMul, Int.reduceAdd, Int.reduceSub, Int.reduceNeg, Int.reduceLT, Int.reduceLE, Int.reduceBEq, Nat.reduceLT, Nat.reduceLeDiff, Nat.reducePow, decide_true, decide_false, Bool.true_and, Bool.and_true, Int.neg_neg, szl, List.length_cons, List.length_nil, Nat.zero_add, Nat.reduceAdd, dDct, List.zip_cons_cons, List.zip_nil_left, List.zip_nil_right, staK, q_add_tt, q_add_ll, q_add_vl, q_add_lv, q_addF_ll, q_addF_vl, q_cut_t, q_cut_l, q_cut_v, q_cut_s, q_rev_t, q_rev_l, q_tuple_t, q_tuple_l, q_tuple_v, q_list_t, q_list_l, q_list_v, q_int_i, q_int_b, q_abs, q_max2, q_min2, q_l1, q_l2, q_int, q_own, q_val, q_own1, q_val1, q_two, q_three, List.cons_append, List.nil_append, List.mem_cons, List.not_mem_nil, or_false, forall_eq_or_imp, forall_eq, ne_eq, not_false_eq_true, q_in_t, q_in_l]
    refine ⟨(k, stay), q.2, rfl, by omega, h1.1, ?_⟩
    simp only [dsSeq, dsRaise, dsTryAs, dsTryO, dIsE, dXf, dStar, dsNever, dsDrop, dsRet, dsRetN, dsRetF, dsIf, dsAsg, dsOwn, dsNext, dsBreak, dsCont, dsAug, dsApp, dsExt, dsSet, dsPar2, dsPar3, dName, g_tup, g_lst, g_cons, g_nil, dsFor, dVar, dC, d2, d1, dL, dNil, dCons, dB, dAnd, dOr, dNot, dAndV, dOrV, dNotV, dIf, dChain, dTup, dLst, dFrz, dTru, dCall, dYes, dSeq, dSeqC, dEnum, dEnumC, dRg1, dRg2, dComp, dCut, dCutF, dAddF, dListF, dMulF, dRev, dPart, dNoPart, dpNil, dpE, dpF, q_isi_int, q_isi_bool, q_isi_str, q_isi_tuple, q_isi_list, q_isi_dict, dIsI, dIsB, dIsS, dIsT, dIsL, dIsD, q_add_i, q_sub, q_mul, q_div, q_mod, q_pow, q_lt, q_le, q_gt, q_ge, q_neg, q_eq_ii, q_ne_ii, q_eq_le, q_ne_le, q_eq_ve, q_ne_ve, q_eq_te, q_ne_te, q_eq_ss, q_ne_ss, q_len, q_bl, q_some, List.getElem?_cons_zero, List.getElem?_cons_succ, List.set_cons_zero, List.set_cons_succ, tru_bl, tru_non, tru_int, tru_tup, tru_lst, tru_vw, len_tup, len_lst, len_vw, len_scr, it_tup, it_lst, it_scr, itc_tup, itc_lst, itc_vw, itc_scr, sta, staL, Bool.and_true, Bool.true_and, Bool.and_eq_true, true_and, and_true, wipeR, if_true, if_false, ite_true, ite_false, Bool.false_eq_true, Bool.not_true, Bool.not_false, Option.some.injEq, exists_eq_left', exists_eq_left, reduceIte, reduceCtorEq, hasTy, tyD, Option.isSome_some, q_ix_t, q_ix_l, q_ix_v, at0, at1, at2, at_two, at_three, at_four, c_pow, c_mul1, c_mul2, Int.reducePow, Int.reduceToNat, Int.reduceMul, Int.reduceAdd, Int.reduceSub, Int.reduceNeg, Int.reduceLT, Int.reduceLE, Int.reduceBEq, Nat.reduceLT, Nat.reduceLeDiff, Nat.reducePow, decide_true, decide_false, Bool.true_and, Bool.and_true, Int.neg_neg, szl, List.length_cons, List.length_nil, Nat.zero_add, Nat.reduceAdd, dDct, List.zip_cons_cons, List.zip_nil_left, List.zip_nil_right, staK, q_add_tt, q_add_ll, q_add_vl, q_add_lv, q_addF_ll, q_addF_vl, q_cut_t, q_cut_l, q_cut_v, q_cut_s, q_rev_t, q_rev_l, q_tuple_t, q_tuple_l, q_tuple_v, q_list_t, q_list_l, q_list_v, q_int_i, q_int_b, q_abs, q_max2, q_min2, q_l1, q_l2, q_int, q_own, q_val, q_own1, q_val1, q_two, q_three, List.cons_append, List.nil_append, List.mem_cons, List.not_mem_nil, or_false, forall_eq_or_imp, forall_eq, ne_eq, not_false_eq_true, q_in_t, q_in_l]
    cases hf : fitsB (k, stay) q.2
    · simpa [hf] using hk
    · simpa [hf] using hk
  · split at hy
    · cases hy
    · cases hy; rfl
  rw [wrong_filter]
  simp only [staL_ints, dsSeq, dsRaise, dsTryAs, dsTryO, dIsE, dXf, dStar, dsNever, dsDrop, dsRet, dsRetN, dsRetF, dsIf, dsAsg, dsOwn, dsNext, dsBreak, dsCont, dsAug, dsApp, dsExt, dsSet, dsPar2, dsPar3, dName, g_tup, g_lst, g_cons, g_nil, dsFor, dVar, dC, d2, d1, dL, dNil, dCons, dB, dAnd, dOr, dNot, dAndV, dOrV, dNotV, dIf, dChain, dTup, dLst, dFrz, dTru, dCall, dYes, dSeq, dSeqC, dEnum, dEnumC, dRg1, dRg2, dComp, dCut, dCutF, dAddF, dListF, dMulF, dRev, dPart, dNoPart, dpNil, dpE, dpF, q_isi_int, q_isi_bool, q_isi_str, q_isi_tuple, q_isi_list, q_isi_dict, dIsI, dIsB, dIsS, dIsT, dIsL, dIsD, q_add_i, q_sub, q_mul, q_div, q_mod, q_pow, q_lt, q_le, q_gt, q_ge, q_neg, q_eq_ii, q_ne_ii, q_eq_le, q_ne_le, q_eq_ve, q_ne_ve, q_eq_te, q_ne_te, q_eq_ss, q_ne_ss, q_len, q_bl, q_some, List.getElem?_cons_zero, List.getElem?_cons_succ, List.set_cons_zero, List.set_cons_succ, tru_bl, tru_non, tru_int, tru_tup, tru_lst, tru_vw, len_tup, len_lst, len_vw, len_scr, it_tup, it_lst, it_scr, itc_tup, itc_lst, itc_vw, itc_scr, sta, staL, Bool.and_true, Bool.true_and, Bool.and_eq_true, true_and, and_true, wipeR, if_true, if_false, ite_true, ite_false, Bool.false_eq_true, Bool.not_true, Bool.not_false, Option.some.injEq, exists_eq_left', exists_eq_left, reduceIte, reduceCtorEq, hasTy, tyD, Option.isSome_some, q_ix_t, q_ix_l, q_ix_v, at0, at1, at2, at_two, at_three, at_four, c_pow, c_mul1, c_mul2, Int.reducePow, Int.reduceToNat, Int.reduceMul, Int.reduceAdd, Int.reduceSub, Int.reduceNeg, Int.reduceLT, Int.reduceLE, Int.reduceBEq, Nat.reduceLT, Nat.reduceLeDiff, Nat.reducePow, decide_true, decide_false, Bool.true_and, Bool.and_true, Int.neg_neg, szl, List.length_cons, List.length_nil, Nat.zero_add, Nat.reduceAdd, dDct, List.zip_cons_cons, List.zip_nil_left, List.zip_nil_right, staK, q_add_tt, q_add_ll, q_add_vl, q_add_lv, q_addF_ll, q_addF_vl, q_cut_t, q_cut_l, q_cut_v, q_cut_s, q_rev_t, q_rev_l, q_tuple_t, q_tuple_l, q_tuple_v, q_list_t, q_list_l, q_list_v, q_int_i, q_int_b, q_abs, q_max2, q_min2, q_l1, q_l2, q_int, q_own, q_val, q_own1, q_val1, q_two, q_three, List.cons_append, List.nil_append, List.mem_cons, List.not_mem_nil, or_false, forall_eq_or_imp, forall_eq, ne_eq, not_false_eq_true, q_in_t, q_in_l]
  unfold s__law_due_1 s__law_due_1a_0
  unfold dueD at h
  cases e : wrongI (k, stay) 0 g with
  | cons w ws =>
    rw [e] at h
    simp only [List.map_cons, List.isEmpty_cons, dsSeq, dsRaise, dsTryAs, dsTryO, dIsE, dXf, dStar, dsNever, dsDrop, dsRet, dsRetN, dsRetF, dsIf, dsAsg, dsOwn, dsNext, dsBreak, dsCont, dsAug, dsApp, dsExt, dsSet, dsPar2, dsPar3, dName, g_tup, g_lst, g_cons, g_nil, dsFor, dVar, dC, d2, d1, dL, dNil, dCons, dB, dAnd, dOr, dNot, dAndV, dOrV, dNotV, dIf, dChain, dTup, dLst, dFrz, dTru, dCall, dYes, dSeq, dSeqC, dEnum, dEnumC, dRg1, dRg2, dComp, dCut, dCutF, dAddF, dListF, dMulF, dRev, dPart, dNoPart, dpNil, dpE, dpF, q_isi_int, q_isi_bool, q_isi_str, q_isi_tuple, q_isi_list, q_isi_dict, dIsI, dIsB, dIsS, dIsT, dIsL, dIsD, q_add_i, q_sub, q_mul, q_div, q_mod, q_pow, q_lt, q_le, q_gt, q_ge, q_neg, q_eq_ii, q_ne_ii, q_eq_le, q_ne_le, q_eq_ve, q_ne_ve, q_eq_te, q_ne_te, q_eq_ss, q_ne_ss, q_len, q_bl, q_some, List.getElem?_cons_zero, List.getElem?_cons_succ, List.set_cons_zero, List.set_cons_succ, tru_bl, tru_non, tru_int, tru_tup, tru_lst, tru_vw, len_tup, len_lst, len_vw, len_scr, it_tup, it_lst, it_scr, itc_tup, itc_lst, itc_vw, itc_scr, sta, staL, Bool.and_true, Bool.true_and, Bool.and_eq_true, true_and, and_true, wipeR, if_true, if_false, ite_true, ite_false, Bool.false_eq_true, Bool.not_true, Bool.not_false, Option.some.injEq, exists_eq_left', exists_eq_left, reduceIte, reduceCtorEq, hasTy, tyD, Option.isSome_some, q_ix_t, q_ix_l, q_ix_v, at0, at1, at2, at_two, at_three, at_four, c_pow, c_mul1, c_mul2, Int.reducePow, Int.reduceToNat, Int.reduceMul, Int.reduceAdd, Int.reduceSub, Int.reduceNeg, Int.reduceLT, Int.reduceLE, Int.reduceBEq, Nat.reduceLT, Nat.reduceLeDiff, Nat.reducePow, decide_true, decide_false, Bool.true_and, Bool.and_true, Int.neg_neg, szl, List.length_cons, List.length_nil, Nat.zero_add, Nat.reduceAdd, dDct, List.zip_cons_cons, List.zip_nil_left, List.zip_nil_right, staK, q_add_tt, q_add_ll, q_add_vl, q_add_lv, q_addF_ll, q_addF_vl, q_cut_t, q_cut_l, q_cut_v, q_cut_s, q_rev_t, q_rev_l, q_tuple_t, q_tuple_l, q_tuple_v, q_list_t, q_list_l, q_list_v, q_int_i, q_int_b, q_abs, q_max2, q_min2, q_l1, q_l2, q_int, q_own, q_val, q_own1, q_val1, q_two, q_three, List.cons_append, List.nil_append, List.mem_cons, List.not_mem_nil, or_false, forall_eq_or_imp, forall_eq, ne_eq, not_false_eq_true, q_in_t, q_in_l]
    exact h
  | nil =>
    rw [e] at h
    dsimp only at h
    simp only [List.map_nil, List.isEmpty_nil, dsSeq, dsRaise, dsTryAs, dsTryO, dIsE, dXf, dStar, dsNever, dsDrop, dsRet, dsRetN, dsRetF, dsIf, dsAsg, dsOwn, dsNext, dsBreak, dsCont, dsAug, dsApp, dsExt, dsSet, dsPar2, dsPar3, dName, g_tup, g_lst, g_cons, g_nil, dsFor, dVar, dC, d2, d1, dL, dNil, dCons, dB, dAnd, dOr, dNot, dAndV, dOrV, dNotV, dIf, dChain, dTup, dLst, dFrz, dTru, dCall, dYes, dSeq, dSeqC, dEnum, dEnumC, dRg1, dRg2, dComp, dCut, dCutF, dAddF, dListF, dMulF, dRev, dPart, dNoPart, dpNil, dpE, dpF, q_isi_int, q_isi_bool, q_isi_str, q_isi_tuple, q_isi_list, q_isi_dict, dIsI, dIsB, dIsS, dIsT, dIsL, dIsD, q_add_i, q_sub, q_mul, q_div, q_mod, q_pow, q_lt, q_le, q_gt, q_ge, q_neg, q_eq_ii, q_ne_ii, q_eq_le, q_ne_le, q_eq_ve, q_ne_ve, q_eq_te, q_ne_te, q_eq_ss, q_ne_ss, q_len, q_bl, q_some, List.getElem?_cons_zero, List.getElem?_cons_succ, List.set_cons_zero, List.set_cons_succ, tru_bl, tru_non, tru_int, tru_tup, tru_lst, tru_vw, len_tup, len_lst, len_vw, len_scr, it_tup, it_lst, it_scr, itc_tup, itc_lst, itc_vw, itc_scr, sta, staL, Bool.and_true, Bool.true_and, Bool.and_eq_true, true_and, and_true, wipeR, if_true, if_false, ite_true, ite_false, Bool.false_eq_true, Bool.not_true, Bool.not_false, Option.some.injEq, exists_eq_left', exists_eq_left, reduceIte, reduceCtorEq, hasTy, tyD, Option.isSome_some, q_ix_t, q_ix_l, q_ix_v, at0, at1, at2, at_two, at_three, at_four, c_pow, c_mul1, c_mul2, Int.reducePow, Int.reduceToNat, Int.reduceMul, Int.reduceAdd, Int.reduceSub, Int.reduceNeg, Int.reduceLT, Int.reduceLE, Int.reduceBEq, Nat.reduceLT, Nat.reduceLeDiff, Nat.reducePow, decide_true, decide_false, Bool.true_and, Bool.and_true, Int.neg_neg, szl, List.length_cons, List.length_nil, Nat.zero_add, Nat.reduceAdd, dDct, List.zip_cons_cons, List.zip_nil_left, List.zip_nil_right, staK, q_add_tt, q_add_ll, q_add_vl, q_add_lv, q_addF_ll, q_addF_vl, q_cut_t, q_cut_l, q_cut_v, q_cut_s, q_rev_t, q_rev_l, q_tuple_t, q_tuple_l, q_tuple_v, q_list_t, q_list_l, q_list_v, q_int_i, q_int_b, q_abs, q_max2, q_min2, q_l1, q_l2, q_int, q_own, q_val, q_own1, q_val1, q_two, q_three, List.cons_append, List.nil_append, List.mem_cons, List.not_mem_nil, or_false, forall_eq_or_imp, forall_eq, ne_eq, not_false_eq_true, q_in_t, q_in_l]
    unfold s__law_due_2 s__law_due_2a_0
    simp only [dsSeq, dsRaise, dsTryAs, dsTryO, dIsE, dXf, dStar, dsNever, dsDrop, dsRet, dsRetN, dsRetF, dsIf, dsAsg, dsOwn, dsNext, dsBreak, dsCont, dsAug, dsApp, dsExt, dsSet, dsPar2, dsPar3, dName, g_tup, g_lst, g_cons, g_nil, dsFor, dVar, dC, d2, d1, dL, dNil, dCons, dB, dAnd, dOr, dNot, dAndV, dOrV, dNotV, dIf, dChain, dTup, dLst, dFrz, dTru, dCall, dYes, dSeq, dSeqC, dEnum, dEnumC, dRg1, dRg2, dComp, dCut, dCutF, dAddF, dListF, dMulF, dRev, dPart, dNoPart, dpNil, dpE, dpF, q_isi_int, q_isi_bool, q_isi_str, q_isi_tuple, q_isi_list, q_isi_dict, dIsI, dIsB, dIsS, dIsT, dIsL, dIsD, q_add_i, q_sub, q_mul, q_div, q_mod, q_pow, q_lt, q_le, q_gt, q_ge, q_neg, q_eq_ii, q_ne_ii, q_eq_le, q_ne_le, q_eq_ve, q_ne_ve, q_eq_te, q_ne_te, q_eq_ss, q_ne_ss, q_len, q_bl, q_some, List.getElem?_cons_zero, List.getElem?_cons_succ, List.set_cons_zero, List.set_cons_succ, tru_bl, tru_non, tru_int, tru_tup, tru_lst, tru_vw, len_tup, len_lst, len_vw, len_scr, it_tup, it_lst, it_scr, itc_tup, itc_lst, itc_vw, itc_scr, sta, staL, Bool.and_true, Bool.true_and, Bool.and_eq_true, true_and, and_true, wipeR, if_true, if_false, ite_true, ite_false, Bool.false_eq_true, Bool.not_true, Bool.not_false, Option.some.injEq, exists_eq_left', exists_eq_left, reduceIte, reduceCtorEq, hasTy, tyD, Option.isSome_some, q_ix_t, q_ix_l, q_ix_v, at0, at1, at2, at_two, at_three, at_four, c_pow, c_mul1, c_mul2, Int.reducePow, Int.reduceToNat, Int.reduceMul, Int.reduceAdd, Int.reduceSub, Int.reduceNeg, Int.reduceLT, Int.reduceLE, Int.reduceBEq, Nat.reduceLT, Nat.reduceLeDiff, Nat.reducePow, decide_true, decide_false, Bool.true_and, Bool.and_true, Int.neg_neg, szl, List.length_cons, List.length_nil, Nat.zero_add, Nat.reduceAdd, dDct, List.zip_cons_cons, List.zip_nil_left, List.zip_nil_right, staK, q_add_tt, q_add_ll, q_add_vl, q_add_lv, q_addF_ll, q_addF_vl, q_cut_t, q_cut_l, q_cut_v, q_cut_s, q_rev_t, q_rev_l, q_tuple_t, q_tuple_l, q_tuple_v, q_list_t, q_list_l, q_list_v, q_int_i, q_int_b, q_abs, q_max2, q_min2, q_l1, q_l2, q_int, q_own, q_val, q_own1, q_val1, q_two, q_three, List.cons_append, List.nil_append, List.mem_cons, List.not_mem_nil, or_false, forall_eq_or_imp, forall_eq, ne_eq, not_false_eq_true, q_in_t, q_in_l]
    by_cases hw : way = 0
    · rw [if_pos hw] at h
      subst hw
      simp only [sta_lamp, sta_log, dsSeq, dsRaise, dsTryAs, dsTryO, dIsE, dXf, dStar, dsNever, dsDrop, dsRet, dsRetN, dsRetF, dsIf, dsAsg, dsOwn, dsNext, dsBreak, dsCont, dsAug, dsApp, dsExt, dsSet, dsPar2, dsPar3, dName, g_tup, g_lst, g_cons, g_nil, dsFor, dVar, dC, d2, d1, dL, dNil, dCons, dB, dAnd, dOr, dNot, dAndV, dOrV, dNotV, dIf, dChain, dTup, dLst, dFrz, dTru, dCall, dYes, dSeq, dSeqC, dEnum, dEnumC, dRg1, dRg2, dComp, dCut, dCutF, dAddF, dListF, dMulF, dRev, dPart, dNoPart, dpNil, dpE, dpF, q_isi_int, q_isi_bool, q_isi_str, q_isi_tuple, q_isi_list, q_isi_dict, dIsI, dIsB, dIsS, dIsT, dIsL, dIsD, q_add_i, q_sub, q_mul, q_div, q_mod, q_pow, q_lt, q_le, q_gt, q_ge, q_neg, q_eq_ii, q_ne_ii, q_eq_le, q_ne_le, q_eq_ve, q_ne_ve, q_eq_te, q_ne_te, q_eq_ss, q_ne_ss, q_len, q_bl, q_some, List.getElem?_cons_zero, List.getElem?_cons_succ, List.set_cons_zero, List.set_cons_succ, tru_bl, tru_non, tru_int, tru_tup, tru_lst, tru_vw, len_tup, len_lst, len_vw, len_scr, it_tup, it_lst, it_scr, itc_tup, itc_lst, itc_vw, itc_scr, sta, staL, Bool.and_true, Bool.true_and, Bool.and_eq_true, true_and, and_true, wipeR, if_true, if_false, ite_true, ite_false, Bool.false_eq_true, Bool.not_true, Bool.not_false, Option.some.injEq, exists_eq_left', exists_eq_left, reduceIte, reduceCtorEq, hasTy, tyD, Option.isSome_some, q_ix_t, q_ix_l, q_ix_v, at0, at1, at2, at_two, at_three, at_four, c_pow, c_mul1, c_mul2, Int.reducePow, Int.reduceToNat, Int.reduceMul, Int.reduceAdd, Int.reduceSub, Int.reduceNeg, Int.reduceLT, Int.reduceLE, Int.reduceBEq, Nat.reduceLT, Nat.reduceLeDiff, Nat.reducePow, decide_true, decide_false, Bool.true_and, Bool.and_true, Int.neg_neg, szl, List.length_cons, List.length_nil, Nat.zero_add, Nat.reduceAdd, dDct, List.zip_cons_cons, List.zip_nil_left, List.zip_nil_right, staK, q_add_tt, q_add_ll, q_add_vl, q_add_lv, q_addF_ll, q_addF_vl, q_cut_t, q_cut_l, q_cut_v, q_cut_s, q_rev_t, q_rev_l, q_tuple_t, q_tuple_l, q_tuple_v, q_list_t, q_list_l, q_list_v, q_int_i, q_int_b, q_abs, q_max2, q_min2, q_l1, q_l2, q_int, q_own, q_val, q_own1, q_val1, q_two, q_three, List.cons_append, List.nil_append, List.mem_cons, List.not_mem_nil, or_false, forall_eq_or_imp, forall_eq, ne_eq, not_false_eq_true, q_in_t, q_in_l]
      refine ⟨(k, stay), g, rfl, hx, hg, ?_⟩
      have hfit := wrongI_nil e
      rw [quietL_eq (k, stay) g (-1) 0 0 hgg.asc (fun s hs => fits_le hx'.1 (hg.ok s hs).1 (hfit s hs)) (.inl rfl)]
      simp only [staL_p, dsSeq, dsRaise, dsTryAs, dsTryO, dIsE, dXf, dStar, dsNever, dsDrop, dsRet, dsRetN, dsRetF, dsIf, dsAsg, dsOwn, dsNext, dsBreak, dsCont, dsAug, dsApp, dsExt, dsSet, dsPar2, dsPar3, dName, g_tup, g_lst, g_cons, g_nil, dsFor, dVar, dC, d2, d1, dL, dNil, dCons, dB, dAnd, dOr, dNot, dAndV, dOrV, dNotV, dIf, dChain, dTup, dLst, dFrz, dTru, dCall, dYes, dSeq, dSeqC, dEnum, dEnumC, dRg1, dRg2, dComp, dCut, dCutF, dAddF, dListF, dMulF, dRev, dPart, dNoPart, dpNil, dpE, dpF, q_isi_int, q_isi_bool, q_isi_str, q_isi_tuple, q_isi_list, q_isi_dict, dIsI, dIsB, dIsS, dIsT, dIsL, dIsD, q_add_i, q_sub, q_mul, q_div, q_mod, q_pow, q_lt, q_le, q_gt, q_ge, q_neg, q_eq_ii, q_ne_ii, q_eq_le, q_ne_le, q_eq_ve, q_ne_ve, q_eq_te, q_ne_te, q_eq_ss, q_ne_ss, q_len, q_bl, q_some, List.getElem?_cons_zero, List.getElem?_cons_succ, List.set_cons_zero, List.set_cons_succ, tru_bl, tru_non, tru_int, tru_tup, tru_lst, tru_vw, len_tup, len_lst, len_vw, len_scr, it_tup, it_lst, it_scr, itc_tup, itc_lst, itc_vw, itc_scr, sta, staL, Bool.and_true, Bool.true_and, Bool.and_eq_true, true_and, and_true, wipeR, if_true, if_false, ite_true, ite_false, Bool.false_eq_true, Bool.not_true, Bool.not_false, Option.some.injEq, exists_eq_left', exists_eq_left, reduceIte, reduceCtorEq, hasTy, tyD, Option.isSome_some, q_ix_t, q_ix_l, q_ix_v, at0, at1, at2, at_two, at_three, at_four, c_pow, c_mul1, c_mul2, Int.reducePow, Int.reduceToNat, Int.reduceMul, Int.reduceAdd, Int.reduceSub, Int.reduceNeg, Int.reduceLT, Int.reduceLE, Int.reduceBEq, Nat.reduceLT, Nat.reduceLeDiff, Nat.reducePow, decide_true, decide_false, Bool.true_and, Bool.and_true, Int.neg_neg, szl, List.length_cons, List.length_nil, Nat.zero_add, Nat.reduceAdd, dDct, List.zip_cons_cons, List.zip_nil_left, List.zip_nil_right, staK, q_add_tt, q_add_ll, q_add_vl, q_add_lv, q_addF_ll, q_addF_vl, q_cut_t, q_cut_l, q_cut_v, q_cut_s, q_rev_t, q_rev_l, q_tuple_t, q_tuple_l, q_tuple_v, q_list_t, q_list_l, q_list_v, q_int_i, q_int_b, q_abs, q_max2, q_min2, q_l1, q_l2, q_int, q_own, q_val, q_own1, q_val1, q_two, q_three, List.cons_append, List.nil_append, List.mem_cons, List.not_mem_nil, or_false, forall_eq_or_imp, forall_eq, ne_eq, not_false_eq_true, q_in_t, q_in_l]
      exact h
    · rw [if_neg hw] at h
      rw [if_neg (by simpa using hw)]
      unfold s__law_due_3 s__law_due_4 s__law_due_5 lampD logD
      simp only [kS_hold, dsSeq, dsRaise, dsTryAs, dsTryO, dIsE, dXf, dStar, dsNever, dsDrop, dsRet, dsRetN, dsRetF, dsIf, dsAsg, dsOwn, dsNext, dsBreak, dsCont, dsAug, dsApp, dsExt, dsSet, dsPar2, dsPar3, dName, g_tup, g_lst, g_cons, g_nil, dsFor, dVar, dC, d2, d1, dL, dNil, dCons, dB, dAnd, dOr, dNot, dAndV, dOrV, dNotV, dIf, dChain, dTup, dLst, dFrz, dTru, dCall, dYes, dSeq, dSeqC, dEnum, dEnumC, dRg1, dRg2, dComp, dCut, dCutF, dAddF, dListF, dMulF, dRev, dPart, dNoPart, dpNil, dpE, dpF, q_isi_int, q_isi_bool, q_isi_str, q_isi_tuple, q_isi_list, q_isi_dict, dIsI, dIsB, dIsS, dIsT, dIsL, dIsD, q_add_i, q_sub, q_mul, q_div, q_mod, q_pow, q_lt, q_le, q_gt, q_ge, q_neg, q_eq_ii, q_ne_ii, q_eq_le, q_ne_le, q_eq_ve, q_ne_ve, q_eq_te, q_ne_te, q_eq_ss, q_ne_ss, q_len, q_bl, q_some, List.getElem?_cons_zero, List.getElem?_cons_succ, List.set_cons_zero, List.set_cons_succ, tru_bl, tru_non, tru_int, tru_tup, tru_lst, tru_vw, len_tup, len_lst, len_vw, len_scr, it_tup, it_lst, it_scr, itc_tup, itc_lst, itc_vw, itc_scr, sta, staL, Bool.and_true, Bool.true_and, Bool.and_eq_true, true_and, and_true, wipeR, if_true, if_false, ite_true, ite_false, Bool.false_eq_true, Bool.not_true, Bool.not_false, Option.some.injEq, exists_eq_left', exists_eq_left, reduceIte, reduceCtorEq, hasTy, tyD, Option.isSome_some, q_ix_t, q_ix_l, q_ix_v, at0, at1, at2, at_two, at_three, at_four, c_pow, c_mul1, c_mul2, Int.reducePow, Int.reduceToNat, Int.reduceMul, Int.reduceAdd, Int.reduceSub, Int.reduceNeg, Int.reduceLT, Int.reduceLE, Int.reduceBEq, Nat.reduceLT, Nat.reduceLeDiff, Nat.reducePow, decide_true, decide_false, Bool.true_and, Bool.and_true, Int.neg_neg, szl, List.length_cons, List.length_nil, Nat.zero_add, Nat.reduceAdd, dDct, List.zip_cons_cons, List.zip_nil_left, List.zip_nil_right, staK, q_add_tt, q_add_ll, q_add_vl, q_add_lv, q_addF_ll, q_addF_vl, q_cut_t, q_cut_l, q_cut_v, q_cut_s, q_rev_t, q_rev_l, q_tuple_t, q_tuple_l, q_tuple_v, q_list_t, q_list_l, q_list_v, q_int_i, q_int_b, q_abs, q_max2, q_min2, q_l1, q_l2, q_int, q_own, q_val, q_own1, q_val1, q_two, q_three, List.cons_append, List.nil_append, List.mem_cons, List.not_mem_nil, or_false, forall_eq_or_imp, forall_eq, ne_eq, not_false_eq_true, q_in_t, q_in_l]
      refine comp_opt (Z := ReelW) pD (fun s => if k = true ∧ 2 * stay - 1 ≤ s.2 - s.1 then some (pD (s.1, s.2 - stay)) else none) (by rw [szl]; omega) (fun s _ kk kk' hk => ?_) (fun s _ y hy => ?_) ?_
      · unfold pD
        simp only [kS_hold, dsSeq, dsRaise, dsTryAs, dsTryO, dIsE, dXf, dStar, dsNever, dsDrop, dsRet, dsRetN, dsRetF, dsIf, dsAsg, dsOwn, dsNext, dsBreak, dsCont, dsAug, dsApp, dsExt, dsSet, dsPar2, dsPar3, dName, g_tup, g_lst, g_cons, g_nil, dsFor, dVar, dC, d2, d1, dL, dNil, dCons, dB, dAnd, dOr, dNot, dAndV, dOrV, dNotV, dIf, dChain, dTup, dLst, dFrz, dTru, dCall, dYes, dSeq, dSeqC, dEnum, dEnumC, dRg1, dRg2, dComp, dCut, dCutF, dAddF, dListF, dMulF, dRev, dPart, dNoPart, dpNil, dpE, dpF, q_isi_int, q_isi_bool, q_isi_str, q_isi_tuple, q_isi_list, q_isi_dict, dIsI, dIsB, dIsS, dIsT, dIsL, dIsD, q_add_i, q_sub, q_mul, q_div, q_mod, q_pow, q_lt, q_le, q_gt, q_ge, q_neg, q_eq_ii, q_ne_ii, q_eq_le, q_ne_le, q_eq_ve, q_ne_ve, q_eq_te, q_ne_te, q_eq_ss, q_ne_ss, q_len, q_bl, q_some, List.getElem?_cons_zero, List.getElem?_cons_succ, List.set_cons_zero, List.set_cons_succ, tru_bl, tru_non, tru_int, tru_tup, tru_lst, tru_vw, len_tup, len_lst, len_vw, len_scr, it_tup, it_lst, it_scr, itc_tup, itc_lst, itc_vw, itc_scr, sta, staL, Bool.and_true, Bool.true_and, Bool.and_eq_true, true_and, and_true, wipeR, if_true, if_false, ite_true, ite_false, Bool.false_eq_true, Bool.not_true, Bool.not_false, Option.some.injEq, exists_eq_left', exists_eq_left, reduceIte, reduceCtorEq, hasTy, tyD, Option.isSome_some, q_ix_t, q_ix_l, q_ix_v, at0, at1, at2, at_two, at_three, at_four, c_pow, c_mul1, c_mul2, Int.reducePow, Int.reduceToNat, Int.reduceMul, Int.reduceAdd, Int.reduceSub, Int.reduceNeg, Int.reduceLT, Int.reduceLE, Int.reduceBEq, Nat.reduceLT, Nat.reduceLeDiff, Nat.reducePow, decide_true, decide_false, Bool.true_and, Bool.and_true, Int.neg_neg, szl, List.length_cons, List.length_nil, Nat.zero_add, Nat.reduceAdd, dDct, List.zip_cons_cons, List.zip_nil_left, List.zip_nil_right, staK, q_add_tt, q_add_ll, q_add_vl, q_add_lv, q_addF_ll, q_addF_vl, q_cut_t, q_cut_l, q_cut_v, q_cut_s, q_rev_t, q_rev_l, q_tuple_t, q_tuple_l, q_tuple_v, q_list_t, q_list_l, q_list_v, q_int_i, q_int_b, q_abs, q_max2, q_min2, q_l1, q_l2, q_int, q_own, q_val, q_own1, q_val1, q_two, q_three, List.cons_append, List.nil_append, List.mem_cons, List.not_mem_nil, or_false, forall_eq_or_imp, forall_eq, ne_eq, not_false_eq_true, q_in_t, q_in_l]
        cases k with
        | false =>
          simp only [Bool.false_eq_true, false_and, if_false] at hk ⊢
          exact hk
        | true =>
          simp only [true_and, if_true] at hk ⊢
          by_cases h1 : 2 * stay - 1 ≤ s.2 - s.1
          · rw [if_pos h1] at hk
            rw [if_pos (decide_eq_true h1)]
            exact hk
          · rw [if_neg h1] at hk
            rw [if_neg (by simpa using h1)]
            exact hk
      · split at hy
        · cases hy; rfl
        · cases hy
      · have e3 : g.filterMap (fun s => if k = true ∧ 2 * stay - 1 ≤ s.2 - s.1 then some (pD (s.1, s.2 - stay)) else none) = (callsI (k, stay) g).map pD := by
          clear h e hrg el hg hgg hlen st hl
          unfold callsI
          dsimp only
          induction g with
          | nil => cases k <;> rfl
          | cons s g ih =>
            rw [List.filterMap_cons]
            cases k with
            | false =>
              simp only [Bool.false_eq_true, false_and, if_false] at ih ⊢
              exact ih
            | true =>
              simp only [true_and, if_true] at ih ⊢
              rw [List.map_cons, List.filter_cons]
              by_cases h1 : 2 * stay - 1 ≤ s.2 - s.1
              · rw [if_pos h1, if_pos (by simp; omega), List.map_cons, ← ih]
              · rw [if_neg h1, if_neg (by simp; omega), ← ih]
        rw [e3]
        exact ⟨staL_p _, staL_p _, h⟩
end
section
variable (ns : List Int) (p l : Addr) (n : Nat) (B : EndsD ReelW)
theorem tm_due {x : Lamp} {g : Lg} {o : D} (hg : LogOk g) (ho : DL.Tm 401 2 o) : DL.Tm 403 3 (dueD x g o) := by
  unfold dueD
  cases e : wrongI x 0 g with
  | nil => exact (tm_two (n := 1) (m := 401) (k := 2) ((show DL.Tm 1 0 (.str "result") from ⟨by decide, Nat.le_refl _, Nat.le_refl _⟩).mono (by omega) (by omega)) ho).tup
  | cons w ws =>
    have hw := wrongI_mem (l := x) (i := 0) (g := g) (k := w) (by rw [e]; exact List.mem_cons_self)
    have := hg.len
    have t1 : DL.Tm 1 0 (.str "Unexplained") := ⟨by decide, Nat.le_refl _, Nat.le_refl _⟩
    have t2 : DL.Tm 1 0 (.str "stretch") := ⟨by decide, Nat.le_refl _, Nat.le_refl _⟩
    have t3 := (TmL.cons (k := 0) t2 (tm_two (Tm.int (i := 0) (by decide)) (Tm.int (i := w) (by omega)))).tup
    exact ((tm_two (t1.mono (Nat.le_refl _) (Nat.zero_le _)) t3).tup).mono (by omega) (by omega)
theorem quietI_bp {l : Lamp} (hl : LampOk 10000 l) : ∀ {g : Lg} {f : Int}, (∀ s ∈ g, -10000000000 ≤ s.1 ∧ s.1 < s.2 ∧ s.2 ≤ 10000000000) → -20000000000 ≤ f → f ≤ 20000000000 → ∀ s ∈ quietI l f g, BP s
  | [], f, _, h1, h2, s, hs => by
    unfold quietI at hs
    split at hs
    · rw [List.mem_singleton.mp hs]; exact ⟨by unfold BI; omega, by unfold BI; omega⟩
    · cases hs
  | x :: g, f, hg, h1, h2, s, hs => by
    have hx := hg x (List.mem_cons_self ..)
    rw [quietI] at hs
    rcases List.mem_append.mp hs with hs | hs
    · split at hs
      · rw [List.mem_singleton.mp hs]; exact ⟨by unfold BI; omega, by unfold BI; dsimp only; omega⟩
      · cases hs
    · unfold LampOk at hl
      refine quietI_bp hl (fun y hy => hg y (List.mem_cons_of_mem _ hy)) ?_ ?_ s hs
      · unfold lastI; split <;> omega
      · unfold lastI; split <;> omega
theorem tm_quiet {l : Lamp} (hl : LampOk 10000 l) {g : Lg} (hg : LogOk g) : DL.Tm 401 2 (logD (quietI l 0 g)) :=
  (tm_log 101 (fun s hs => quietI_bp hl (fun s hs => by have := hg.ok s hs; omega) (by omega) (by omega) s hs) (by have := quietI_len l g 0; have := hg.len; omega)).mono (by omega) (by omega)
theorem tm_calls {l : Lamp} (hl : LampOk 10000 l) {g : Lg} (hg : LogOk g) : DL.Tm 401 2 (logD (callsI l g)) :=
  (tm_log 100 (fun s hs => by
    unfold callsI at hs
    unfold LampOk at hl
    split at hs
    · obtain ⟨y, hy, rfl⟩ := List.mem_map.mp (List.mem_filter.mp hs).1
      have := hg.ok y hy
      exact ⟨by unfold BI; dsimp only; omega, by unfold BI; dsimp only; omega⟩
    · cases hs) (by have := callsI_len l g; have := hg.len; omega)).mono (by omega) (by omega)
abbrev twoD (x : Lamp) (g : Lg) : D := .lst [dueD x g (logD (quietI x 0 g)), dueD x g (logD (callsI x g))]
theorem law_log (x : Lamp) (hx : LampOk 10000 x) (g : Lg) (hgg : LogG g) (a b c d e f h i j k u : Slot)
    (hN : ∀ h i j k u, B.nx [.val (.scr ns), .val (.op (.ref p)), a, b, c, d, e, f, h, i, j, k, u, .val (lampD x), .val (logD g)] (rs p l n)) :
    l_law_1f_1f_3 B [.val (.scr ns), .val (.op (.ref p)), a, b, c, d, e, f, h, i, j, k, u, .val (lampD x), .val (logD g)] (rs p l n) := by
  unfold l_law_1f_1f_3 s_law_1f_1f_3f_0
  have hg := hgg.ok
  have hx' := hx
  unfold LampOk at hx'
  have tl : DL.Tm 3 1 (lampD x) := tm_lamp (by unfold BI; omega)
  have tg : DL.Tm 301 2 (logD g) := tm_log 100 hg.bp hg.len
  have tlg : DL.Tm 305 3 (.lst [lampD x, logD g]) := (tm_two (tl.mono (Nat.le_refl _) (by omega)) tg).lst
  have td1 := tm_due (x := x) hg (tm_quiet hx hg)
  have td2 := tm_due (x := x) hg (tm_calls hx hg)
  have t2 : DL.Tm 807 4 (twoD x g) := (tm_two td1 td2).lst
  have tw : DL.Tm 1615 5 (.lst [twoD x g, twoD x g]) := (tm_two t2 t2).lst
  have sd1 := tm_sta td1
  have sd2 := tm_sta td2
  simp only [dsSeq, dsRaise, dsTryAs, dsTryO, dIsE, dXf, dStar, dsNever, dsDrop, dsRet, dsRetN, dsRetF, dsIf, dsAsg, dsOwn, dsNext, dsBreak, dsCont, dsAug, dsApp, dsExt, dsSet, dsPar2, dsPar3, dName, g_tup, g_lst, g_cons, g_nil, dsFor, dVar, dC, d2, d1, dL, dNil, dCons, dB, dAnd, dOr, dNot, dAndV, dOrV, dNotV, dIf, dChain, dTup, dLst, dFrz, dTru, dCall, dYes, dSeq, dSeqC, dEnum, dEnumC, dRg1, dRg2, dComp, dCut, dCutF, dAddF, dListF, dMulF, dRev, dPart, dNoPart, dpNil, dpE, dpF, q_isi_int, q_isi_bool, q_isi_str, q_isi_tuple, q_isi_list, q_isi_dict, dIsI, dIsB, dIsS, dIsT, dIsL, dIsD, q_add_i, q_sub, q_mul, q_div, q_mod, q_pow, q_lt, q_le, q_gt, q_ge, q_neg, q_eq_ii, q_ne_ii, q_eq_le, q_ne_le, q_eq_ve, q_ne_ve, q_eq_te, q_ne_te, q_eq_ss, q_ne_ss, q_len, q_bl, q_some, List.getElem?_cons_zero, List.getElem?_cons_succ, List.set_cons_zero, List.set_cons_succ, tru_bl, tru_non, tru_int, tru_tup, tru_lst, tru_vw, len_tup, len_lst, len_vw, len_scr, it_tup, it_lst, it_scr, itc_tup, itc_lst, itc_vw, itc_scr, sta, staL, Bool.and_true, Bool.true_and, Bool.and_eq_true, true_and, and_true, wipeR, if_true, if_false, ite_true, ite_false, Bool.false_eq_true, Bool.not_true, Bool.not_false, Option.some.injEq, exists_eq_left', exists_eq_left, reduceIte, reduceCtorEq, hasTy, tyD, Option.isSome_some, q_ix_t, q_ix_l, q_ix_v, at0, at1, at2, at_two, at_three, at_four, c_pow, c_mul1, c_mul2, Int.reducePow, Int.reduceToNat, Int.reduceMul, Int.reduceAdd, Int.reduceSub, Int.reduceNeg, Int.reduceLT, Int.reduceLE, Int.reduceBEq, Nat.reduceLT, Nat.reduceLeDiff, Nat.reducePow, decide_true, decide_false, Bool.true_and, Bool.and_true, Int.neg_neg, szl, List.length_cons, List.length_nil, Nat.zero_add, Nat.reduceAdd, dDct, List.zip_cons_cons, List.zip_nil_left, List.zip_nil_right, staK, q_add_tt, q_add_ll, q_add_vl, q_add_lv, q_addF_ll, q_addF_vl, q_cut_t, q_cut_l, q_cut_v, q_cut_s, q_rev_t, q_rev_l, q_tuple_t, q_tuple_l, q_tuple_v, q_list_t, q_list_l, q_list_v, q_int_i, q_int_b, q_abs, q_max2, q_min2, q_l1, q_l2, q_int, q_own, q_val, q_own1, q_val1, q_two, q_three, List.cons_append, List.nil_append, List.mem_cons, List.not_mem_nil, or_false, forall_eq_or_imp, forall_eq, ne_eq, not_false_eq_true, q_in_t, q_in_l]
  refine show_of tlg (by omega) (by omega) ?_
  simp only [dsSeq, dsRaise, dsTryAs, dsTryO, dIsE, dXf, dStar, dsNever, dsDrop, dsRet, dsRetN, dsRetF, dsIf, dsAsg, dsOwn, dsNext, dsBreak, dsCont, dsAug, dsApp, dsExt, dsSet, dsPar2, dsPar3, dName, g_tup, g_lst, g_cons, g_nil, dsFor, dVar, dC, d2, d1, dL, dNil, dCons, dB, dAnd, dOr, dNot, dAndV, dOrV, dNotV, dIf, dChain, dTup, dLst, dFrz, dTru, dCall, dYes, dSeq, dSeqC, dEnum, dEnumC, dRg1, dRg2, dComp, dCut, dCutF, dAddF, dListF, dMulF, dRev, dPart, dNoPart, dpNil, dpE, dpF, q_isi_int, q_isi_bool, q_isi_str, q_isi_tuple, q_isi_list, q_isi_dict, dIsI, dIsB, dIsS, dIsT, dIsL, dIsD, q_add_i, q_sub, q_mul, q_div, q_mod, q_pow, q_lt, q_le, q_gt, q_ge, q_neg, q_eq_ii, q_ne_ii, q_eq_le, q_ne_le, q_eq_ve, q_ne_ve, q_eq_te, q_ne_te, q_eq_ss, q_ne_ss, q_len, q_bl, q_some, List.getElem?_cons_zero, List.getElem?_cons_succ, List.set_cons_zero, List.set_cons_succ, tru_bl, tru_non, tru_int, tru_tup, tru_lst, tru_vw, len_tup, len_lst, len_vw, len_scr, it_tup, it_lst, it_scr, itc_tup, itc_lst, itc_vw, itc_scr, sta, staL, Bool.and_true, Bool.true_and, Bool.and_eq_true, true_and, and_true, wipeR, if_true, if_false, ite_true, ite_false, Bool.false_eq_true, Bool.not_true, Bool.not_false, Option.some.injEq, exists_eq_left', exists_eq_left, reduceIte, reduceCtorEq, hasTy, tyD, Option.isSome_some, q_ix_t, q_ix_l, q_ix_v, at0, at1, at2, at_two, at_three, at_four, c_pow, c_mul1, c_mul2, Int.reducePow, Int.reduceToNat, Int.reduceMul, Int.reduceAdd, Int.reduceSub, Int.reduceNeg, Int.reduceLT, Int.reduceLE, Int.reduceBEq, Nat.reduceLT, Nat.reduceLeDiff, Nat.reducePow, decide_true, decide_false, Bool.true_and, Bool.and_true, Int.neg_neg, szl, List.length_cons, List.length_nil, Nat.zero_add, Nat.reduceAdd, dDct, List.zip_cons_cons, List.zip_nil_left, List.zip_nil_right, staK, q_add_tt, q_add_ll, q_add_vl, q_add_lv, q_addF_ll, q_addF_vl, q_cut_t, q_cut_l, q_cut_v, q_cut_s, q_rev_t, q_rev_l, q_tuple_t, q_tuple_l, q_tuple_v, q_list_t, q_list_l, q_list_v, q_int_i, q_int_b, q_abs, q_max2, q_min2, q_l1, q_l2, q_int, q_own, q_val, q_own1, q_val1, q_two, q_three, List.cons_append, List.nil_append, List.mem_cons, List.not_mem_nil, or_false, forall_eq_or_imp, forall_eq, ne_eq, not_false_eq_true, q_in_t, q_in_l]
  unfold s_law_1f_1f_3f_1
  simp only [dsSeq, dsRaise, dsTryAs, dsTryO, dIsE, dXf, dStar, dsNever, dsDrop, dsRet, dsRetN, dsRetF, dsIf, dsAsg, dsOwn, dsNext, dsBreak, dsCont, dsAug, dsApp, dsExt, dsSet, dsPar2, dsPar3, dName, g_tup, g_lst, g_cons, g_nil, dsFor, dVar, dC, d2, d1, dL, dNil, dCons, dB, dAnd, dOr, dNot, dAndV, dOrV, dNotV, dIf, dChain, dTup, dLst, dFrz, dTru, dCall, dYes, dSeq, dSeqC, dEnum, dEnumC, dRg1, dRg2, dComp, dCut, dCutF, dAddF, dListF, dMulF, dRev, dPart, dNoPart, dpNil, dpE, dpF, q_isi_int, q_isi_bool, q_isi_str, q_isi_tuple, q_isi_list, q_isi_dict, dIsI, dIsB, dIsS, dIsT, dIsL, dIsD, q_add_i, q_sub, q_mul, q_div, q_mod, q_pow, q_lt, q_le, q_gt, q_ge, q_neg, q_eq_ii, q_ne_ii, q_eq_le, q_ne_le, q_eq_ve, q_ne_ve, q_eq_te, q_ne_te, q_eq_ss, q_ne_ss, q_len, q_bl, q_some, List.getElem?_cons_zero, List.getElem?_cons_succ, List.set_cons_zero, List.set_cons_succ, tru_bl, tru_non, tru_int, tru_tup, tru_lst, tru_vw, len_tup, len_lst, len_vw, len_scr, it_tup, it_lst, it_scr, itc_tup, itc_lst, itc_vw, itc_scr, sta, staL, Bool.and_true, Bool.true_and, Bool.and_eq_true, true_and, and_true, wipeR, if_true, if_false, ite_true, ite_false, Bool.false_eq_true, Bool.not_true, Bool.not_false, Option.some.injEq, exists_eq_left', exists_eq_left, reduceIte, reduceCtorEq, hasTy, tyD, Option.isSome_some, q_ix_t, q_ix_l, q_ix_v, at0, at1, at2, at_two, at_three, at_four, c_pow, c_mul1, c_mul2, Int.reducePow, Int.reduceToNat, Int.reduceMul, Int.reduceAdd, Int.reduceSub, Int.reduceNeg, Int.reduceLT, Int.reduceLE, Int.reduceBEq, Nat.reduceLT, Nat.reduceLeDiff, Nat.reducePow, decide_true, decide_false, Bool.true_and, Bool.and_true, Int.neg_neg, szl, List.length_cons, List.length_nil, Nat.zero_add, Nat.reduceAdd, dDct, List.zip_cons_cons, List.zip_nil_left, List.zip_nil_right, staK, q_add_tt, q_add_ll, q_add_vl, q_add_lv, q_addF_ll, q_addF_vl, q_cut_t, q_cut_l, q_cut_v, q_cut_s, q_rev_t, q_rev_l, q_tuple_t, q_tuple_l, q_tuple_v, q_list_t, q_list_l, q_list_v, q_int_i, q_int_b, q_abs, q_max2, q_min2, q_l1, q_l2, q_int, q_own, q_val, q_own1, q_val1, q_two, q_three, List.cons_append, List.nil_append, List.mem_cons, List.not_mem_nil, or_false, forall_eq_or_imp, forall_eq, ne_eq, not_false_eq_true, q_in_t, q_in_l]
  intro rg hrg
  refine loop_rg (Z := ReelW) hrg (fun i ρ μ' => ∃ j k, ρ = [.val (.scr ns), .val (.op (.ref p)), a, b, c, d, e, f, .val (.str (pyD (.lst [lampD x, logD g])).shown), .own (List.replicate i (twoD x g)), j, k, u, .val (lampD x), .val (logD g)] ∧ μ' = rs p l n) ?_ ?_ ⟨_, _, rfl, rfl⟩
  · rintro i ρ μ' N hi ⟨j, k, rfl, rfl⟩ hN2
    have i2 : i < 2 := hi
    unfold l_law_1f_1f_3f_1 s_law_1f_1f_3f_1f_0 s_law_1f_1f_3f_1f_1 dLam spT__law_told
    have fin' := hN2 _ _ ⟨.val (.int (0 + (i : Int))), .val (dueD x g (logD (quietI x 0 g))), rfl, rfl⟩
    rw [List.replicate_succ'] at fin'
    have hrl : (List.replicate i (twoD x g)).length = i := List.length_replicate
    generalize List.replicate i (twoD x g) = rep at fin' hrl ⊢
    unfold twoD at fin'
    simp only [dsSeq, dsRaise, dsTryAs, dsTryO, dIsE, dXf, dStar, dsNever, dsDrop, dsRet, dsRetN, dsRetF, dsIf, dsAsg, dsOwn, dsNext, dsBreak, dsCont, dsAug, dsApp, dsExt, dsSet, dsPar2, dsPar3, dName, g_tup, g_lst, g_cons, g_nil, dsFor, dVar, dC, d2, d1, dL, dNil, dCons, dB, dAnd, dOr, dNot, dAndV, dOrV, dNotV, dIf, dChain, dTup, dLst, dFrz, dTru, dCall, dYes, dSeq, dSeqC, dEnum, dEnumC, dRg1, dRg2, dComp, dCut, dCutF, dAddF, dListF, dMulF, dRev, dPart, dNoPart, dpNil, dpE, dpF, q_isi_int, q_isi_bool, q_isi_str, q_isi_tuple, q_isi_list, q_isi_dict, dIsI, dIsB, dIsS, dIsT, dIsL, dIsD, q_add_i, q_sub, q_mul, q_div, q_mod, q_pow, q_lt, q_le, q_gt, q_ge, q_neg, q_eq_ii, q_ne_ii, q_eq_le, q_ne_le, q_eq_ve, q_ne_ve, q_eq_te, q_ne_te, q_eq_ss, q_ne_ss, q_len, q_bl, q_some, List.getElem?_cons_zero, List.getElem?_cons_succ, List.set_cons_zero, List.set_cons_succ, tru_bl, tru_non, tru_int, tru_tup, tru_lst, tru_vw, len_tup, len_lst, len_vw, len_scr, it_tup, it_lst, it_scr, itc_tup, itc_lst, itc_vw, itc_scr, sta, staL, Bool.and_true, Bool.true_and, Bool.and_eq_true, true_and, and_true, wipeR, if_true, if_false, ite_true, ite_false, Bool.false_eq_true, Bool.not_true, Bool.not_false, Option.some.injEq, exists_eq_left', exists_eq_left, reduceIte, reduceCtorEq, hasTy, tyD, Option.isSome_some, q_ix_t, q_ix_l, q_ix_v, at0, at1, at2, at_two, at_three, at_four, c_pow, c_mul1, c_mul2, Int.reducePow, Int.reduceToNat, Int.reduceMul, Int.reduceAdd, Int.reduceSub, Int.reduceNeg, Int.reduceLT, Int.reduceLE, Int.reduceBEq, Nat.reduceLT, Nat.reduceLeDiff, Nat.reducePow, decide_true, decide_false, Bool.true_and, Bool.and_true, Int.neg_neg, szl, List.length_cons, List.length_nil, Nat.zero_add, Nat.reduceAdd, dDct, List.zip_cons_cons, List.zip_nil_left, List.zip_nil_right, staK, q_add_tt, q_add_ll, q_add_vl, q_add_lv, q_addF_ll, q_addF_vl, q_cut_t, q_cut_l, q_cut_v, q_cut_s, q_rev_t, q_rev_l, q_tuple_t, q_tuple_l, q_tuple_v, q_list_t, q_list_l, q_list_v, q_int_i, q_int_b, q_abs, q_max2, q_min2, q_l1, q_l2, q_int, q_own, q_val, q_own1, q_val1, q_two, q_three, List.cons_append, List.nil_append, List.mem_cons, List.not_mem_nil, or_false, forall_eq_or_imp, forall_eq, ne_eq, not_false_eq_true, q_in_t, q_in_l]
    refine thOf_mk ?_
    simp only [sta_lamp, sta_log, dsSeq, dsRaise, dsTryAs, dsTryO, dIsE, dXf, dStar, dsNever, dsDrop, dsRet, dsRetN, dsRetF, dsIf, dsAsg, dsOwn, dsNext, dsBreak, dsCont, dsAug, dsApp, dsExt, dsSet, dsPar2, dsPar3, dName, g_tup, g_lst, g_cons, g_nil, dsFor, dVar, dC, d2, d1, dL, dNil, dCons, dB, dAnd, dOr, dNot, dAndV, dOrV, dNotV, dIf, dChain, dTup, dLst, dFrz, dTru, dCall, dYes, dSeq, dSeqC, dEnum, dEnumC, dRg1, dRg2, dComp, dCut, dCutF, dAddF, dListF, dMulF, dRev, dPart, dNoPart, dpNil, dpE, dpF, q_isi_int, q_isi_bool, q_isi_str, q_isi_tuple, q_isi_list, q_isi_dict, dIsI, dIsB, dIsS, dIsT, dIsL, dIsD, q_add_i, q_sub, q_mul, q_div, q_mod, q_pow, q_lt, q_le, q_gt, q_ge, q_neg, q_eq_ii, q_ne_ii, q_eq_le, q_ne_le, q_eq_ve, q_ne_ve, q_eq_te, q_ne_te, q_eq_ss, q_ne_ss, q_len, q_bl, q_some, List.getElem?_cons_zero, List.getElem?_cons_succ, List.set_cons_zero, List.set_cons_succ, tru_bl, tru_non, tru_int, tru_tup, tru_lst, tru_vw, len_tup, len_lst, len_vw, len_scr, it_tup, it_lst, it_scr, itc_tup, itc_lst, itc_vw, itc_scr, sta, staL, Bool.and_true, Bool.true_and, Bool.and_eq_true, true_and, and_true, wipeR, if_true, if_false, ite_true, ite_false, Bool.false_eq_true, Bool.not_true, Bool.not_false, Option.some.injEq, exists_eq_left', exists_eq_left, reduceIte, reduceCtorEq, hasTy, tyD, Option.isSome_some, q_ix_t, q_ix_l, q_ix_v, at0, at1, at2, at_two, at_three, at_four, c_pow, c_mul1, c_mul2, Int.reducePow, Int.reduceToNat, Int.reduceMul, Int.reduceAdd, Int.reduceSub, Int.reduceNeg, Int.reduceLT, Int.reduceLE, Int.reduceBEq, Nat.reduceLT, Nat.reduceLeDiff, Nat.reducePow, decide_true, decide_false, Bool.true_and, Bool.and_true, Int.neg_neg, szl, List.length_cons, List.length_nil, Nat.zero_add, Nat.reduceAdd, dDct, List.zip_cons_cons, List.zip_nil_left, List.zip_nil_right, staK, q_add_tt, q_add_ll, q_add_vl, q_add_lv, q_addF_ll, q_addF_vl, q_cut_t, q_cut_l, q_cut_v, q_cut_s, q_rev_t, q_rev_l, q_tuple_t, q_tuple_l, q_tuple_v, q_list_t, q_list_l, q_list_v, q_int_i, q_int_b, q_abs, q_max2, q_min2, q_l1, q_l2, q_int, q_own, q_val, q_own1, q_val1, q_two, q_three, List.cons_append, List.nil_append, List.mem_cons, List.not_mem_nil, or_false, forall_eq_or_imp, forall_eq, ne_eq, not_false_eq_true, q_in_t, q_in_l]
    refine ⟨x, g, rfl, ⟨by omega, by omega⟩, by have := hg.len; omega, ?_⟩
    unfold fitOr
    cases e : wrongI x 0 g with
    | nil =>
      have ed : ∀ o, dueD x g o = .tup [.str "result", o] := fun o => by unfold dueD; rw [e]
      rw [ed, ed] at fin'
      simp only [sta_log, dsSeq, dsRaise, dsTryAs, dsTryO, dIsE, dXf, dStar, dsNever, dsDrop, dsRet, dsRetN, dsRetF, dsIf, dsAsg, dsOwn, dsNext, dsBreak, dsCont, dsAug, dsApp, dsExt, dsSet, dsPar2, dsPar3, dName, g_tup, g_lst, g_cons, g_nil, dsFor, dVar, dC, d2, d1, dL, dNil, dCons, dB, dAnd, dOr, dNot, dAndV, dOrV, dNotV, dIf, dChain, dTup, dLst, dFrz, dTru, dCall, dYes, dSeq, dSeqC, dEnum, dEnumC, dRg1, dRg2, dComp, dCut, dCutF, dAddF, dListF, dMulF, dRev, dPart, dNoPart, dpNil, dpE, dpF, q_isi_int, q_isi_bool, q_isi_str, q_isi_tuple, q_isi_list, q_isi_dict, dIsI, dIsB, dIsS, dIsT, dIsL, dIsD, q_add_i, q_sub, q_mul, q_div, q_mod, q_pow, q_lt, q_le, q_gt, q_ge, q_neg, q_eq_ii, q_ne_ii, q_eq_le, q_ne_le, q_eq_ve, q_ne_ve, q_eq_te, q_ne_te, q_eq_ss, q_ne_ss, q_len, q_bl, q_some, List.getElem?_cons_zero, List.getElem?_cons_succ, List.set_cons_zero, List.set_cons_succ, tru_bl, tru_non, tru_int, tru_tup, tru_lst, tru_vw, len_tup, len_lst, len_vw, len_scr, it_tup, it_lst, it_scr, itc_tup, itc_lst, itc_vw, itc_scr, sta, staL, Bool.and_true, Bool.true_and, Bool.and_eq_true, true_and, and_true, wipeR, if_true, if_false, ite_true, ite_false, Bool.false_eq_true, Bool.not_true, Bool.not_false, Option.some.injEq, exists_eq_left', exists_eq_left, reduceIte, reduceCtorEq, hasTy, tyD, Option.isSome_some, q_ix_t, q_ix_l, q_ix_v, at0, at1, at2, at_two, at_three, at_four, c_pow, c_mul1, c_mul2, Int.reducePow, Int.reduceToNat, Int.reduceMul, Int.reduceAdd, Int.reduceSub, Int.reduceNeg, Int.reduceLT, Int.reduceLE, Int.reduceBEq, Nat.reduceLT, Nat.reduceLeDiff, Nat.reducePow, decide_true, decide_false, Bool.true_and, Bool.and_true, Int.neg_neg, szl, List.length_cons, List.length_nil, Nat.zero_add, Nat.reduceAdd, dDct, List.zip_cons_cons, List.zip_nil_left, List.zip_nil_right, staK, q_add_tt, q_add_ll, q_add_vl, q_add_lv, q_addF_ll, q_addF_vl, q_cut_t, q_cut_l, q_cut_v, q_cut_s, q_rev_t, q_rev_l, q_tuple_t, q_tuple_l, q_tuple_v, q_list_t, q_list_l, q_list_v, q_int_i, q_int_b, q_abs, q_max2, q_min2, q_l1, q_l2, q_int, q_own, q_val, q_own1, q_val1, q_two, q_three, List.cons_append, List.nil_append, List.mem_cons, List.not_mem_nil, or_false, forall_eq_or_imp, forall_eq, ne_eq, not_false_eq_true, q_in_t, q_in_l]
      refine thOf_mk ?_
      simp only [sta_lamp, sta_log, dsSeq, dsRaise, dsTryAs, dsTryO, dIsE, dXf, dStar, dsNever, dsDrop, dsRet, dsRetN, dsRetF, dsIf, dsAsg, dsOwn, dsNext, dsBreak, dsCont, dsAug, dsApp, dsExt, dsSet, dsPar2, dsPar3, dName, g_tup, g_lst, g_cons, g_nil, dsFor, dVar, dC, d2, d1, dL, dNil, dCons, dB, dAnd, dOr, dNot, dAndV, dOrV, dNotV, dIf, dChain, dTup, dLst, dFrz, dTru, dCall, dYes, dSeq, dSeqC, dEnum, dEnumC, dRg1, dRg2, dComp, dCut, dCutF, dAddF, dListF, dMulF, dRev, dPart, dNoPart, dpNil, dpE, dpF, q_isi_int, q_isi_bool, q_isi_str, q_isi_tuple, q_isi_list, q_isi_dict, dIsI, dIsB, dIsS, dIsT, dIsL, dIsD, q_add_i, q_sub, q_mul, q_div, q_mod, q_pow, q_lt, q_le, q_gt, q_ge, q_neg, q_eq_ii, q_ne_ii, q_eq_le, q_ne_le, q_eq_ve, q_ne_ve, q_eq_te, q_ne_te, q_eq_ss, q_ne_ss, q_len, q_bl, q_some, List.getElem?_cons_zero, List.getElem?_cons_succ, List.set_cons_zero, List.set_cons_succ, tru_bl, tru_non, tru_int, tru_tup, tru_lst, tru_vw, len_tup, len_lst, len_vw, len_scr, it_tup, it_lst, it_scr, itc_tup, itc_lst, itc_vw, itc_scr, sta, staL, Bool.and_true, Bool.true_and, Bool.and_eq_true, true_and, and_true, wipeR, if_true, if_false, ite_true, ite_false, Bool.false_eq_true, Bool.not_true, Bool.not_false, Option.some.injEq, exists_eq_left', exists_eq_left, reduceIte, reduceCtorEq, hasTy, tyD, Option.isSome_some, q_ix_t, q_ix_l, q_ix_v, at0, at1, at2, at_two, at_three, at_four, c_pow, c_mul1, c_mul2, Int.reducePow, Int.reduceToNat, Int.reduceMul, Int.reduceAdd, Int.reduceSub, Int.reduceNeg, Int.reduceLT, Int.reduceLE, Int.reduceBEq, Nat.reduceLT, Nat.reduceLeDiff, Nat.reducePow, decide_true, decide_false, Bool.true_and, Bool.and_true, Int.neg_neg, szl, List.length_cons, List.length_nil, Nat.zero_add, Nat.reduceAdd, dDct, List.zip_cons_cons, List.zip_nil_left, List.zip_nil_right, staK, q_add_tt, q_add_ll, q_add_vl, q_add_lv, q_addF_ll, q_addF_vl, q_cut_t, q_cut_l, q_cut_v, q_cut_s, q_rev_t, q_rev_l, q_tuple_t, q_tuple_l, q_tuple_v, q_list_t, q_list_l, q_list_v, q_int_i, q_int_b, q_abs, q_max2, q_min2, q_l1, q_l2, q_int, q_own, q_val, q_own1, q_val1, q_two, q_three, List.cons_append, List.nil_append, List.mem_cons, List.not_mem_nil, or_false, forall_eq_or_imp, forall_eq, ne_eq, not_false_eq_true, q_in_t, q_in_l]
      refine ⟨x, g, rfl, ⟨by omega, by omega⟩, by have := hg.len; omega, ?_⟩
      unfold fitOr
      rw [e]
      simp only [sta_log, dsSeq, dsRaise, dsTryAs, dsTryO, dIsE, dXf, dStar, dsNever, dsDrop, dsRet, dsRetN, dsRetF, dsIf, dsAsg, dsOwn, dsNext, dsBreak, dsCont, dsAug, dsApp, dsExt, dsSet, dsPar2, dsPar3, dName, g_tup, g_lst, g_cons, g_nil, dsFor, dVar, dC, d2, d1, dL, dNil, dCons, dB, dAnd, dOr, dNot, dAndV, dOrV, dNotV, dIf, dChain, dTup, dLst, dFrz, dTru, dCall, dYes, dSeq, dSeqC, dEnum, dEnumC, dRg1, dRg2, dComp, dCut, dCutF, dAddF, dListF, dMulF, dRev, dPart, dNoPart, dpNil, dpE, dpF, q_isi_int, q_isi_bool, q_isi_str, q_isi_tuple, q_isi_list, q_isi_dict, dIsI, dIsB, dIsS, dIsT, dIsL, dIsD, q_add_i, q_sub, q_mul, q_div, q_mod, q_pow, q_lt, q_le, q_gt, q_ge, q_neg, q_eq_ii, q_ne_ii, q_eq_le, q_ne_le, q_eq_ve, q_ne_ve, q_eq_te, q_ne_te, q_eq_ss, q_ne_ss, q_len, q_bl, q_some, List.getElem?_cons_zero, List.getElem?_cons_succ, List.set_cons_zero, List.set_cons_succ, tru_bl, tru_non, tru_int, tru_tup, tru_lst, tru_vw, len_tup, len_lst, len_vw, len_scr, it_tup, it_lst, it_scr, itc_tup, itc_lst, itc_vw, itc_scr, sta, staL, Bool.and_true, Bool.true_and, Bool.and_eq_true, true_and, and_true, wipeR, if_true, if_false, ite_true, ite_false, Bool.false_eq_true, Bool.not_true, Bool.not_false, Option.some.injEq, exists_eq_left', exists_eq_left, reduceIte, reduceCtorEq, hasTy, tyD, Option.isSome_some, q_ix_t, q_ix_l, q_ix_v, at0, at1, at2, at_two, at_three, at_four, c_pow, c_mul1, c_mul2, Int.reducePow, Int.reduceToNat, Int.reduceMul, Int.reduceAdd, Int.reduceSub, Int.reduceNeg, Int.reduceLT, Int.reduceLE, Int.reduceBEq, Nat.reduceLT, Nat.reduceLeDiff, Nat.reducePow, decide_true, decide_false, Bool.true_and, Bool.and_true, Int.neg_neg, szl, List.length_cons, List.length_nil, Nat.zero_add, Nat.reduceAdd, dDct, List.zip_cons_cons, List.zip_nil_left, List.zip_nil_right, staK, q_add_tt, q_add_ll, q_add_vl, q_add_lv, q_addF_ll, q_addF_vl, q_cut_t, q_cut_l, q_cut_v, q_cut_s, q_rev_t, q_rev_l, q_tuple_t, q_tuple_l, q_tuple_v, q_list_t, q_list_l, q_list_v, q_int_i, q_int_b, q_abs, q_max2, q_min2, q_l1, q_l2, q_int, q_own, q_val, q_own1, q_val1, q_two, q_three, List.cons_append, List.nil_append, List.mem_cons, List.not_mem_nil, or_false, forall_eq_or_imp, forall_eq, ne_eq, not_false_eq_true, q_in_t, q_in_l]
      exact ⟨by omega, fin'⟩
    | cons w ws =>
      have ed : ∀ o, dueD x g o = .tup [.str "Unexplained", .tup [.str "stretch", .int 0, .int w]] := fun o => by unfold dueD; rw [e]
      rw [ed, ed] at fin'
      refine ⟨_, rfl, rfl, ?_⟩
      simp only [sta_log, dsSeq, dsRaise, dsTryAs, dsTryO, dIsE, dXf, dStar, dsNever, dsDrop, dsRet, dsRetN, dsRetF, dsIf, dsAsg, dsOwn, dsNext, dsBreak, dsCont, dsAug, dsApp, dsExt, dsSet, dsPar2, dsPar3, dName, g_tup, g_lst, g_cons, g_nil, dsFor, dVar, dC, d2, d1, dL, dNil, dCons, dB, dAnd, dOr, dNot, dAndV, dOrV, dNotV, dIf, dChain, dTup, dLst, dFrz, dTru, dCall, dYes, dSeq, dSeqC, dEnum, dEnumC, dRg1, dRg2, dComp, dCut, dCutF, dAddF, dListF, dMulF, dRev, dPart, dNoPart, dpNil, dpE, dpF, q_isi_int, q_isi_bool, q_isi_str, q_isi_tuple, q_isi_list, q_isi_dict, dIsI, dIsB, dIsS, dIsT, dIsL, dIsD, q_add_i, q_sub, q_mul, q_div, q_mod, q_pow, q_lt, q_le, q_gt, q_ge, q_neg, q_eq_ii, q_ne_ii, q_eq_le, q_ne_le, q_eq_ve, q_ne_ve, q_eq_te, q_ne_te, q_eq_ss, q_ne_ss, q_len, q_bl, q_some, List.getElem?_cons_zero, List.getElem?_cons_succ, List.set_cons_zero, List.set_cons_succ, tru_bl, tru_non, tru_int, tru_tup, tru_lst, tru_vw, len_tup, len_lst, len_vw, len_scr, it_tup, it_lst, it_scr, itc_tup, itc_lst, itc_vw, itc_scr, sta, staL, Bool.and_true, Bool.true_and, Bool.and_eq_true, true_and, and_true, wipeR, if_true, if_false, ite_true, ite_false, Bool.false_eq_true, Bool.not_true, Bool.not_false, Option.some.injEq, exists_eq_left', exists_eq_left, reduceIte, reduceCtorEq, hasTy, tyD, Option.isSome_some, q_ix_t, q_ix_l, q_ix_v, at0, at1, at2, at_two, at_three, at_four, c_pow, c_mul1, c_mul2, Int.reducePow, Int.reduceToNat, Int.reduceMul, Int.reduceAdd, Int.reduceSub, Int.reduceNeg, Int.reduceLT, Int.reduceLE, Int.reduceBEq, Nat.reduceLT, Nat.reduceLeDiff, Nat.reducePow, decide_true, decide_false, Bool.true_and, Bool.and_true, Int.neg_neg, szl, List.length_cons, List.length_nil, Nat.zero_add, Nat.reduceAdd, dDct, List.zip_cons_cons, List.zip_nil_left, List.zip_nil_right, staK, q_add_tt, q_add_ll, q_add_vl, q_add_lv, q_addF_ll, q_addF_vl, q_cut_t, q_cut_l, q_cut_v, q_cut_s, q_rev_t, q_rev_l, q_tuple_t, q_tuple_l, q_tuple_v, q_list_t, q_list_l, q_list_v, q_int_i, q_int_b, q_abs, q_max2, q_min2, q_l1, q_l2, q_int, q_own, q_val, q_own1, q_val1, q_two, q_three, List.cons_append, List.nil_append, List.mem_cons, List.not_mem_nil, or_false, forall_eq_or_imp, forall_eq, ne_eq, not_false_eq_true, q_in_t, q_in_l]
      refine thOf_mk ?_
      simp only [sta_lamp, sta_log, dsSeq, dsRaise, dsTryAs, dsTryO, dIsE, dXf, dStar, dsNever, dsDrop, dsRet, dsRetN, dsRetF, dsIf, dsAsg, dsOwn, dsNext, dsBreak, dsCont, dsAug, dsApp, dsExt, dsSet, dsPar2, dsPar3, dName, g_tup, g_lst, g_cons, g_nil, dsFor, dVar, dC, d2, d1, dL, dNil, dCons, dB, dAnd, dOr, dNot, dAndV, dOrV, dNotV, dIf, dChain, dTup, dLst, dFrz, dTru, dCall, dYes, dSeq, dSeqC, dEnum, dEnumC, dRg1, dRg2, dComp, dCut, dCutF, dAddF, dListF, dMulF, dRev, dPart, dNoPart, dpNil, dpE, dpF, q_isi_int, q_isi_bool, q_isi_str, q_isi_tuple, q_isi_list, q_isi_dict, dIsI, dIsB, dIsS, dIsT, dIsL, dIsD, q_add_i, q_sub, q_mul, q_div, q_mod, q_pow, q_lt, q_le, q_gt, q_ge, q_neg, q_eq_ii, q_ne_ii, q_eq_le, q_ne_le, q_eq_ve, q_ne_ve, q_eq_te, q_ne_te, q_eq_ss, q_ne_ss, q_len, q_bl, q_some, List.getElem?_cons_zero, List.getElem?_cons_succ, List.set_cons_zero, List.set_cons_succ, tru_bl, tru_non, tru_int, tru_tup, tru_lst, tru_vw, len_tup, len_lst, len_vw, len_scr, it_tup, it_lst, it_scr, itc_tup, itc_lst, itc_vw, itc_scr, sta, staL, Bool.and_true, Bool.true_and, Bool.and_eq_true, true_and, and_true, wipeR, if_true, if_false, ite_true, ite_false, Bool.false_eq_true, Bool.not_true, Bool.not_false, Option.some.injEq, exists_eq_left', exists_eq_left, reduceIte, reduceCtorEq, hasTy, tyD, Option.isSome_some, q_ix_t, q_ix_l, q_ix_v, at0, at1, at2, at_two, at_three, at_four, c_pow, c_mul1, c_mul2, Int.reducePow, Int.reduceToNat, Int.reduceMul, Int.reduceAdd, Int.reduceSub, Int.reduceNeg, Int.reduceLT, Int.reduceLE, Int.reduceBEq, Nat.reduceLT, Nat.reduceLeDiff, Nat.reducePow, decide_true, decide_false, Bool.true_and, Bool.and_true, Int.neg_neg, szl, List.length_cons, List.length_nil, Nat.zero_add, Nat.reduceAdd, dDct, List.zip_cons_cons, List.zip_nil_left, List.zip_nil_right, staK, q_add_tt, q_add_ll, q_add_vl, q_add_lv, q_addF_ll, q_addF_vl, q_cut_t, q_cut_l, q_cut_v, q_cut_s, q_rev_t, q_rev_l, q_tuple_t, q_tuple_l, q_tuple_v, q_list_t, q_list_l, q_list_v, q_int_i, q_int_b, q_abs, q_max2, q_min2, q_l1, q_l2, q_int, q_own, q_val, q_own1, q_val1, q_two, q_three, List.cons_append, List.nil_append, List.mem_cons, List.not_mem_nil, or_false, forall_eq_or_imp, forall_eq, ne_eq, not_false_eq_true, q_in_t, q_in_l]
      refine ⟨x, g, rfl, ⟨by omega, by omega⟩, by have := hg.len; omega, ?_⟩
      unfold fitOr
      rw [e]
      refine ⟨_, rfl, rfl, ?_⟩
      simp only [dsSeq, dsRaise, dsTryAs, dsTryO, dIsE, dXf, dStar, dsNever, dsDrop, dsRet, dsRetN, dsRetF, dsIf, dsAsg, dsOwn, dsNext, dsBreak, dsCont, dsAug, dsApp, dsExt, dsSet, dsPar2, dsPar3, dName, g_tup, g_lst, g_cons, g_nil, dsFor, dVar, dC, d2, d1, dL, dNil, dCons, dB, dAnd, dOr, dNot, dAndV, dOrV, dNotV, dIf, dChain, dTup, dLst, dFrz, dTru, dCall, dYes, dSeq, dSeqC, dEnum, dEnumC, dRg1, dRg2, dComp, dCut, dCutF, dAddF, dListF, dMulF, dRev, dPart, dNoPart, dpNil, dpE, dpF, q_isi_int, q_isi_bool, q_isi_str, q_isi_tuple, q_isi_list, q_isi_dict, dIsI, dIsB, dIsS, dIsT, dIsL, dIsD, q_add_i, q_sub, q_mul, q_div, q_mod, q_pow, q_lt, q_le, q_gt, q_ge, q_neg, q_eq_ii, q_ne_ii, q_eq_le, q_ne_le, q_eq_ve, q_ne_ve, q_eq_te, q_ne_te, q_eq_ss, q_ne_ss, q_len, q_bl, q_some, List.getElem?_cons_zero, List.getElem?_cons_succ, List.set_cons_zero, List.set_cons_succ, tru_bl, tru_non, tru_int, tru_tup, tru_lst, tru_vw, len_tup, len_lst, len_vw, len_scr, it_tup, it_lst, it_scr, itc_tup, itc_lst, itc_vw, itc_scr, sta, staL, Bool.and_true, Bool.true_and, Bool.and_eq_true, true_and, and_true, wipeR, if_true, if_false, ite_true, ite_false, Bool.false_eq_true, Bool.not_true, Bool.not_false, Option.some.injEq, exists_eq_left', exists_eq_left, reduceIte, reduceCtorEq, hasTy, tyD, Option.isSome_some, q_ix_t, q_ix_l, q_ix_v, at0, at1, at2, at_two, at_three, at_four, c_pow, c_mul1, c_mul2, Int.reducePow, Int.reduceToNat, Int.reduceMul, Int.reduceAdd, Int.reduceSub, Int.reduceNeg, Int.reduceLT, Int.reduceLE, Int.reduceBEq, Nat.reduceLT, Nat.reduceLeDiff, Nat.reducePow, decide_true, decide_false, Bool.true_and, Bool.and_true, Int.neg_neg, szl, List.length_cons, List.length_nil, Nat.zero_add, Nat.reduceAdd, dDct, List.zip_cons_cons, List.zip_nil_left, List.zip_nil_right, staK, q_add_tt, q_add_ll, q_add_vl, q_add_lv, q_addF_ll, q_addF_vl, q_cut_t, q_cut_l, q_cut_v, q_cut_s, q_rev_t, q_rev_l, q_tuple_t, q_tuple_l, q_tuple_v, q_list_t, q_list_l, q_list_v, q_int_i, q_int_b, q_abs, q_max2, q_min2, q_l1, q_l2, q_int, q_own, q_val, q_own1, q_val1, q_two, q_three, List.cons_append, List.nil_append, List.mem_cons, List.not_mem_nil, or_false, forall_eq_or_imp, forall_eq, ne_eq, not_false_eq_true, q_in_t, q_in_l]
      exact ⟨by omega, fin'⟩
  · rintro ρ μ' ⟨j, k, rfl, rfl⟩
    unfold s_law_1f_1f_3f_2 s_law_1f_1f_3f_3
    simp only [List.replicate, sta_lamp, sta_log, dsSeq, dsRaise, dsTryAs, dsTryO, dIsE, dXf, dStar, dsNever, dsDrop, dsRet, dsRetN, dsRetF, dsIf, dsAsg, dsOwn, dsNext, dsBreak, dsCont, dsAug, dsApp, dsExt, dsSet, dsPar2, dsPar3, dName, g_tup, g_lst, g_cons, g_nil, dsFor, dVar, dC, d2, d1, dL, dNil, dCons, dB, dAnd, dOr, dNot, dAndV, dOrV, dNotV, dIf, dChain, dTup, dLst, dFrz, dTru, dCall, dYes, dSeq, dSeqC, dEnum, dEnumC, dRg1, dRg2, dComp, dCut, dCutF, dAddF, dListF, dMulF, dRev, dPart, dNoPart, dpNil, dpE, dpF, q_isi_int, q_isi_bool, q_isi_str, q_isi_tuple, q_isi_list, q_isi_dict, dIsI, dIsB, dIsS, dIsT, dIsL, dIsD, q_add_i, q_sub, q_mul, q_div, q_mod, q_pow, q_lt, q_le, q_gt, q_ge, q_neg, q_eq_ii, q_ne_ii, q_eq_le, q_ne_le, q_eq_ve, q_ne_ve, q_eq_te, q_ne_te, q_eq_ss, q_ne_ss, q_len, q_bl, q_some, List.getElem?_cons_zero, List.getElem?_cons_succ, List.set_cons_zero, List.set_cons_succ, tru_bl, tru_non, tru_int, tru_tup, tru_lst, tru_vw, len_tup, len_lst, len_vw, len_scr, it_tup, it_lst, it_scr, itc_tup, itc_lst, itc_vw, itc_scr, sta, staL, Bool.and_true, Bool.true_and, Bool.and_eq_true, true_and, and_true, wipeR, if_true, if_false, ite_true, ite_false, Bool.false_eq_true, Bool.not_true, Bool.not_false, Option.some.injEq, exists_eq_left', exists_eq_left, reduceIte, reduceCtorEq, hasTy, tyD, Option.isSome_some, q_ix_t, q_ix_l, q_ix_v, at0, at1, at2, at_two, at_three, at_four, c_pow, c_mul1, c_mul2, Int.reducePow, Int.reduceToNat, Int.reduceMul, Int.reduceAdd, Int.reduceSub, Int.reduceNeg, Int.reduceLT, Int.reduceLE, Int.reduceBEq, Nat.reduceLT, Nat.reduceLeDiff, Nat.reducePow, decide_true, decide_false, Bool.true_and, Bool.and_true, Int.neg_neg, szl, List.length_cons, List.length_nil, Nat.zero_add, Nat.reduceAdd, dDct, List.zip_cons_cons, List.zip_nil_left, List.zip_nil_right, staK, q_add_tt, q_add_ll, q_add_vl, q_add_lv, q_addF_ll, q_addF_vl, q_cut_t, q_cut_l, q_cut_v, q_cut_s, q_rev_t, q_rev_l, q_tuple_t, q_tuple_l, q_tuple_v, q_list_t, q_list_l, q_list_v, q_int_i, q_int_b, q_abs, q_max2, q_min2, q_l1, q_l2, q_int, q_own, q_val, q_own1, q_val1, q_two, q_three, List.cons_append, List.nil_append, List.mem_cons, List.not_mem_nil, or_false, forall_eq_or_imp, forall_eq, ne_eq, not_false_eq_true, q_in_t, q_in_l]
    refine ⟨0, x, g, rfl, hx, hgg, ?_⟩
    rw [if_pos rfl]
    simp only [sta_lamp, sta_log, dsSeq, dsRaise, dsTryAs, dsTryO, dIsE, dXf, dStar, dsNever, dsDrop, dsRet, dsRetN, dsRetF, dsIf, dsAsg, dsOwn, dsNext, dsBreak, dsCont, dsAug, dsApp, dsExt, dsSet, dsPar2, dsPar3, dName, g_tup, g_lst, g_cons, g_nil, dsFor, dVar, dC, d2, d1, dL, dNil, dCons, dB, dAnd, dOr, dNot, dAndV, dOrV, dNotV, dIf, dChain, dTup, dLst, dFrz, dTru, dCall, dYes, dSeq, dSeqC, dEnum, dEnumC, dRg1, dRg2, dComp, dCut, dCutF, dAddF, dListF, dMulF, dRev, dPart, dNoPart, dpNil, dpE, dpF, q_isi_int, q_isi_bool, q_isi_str, q_isi_tuple, q_isi_list, q_isi_dict, dIsI, dIsB, dIsS, dIsT, dIsL, dIsD, q_add_i, q_sub, q_mul, q_div, q_mod, q_pow, q_lt, q_le, q_gt, q_ge, q_neg, q_eq_ii, q_ne_ii, q_eq_le, q_ne_le, q_eq_ve, q_ne_ve, q_eq_te, q_ne_te, q_eq_ss, q_ne_ss, q_len, q_bl, q_some, List.getElem?_cons_zero, List.getElem?_cons_succ, List.set_cons_zero, List.set_cons_succ, tru_bl, tru_non, tru_int, tru_tup, tru_lst, tru_vw, len_tup, len_lst, len_vw, len_scr, it_tup, it_lst, it_scr, itc_tup, itc_lst, itc_vw, itc_scr, sta, staL, Bool.and_true, Bool.true_and, Bool.and_eq_true, true_and, and_true, wipeR, if_true, if_false, ite_true, ite_false, Bool.false_eq_true, Bool.not_true, Bool.not_false, Option.some.injEq, exists_eq_left', exists_eq_left, reduceIte, reduceCtorEq, hasTy, tyD, Option.isSome_some, q_ix_t, q_ix_l, q_ix_v, at0, at1, at2, at_two, at_three, at_four, c_pow, c_mul1, c_mul2, Int.reducePow, Int.reduceToNat, Int.reduceMul, Int.reduceAdd, Int.reduceSub, Int.reduceNeg, Int.reduceLT, Int.reduceLE, Int.reduceBEq, Nat.reduceLT, Nat.reduceLeDiff, Nat.reducePow, decide_true, decide_false, Bool.true_and, Bool.and_true, Int.neg_neg, szl, List.length_cons, List.length_nil, Nat.zero_add, Nat.reduceAdd, dDct, List.zip_cons_cons, List.zip_nil_left, List.zip_nil_right, staK, q_add_tt, q_add_ll, q_add_vl, q_add_lv, q_addF_ll, q_addF_vl, q_cut_t, q_cut_l, q_cut_v, q_cut_s, q_rev_t, q_rev_l, q_tuple_t, q_tuple_l, q_tuple_v, q_list_t, q_list_l, q_list_v, q_int_i, q_int_b, q_abs, q_max2, q_min2, q_l1, q_l2, q_int, q_own, q_val, q_own1, q_val1, q_two, q_three, List.cons_append, List.nil_append, List.mem_cons, List.not_mem_nil, or_false, forall_eq_or_imp, forall_eq, ne_eq, not_false_eq_true, q_in_t, q_in_l]
    refine ⟨1, x, g, rfl, hx, hgg, ?_⟩
    rw [if_neg (by decide)]
    simp only [sd1, sd2, dsSeq, dsRaise, dsTryAs, dsTryO, dIsE, dXf, dStar, dsNever, dsDrop, dsRet, dsRetN, dsRetF, dsIf, dsAsg, dsOwn, dsNext, dsBreak, dsCont, dsAug, dsApp, dsExt, dsSet, dsPar2, dsPar3, dName, g_tup, g_lst, g_cons, g_nil, dsFor, dVar, dC, d2, d1, dL, dNil, dCons, dB, dAnd, dOr, dNot, dAndV, dOrV, dNotV, dIf, dChain, dTup, dLst, dFrz, dTru, dCall, dYes, dSeq, dSeqC, dEnum, dEnumC, dRg1, dRg2, dComp, dCut, dCutF, dAddF, dListF, dMulF, dRev, dPart, dNoPart, dpNil, dpE, dpF, q_isi_int, q_isi_bool, q_isi_str, q_isi_tuple, q_isi_list, q_isi_dict, dIsI, dIsB, dIsS, dIsT, dIsL, dIsD, q_add_i, q_sub, q_mul, q_div, q_mod, q_pow, q_lt, q_le, q_gt, q_ge, q_neg, q_eq_ii, q_ne_ii, q_eq_le, q_ne_le, q_eq_ve, q_ne_ve, q_eq_te, q_ne_te, q_eq_ss, q_ne_ss, q_len, q_bl, q_some, List.getElem?_cons_zero, List.getElem?_cons_succ, List.set_cons_zero, List.set_cons_succ, tru_bl, tru_non, tru_int, tru_tup, tru_lst, tru_vw, len_tup, len_lst, len_vw, len_scr, it_tup, it_lst, it_scr, itc_tup, itc_lst, itc_vw, itc_scr, sta, staL, Bool.and_true, Bool.true_and, Bool.and_eq_true, true_and, and_true, wipeR, if_true, if_false, ite_true, ite_false, Bool.false_eq_true, Bool.not_true, Bool.not_false, Option.some.injEq, exists_eq_left', exists_eq_left, reduceIte, reduceCtorEq, hasTy, tyD, Option.isSome_some, q_ix_t, q_ix_l, q_ix_v, at0, at1, at2, at_two, at_three, at_four, c_pow, c_mul1, c_mul2, Int.reducePow, Int.reduceToNat, Int.reduceMul, Int.reduceAdd, Int.reduceSub, Int.reduceNeg, Int.reduceLT, Int.reduceLE, Int.reduceBEq, Nat.reduceLT, Nat.reduceLeDiff, Nat.reducePow, decide_true, decide_false, Bool.true_and, Bool.and_true, Int.neg_neg, szl, List.length_cons, List.length_nil, Nat.zero_add, Nat.reduceAdd, dDct, List.zip_cons_cons, List.zip_nil_left, List.zip_nil_right, staK, q_add_tt, q_add_ll, q_add_vl, q_add_lv, q_addF_ll, q_addF_vl, q_cut_t, q_cut_l, q_cut_v, q_cut_s, q_rev_t, q_rev_l, q_tuple_t, q_tuple_l, q_tuple_v, q_list_t, q_list_l, q_list_v, q_int_i, q_int_b, q_abs, q_max2, q_min2, q_l1, q_l2, q_int, q_own, q_val, q_own1, q_val1, q_two, q_three, List.cons_append, List.nil_append, List.mem_cons, List.not_mem_nil, or_false, forall_eq_or_imp, forall_eq, ne_eq, not_false_eq_true, q_in_t, q_in_l]
    refine show_ofV tw (by omega) (by omega) ?_
    refine show_of tw (by omega) (by omega) ?_
    simp only [dsSeq, dsRaise, dsTryAs, dsTryO, dIsE, dXf, dStar, dsNever, dsDrop, dsRet, dsRetN, dsRetF, dsIf, dsAsg, dsOwn, dsNext, dsBreak, dsCont, dsAug, dsApp, dsExt, dsSet, dsPar2, dsPar3, dName, g_tup, g_lst, g_cons, g_nil, dsFor, dVar, dC, d2, d1, dL, dNil, dCons, dB, dAnd, dOr, dNot, dAndV, dOrV, dNotV, dIf, dChain, dTup, dLst, dFrz, dTru, dCall, dYes, dSeq, dSeqC, dEnum, dEnumC, dRg1, dRg2, dComp, dCut, dCutF, dAddF, dListF, dMulF, dRev, dPart, dNoPart, dpNil, dpE, dpF, q_isi_int, q_isi_bool, q_isi_str, q_isi_tuple, q_isi_list, q_isi_dict, dIsI, dIsB, dIsS, dIsT, dIsL, dIsD, q_add_i, q_sub, q_mul, q_div, q_mod, q_pow, q_lt, q_le, q_gt, q_ge, q_neg, q_eq_ii, q_ne_ii, q_eq_le, q_ne_le, q_eq_ve, q_ne_ve, q_eq_te, q_ne_te, q_eq_ss, q_ne_ss, q_len, q_bl, q_some, List.getElem?_cons_zero, List.getElem?_cons_succ, List.set_cons_zero, List.set_cons_succ, tru_bl, tru_non, tru_int, tru_tup, tru_lst, tru_vw, len_tup, len_lst, len_vw, len_scr, it_tup, it_lst, it_scr, itc_tup, itc_lst, itc_vw, itc_scr, sta, staL, Bool.and_true, Bool.true_and, Bool.and_eq_true, true_and, and_true, wipeR, if_true, if_false, ite_true, ite_false, Bool.false_eq_true, Bool.not_true, Bool.not_false, Option.some.injEq, exists_eq_left', exists_eq_left, reduceIte, reduceCtorEq, hasTy, tyD, Option.isSome_some, q_ix_t, q_ix_l, q_ix_v, at0, at1, at2, at_two, at_three, at_four, c_pow, c_mul1, c_mul2, Int.reducePow, Int.reduceToNat, Int.reduceMul, Int.reduceAdd, Int.reduceSub, Int.reduceNeg, Int.reduceLT, Int.reduceLE, Int.reduceBEq, Nat.reduceLT, Nat.reduceLeDiff, Nat.reducePow, decide_true, decide_false, Bool.true_and, Bool.and_true, Int.neg_neg, szl, List.length_cons, List.length_nil, Nat.zero_add, Nat.reduceAdd, dDct, List.zip_cons_cons, List.zip_nil_left, List.zip_nil_right, staK, q_add_tt, q_add_ll, q_add_vl, q_add_lv, q_addF_ll, q_addF_vl, q_cut_t, q_cut_l, q_cut_v, q_cut_s, q_rev_t, q_rev_l, q_tuple_t, q_tuple_l, q_tuple_v, q_list_t, q_list_l, q_list_v, q_int_i, q_int_b, q_abs, q_max2, q_min2, q_l1, q_l2, q_int, q_own, q_val, q_own1, q_val1, q_two, q_three, List.cons_append, List.nil_append, List.mem_cons, List.not_mem_nil, or_false, forall_eq_or_imp, forall_eq, ne_eq, not_false_eq_true, q_in_t, q_in_l]
    refine show_of tlg (by omega) (by omega) ?_
    simp only [dsSeq, dsRaise, dsTryAs, dsTryO, dIsE, dXf, dStar, dsNever, dsDrop, dsRet, dsRetN, dsRetF, dsIf, dsAsg, dsOwn, dsNext, dsBreak, dsCont, dsAug, dsApp, dsExt, dsSet, dsPar2, dsPar3, dName, g_tup, g_lst, g_cons, g_nil, dsFor, dVar, dC, d2, d1, dL, dNil, dCons, dB, dAnd, dOr, dNot, dAndV, dOrV, dNotV, dIf, dChain, dTup, dLst, dFrz, dTru, dCall, dYes, dSeq, dSeqC, dEnum, dEnumC, dRg1, dRg2, dComp, dCut, dCutF, dAddF, dListF, dMulF, dRev, dPart, dNoPart, dpNil, dpE, dpF, q_isi_int, q_isi_bool, q_isi_str, q_isi_tuple, q_isi_list, q_isi_dict, dIsI, dIsB, dIsS, dIsT, dIsL, dIsD, q_add_i, q_sub, q_mul, q_div, q_mod, q_pow, q_lt, q_le, q_gt, q_ge, q_neg, q_eq_ii, q_ne_ii, q_eq_le, q_ne_le, q_eq_ve, q_ne_ve, q_eq_te, q_ne_te, q_eq_ss, q_ne_ss, q_len, q_bl, q_some, List.getElem?_cons_zero, List.getElem?_cons_succ, List.set_cons_zero, List.set_cons_succ, tru_bl, tru_non, tru_int, tru_tup, tru_lst, tru_vw, len_tup, len_lst, len_vw, len_scr, it_tup, it_lst, it_scr, itc_tup, itc_lst, itc_vw, itc_scr, sta, staL, Bool.and_true, Bool.true_and, Bool.and_eq_true, true_and, and_true, wipeR, if_true, if_false, ite_true, ite_false, Bool.false_eq_true, Bool.not_true, Bool.not_false, Option.some.injEq, exists_eq_left', exists_eq_left, reduceIte, reduceCtorEq, hasTy, tyD, Option.isSome_some, q_ix_t, q_ix_l, q_ix_v, at0, at1, at2, at_two, at_three, at_four, c_pow, c_mul1, c_mul2, Int.reducePow, Int.reduceToNat, Int.reduceMul, Int.reduceAdd, Int.reduceSub, Int.reduceNeg, Int.reduceLT, Int.reduceLE, Int.reduceBEq, Nat.reduceLT, Nat.reduceLeDiff, Nat.reducePow, decide_true, decide_false, Bool.true_and, Bool.and_true, Int.neg_neg, szl, List.length_cons, List.length_nil, Nat.zero_add, Nat.reduceAdd, dDct, List.zip_cons_cons, List.zip_nil_left, List.zip_nil_right, staK, q_add_tt, q_add_ll, q_add_vl, q_add_lv, q_addF_ll, q_addF_vl, q_cut_t, q_cut_l, q_cut_v, q_cut_s, q_rev_t, q_rev_l, q_tuple_t, q_tuple_l, q_tuple_v, q_list_t, q_list_l, q_list_v, q_int_i, q_int_b, q_abs, q_max2, q_min2, q_l1, q_l2, q_int, q_own, q_val, q_own1, q_val1, q_two, q_three, List.cons_append, List.nil_append, List.mem_cons, List.not_mem_nil, or_false, forall_eq_or_imp, forall_eq, ne_eq, not_false_eq_true, q_in_t, q_in_l]
    exact hN _ _ _ _ _
theorem law_turn (i : Nat) (hn : n < 2 ^ 40) (b c d e f g h j k u v m w : Slot) (hN : ∀ a b c d e f g h i j k m w n', n' ≤ n + 6000 → B.nx [.val (.scr ns), .val (.op (.ref p)), a, b, c, d, e, f, g, h, i, j, k, m, w] (rs p l n')) :
    l_law_1 B [.val (.scr ns), .val (.op (.ref p)), .val (.int (0 + i)), b, c, d, e, f, g, h, j, k, u, v, w] (rs p l n) := by
  unfold l_law_1 s_law_1f_0
  have scene : ∀ top : Int, 1 ≤ top → top ≤ 10000 → sp__law_scene [.op (.ref p), .int 3, .int top, .int 30] (rs p l n) (fun dd μ' => dgTup 2 (dgCons (dName 3) (dgCons (dName 4) dgNil)) dd [.val (.scr ns), .val (.op (.ref p)), .val (.int (0 + i)), b, c, d, e, f, g, h, j, k, u, v, w] fun ρ' => s_law_1f_1 B ρ' μ') (fun x μ' => B.ex x [.val (.scr ns), .val (.op (.ref p)), .val (.int (0 + i)), b, c, d, e, f, g, h, j, k, u, v, w] μ') := fun top t0 t1 => by
    refine ⟨p, l, n, 3, top, 30, rfl, rfl, by omega, by omega, by omega, t0, by omega, by omega, by omega, fun ls gs n1 hls hlen hgl hok hgs hn1 => ?_⟩
    unfold s_law_1f_1
    simp only [staL_lamp, staL_log, dsSeq, dsRaise, dsTryAs, dsTryO, dIsE, dXf, dStar, dsNever, dsDrop, dsRet, dsRetN, dsRetF, dsIf, dsAsg, dsOwn, dsNext, dsBreak, dsCont, dsAug, dsApp, dsExt, dsSet, dsPar2, dsPar3, dName, g_tup, g_lst, g_cons, g_nil, dsFor, dVar, dC, d2, d1, dL, dNil, dCons, dB, dAnd, dOr, dNot, dAndV, dOrV, dNotV, dIf, dChain, dTup, dLst, dFrz, dTru, dCall, dYes, dSeq, dSeqC, dEnum, dEnumC, dRg1, dRg2, dComp, dCut, dCutF, dAddF, dListF, dMulF, dRev, dPart, dNoPart, dpNil, dpE, dpF, q_isi_int, q_isi_bool, q_isi_str, q_isi_tuple, q_isi_list, q_isi_dict, dIsI, dIsB, dIsS, dIsT, dIsL, dIsD, q_add_i, q_sub, q_mul, q_div, q_mod, q_pow, q_lt, q_le, q_gt, q_ge, q_neg, q_eq_ii, q_ne_ii, q_eq_le, q_ne_le, q_eq_ve, q_ne_ve, q_eq_te, q_ne_te, q_eq_ss, q_ne_ss, q_len, q_bl, q_some, List.getElem?_cons_zero, List.getElem?_cons_succ, List.set_cons_zero, List.set_cons_succ, tru_bl, tru_non, tru_int, tru_tup, tru_lst, tru_vw, len_tup, len_lst, len_vw, len_scr, it_tup, it_lst, it_scr, itc_tup, itc_lst, itc_vw, itc_scr, sta, staL, Bool.and_true, Bool.true_and, Bool.and_eq_true, true_and, and_true, wipeR, if_true, if_false, ite_true, ite_false, Bool.false_eq_true, Bool.not_true, Bool.not_false, Option.some.injEq, exists_eq_left', exists_eq_left, reduceIte, reduceCtorEq, hasTy, tyD, Option.isSome_some, q_ix_t, q_ix_l, q_ix_v, at0, at1, at2, at_two, at_three, at_four, c_pow, c_mul1, c_mul2, Int.reducePow, Int.reduceToNat, Int.reduceMul, Int.reduceAdd, Int.reduceSub, Int.reduceNeg, Int.reduceLT, Int.reduceLE, Int.reduceBEq, Nat.reduceLT, Nat.reduceLeDiff, Nat.reducePow, decide_true, decide_false, Bool.true_and, Bool.and_true, Int.neg_neg, szl, List.length_cons, List.length_nil, Nat.zero_add, Nat.reduceAdd, dDct, List.zip_cons_cons, List.zip_nil_left, List.zip_nil_right, staK, q_add_tt, q_add_ll, q_add_vl, q_add_lv, q_addF_ll, q_addF_vl, q_cut_t, q_cut_l, q_cut_v, q_cut_s, q_rev_t, q_rev_l, q_tuple_t, q_tuple_l, q_tuple_v, q_list_t, q_list_l, q_list_v, q_int_i, q_int_b, q_abs, q_max2, q_min2, q_l1, q_l2, q_int, q_own, q_val, q_own1, q_val1, q_two, q_three, List.cons_append, List.nil_append, List.mem_cons, List.not_mem_nil, or_false, forall_eq_or_imp, forall_eq, ne_eq, not_false_eq_true, q_in_t, q_in_l]
    refine loop_t (Z := ReelW) lampD (fun rem ρ μ' => ∃ d e f g h j k u v w n2, ρ = [.val (.scr ns), .val (.op (.ref p)), .val (.int (0 + i)), .val (.tup (ls.map lampD)), .val (.tup (gs.map logD)), d, e, f, g, h, j, k, u, v, w] ∧ μ' = rs p l n2 ∧ n2 + 2 * rem.length ≤ n + 5900 ∧ ∀ x ∈ rem, LampOk 10000 x) ?_ ?_ ⟨_, _, _, _, _, _, _, _, _, _, _, rfl, rfl, by omega, fun x hx => by have := hok x hx; unfold LampOk at this ⊢; omega⟩
    · rintro ⟨k1, s1⟩ rem ρ μ' N ⟨d, e, f, g, h, j, k, u, v, w, n2, rfl, rfl, hn2, hr⟩ hN2
      have hx := hr _ (List.mem_cons_self ..)
      have hx' := hx
      unfold LampOk at hx'
      dsimp only at hx'
      unfold l_law_1f_1 s_law_1f_1f_0 s_law_1f_1f_1 s_law_1f_1f_2 s_law_1f_1f_3
      rw [List.length_cons] at hn2
      simp only [lampD, q_spin, List.length_map, List.length_append, dsSeq, dsRaise, dsTryAs, dsTryO, dIsE, dXf, dStar, dsNever, dsDrop, dsRet, dsRetN, dsRetF, dsIf, dsAsg, dsOwn, dsNext, dsBreak, dsCont, dsAug, dsApp, dsExt, dsSet, dsPar2, dsPar3, dName, g_tup, g_lst, g_cons, g_nil, dsFor, dVar, dC, d2, d1, dL, dNil, dCons, dB, dAnd, dOr, dNot, dAndV, dOrV, dNotV, dIf, dChain, dTup, dLst, dFrz, dTru, dCall, dYes, dSeq, dSeqC, dEnum, dEnumC, dRg1, dRg2, dComp, dCut, dCutF, dAddF, dListF, dMulF, dRev, dPart, dNoPart, dpNil, dpE, dpF, q_isi_int, q_isi_bool, q_isi_str, q_isi_tuple, q_isi_list, q_isi_dict, dIsI, dIsB, dIsS, dIsT, dIsL, dIsD, q_add_i, q_sub, q_mul, q_div, q_mod, q_pow, q_lt, q_le, q_gt, q_ge, q_neg, q_eq_ii, q_ne_ii, q_eq_le, q_ne_le, q_eq_ve, q_ne_ve, q_eq_te, q_ne_te, q_eq_ss, q_ne_ss, q_len, q_bl, q_some, List.getElem?_cons_zero, List.getElem?_cons_succ, List.set_cons_zero, List.set_cons_succ, tru_bl, tru_non, tru_int, tru_tup, tru_lst, tru_vw, len_tup, len_lst, len_vw, len_scr, it_tup, it_lst, it_scr, itc_tup, itc_lst, itc_vw, itc_scr, sta, staL, Bool.and_true, Bool.true_and, Bool.and_eq_true, true_and, and_true, wipeR, if_true, if_false, ite_true, ite_false, Bool.false_eq_true, Bool.not_true, Bool.not_false, Option.some.injEq, exists_eq_left', exists_eq_left, reduceIte, reduceCtorEq, hasTy, tyD, Option.isSome_some, q_ix_t, q_ix_l, q_ix_v, at0, at1, at2, at_two, at_three, at_four, c_pow, c_mul1, c_mul2, Int.reducePow, Int.reduceToNat, Int.reduceMul, Int.reduceAdd, Int.reduceSub, Int.reduceNeg, Int.reduceLT, Int.reduceLE, Int.reduceBEq, Nat.reduceLT, Nat.reduceLeDiff, Nat.reducePow, decide_true, decide_false, Bool.true_and, Bool.and_true, Int.neg_neg, szl, List.length_cons, List.length_nil, Nat.zero_add, Nat.reduceAdd, dDct, List.zip_cons_cons, List.zip_nil_left, List.zip_nil_right, staK, q_add_tt, q_add_ll, q_add_vl, q_add_lv, q_addF_ll, q_addF_vl, q_cut_t, q_cut_l, q_cut_v, q_cut_s, q_rev_t, q_rev_l, q_tuple_t, q_tuple_l, q_tuple_v, q_list_t, q_list_l, q_list_v, q_int_i, q_int_b, q_abs, q_max2, q_min2, q_l1, q_l2, q_int, q_own, q_val, q_own1, q_val1, q_two, q_three, List.cons_append, List.nil_append, List.mem_cons, List.not_mem_nil, or_false, forall_eq_or_imp, forall_eq, ne_eq, not_false_eq_true, q_in_t, q_in_l]
      refine ⟨by omega, fun m1 a0 a1 => ⟨sm60 (by omega) (by omega), by omega, ?_⟩⟩
      have p1 : 0 ≤ s1 * m1 := Int.mul_nonneg (by omega) a0
      have p2 : s1 * m1 ≤ 10000 * 2 := Int.mul_le_mul hx'.2 (by omega) a0 (by omega)
      generalize s1 * m1 = w1 at p1 p2 ⊢
      have hfar : LogG [(0, 2 * s1), (1000000000 - 3 * s1, 1000000000 + w1)] := ⟨⟨by simp, by simp; omega⟩, by simp [AscP]; omega⟩
      have hwide : LogG [(3, 3 + 2 * s1 - 1), (1000000, 1000000 + 2 * s1), (10000000, 10000000 + s1)] := ⟨⟨by simp, by simp; omega⟩, by simp [AscP]; omega⟩
      have hnil : LogG [] := ⟨⟨by simp, by simp⟩, trivial⟩
      rw [show gs.map logD ++ [D.tup [D.tup [D.int 0, D.int (2 * s1)], D.tup [D.int (1000000000 - 3 * s1), D.int (1000000000 + w1)]], D.tup [D.tup [D.int 3, D.int (3 + 2 * s1 - 1)], D.tup [D.int 1000000, D.int (1000000 + 2 * s1)], D.tup [D.int 10000000, D.int (10000000 + s1)]], D.tup []] = (gs ++ [[(0, 2 * s1), (1000000000 - 3 * s1, 1000000000 + w1)], [(3, 3 + 2 * s1 - 1), (1000000, 1000000 + 2 * s1), (10000000, 10000000 + s1)], []]).map logD by rw [List.map_append]; rfl]
      refine ⟨staL_log _, ?_⟩
      refine loop_t (Z := ReelW) logD (fun rem2 ρ μ' => ∃ g h j k u w, ρ = [.val (.scr ns), .val (.op (.ref p)), .val (.int (0 + i)), .val (.tup (ls.map lampD)), .val (.tup (gs.map logD)), .val (.int s1), .val (logD [(0, 2 * s1), (1000000000 - 3 * s1, 1000000000 + w1)]), .val (logD [(3, 3 + 2 * s1 - 1), (1000000, 1000000 + 2 * s1), (10000000, 10000000 + s1)]), g, h, j, k, u, .val (lampD (k1, s1)), w] ∧ μ' = rs p l (n2 + 1) ∧ ∀ x ∈ rem2, LogG x) ?_ ?_ ⟨_, _, _, _, _, _, rfl, rfl, fun x hx => ?_⟩
      · rintro lg rem2 ρ μ' N ⟨g, h, j, k, u, w, rfl, rfl, hr2⟩ hN3
        simp only [sta_log, dsSeq, dsRaise, dsTryAs, dsTryO, dIsE, dXf, dStar, dsNever, dsDrop, dsRet, dsRetN, dsRetF, dsIf, dsAsg, dsOwn, dsNext, dsBreak, dsCont, dsAug, dsApp, dsExt, dsSet, dsPar2, dsPar3, dName, g_tup, g_lst, g_cons, g_nil, dsFor, dVar, dC, d2, d1, dL, dNil, dCons, dB, dAnd, dOr, dNot, dAndV, dOrV, dNotV, dIf, dChain, dTup, dLst, dFrz, dTru, dCall, dYes, dSeq, dSeqC, dEnum, dEnumC, dRg1, dRg2, dComp, dCut, dCutF, dAddF, dListF, dMulF, dRev, dPart, dNoPart, dpNil, dpE, dpF, q_isi_int, q_isi_bool, q_isi_str, q_isi_tuple, q_isi_list, q_isi_dict, dIsI, dIsB, dIsS, dIsT, dIsL, dIsD, q_add_i, q_sub, q_mul, q_div, q_mod, q_pow, q_lt, q_le, q_gt, q_ge, q_neg, q_eq_ii, q_ne_ii, q_eq_le, q_ne_le, q_eq_ve, q_ne_ve, q_eq_te, q_ne_te, q_eq_ss, q_ne_ss, q_len, q_bl, q_some, List.getElem?_cons_zero, List.getElem?_cons_succ, List.set_cons_zero, List.set_cons_succ, tru_bl, tru_non, tru_int, tru_tup, tru_lst, tru_vw, len_tup, len_lst, len_vw, len_scr, it_tup, it_lst, it_scr, itc_tup, itc_lst, itc_vw, itc_scr, sta, staL, Bool.and_true, Bool.true_and, Bool.and_eq_true, true_and, and_true, wipeR, if_true, if_false, ite_true, ite_false, Bool.false_eq_true, Bool.not_true, Bool.not_false, Option.some.injEq, exists_eq_left', exists_eq_left, reduceIte, reduceCtorEq, hasTy, tyD, Option.isSome_some, q_ix_t, q_ix_l, q_ix_v, at0, at1, at2, at_two, at_three, at_four, c_pow, c_mul1, c_mul2, Int.reducePow, Int.reduceToNat, Int.reduceMul, Int.reduceAdd, Int.reduceSub, Int.reduceNeg, Int.reduceLT, Int.reduceLE, Int.reduceBEq, Nat.reduceLT, Nat.reduceLeDiff, Nat.reducePow, decide_true, decide_false, Bool.true_and, Bool.and_true, Int.neg_neg, szl, List.length_cons, List.length_nil, Nat.zero_add, Nat.reduceAdd, dDct, List.zip_cons_cons, List.zip_nil_left, List.zip_nil_right, staK, q_add_tt, q_add_ll, q_add_vl, q_add_lv, q_addF_ll, q_addF_vl, q_cut_t, q_cut_l, q_cut_v, q_cut_s, q_rev_t, q_rev_l, q_tuple_t, q_tuple_l, q_tuple_v, q_list_t, q_list_l, q_list_v, q_int_i, q_int_b, q_abs, q_max2, q_min2, q_l1, q_l2, q_int, q_own, q_val, q_own1, q_val1, q_two, q_three, List.cons_append, List.nil_append, List.mem_cons, List.not_mem_nil, or_false, forall_eq_or_imp, forall_eq, ne_eq, not_false_eq_true, q_in_t, q_in_l]
        exact law_log ns p l (n2 + 1) _ (k1, s1) hx lg (hr2 lg (List.mem_cons_self ..)) _ _ _ _ _ _ _ _ _ _ _ fun h i j k u => hN3 _ _ ⟨_, _, _, _, _, _, rfl, rfl, fun x hx => hr2 x (List.mem_cons_of_mem _ hx)⟩
      · rintro ρ μ' ⟨g, h, j, k, u, w, rfl, rfl, _⟩
        exact hN2 _ _ ⟨_, _, _, _, _, _, _, _, _, _, _, rfl, rfl, by omega, fun x hx => hr x (List.mem_cons_of_mem _ hx)⟩
      · rcases List.mem_append.mp hx with hx | hx
        · exact ⟨(hgs x hx).ok (by omega), (hgs x hx).asc⟩
        · simp only [List.mem_cons, List.not_mem_nil, or_false] at hx
          rcases hx with rfl | rfl | rfl
          · exact hfar
          · exact hwide
          · exact hnil
    · rintro ρ μ' ⟨d, e, f, g, h, j, k, u, v, w, n2, rfl, rfl, hn2, _⟩
      exact hN _ _ _ _ _ _ _ _ _ _ _ _ _ _ (by omega)
  simp only [dsSeq, dsRaise, dsTryAs, dsTryO, dIsE, dXf, dStar, dsNever, dsDrop, dsRet, dsRetN, dsRetF, dsIf, dsAsg, dsOwn, dsNext, dsBreak, dsCont, dsAug, dsApp, dsExt, dsSet, dsPar2, dsPar3, dName, g_tup, g_lst, g_cons, g_nil, dsFor, dVar, dC, d2, d1, dL, dNil, dCons, dB, dAnd, dOr, dNot, dAndV, dOrV, dNotV, dIf, dChain, dTup, dLst, dFrz, dTru, dCall, dYes, dSeq, dSeqC, dEnum, dEnumC, dRg1, dRg2, dComp, dCut, dCutF, dAddF, dListF, dMulF, dRev, dPart, dNoPart, dpNil, dpE, dpF, q_isi_int, q_isi_bool, q_isi_str, q_isi_tuple, q_isi_list, q_isi_dict, dIsI, dIsB, dIsS, dIsT, dIsL, dIsD, q_add_i, q_sub, q_mul, q_div, q_mod, q_pow, q_lt, q_le, q_gt, q_ge, q_neg, q_eq_ii, q_ne_ii, q_eq_le, q_ne_le, q_eq_ve, q_ne_ve, q_eq_te, q_ne_te, q_eq_ss, q_ne_ss, q_len, q_bl, q_some, List.getElem?_cons_zero, List.getElem?_cons_succ, List.set_cons_zero, List.set_cons_succ, tru_bl, tru_non, tru_int, tru_tup, tru_lst, tru_vw, len_tup, len_lst, len_vw, len_scr, it_tup, it_lst, it_scr, itc_tup, itc_lst, itc_vw, itc_scr, sta, staL, Bool.and_true, Bool.true_and, Bool.and_eq_true, true_and, and_true, wipeR, if_true, if_false, ite_true, ite_false, Bool.false_eq_true, Bool.not_true, Bool.not_false, Option.some.injEq, exists_eq_left', exists_eq_left, reduceIte, reduceCtorEq, hasTy, tyD, Option.isSome_some, q_ix_t, q_ix_l, q_ix_v, at0, at1, at2, at_two, at_three, at_four, c_pow, c_mul1, c_mul2, Int.reducePow, Int.reduceToNat, Int.reduceMul, Int.reduceAdd, Int.reduceSub, Int.reduceNeg, Int.reduceLT, Int.reduceLE, Int.reduceBEq, Nat.reduceLT, Nat.reduceLeDiff, Nat.reducePow, decide_true, decide_false, Bool.true_and, Bool.and_true, Int.neg_neg, szl, List.length_cons, List.length_nil, Nat.zero_add, Nat.reduceAdd, dDct, List.zip_cons_cons, List.zip_nil_left, List.zip_nil_right, staK, q_add_tt, q_add_ll, q_add_vl, q_add_lv, q_addF_ll, q_addF_vl, q_cut_t, q_cut_l, q_cut_v, q_cut_s, q_rev_t, q_rev_l, q_tuple_t, q_tuple_l, q_tuple_v, q_list_t, q_list_l, q_list_v, q_int_i, q_int_b, q_abs, q_max2, q_min2, q_l1, q_l2, q_int, q_own, q_val, q_own1, q_val1, q_two, q_three, List.cons_append, List.nil_append, List.mem_cons, List.not_mem_nil, or_false, forall_eq_or_imp, forall_eq, ne_eq, not_false_eq_true, q_in_t, q_in_l]
  have : (0 + (i : Int)) % 3 = 0 ∨ (0 + (i : Int)) % 3 = 1 ∨ (0 + (i : Int)) % 3 = 2 := by omega
  rcases this with e1 | e1 | e1
  all_goals rw [e1]
  all_goals simp only [dsSeq, dsRaise, dsTryAs, dsTryO, dIsE, dXf, dStar, dsNever, dsDrop, dsRet, dsRetN, dsRetF, dsIf, dsAsg, dsOwn, dsNext, dsBreak, dsCont, dsAug, dsApp, dsExt, dsSet, dsPar2, dsPar3, dName, g_tup, g_lst, g_cons, g_nil, dsFor, dVar, dC, d2, d1, dL, dNil, dCons, dB, dAnd, dOr, dNot, dAndV, dOrV, dNotV, dIf, dChain, dTup, dLst, dFrz, dTru, dCall, dYes, dSeq, dSeqC, dEnum, dEnumC, dRg1, dRg2, dComp, dCut, dCutF, dAddF, dListF, dMulF, dRev, dPart, dNoPart, dpNil, dpE, dpF, q_isi_int, q_isi_bool, q_isi_str, q_isi_tuple, q_isi_list, q_isi_dict, dIsI, dIsB, dIsS, dIsT, dIsL, dIsD, q_add_i, q_sub, q_mul, q_div, q_mod, q_pow, q_lt, q_le, q_gt, q_ge, q_neg, q_eq_ii, q_ne_ii, q_eq_le, q_ne_le, q_eq_ve, q_ne_ve, q_eq_te, q_ne_te, q_eq_ss, q_ne_ss, q_len, q_bl, q_some, List.getElem?_cons_zero, List.getElem?_cons_succ, List.set_cons_zero, List.set_cons_succ, tru_bl, tru_non, tru_int, tru_tup, tru_lst, tru_vw, len_tup, len_lst, len_vw, len_scr, it_tup, it_lst, it_scr, itc_tup, itc_lst, itc_vw, itc_scr, sta, staL, Bool.and_true, Bool.true_and, Bool.and_eq_true, true_and, and_true, wipeR, if_true, if_false, ite_true, ite_false, Bool.false_eq_true, Bool.not_true, Bool.not_false, Option.some.injEq, exists_eq_left', exists_eq_left, reduceIte, reduceCtorEq, hasTy, tyD, Option.isSome_some, q_ix_t, q_ix_l, q_ix_v, at0, at1, at2, at_two, at_three, at_four, c_pow, c_mul1, c_mul2, Int.reducePow, Int.reduceToNat, Int.reduceMul, Int.reduceAdd, Int.reduceSub, Int.reduceNeg, Int.reduceLT, Int.reduceLE, Int.reduceBEq, Nat.reduceLT, Nat.reduceLeDiff, Nat.reducePow, decide_true, decide_false, Bool.true_and, Bool.and_true, Int.neg_neg, szl, List.length_cons, List.length_nil, Nat.zero_add, Nat.reduceAdd, dDct, List.zip_cons_cons, List.zip_nil_left, List.zip_nil_right, staK, q_add_tt, q_add_ll, q_add_vl, q_add_lv, q_addF_ll, q_addF_vl, q_cut_t, q_cut_l, q_cut_v, q_cut_s, q_rev_t, q_rev_l, q_tuple_t, q_tuple_l, q_tuple_v, q_list_t, q_list_l, q_list_v, q_int_i, q_int_b, q_abs, q_max2, q_min2, q_l1, q_l2, q_int, q_own, q_val, q_own1, q_val1, q_two, q_three, List.cons_append, List.nil_append, List.mem_cons, List.not_mem_nil, or_false, forall_eq_or_imp, forall_eq, ne_eq, not_false_eq_true, q_in_t, q_in_l]
  · exact scene 3 (by omega) (by omega)
  · exact scene 12 (by omega) (by omega)
  · exact scene 10000 (by omega) (by omega)
theorem pure_law (ds : List D) (μ : ReelW.M) (R : D → ReelW.M → Prop) (Ed : Xc → ReelW.M → Prop) (hl : ds.length = ps_law.length) (hs : sp_law ds μ R Ed) (st : staL ds = true) : t_law (fin R Ed) (startD N_law ds) μ := by
  obtain ⟨ns, rfl, hn, rfl, h⟩ := hs
  show t_law (fin R Ed) [.val (.scr ns), .un, .un, .un, .un, .un, .un, .un, .un, .un, .un, .un, .un, .un, .un] none
  unfold t_law s_law_0 s_law_1
  simp only [dsSeq, dsRaise, dsTryAs, dsTryO, dIsE, dXf, dStar, dsNever, dsDrop, dsRet, dsRetN, dsRetF, dsIf, dsAsg, dsOwn, dsNext, dsBreak, dsCont, dsAug, dsApp, dsExt, dsSet, dsPar2, dsPar3, dName, g_tup, g_lst, g_cons, g_nil, dsFor, dVar, dC, d2, d1, dL, dNil, dCons, dB, dAnd, dOr, dNot, dAndV, dOrV, dNotV, dIf, dChain, dTup, dLst, dFrz, dTru, dCall, dYes, dSeq, dSeqC, dEnum, dEnumC, dRg1, dRg2, dComp, dCut, dCutF, dAddF, dListF, dMulF, dRev, dPart, dNoPart, dpNil, dpE, dpF, q_isi_int, q_isi_bool, q_isi_str, q_isi_tuple, q_isi_list, q_isi_dict, dIsI, dIsB, dIsS, dIsT, dIsL, dIsD, q_add_i, q_sub, q_mul, q_div, q_mod, q_pow, q_lt, q_le, q_gt, q_ge, q_neg, q_eq_ii, q_ne_ii, q_eq_le, q_ne_le, q_eq_ve, q_ne_ve, q_eq_te, q_ne_te, q_eq_ss, q_ne_ss, q_len, q_bl, q_some, List.getElem?_cons_zero, List.getElem?_cons_succ, List.set_cons_zero, List.set_cons_succ, tru_bl, tru_non, tru_int, tru_tup, tru_lst, tru_vw, len_tup, len_lst, len_vw, len_scr, it_tup, it_lst, it_scr, itc_tup, itc_lst, itc_vw, itc_scr, sta, staL, Bool.and_true, Bool.true_and, Bool.and_eq_true, true_and, and_true, wipeR, if_true, if_false, ite_true, ite_false, Bool.false_eq_true, Bool.not_true, Bool.not_false, Option.some.injEq, exists_eq_left', exists_eq_left, reduceIte, reduceCtorEq, hasTy, tyD, Option.isSome_some, q_ix_t, q_ix_l, q_ix_v, at0, at1, at2, at_two, at_three, at_four, c_pow, c_mul1, c_mul2, Int.reducePow, Int.reduceToNat, Int.reduceMul, Int.reduceAdd, Int.reduceSub, Int.reduceNeg, Int.reduceLT, Int.reduceLE, Int.reduceBEq, Nat.reduceLT, Nat.reduceLeDiff, Nat.reducePow, decide_true, decide_false, Bool.true_and, Bool.and_true, Int.neg_neg, szl, List.length_cons, List.length_nil, Nat.zero_add, Nat.reduceAdd, dDct, List.zip_cons_cons, List.zip_nil_left, List.zip_nil_right, staK, q_add_tt, q_add_ll, q_add_vl, q_add_lv, q_addF_ll, q_addF_vl, q_cut_t, q_cut_l, q_cut_v, q_cut_s, q_rev_t, q_rev_l, q_tuple_t, q_tuple_l, q_tuple_v, q_list_t, q_list_l, q_list_v, q_int_i, q_int_b, q_abs, q_max2, q_min2, q_l1, q_l2, q_int, q_own, q_val, q_own1, q_val1, q_two, q_three, List.cons_append, List.nil_append, List.mem_cons, List.not_mem_nil, or_false, forall_eq_or_imp, forall_eq, ne_eq, not_false_eq_true, q_in_t, q_in_l]
  refine ⟨ns, rfl, hn, rfl, fun p l => ?_⟩
  simp only [dsSeq, dsRaise, dsTryAs, dsTryO, dIsE, dXf, dStar, dsNever, dsDrop, dsRet, dsRetN, dsRetF, dsIf, dsAsg, dsOwn, dsNext, dsBreak, dsCont, dsAug, dsApp, dsExt, dsSet, dsPar2, dsPar3, dName, g_tup, g_lst, g_cons, g_nil, dsFor, dVar, dC, d2, d1, dL, dNil, dCons, dB, dAnd, dOr, dNot, dAndV, dOrV, dNotV, dIf, dChain, dTup, dLst, dFrz, dTru, dCall, dYes, dSeq, dSeqC, dEnum, dEnumC, dRg1, dRg2, dComp, dCut, dCutF, dAddF, dListF, dMulF, dRev, dPart, dNoPart, dpNil, dpE, dpF, q_isi_int, q_isi_bool, q_isi_str, q_isi_tuple, q_isi_list, q_isi_dict, dIsI, dIsB, dIsS, dIsT, dIsL, dIsD, q_add_i, q_sub, q_mul, q_div, q_mod, q_pow, q_lt, q_le, q_gt, q_ge, q_neg, q_eq_ii, q_ne_ii, q_eq_le, q_ne_le, q_eq_ve, q_ne_ve, q_eq_te, q_ne_te, q_eq_ss, q_ne_ss, q_len, q_bl, q_some, List.getElem?_cons_zero, List.getElem?_cons_succ, List.set_cons_zero, List.set_cons_succ, tru_bl, tru_non, tru_int, tru_tup, tru_lst, tru_vw, len_tup, len_lst, len_vw, len_scr, it_tup, it_lst, it_scr, itc_tup, itc_lst, itc_vw, itc_scr, sta, staL, Bool.and_true, Bool.true_and, Bool.and_eq_true, true_and, and_true, wipeR, if_true, if_false, ite_true, ite_false, Bool.false_eq_true, Bool.not_true, Bool.not_false, Option.some.injEq, exists_eq_left', exists_eq_left, reduceIte, reduceCtorEq, hasTy, tyD, Option.isSome_some, q_ix_t, q_ix_l, q_ix_v, at0, at1, at2, at_two, at_three, at_four, c_pow, c_mul1, c_mul2, Int.reducePow, Int.reduceToNat, Int.reduceMul, Int.reduceAdd, Int.reduceSub, Int.reduceNeg, Int.reduceLT, Int.reduceLE, Int.reduceBEq, Nat.reduceLT, Nat.reduceLeDiff, Nat.reducePow, decide_true, decide_false, Bool.true_and, Bool.and_true, Int.neg_neg, szl, List.length_cons, List.length_nil, Nat.zero_add, Nat.reduceAdd, dDct, List.zip_cons_cons, List.zip_nil_left, List.zip_nil_right, staK, q_add_tt, q_add_ll, q_add_vl, q_add_lv, q_addF_ll, q_addF_vl, q_cut_t, q_cut_l, q_cut_v, q_cut_s, q_rev_t, q_rev_l, q_tuple_t, q_tuple_l, q_tuple_v, q_list_t, q_list_l, q_list_v, q_int_i, q_int_b, q_abs, q_max2, q_min2, q_l1, q_l2, q_int, q_own, q_val, q_own1, q_val1, q_two, q_three, List.cons_append, List.nil_append, List.mem_cons, List.not_mem_nil, or_false, forall_eq_or_imp, forall_eq, ne_eq, not_false_eq_true, q_in_t, q_in_l]
  intro rg hrg
  refine loop_rg (Z := ReelW) hrg (fun i ρ μ => ∃ n' a b c d e f g h j k u v w, ρ = [.val (.scr ns), .val (.op (.ref p)), a, b, c, d, e, f, g, h, j, k, u, v, w] ∧ μ = rs p l n' ∧ n' ≤ 6000 * i) ?_ ?_ ⟨0, _, _, _, _, _, _, _, _, _, _, _, _, _, rfl, rfl, by omega⟩
  · rintro i ρ μ N hi ⟨n', a, b, c, d, e, f, g, h, j, k, u, v, w, rfl, rfl, hn'⟩ hN
    have i8 : i < 8 := hi
    simp only [dsSeq, dsRaise, dsTryAs, dsTryO, dIsE, dXf, dStar, dsNever, dsDrop, dsRet, dsRetN, dsRetF, dsIf, dsAsg, dsOwn, dsNext, dsBreak, dsCont, dsAug, dsApp, dsExt, dsSet, dsPar2, dsPar3, dName, g_tup, g_lst, g_cons, g_nil, dsFor, dVar, dC, d2, d1, dL, dNil, dCons, dB, dAnd, dOr, dNot, dAndV, dOrV, dNotV, dIf, dChain, dTup, dLst, dFrz, dTru, dCall, dYes, dSeq, dSeqC, dEnum, dEnumC, dRg1, dRg2, dComp, dCut, dCutF, dAddF, dListF, dMulF, dRev, dPart, dNoPart, dpNil, dpE, dpF, q_isi_int, q_isi_bool, q_isi_str, q_isi_tuple, q_isi_list, q_isi_dict, dIsI, dIsB, dIsS, dIsT, dIsL, dIsD, q_add_i, q_sub, q_mul, q_div, q_mod, q_pow, q_lt, q_le, q_gt, q_ge, q_neg, q_eq_ii, q_ne_ii, q_eq_le, q_ne_le, q_eq_ve, q_ne_ve, q_eq_te, q_ne_te, q_eq_ss, q_ne_ss, q_len, q_bl, q_some, List.getElem?_cons_zero, List.getElem?_cons_succ, List.set_cons_zero, List.set_cons_succ, tru_bl, tru_non, tru_int, tru_tup, tru_lst, tru_vw, len_tup, len_lst, len_vw, len_scr, it_tup, it_lst, it_scr, itc_tup, itc_lst, itc_vw, itc_scr, sta, staL, Bool.and_true, Bool.true_and, Bool.and_eq_true, true_and, and_true, wipeR, if_true, if_false, ite_true, ite_false, Bool.false_eq_true, Bool.not_true, Bool.not_false, Option.some.injEq, exists_eq_left', exists_eq_left, reduceIte, reduceCtorEq, hasTy, tyD, Option.isSome_some, q_ix_t, q_ix_l, q_ix_v, at0, at1, at2, at_two, at_three, at_four, c_pow, c_mul1, c_mul2, Int.reducePow, Int.reduceToNat, Int.reduceMul, Int.reduceAdd, Int.reduceSub, Int.reduceNeg, Int.reduceLT, Int.reduceLE, Int.reduceBEq, Nat.reduceLT, Nat.reduceLeDiff, Nat.reducePow, decide_true, decide_false, Bool.true_and, Bool.and_true, Int.neg_neg, szl, List.length_cons, List.length_nil, Nat.zero_add, Nat.reduceAdd, dDct, List.zip_cons_cons, List.zip_nil_left, List.zip_nil_right, staK, q_add_tt, q_add_ll, q_add_vl, q_add_lv, q_addF_ll, q_addF_vl, q_cut_t, q_cut_l, q_cut_v, q_cut_s, q_rev_t, q_rev_l, q_tuple_t, q_tuple_l, q_tuple_v, q_list_t, q_list_l, q_list_v, q_int_i, q_int_b, q_abs, q_max2, q_min2, q_l1, q_l2, q_int, q_own, q_val, q_own1, q_val1, q_two, q_three, List.cons_append, List.nil_append, List.mem_cons, List.not_mem_nil, or_false, forall_eq_or_imp, forall_eq, ne_eq, not_false_eq_true, q_in_t, q_in_l]
    exact law_turn ns p l n' _ i (by omega) _ _ _ _ _ _ _ _ _ _ _ (.un) _ fun a b c d e f g h i2 j k m w n2 h2 => hN _ _ ⟨n2, _, _, _, _, _, _, _, _, _, _, _, _, _, rfl, rfl, by omega⟩
  · rintro ρ μ ⟨n', a, b, c, d, e, f, g, h', j, k, u, v, w, rfl, rfl, hn'⟩
    unfold s_law_2
    simp only [dsSeq, dsRaise, dsTryAs, dsTryO, dIsE, dXf, dStar, dsNever, dsDrop, dsRet, dsRetN, dsRetF, dsIf, dsAsg, dsOwn, dsNext, dsBreak, dsCont, dsAug, dsApp, dsExt, dsSet, dsPar2, dsPar3, dName, g_tup, g_lst, g_cons, g_nil, dsFor, dVar, dC, d2, d1, dL, dNil, dCons, dB, dAnd, dOr, dNot, dAndV, dOrV, dNotV, dIf, dChain, dTup, dLst, dFrz, dTru, dCall, dYes, dSeq, dSeqC, dEnum, dEnumC, dRg1, dRg2, dComp, dCut, dCutF, dAddF, dListF, dMulF, dRev, dPart, dNoPart, dpNil, dpE, dpF, q_isi_int, q_isi_bool, q_isi_str, q_isi_tuple, q_isi_list, q_isi_dict, dIsI, dIsB, dIsS, dIsT, dIsL, dIsD, q_add_i, q_sub, q_mul, q_div, q_mod, q_pow, q_lt, q_le, q_gt, q_ge, q_neg, q_eq_ii, q_ne_ii, q_eq_le, q_ne_le, q_eq_ve, q_ne_ve, q_eq_te, q_ne_te, q_eq_ss, q_ne_ss, q_len, q_bl, q_some, List.getElem?_cons_zero, List.getElem?_cons_succ, List.set_cons_zero, List.set_cons_succ, tru_bl, tru_non, tru_int, tru_tup, tru_lst, tru_vw, len_tup, len_lst, len_vw, len_scr, it_tup, it_lst, it_scr, itc_tup, itc_lst, itc_vw, itc_scr, sta, staL, Bool.and_true, Bool.true_and, Bool.and_eq_true, true_and, and_true, wipeR, if_true, if_false, ite_true, ite_false, Bool.false_eq_true, Bool.not_true, Bool.not_false, Option.some.injEq, exists_eq_left', exists_eq_left, reduceIte, reduceCtorEq, hasTy, tyD, Option.isSome_some, q_ix_t, q_ix_l, q_ix_v, at0, at1, at2, at_two, at_three, at_four, c_pow, c_mul1, c_mul2, Int.reducePow, Int.reduceToNat, Int.reduceMul, Int.reduceAdd, Int.reduceSub, Int.reduceNeg, Int.reduceLT, Int.reduceLE, Int.reduceBEq, Nat.reduceLT, Nat.reduceLeDiff, Nat.reducePow, decide_true, decide_false, Bool.true_and, Bool.and_true, Int.neg_neg, szl, List.length_cons, List.length_nil, Nat.zero_add, Nat.reduceAdd, dDct, List.zip_cons_cons, List.zip_nil_left, List.zip_nil_right, staK, q_add_tt, q_add_ll, q_add_vl, q_add_lv, q_addF_ll, q_addF_vl, q_cut_t, q_cut_l, q_cut_v, q_cut_s, q_rev_t, q_rev_l, q_tuple_t, q_tuple_l, q_tuple_v, q_list_t, q_list_l, q_list_v, q_int_i, q_int_b, q_abs, q_max2, q_min2, q_l1, q_l2, q_int, q_own, q_val, q_own1, q_val1, q_two, q_three, List.cons_append, List.nil_append, List.mem_cons, List.not_mem_nil, or_false, forall_eq_or_imp, forall_eq, ne_eq, not_false_eq_true, q_in_t, q_in_l]
    refine ⟨(false, 5), [(999999997, 1000000002)], rfl, ⟨by omega, by omega⟩, by simp, ?_⟩
    unfold fitOr
    have e1 : wrongI (false, 5) 0 [(999999997, 1000000002)] = [] := by decide
    rw [e1]
    simp only [dsSeq, dsRaise, dsTryAs, dsTryO, dIsE, dXf, dStar, dsNever, dsDrop, dsRet, dsRetN, dsRetF, dsIf, dsAsg, dsOwn, dsNext, dsBreak, dsCont, dsAug, dsApp, dsExt, dsSet, dsPar2, dsPar3, dName, g_tup, g_lst, g_cons, g_nil, dsFor, dVar, dC, d2, d1, dL, dNil, dCons, dB, dAnd, dOr, dNot, dAndV, dOrV, dNotV, dIf, dChain, dTup, dLst, dFrz, dTru, dCall, dYes, dSeq, dSeqC, dEnum, dEnumC, dRg1, dRg2, dComp, dCut, dCutF, dAddF, dListF, dMulF, dRev, dPart, dNoPart, dpNil, dpE, dpF, q_isi_int, q_isi_bool, q_isi_str, q_isi_tuple, q_isi_list, q_isi_dict, dIsI, dIsB, dIsS, dIsT, dIsL, dIsD, q_add_i, q_sub, q_mul, q_div, q_mod, q_pow, q_lt, q_le, q_gt, q_ge, q_neg, q_eq_ii, q_ne_ii, q_eq_le, q_ne_le, q_eq_ve, q_ne_ve, q_eq_te, q_ne_te, q_eq_ss, q_ne_ss, q_len, q_bl, q_some, List.getElem?_cons_zero, List.getElem?_cons_succ, List.set_cons_zero, List.set_cons_succ, tru_bl, tru_non, tru_int, tru_tup, tru_lst, tru_vw, len_tup, len_lst, len_vw, len_scr, it_tup, it_lst, it_scr, itc_tup, itc_lst, itc_vw, itc_scr, sta, staL, Bool.and_true, Bool.true_and, Bool.and_eq_true, true_and, and_true, wipeR, if_true, if_false, ite_true, ite_false, Bool.false_eq_true, Bool.not_true, Bool.not_false, Option.some.injEq, exists_eq_left', exists_eq_left, reduceIte, reduceCtorEq, hasTy, tyD, Option.isSome_some, q_ix_t, q_ix_l, q_ix_v, at0, at1, at2, at_two, at_three, at_four, c_pow, c_mul1, c_mul2, Int.reducePow, Int.reduceToNat, Int.reduceMul, Int.reduceAdd, Int.reduceSub, Int.reduceNeg, Int.reduceLT, Int.reduceLE, Int.reduceBEq, Nat.reduceLT, Nat.reduceLeDiff, Nat.reducePow, decide_true, decide_false, Bool.true_and, Bool.and_true, Int.neg_neg, szl, List.length_cons, List.length_nil, Nat.zero_add, Nat.reduceAdd, dDct, List.zip_cons_cons, List.zip_nil_left, List.zip_nil_right, staK, q_add_tt, q_add_ll, q_add_vl, q_add_lv, q_addF_ll, q_addF_vl, q_cut_t, q_cut_l, q_cut_v, q_cut_s, q_rev_t, q_rev_l, q_tuple_t, q_tuple_l, q_tuple_v, q_list_t, q_list_l, q_list_v, q_int_i, q_int_b, q_abs, q_max2, q_min2, q_l1, q_l2, q_int, q_own, q_val, q_own1, q_val1, q_two, q_three, List.cons_append, List.nil_append, List.mem_cons, List.not_mem_nil, or_false, forall_eq_or_imp, forall_eq, ne_eq, not_false_eq_true, q_in_t, q_in_l]
    rw [show logD (quietI (false, 5) 0 [(999999997, 1000000002)]) = D.tup [D.tup [D.int 0, D.int 999999996]] by simp [quietI, lastI, logD, pD]; decide]
    exact .inr ⟨⟨rfl, rfl, rfl, rfl⟩, rfl, h _⟩
end
end K13
/-! text K13z -/
/-! the promises joined, the end: printed by gen/endz.py -/
namespace K13
open PySem PySem.Spec PyProof.Rows L2 DL LP RL
section
variable {P : Program} {w : World} {K : PySem.W.Frag} {mg : Str → Option Value} {base : Heap} {f : Addr} {fd : FuncData}
theorem ok_does_fit (F : Fun K "does_fit" "does_fit" (top 13) f fd) {k_HOLD : Tok} (m_HOLD : mg "HOLD" = some (.str "hold" k_HOLD)) {k_MAX_MINUTE : Tok} (m_MAX_MINUTE : mg "MAX_MINUTE" = some (.int 1000000000 k_MAX_MINUTE)) : FnG P w K mg base 1 f fd ps_does_fit (spOf K ReelW 2 sp_does_fit) :=
  fn_d (sp := sp_does_fit) F sc_does_fit (fun cdv A outer s H E hr gu => b_does_fit m_HOLD m_MAX_MINUTE cdv A outer s H E hr gu) (fun ds μ R Ed hl hs st => pure_does_fit ds μ R Ed hl hs st)
theorem ok_last_possible (F : Fun K "last_possible" "last_possible" (top 16) f fd) {k_HOLD : Tok} (m_HOLD : mg "HOLD" = some (.str "hold" k_HOLD)) {k_MAX_MINUTE : Tok} (m_MAX_MINUTE : mg "MAX_MINUTE" = some (.int 1000000000 k_MAX_MINUTE)) (m_min : mg "min" = none) : FnG P w K mg base 1 f fd ps_last_possible (spOf K ReelW 2 sp_last_possible) :=
  fn_d (sp := sp_last_possible) F sc_last_possible (fun cdv A outer s H E hr gu => b_last_possible m_HOLD m_MAX_MINUTE m_min cdv A outer s H E hr gu) (fun ds μ R Ed hl hs st => pure_last_possible ds μ R Ed hl hs st)
theorem ok__law_reel (F : Fun K "_law_reel" "_law_reel" (top 20) f fd) (m_abs : mg "abs" = none) (m_int : mg "int" = none) : FnG P w K mg base 1 f fd ps__law_reel (spOf K ReelW 1 sp__law_reel) :=
  fn_d (sp := sp__law_reel) F sc__law_reel (fun cdv A outer s H E hr gu => b__law_reel m_abs m_int cdv A outer s H E hr gu) (fun ds μ R Ed hl hs st => pure__law_reel ds μ R Ed hl hs st)
theorem ok__law_log (F : Fun K "_law_log" "_law_log" (top 24) f fd) (m_tuple : mg "tuple" = none) : FnG P w K mg base 1 f fd ps__law_log (spOf K ReelW 2 sp__law_log) :=
  fn_d (sp := sp__law_log) F sc__law_log (fun cdv A outer s H E hr gu => b__law_log m_tuple cdv A outer s H E hr gu) (fun ds μ R Ed hl hs st => pure__law_log ds μ R Ed hl hs st)
theorem ok__law_fits (F : Fun K "_law_fits" "_law_fits" (top 28) f fd) : FnG P w K mg base 1 f fd ps__law_fits (spOf K ReelW 2 sp__law_fits) :=
  fn_d (sp := sp__law_fits) F sc__law_fits (fun cdv A outer s H E hr gu => b__law_fits cdv A outer s H E hr gu) (fun ds μ R Ed hl hs st => pure__law_fits ds μ R Ed hl hs st)
theorem ok__law_quiet (F : Fun K "_law_quiet" "_law_quiet" (top 29) f fd) (m_int : mg "int" = none) : FnG P w K mg base 1 f fd ps__law_quiet (spOf K ReelW 2 sp__law_quiet) :=
  fn_d (sp := sp__law_quiet) F sc__law_quiet (fun cdv A outer s H E hr gu => b__law_quiet m_int cdv A outer s H E hr gu) (fun ds μ R Ed hl hs st => pure__law_quiet ds μ R Ed hl hs st)
theorem ok_wrong_stretches (F : Fun K "wrong_stretches" "wrong_stretches" (top 14) f fd) {f_does_fit : Addr} {fd_does_fit : FuncData} (n_does_fit : Kn P w K mg base "does_fit" 1 ps_does_fit f_does_fit fd_does_fit (spOf K ReelW 2 sp_does_fit)) (m_enumerate : mg "enumerate" = none) (m_tuple : mg "tuple" = none) : FnG P w K mg base 2 f fd ps_wrong_stretches (spOf K ReelW 2 sp_wrong_stretches) :=
  fn_d (sp := sp_wrong_stretches) F sc_wrong_stretches (fun cdv A outer s H E hr gu => b_wrong_stretches n_does_fit m_enumerate m_tuple cdv A outer s H E hr gu) (fun ds μ R Ed hl hs st => pure_wrong_stretches ds μ R Ed hl hs st)
theorem ok__law_lamps (F : Fun K "_law_lamps" "_law_lamps" (top 22) f fd) {f__law_spin : Addr} {fd__law_spin : FuncData} (n__law_spin : Kn P w K mg base "_law_spin" 1 ps__law_spin f__law_spin fd__law_spin (spOf K ReelW 2 sp__law_spin)) (m_min : mg "min" = none) (m_range : mg "range" = none) (m_tuple : mg "tuple" = none) : FnG P w K mg base 2 f fd ps__law_lamps (spOf K ReelW 3 sp__law_lamps) :=
  fn_d (sp := sp__law_lamps) F sc__law_lamps (fun cdv A outer s H E hr gu => b__law_lamps n__law_spin m_min m_range m_tuple cdv A outer s H E hr gu) (fun ds μ R Ed hl hs st => pure__law_lamps ds μ R Ed hl hs st)
theorem ok__law_minutes (F : Fun K "_law_minutes" "_law_minutes" (top 23) f fd) {f__law_spin : Addr} {fd__law_spin : FuncData} (n__law_spin : Kn P w K mg base "_law_spin" 1 ps__law_spin f__law_spin fd__law_spin (spOf K ReelW 2 sp__law_spin)) (m_range : mg "range" = none) : FnG P w K mg base 2 f fd ps__law_minutes (spOf K ReelW 3 sp__law_minutes) :=
  fn_d (sp := sp__law_minutes) F sc__law_minutes (fun cdv A outer s H E hr gu => b__law_minutes n__law_spin m_range cdv A outer s H E hr gu) (fun ds μ R Ed hl hs st => pure__law_minutes ds μ R Ed hl hs st)
theorem ok__law_logs (F : Fun K "_law_logs" "_law_logs" (top 25) f fd) {f__law_log : Addr} {fd__law_log : FuncData} (n__law_log : Kn P w K mg base "_law_log" 1 ps__law_log f__law_log fd__law_log (spOf K ReelW 2 sp__law_log)) (m_tuple : mg "tuple" = none) : FnG P w K mg base 2 f fd ps__law_logs (spOf K ReelW 2 sp__law_logs) :=
  fn_d (sp := sp__law_logs) F sc__law_logs (fun cdv A outer s H E hr gu => b__law_logs n__law_log m_tuple cdv A outer s H E hr gu) (fun ds μ R Ed hl hs st => pure__law_logs ds μ R Ed hl hs st)
theorem ok__law_bent (F : Fun K "_law_bent" "_law_bent" (top 26) f fd) {f__law_spin : Addr} {fd__law_spin : FuncData} (n__law_spin : Kn P w K mg base "_law_spin" 1 ps__law_spin f__law_spin fd__law_spin (spOf K ReelW 2 sp__law_spin)) (m_len : mg "len" = none) (m_list : mg "list" = none) (m_max : mg "max" = none) (m_tuple : mg "tuple" = none) : FnG P w K mg base 2 f fd ps__law_bent (spOf K ReelW 2 sp__law_bent) :=
  fn_d (sp := sp__law_bent) F sc__law_bent (fun cdv A outer s H E hr gu => b__law_bent n__law_spin m_len m_list m_max m_tuple cdv A outer s H E hr gu) (fun ds μ R Ed hl hs st => pure__law_bent ds μ R Ed hl hs st)
theorem ok__law_due (F : Fun K "_law_due" "_law_due" (top 31) f fd) {f__law_fits : Addr} {fd__law_fits : FuncData} (n__law_fits : Kn P w K mg base "_law_fits" 1 ps__law_fits f__law_fits fd__law_fits (spOf K ReelW 2 sp__law_fits)) {f__law_quiet : Addr} {fd__law_quiet : FuncData} (n__law_quiet : Kn P w K mg base "_law_quiet" 1 ps__law_quiet f__law_quiet fd__law_quiet (spOf K ReelW 2 sp__law_quiet)) (m_len : mg "len" = none) (m_range : mg "range" = none) (m_tuple : mg "tuple" = none) : FnG P w K mg base 2 f fd ps__law_due (spOf K ReelW 3 sp__law_due) :=
  fn_d (sp := sp__law_due) F sc__law_due (fun cdv A outer s H E hr gu => b__law_due n__law_fits n__law_quiet m_len m_range m_tuple cdv A outer s H E hr gu) (fun ds μ R Ed hl hs st => pure__law_due ds μ R Ed hl hs st)
theorem ok_require_fit (F : Fun K "require_fit" "require_fit" (top 15) f fd) {f_wrong_stretches : Addr} {fd_wrong_stretches : FuncData} (n_wrong_stretches : Kn P w K mg base "wrong_stretches" 2 ps_wrong_stretches f_wrong_stretches fd_wrong_stretches (spOf K ReelW 2 sp_wrong_stretches)) {k_STRETCH : Tok} (m_STRETCH : mg "STRETCH" = some (.str "stretch" k_STRETCH)) (kx_Unexplained : KEx P w K mg base "Unexplained" "reason") : FnG P w K mg base 3 f fd ps_require_fit (spOf K ReelW 2 sp_require_fit) :=
  fn_d (sp := sp_require_fit) F sc_require_fit (fun cdv A outer s H E hr gu => b_require_fit n_wrong_stretches m_STRETCH kx_Unexplained cdv A outer s H E hr gu) (fun ds μ R Ed hl hs st => pure_require_fit ds μ R Ed hl hs st)
theorem ok__law_scene (F : Fun K "_law_scene" "_law_scene" (top 27) f fd) {f__law_lamps : Addr} {fd__law_lamps : FuncData} (n__law_lamps : Kn P w K mg base "_law_lamps" 2 ps__law_lamps f__law_lamps fd__law_lamps (spOf K ReelW 3 sp__law_lamps)) {f__law_logs : Addr} {fd__law_logs : FuncData} (n__law_logs : Kn P w K mg base "_law_logs" 2 ps__law_logs f__law_logs fd__law_logs (spOf K ReelW 2 sp__law_logs)) {f__law_minutes : Addr} {fd__law_minutes : FuncData} (n__law_minutes : Kn P w K mg base "_law_minutes" 2 ps__law_minutes f__law_minutes fd__law_minutes (spOf K ReelW 3 sp__law_minutes)) {f__law_spin : Addr} {fd__law_spin : FuncData} (n__law_spin : Kn P w K mg base "_law_spin" 1 ps__law_spin f__law_spin fd__law_spin (spOf K ReelW 2 sp__law_spin)) {f__law_log : Addr} {fd__law_log : FuncData} (n__law_log : Kn P w K mg base "_law_log" 1 ps__law_log f__law_log fd__law_log (spOf K ReelW 2 sp__law_log)) {f__law_bent : Addr} {fd__law_bent : FuncData} (n__law_bent : Kn P w K mg base "_law_bent" 2 ps__law_bent f__law_bent fd__law_bent (spOf K ReelW 2 sp__law_bent)) (m_len : mg "len" = none) (m_list : mg "list" = none) (m_range : mg "range" = none) (m_tuple : mg "tuple" = none) : FnG P w K mg base 3 f fd ps__law_scene (spOf K ReelW 4 sp__law_scene) :=
  fn_d (sp := sp__law_scene) F sc__law_scene (fun cdv A outer s H E hr gu => b__law_scene n__law_lamps n__law_logs n__law_minutes n__law_spin n__law_log n__law_bent m_len m_list m_range m_tuple cdv A outer s H E hr gu) (fun ds μ R Ed hl hs st => pure__law_scene ds μ R Ed hl hs st)
theorem ok_quiet_spans (F : Fun K "quiet_spans" "quiet_spans" (top 17) f fd) {f_require_fit : Addr} {fd_require_fit : FuncData} (n_require_fit : Kn P w K mg base "require_fit" 3 ps_require_fit f_require_fit fd_require_fit (spOf K ReelW 2 sp_require_fit)) {f_last_possible : Addr} {fd_last_possible : FuncData} (n_last_possible : Kn P w K mg base "last_possible" 1 ps_last_possible f_last_possible fd_last_possible (spOf K ReelW 2 sp_last_possible)) {k_MAX_MINUTE : Tok} (m_MAX_MINUTE : mg "MAX_MINUTE" = some (.int 1000000000 k_MAX_MINUTE)) (m_tuple : mg "tuple" = none) : FnG P w K mg base 4 f fd ps_quiet_spans (spOf K ReelW 2 sp_quiet_spans) :=
  fn_d (sp := sp_quiet_spans) F sc_quiet_spans (fun cdv A outer s H E hr gu => b_quiet_spans n_require_fit n_last_possible m_MAX_MINUTE m_tuple cdv A outer s H E hr gu) (fun ds μ R Ed hl hs st => pure_quiet_spans ds μ R Ed hl hs st)
theorem ok_call_spans (F : Fun K "call_spans" "call_spans" (top 18) f fd) {f_require_fit : Addr} {fd_require_fit : FuncData} (n_require_fit : Kn P w K mg base "require_fit" 3 ps_require_fit f_require_fit fd_require_fit (spOf K ReelW 2 sp_require_fit)) {k_HOLD : Tok} (m_HOLD : mg "HOLD" = some (.str "hold" k_HOLD)) (m_tuple : mg "tuple" = none) : FnG P w K mg base 4 f fd ps_call_spans (spOf K ReelW 2 sp_call_spans) :=
  fn_d (sp := sp_call_spans) F sc_call_spans (fun cdv A outer s H E hr gu => b_call_spans n_require_fit m_HOLD m_tuple cdv A outer s H E hr gu) (fun ds μ R Ed hl hs st => pure_call_spans ds μ R Ed hl hs st)
theorem ok__law_told (F : Fun K "_law_told" "_law_told" (top 30) f fd) (m_BadLamp : mg "BadLamp" = some (.ref (He.ga K "BadLamp"))) (m_BadLog : mg "BadLog" = some (.ref (He.ga K "BadLog"))) (m_LampError : mg "LampError" = some (.ref (He.ga K "LampError"))) (m_NoIndex : mg "NoIndex" = some (.ref (He.ga K "NoIndex"))) (m_NoMinute : mg "NoMinute" = some (.ref (He.ga K "NoMinute"))) (m_OtherCount : mg "OtherCount" = some (.ref (He.ga K "OtherCount"))) (m_TooLarge : mg "TooLarge" = some (.ref (He.ga K "TooLarge"))) (m_Unexplained : mg "Unexplained" = some (.ref (He.ga K "Unexplained"))) (m_ValueError : mg "ValueError" = none) (xa__law_told : ExAll K ["Unexplained"] ["BadLamp", "BadLog", "LampError", "NoIndex", "NoMinute", "OtherCount", "TooLarge", "Unexplained", "ValueError"]) (m_isinstance : mg "isinstance" = none) (m_len : mg "len" = none) (xf_NoIndex : ExFacts K "NoIndex" "index") (xf_NoMinute : ExFacts K "NoMinute" "value") (xf_OtherCount : ExFacts K "OtherCount" "count") (xf_Unexplained : ExFacts K "Unexplained" "reason") (mm : mg "_law_told" = some (.ref f)) (kp : PySem.W.keepIn K (.ref f) = true) (bd : L2.Binds K fd ["call"] []) : Teller P w K mg base "_law_told" "call" ["call", "found", "error"] (defScope (top 30)) 5 f fd spT__law_told :=
  teller_of (u := fun M f0 th => t__law_told f0 th) F sc__law_told mm kp bd rfl (.inl rfl) (fun Z1 f0 th cdv A outer s H hr gu act => b__law_told f0 th m_BadLamp m_BadLog m_LampError m_NoIndex m_NoMinute m_OtherCount m_TooLarge m_Unexplained m_ValueError xa__law_told m_isinstance m_len xf_NoIndex xf_NoMinute xf_OtherCount xf_Unexplained cdv A outer s H (fun _ _ _ => False) hr gu act) (fun M f0 th μ R m h => pure__law_told M f0 th μ R m h)
theorem ok_law (F : Fun K "law" "law" (top 32) f fd) {f__law_reel : Addr} {fd__law_reel : FuncData} (n__law_reel : Kn P w K mg base "_law_reel" 1 ps__law_reel f__law_reel fd__law_reel (spOf K ReelW 1 sp__law_reel)) {f__law_scene : Addr} {fd__law_scene : FuncData} (n__law_scene : Kn P w K mg base "_law_scene" 3 ps__law_scene f__law_scene fd__law_scene (spOf K ReelW 4 sp__law_scene)) {f__law_spin : Addr} {fd__law_spin : FuncData} (n__law_spin : Kn P w K mg base "_law_spin" 1 ps__law_spin f__law_spin fd__law_spin (spOf K ReelW 2 sp__law_spin)) {f_quiet_spans : Addr} {fd_quiet_spans : FuncData} (n_quiet_spans : Kn P w K mg base "quiet_spans" 4 ps_quiet_spans f_quiet_spans fd_quiet_spans (spOf K ReelW 2 sp_quiet_spans)) {f_call_spans : Addr} {fd_call_spans : FuncData} (n_call_spans : Kn P w K mg base "call_spans" 4 ps_call_spans f_call_spans fd_call_spans (spOf K ReelW 2 sp_call_spans)) {f__law_due : Addr} {fd__law_due : FuncData} (n__law_due : Kn P w K mg base "_law_due" 2 ps__law_due f__law_due fd__law_due (spOf K ReelW 3 sp__law_due)) (m_range : mg "range" = none) (m_repr : mg "repr" = none) (sb : ∃ mm, base.Ns sysModules mm) {f__law_told : Addr} {fd__law_told : FuncData} (tl__law_told : Teller P w K mg base "_law_told" "call" ["call", "found", "error"] (defScope (top 30)) 5 f__law_told fd__law_told spT__law_told) {c Pt : Addr} (hcd : fd.code = .ref c) (TB : LamX.TabB base mg c Pt) : FnG P w K mg base 7 f fd ps_law (spOf K (tblW ReelW [(Pt, q_law)]) 1 sp_law) :=
  fn_dC (Z := tblW ReelW [(Pt, q_law)]) (sp := sp_law) F hcd sc_law (fun A outer s H E hr gu => b_law n__law_reel n__law_scene n__law_spin n_quiet_spans n_call_spans n__law_due m_range m_repr sb tl__law_told TB A outer s H E hr gu) (fun ds μ R Ed hl hs st => pure_law ds μ R Ed hl hs st)
end
theorem facts {P : Program} {w : World} {K : PySem.W.Frag} {h : Heap} {mg : Str → Option Value} {f : Addr} (X : K.In h) (G : h.Ns mainGlobals mg) (hfa : mg ("law" : Str) = some (.ref f)) (cc : SaysE fa fn ex rel K) :
    ∃ fd : FuncData, (∃ (od : Option Addr) (oc : Value) (osl : Array (Option Value)), h.get? f = some ⟨oc, od, .func fd, osl⟩) ∧ (∀ (s : Shared) (v : Value), BindsTo s fd ⟨[v], []⟩ [("script", v)]) ∧ ∀ (base : Heap) (c Pt : Addr), fd.code = .ref c → K.In base → base.Ns mainGlobals mg → (∃ mm, base.Ns sysModules mm) → LamX.TabB base mg c Pt → FnG P w K mg base 7 f fd ["script"] (spOf K (tblW ReelW [(Pt, q_law)]) 1 sp_law) := by
  have c := cc.1
  obtain ⟨fd_does_fit, D_does_fit⟩ := c.def_ 0 (d := dd "does_fit" 13) rfl
  have F_does_fit : Fun K "does_fit" "does_fit" (top 13) (He.fAd K ("does_fit", none)) fd_does_fit := He5.fun_of (kws := []) D_does_fit
  have e_does_fit := He.glo_ok X G (c.fact 3 (f := .glo "does_fit") rfl)
  obtain ⟨fd_wrong_stretches, D_wrong_stretches⟩ := c.def_ 1 (d := dd "wrong_stretches" 14) rfl
  have F_wrong_stretches : Fun K "wrong_stretches" "wrong_stretches" (top 14) (He.fAd K ("wrong_stretches", none)) fd_wrong_stretches := He5.fun_of (kws := []) D_wrong_stretches
  have e_wrong_stretches := He.glo_ok X G (c.fact 4 (f := .glo "wrong_stretches") rfl)
  obtain ⟨fd_require_fit, D_require_fit⟩ := c.def_ 2 (d := dd "require_fit" 15) rfl
  have F_require_fit : Fun K "require_fit" "require_fit" (top 15) (He.fAd K ("require_fit", none)) fd_require_fit := He5.fun_of (kws := []) D_require_fit
  have e_require_fit := He.glo_ok X G (c.fact 5 (f := .glo "require_fit") rfl)
  obtain ⟨fd_last_possible, D_last_possible⟩ := c.def_ 3 (d := dd "last_possible" 16) rfl
  have F_last_possible : Fun K "last_possible" "last_possible" (top 16) (He.fAd K ("last_possible", none)) fd_last_possible := He5.fun_of (kws := []) D_last_possible
  have e_last_possible := He.glo_ok X G (c.fact 6 (f := .glo "last_possible") rfl)
  obtain ⟨fd_quiet_spans, D_quiet_spans⟩ := c.def_ 4 (d := dd "quiet_spans" 17) rfl
  have F_quiet_spans : Fun K "quiet_spans" "quiet_spans" (top 17) (He.fAd K ("quiet_spans", none)) fd_quiet_spans := He5.fun_of (kws := []) D_quiet_spans
  have e_quiet_spans := He.glo_ok X G (c.fact 7 (f := .glo "quiet_spans") rfl)
  obtain ⟨fd_call_spans, D_call_spans⟩ := c.def_ 5 (d := dd "call_spans" 18) rfl
  have F_call_spans : Fun K "call_spans" "call_spans" (top 18) (He.fAd K ("call_spans", none)) fd_call_spans := He5.fun_of (kws := []) D_call_spans
  have e_call_spans := He.glo_ok X G (c.fact 8 (f := .glo "call_spans") rfl)
  obtain ⟨fd__law_reel, D__law_reel⟩ := c.def_ 6 (d := dd "_law_reel" 20) rfl
  have F__law_reel : Fun K "_law_reel" "_law_reel" (top 20) (He.fAd K ("_law_reel", none)) fd__law_reel := He5.fun_of (kws := []) D__law_reel
  have e__law_reel := He.glo_ok X G (c.fact 9 (f := .glo "_law_reel") rfl)
  obtain ⟨fd__law_spin, D__law_spin⟩ := c.def_ 7 (d := dd "_law_spin" 21) rfl
  have F__law_spin : Fun K "_law_spin" "_law_spin" (top 21) (He.fAd K ("_law_spin", none)) fd__law_spin := He5.fun_of (kws := []) D__law_spin
  have e__law_spin := He.glo_ok X G (c.fact 10 (f := .glo "_law_spin") rfl)
  obtain ⟨fd__law_lamps, D__law_lamps⟩ := c.def_ 8 (d := dd "_law_lamps" 22) rfl
  have F__law_lamps : Fun K "_law_lamps" "_law_lamps" (top 22) (He.fAd K ("_law_lamps", none)) fd__law_lamps := He5.fun_of (kws := []) D__law_lamps
  have e__law_lamps := He.glo_ok X G (c.fact 11 (f := .glo "_law_lamps") rfl)
  obtain ⟨fd__law_minutes, D__law_minutes⟩ := c.def_ 9 (d := dd "_law_minutes" 23) rfl
  have F__law_minutes : Fun K "_law_minutes" "_law_minutes" (top 23) (He.fAd K ("_law_minutes", none)) fd__law_minutes := He5.fun_of (kws := []) D__law_minutes
  have e__law_minutes := He.glo_ok X G (c.fact 12 (f := .glo "_law_minutes") rfl)
  obtain ⟨fd__law_log, D__law_log⟩ := c.def_ 10 (d := dd "_law_log" 24) rfl
  have F__law_log : Fun K "_law_log" "_law_log" (top 24) (He.fAd K ("_law_log", none)) fd__law_log := He5.fun_of (kws := []) D__law_log
  have e__law_log := He.glo_ok X G (c.fact 13 (f := .glo "_law_log") rfl)
  obtain ⟨fd__law_logs, D__law_logs⟩ := c.def_ 11 (d := dd "_law_logs" 25) rfl
  have F__law_logs : Fun K "_law_logs" "_law_logs" (top 25) (He.fAd K ("_law_logs", none)) fd__law_logs := He5.fun_of (kws := []) D__law_logs
  have e__law_logs := He.glo_ok X G (c.fact 14 (f := .glo "_law_logs") rfl)
  obtain ⟨fd__law_bent, D__law_bent⟩ := c.def_ 12 (d := dd "_law_bent" 26) rfl
  have F__law_bent : Fun K "_law_bent" "_law_bent" (top 26) (He.fAd K ("_law_bent", none)) fd__law_bent := He5.fun_of (kws := []) D__law_bent
  have e__law_bent := He.glo_ok X G (c.fact 15 (f := .glo "_law_bent") rfl)
  obtain ⟨fd__law_scene, D__law_scene⟩ := c.def_ 13 (d := dd "_law_scene" 27) rfl
  have F__law_scene : Fun K "_law_scene" "_law_scene" (top 27) (He.fAd K ("_law_scene", none)) fd__law_scene := He5.fun_of (kws := []) D__law_scene
  have e__law_scene := He.glo_ok X G (c.fact 16 (f := .glo "_law_scene") rfl)
  obtain ⟨fd__law_fits, D__law_fits⟩ := c.def_ 14 (d := dd "_law_fits" 28) rfl
  have F__law_fits : Fun K "_law_fits" "_law_fits" (top 28) (He.fAd K ("_law_fits", none)) fd__law_fits := He5.fun_of (kws := []) D__law_fits
  have e__law_fits := He.glo_ok X G (c.fact 17 (f := .glo "_law_fits") rfl)
  obtain ⟨fd__law_quiet, D__law_quiet⟩ := c.def_ 15 (d := dd "_law_quiet" 29) rfl
  have F__law_quiet : Fun K "_law_quiet" "_law_quiet" (top 29) (He.fAd K ("_law_quiet", none)) fd__law_quiet := He5.fun_of (kws := []) D__law_quiet
  have e__law_quiet := He.glo_ok X G (c.fact 18 (f := .glo "_law_quiet") rfl)
  obtain ⟨fd__law_told, D__law_told⟩ := c.def_ 16 (d := dd "_law_told" 30) rfl
  have F__law_told : Fun K "_law_told" "_law_told" (top 30) (He.fAd K ("_law_told", none)) fd__law_told := He5.fun_of (kws := []) D__law_told
  have e__law_told := He.glo_ok X G (c.fact 19 (f := .glo "_law_told") rfl)
  obtain ⟨fd__law_due, D__law_due⟩ := c.def_ 17 (d := dd "_law_due" 31) rfl
  have F__law_due : Fun K "_law_due" "_law_due" (top 31) (He.fAd K ("_law_due", none)) fd__law_due := He5.fun_of (kws := []) D__law_due
  have e__law_due := He.glo_ok X G (c.fact 20 (f := .glo "_law_due") rfl)
  obtain ⟨fd_law, D_law⟩ := c.def_ 18 (d := dd "law" 32) rfl
  have F_law : Fun K "law" "law" (top 32) (He.fAd K ("law", none)) fd_law := He5.fun_of (kws := []) D_law
  have e_law := He.glo_ok X G (c.fact 21 (f := .glo "law") rfl)
  have m_ValueError := He.free_ok X G (c.fact 22 (f := .free "ValueError") rfl)
  have m_abs := He.free_ok X G (c.fact 23 (f := .free "abs") rfl)
  have m_enumerate := He.free_ok X G (c.fact 24 (f := .free "enumerate") rfl)
  have m_int := He.free_ok X G (c.fact 25 (f := .free "int") rfl)
  have m_isinstance := He.free_ok X G (c.fact 26 (f := .free "isinstance") rfl)
  have m_len := He.free_ok X G (c.fact 27 (f := .free "len") rfl)
  have m_list := He.free_ok X G (c.fact 28 (f := .free "list") rfl)
  have m_max := He.free_ok X G (c.fact 29 (f := .free "max") rfl)
  have m_min := He.free_ok X G (c.fact 30 (f := .free "min") rfl)
  have m_range := He.free_ok X G (c.fact 31 (f := .free "range") rfl)
  have m_repr := He.free_ok X G (c.fact 32 (f := .free "repr") rfl)
  have m_tuple := He.free_ok X G (c.fact 33 (f := .free "tuple") rfl)
  obtain ⟨k_MAX_MINUTE, m_MAX_MINUTE⟩ := He.int_ok X G (c.fact 0 (f := .int "MAX_MINUTE" 1000000000) rfl)
  obtain ⟨k_HOLD, m_HOLD⟩ := He.str_ok X G (c.fact 1 (f := .str "HOLD" "hold") rfl)
  obtain ⟨k_STRETCH, m_STRETCH⟩ := He.str_ok X G (c.fact 2 (f := .str "STRETCH" "stretch") rfl)
  have m_BadLamp := He.glo_ok X G (c.fact 34 (f := .glo "BadLamp") rfl)
  have m_BadLog := He.glo_ok X G (c.fact 35 (f := .glo "BadLog") rfl)
  have m_LampError := He.glo_ok X G (c.fact 36 (f := .glo "LampError") rfl)
  have m_NoIndex := He.glo_ok X G (c.fact 37 (f := .glo "NoIndex") rfl)
  have m_NoMinute := He.glo_ok X G (c.fact 38 (f := .glo "NoMinute") rfl)
  have m_OtherCount := He.glo_ok X G (c.fact 39 (f := .glo "OtherCount") rfl)
  have m_TooLarge := He.glo_ok X G (c.fact 40 (f := .glo "TooLarge") rfl)
  have m_Unexplained := He.glo_ok X G (c.fact 41 (f := .glo "Unexplained") rfl)
  have xf_NoIndex : ExFacts K "NoIndex" "index" := ExF.facts (cc.2.1 ("NoIndex", "index") (by decide))
  have xf_NoMinute : ExFacts K "NoMinute" "value" := ExF.facts (cc.2.1 ("NoMinute", "value") (by decide))
  have xf_OtherCount : ExFacts K "OtherCount" "count" := ExF.facts (cc.2.1 ("OtherCount", "count") (by decide))
  have xf_Unexplained : ExFacts K "Unexplained" "reason" := ExF.facts (cc.2.1 ("Unexplained", "reason") (by decide))
  obtain ⟨fi_Unexplained, Di_Unexplained⟩ := c.def_ 19 (d := di "Unexplained" 8) rfl
  have Fi_Unexplained : Fun K "__init__" "Unexplained.__init__" (cst 8) (He.fAd K ("Unexplained", some "__init__")) fi_Unexplained := He5.fun_of (kws := []) Di_Unexplained
  have xa__law_told : ExAll K ["Unexplained"] ["BadLamp", "BadLog", "LampError", "NoIndex", "NoMinute", "OtherCount", "TooLarge", "Unexplained", "ValueError"] := exAll_of cc.2.1 cc.2.2 _ _ (by decide) (by decide)
  have e := hfa.symm.trans e_law
  cases e
  have bl := FunD.bindsA (ps := ["script"]) D_law fun _ _ _ _ _ _ us hl => match us, hl with | [_], _ => rfl
  refine ⟨fd_law, (let ⟨oc, od, kV, doc, pm, an, cdv, ct, osl, e1, lk, hcd⟩ := F_law.ex; ⟨od, oc, osl, X _ _ lk⟩), fun s v => bl s [v] rfl, fun base c Pt hcd _ _ sb TB => ?_⟩
  have kx_Unexplained : KEx P w K mg base "Unexplained" "reason" := kex_of X G xf_Unexplained Fi_Unexplained ⟨rfl, rfl, rfl, by decide +kernel, rfl, by decide +kernel, by decide +kernel⟩ (fun cdv A outer s H E => pss_one (ps_ost (pv 0) (pv 1))) (Fi_Unexplained.binds (ps := ["self", "reason"]) fun _ _ _ _ _ _ us hl => match us, hl with | [_, _], _ => rfl)
  have n_does_fit : Kn P w K mg base "does_fit" 1 ps_does_fit _ fd_does_fit (spOf K ReelW 2 sp_does_fit) := ⟨ok_does_fit F_does_fit m_HOLD m_MAX_MINUTE, e_does_fit, F_does_fit.kp, F_does_fit.binds (ps := ps_does_fit) fun _ _ _ _ _ _ us hl => match us, hl with | [_, _], _ => rfl⟩
  have n_last_possible : Kn P w K mg base "last_possible" 1 ps_last_possible _ fd_last_possible (spOf K ReelW 2 sp_last_possible) := ⟨ok_last_possible F_last_possible m_HOLD m_MAX_MINUTE m_min, e_last_possible, F_last_possible.kp, F_last_possible.binds (ps := ps_last_possible) fun _ _ _ _ _ _ us hl => match us, hl with | [_, _], _ => rfl⟩
  have n__law_reel : Kn P w K mg base "_law_reel" 1 ps__law_reel _ fd__law_reel (spOf K ReelW 1 sp__law_reel) := ⟨ok__law_reel F__law_reel m_abs m_int, e__law_reel, F__law_reel.kp, F__law_reel.binds (ps := ps__law_reel) fun _ _ _ _ _ _ us hl => match us, hl with | [_], _ => rfl⟩
  have n__law_spin : Kn P w K mg base "_law_spin" 1 ps__law_spin _ fd__law_spin (spOf K ReelW 2 sp__law_spin) := ⟨draw_ok F__law_spin m_len, e__law_spin, F__law_spin.kp, F__law_spin.binds (ps := ps__law_spin) fun _ _ _ _ _ _ us hl => match us, hl with | [_, _], _ => rfl⟩
  have n__law_log : Kn P w K mg base "_law_log" 1 ps__law_log _ fd__law_log (spOf K ReelW 2 sp__law_log) := ⟨ok__law_log F__law_log m_tuple, e__law_log, F__law_log.kp, F__law_log.binds (ps := ps__law_log) fun _ _ _ _ _ _ us hl => match us, hl with | [_, _], _ => rfl⟩
  have n__law_fits : Kn P w K mg base "_law_fits" 1 ps__law_fits _ fd__law_fits (spOf K ReelW 2 sp__law_fits) := ⟨ok__law_fits F__law_fits, e__law_fits, F__law_fits.kp, F__law_fits.binds (ps := ps__law_fits) fun _ _ _ _ _ _ us hl => match us, hl with | [_, _], _ => rfl⟩
  have n__law_quiet : Kn P w K mg base "_law_quiet" 1 ps__law_quiet _ fd__law_quiet (spOf K ReelW 2 sp__law_quiet) := ⟨ok__law_quiet F__law_quiet m_int, e__law_quiet, F__law_quiet.kp, F__law_quiet.binds (ps := ps__law_quiet) fun _ _ _ _ _ _ us hl => match us, hl with | [_, _], _ => rfl⟩
  have n_wrong_stretches : Kn P w K mg base "wrong_stretches" 2 ps_wrong_stretches _ fd_wrong_stretches (spOf K ReelW 2 sp_wrong_stretches) := ⟨ok_wrong_stretches F_wrong_stretches n_does_fit m_enumerate m_tuple, e_wrong_stretches, F_wrong_stretches.kp, F_wrong_stretches.binds (ps := ps_wrong_stretches) fun _ _ _ _ _ _ us hl => match us, hl with | [_, _], _ => rfl⟩
  have n__law_lamps : Kn P w K mg base "_law_lamps" 2 ps__law_lamps _ fd__law_lamps (spOf K ReelW 3 sp__law_lamps) := ⟨ok__law_lamps F__law_lamps n__law_spin m_min m_range m_tuple, e__law_lamps, F__law_lamps.kp, F__law_lamps.binds (ps := ps__law_lamps) fun _ _ _ _ _ _ us hl => match us, hl with | [_, _, _], _ => rfl⟩
  have n__law_minutes : Kn P w K mg base "_law_minutes" 2 ps__law_minutes _ fd__law_minutes (spOf K ReelW 3 sp__law_minutes) := ⟨ok__law_minutes F__law_minutes n__law_spin m_range, e__law_minutes, F__law_minutes.kp, F__law_minutes.binds (ps := ps__law_minutes) fun _ _ _ _ _ _ us hl => match us, hl with | [_, _, _], _ => rfl⟩
  have n__law_logs : Kn P w K mg base "_law_logs" 2 ps__law_logs _ fd__law_logs (spOf K ReelW 2 sp__law_logs) := ⟨ok__law_logs F__law_logs n__law_log m_tuple, e__law_logs, F__law_logs.kp, F__law_logs.binds (ps := ps__law_logs) fun _ _ _ _ _ _ us hl => match us, hl with | [_, _], _ => rfl⟩
  have n__law_bent : Kn P w K mg base "_law_bent" 2 ps__law_bent _ fd__law_bent (spOf K ReelW 2 sp__law_bent) := ⟨ok__law_bent F__law_bent n__law_spin m_len m_list m_max m_tuple, e__law_bent, F__law_bent.kp, F__law_bent.binds (ps := ps__law_bent) fun _ _ _ _ _ _ us hl => match us, hl with | [_, _], _ => rfl⟩
  have n__law_due : Kn P w K mg base "_law_due" 2 ps__law_due _ fd__law_due (spOf K ReelW 3 sp__law_due) := ⟨ok__law_due F__law_due n__law_fits n__law_quiet m_len m_range m_tuple, e__law_due, F__law_due.kp, F__law_due.binds (ps := ps__law_due) fun _ _ _ _ _ _ us hl => match us, hl with | [_, _, _], _ => rfl⟩
  have n_require_fit : Kn P w K mg base "require_fit" 3 ps_require_fit _ fd_require_fit (spOf K ReelW 2 sp_require_fit) := ⟨ok_require_fit F_require_fit n_wrong_stretches m_STRETCH kx_Unexplained, e_require_fit, F_require_fit.kp, F_require_fit.binds (ps := ps_require_fit) fun _ _ _ _ _ _ us hl => match us, hl with | [_, _], _ => rfl⟩
  have n__law_scene : Kn P w K mg base "_law_scene" 3 ps__law_scene _ fd__law_scene (spOf K ReelW 4 sp__law_scene) := ⟨ok__law_scene F__law_scene n__law_lamps n__law_logs n__law_minutes n__law_spin n__law_log n__law_bent m_len m_list m_range m_tuple, e__law_scene, F__law_scene.kp, F__law_scene.binds (ps := ps__law_scene) fun _ _ _ _ _ _ us hl => match us, hl with | [_, _, _, _], _ => rfl⟩
  have n_quiet_spans : Kn P w K mg base "quiet_spans" 4 ps_quiet_spans _ fd_quiet_spans (spOf K ReelW 2 sp_quiet_spans) := ⟨ok_quiet_spans F_quiet_spans n_require_fit n_last_possible m_MAX_MINUTE m_tuple, e_quiet_spans, F_quiet_spans.kp, F_quiet_spans.binds (ps := ps_quiet_spans) fun _ _ _ _ _ _ us hl => match us, hl with | [_, _], _ => rfl⟩
  have n_call_spans : Kn P w K mg base "call_spans" 4 ps_call_spans _ fd_call_spans (spOf K ReelW 2 sp_call_spans) := ⟨ok_call_spans F_call_spans n_require_fit m_HOLD m_tuple, e_call_spans, F_call_spans.kp, F_call_spans.binds (ps := ps_call_spans) fun _ _ _ _ _ _ us hl => match us, hl with | [_, _], _ => rfl⟩
  have tl__law_told : Teller P w K mg base "_law_told" "call" ["call", "found", "error"] (defScope (top 30)) 5 _ fd__law_told spT__law_told := ok__law_told F__law_told m_BadLamp m_BadLog m_LampError m_NoIndex m_NoMinute m_OtherCount m_TooLarge m_Unexplained m_ValueError xa__law_told m_isinstance m_len xf_NoIndex xf_NoMinute xf_OtherCount xf_Unexplained e__law_told F__law_told.kp (F__law_told.binds (ps := ps__law_told) fun _ _ _ _ _ _ us hl => match us, hl with | [_], _ => rfl)
  exact ok_law F_law n__law_reel n__law_scene n__law_spin n_quiet_spans n_call_spans n__law_due m_range m_repr sb tl__law_told hcd TB
end K13
open PySem PySem.W PySem.Calls PyProof.Rows
theorem PySem.Challenge.cw_lampstays_k13_quiet_minutes_and_calls_holds : PySem.Challenge.rw_lampstays_k13_quiet_minutes_and_calls.Holds := by
  w_on; o_law
  refine HandSHeadRun.head_any (r := OpenLaw.row PySem.Challenge.rw_lampstays_k13_quiet_minutes_and_calls) (q := view (OpenLaw.row PySem.Challenge.rw_lampstays_k13_quiet_minutes_and_calls).prog [32]) (H := K13.hk) (ob := K13.ob) (M := 3000) (loose := K13.names) (d := HandSHeadRun.topDef (OpenLaw.row PySem.Challenge.rw_lampstays_k13_quiet_minutes_and_calls).prog 32) (kwd := []) K13.ob_eq
    (by kernel_rfl) (fun s => by kernel_rfl) K13.run (by kernel_rfl) (by kernel_rfl) (by kernel_rfl) (by rfl) (by first | assumption | decide +kernel) (by decide +kernel) ⟨rfl, rfl, rfl, rfl, rfl, by decide +kernel⟩ ?hw ?hc
  case hw => w_witness2
  case hc =>
    refine DL.walk_DT (qn := K13.q_law) (Z := DL.ReelW) (μ0 := none) DL.reel_reg0 DL.reel_J0 (l := PySem.Challenge.rw_lampstays_k13_quiet_minutes_and_calls) (n := 63) (k := 7) (x := "script") rfl (by decide) (by kernel_rfl) ⟨rfl, by decide, by decide⟩ (by kernel_rfl) (by kernel_rfl) ?F
    intro w mg fa h Y G hmg0
    obtain ⟨K, KX, nt, c⟩ := Y
    have hmg : mg ("law" : PySem.Str) = some (.ref fa) := by
      have e : (HandSHeadRun.topDef (OpenLaw.row PySem.Challenge.rw_lampstays_k13_quiet_minutes_and_calls).prog 32).name = ("law" : PySem.Str) := by kernel_rfl
      rw [← e]
      exact hmg0
    obtain ⟨fd, hfd, hb, hF⟩ := K13.facts (P := (PySem.Challenge.rw_lampstays_k13_quiet_minutes_and_calls).prog) (w := w) KX G hmg c
    exact ⟨K, fd, K13.sp_law, KX, nt, hfd, hb, K13.law_start, hF⟩
