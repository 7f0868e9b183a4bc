import PyProof.Rows.All
import Wide.All
import OpenK.AllK
import Wide.FinOn
import HandS.ForMost
import HandS.ForExc
import HandS.Defaults
import HandS.Wide
import HandS.TupAny
import HandS.Style
import HandS.TryMany
import HandS.CallSlots
import HandS.TupSets
import HandS.SetFor
import HandS.Deep
import HandS.SortInts
import HandS.SortOrd
import HandS.SortRule
import HandS.IsInst
import HandS.Conv
import HandS.HeadEnd
import PyProof.Rows.SeqMore
import PyProof.ListOps
import PyProof.TableTree
import KE.KxText
import PyProof.ReprRoads
import PyProof.ReprLen
import HandS.RaiseMore
import HandS.MakeKw
import HandS.HeadHook1
import HandS.HeadHook2
import HandS.Head0
import HandS.Head1
import HandS.Head2
import PySem.Challenge.RW_spoolrounds_k20_what_is_a_lot
section
set_option Elab.async false
set_option linter.all false
set_option maxRecDepth 100000
/-! Eng1: data, ownership, the relation between data states and the abstract heap. -/
namespace Eng
open PySem PySem.Spec PyProof.Rows L2
abbrev St := L2.St

/-- plain data; scr: the script; ob: an instance that never changes any more -/
inductive D where
  | non | bl (b : Bool) | int (i : Int) | str (s : Str)
  | tup (xs : List D) | lst (xs : List D) | scr (ns : List Int)
  | dct (kvs : List (Key × D)) | ob (C : Str) (fs : List (Str × D))
/-- who owns a mutable object -/
inductive Own where
  | slot (i : Nat) (p : List Str) | cell (j : Nat) (p : List Str) | res (p : List Str)
/-- an owned object's content -/
inductive OV where
  | d (x : D) | lst (xs : List D) | dic (kvs : List (Key × D)) | ins (C : Str) (fs : List (Str × OV))
inductive SV where
  | none | d (x : D) | own (o : OV) | cel (j : Nat)
inductive W where
  | d (x : D) | cel (j : Nat) | slot (i : Nat) | new (o : OV)
structure Z where
  σ : List SV
  S : List OV
structure Exn where
  c : Str
  arg : Option (Str × D)
/-- what is fixed in a def -/
structure Gm where
  P : Program
  w : World
  K : PySem.W.Frag
  mg : Str → Option Value
  base : Heap
  N : List Str
  k : Nat
  C : Str → Addr
  E : WX

/-! ### data in the heap -/
def KTup (K : PySem.W.Frag) (a : Addr) (vs : List V) : Prop :=
  ∃ (o : Obj) (its : Array Value) (n : Nat), K.lookup a = some o ∧ o.cls = .type "tuple" ∧ o.data = .seq its n ∧ its.size ≤ sizeLine ∧ Vals vs its.toList
def KLst (K : PySem.W.Frag) (a : Addr) (vs : List V) : Prop :=
  ∃ (o : Obj) (its : Array Value) (n : Nat), K.lookup a = some o ∧ o.cls = .type "list" ∧ o.dict = none ∧ o.data = .seq its n ∧ its.size ≤ sizeLine ∧ Vals vs its.toList
section
variable (K : PySem.W.Frag) (cA : Str → Addr) (B : Addr → Prop) (H : Hp)
mutual
inductive Rep : D → V → Prop
  | non : Rep .non .non
  | bl (b : Bool) : Rep (.bl b) (.bl b)
  | int (i : Int) : Rep (.int i) (.int i)
  | str (s : Str) : Rep (.str s) (.str s)
  | tup {a : Addr} {xs : List D} {vs : List V} : (¬ B a ∧ H a = some (.tup vs)) ∨ KTup K a vs → RepL xs vs → Rep (.tup xs) (.ref a)
  | lst {a : Addr} {xs : List D} {vs : List V} : ¬ B a → H a = some (.lst vs) → RepL xs vs → Rep (.lst xs) (.ref a)
  | scr {a : Addr} {ns : List Int} : (¬ B a ∧ ∃ o, H a = some (.frz o (.lst (ns.map V.int)))) ∨ KLst K a (ns.map V.int) → Rep (.scr ns) (.ref a)
  | dct {a : Addr} {kvs : List (Key × D)} {vs : List (Key × V)} : ¬ B a → H a = some (.dK vs) → RepK kvs vs → Rep (.dct kvs) (.ref a)
  | ob {a : Addr} {C : Str} {dx : Addr} {fs : List (Str × D)} {vs : List (Str × V)} : ¬ B a → H a = some (.ins (cA C) dx vs) → RepF fs vs → Rep (.ob C fs) (.ref a)
inductive RepL : List D → List V → Prop
  | nil : RepL [] []
  | cons {x : D} {xs : List D} {v : V} {vs : List V} : Rep x v → RepL xs vs → RepL (x :: xs) (v :: vs)
inductive RepK : List (Key × D) → List (Key × V) → Prop
  | nil : RepK [] []
  | cons {k : Key} {x : D} {xs : List (Key × D)} {v : V} {vs : List (Key × V)} : Rep x v → RepK xs vs → RepK ((k, x) :: xs) ((k, v) :: vs)
inductive RepF : List (Str × D) → List (Str × V) → Prop
  | nil : RepF [] []
  | cons {k : Str} {x : D} {xs : List (Str × D)} {v : V} {vs : List (Str × V)} : Rep x v → RepF xs vs → RepF ((k, x) :: xs) ((k, v) :: vs)
end
end
section
variable {K : PySem.W.Frag} {cA : Str → Addr} {B B' : Addr → Prop} {H H' : Hp}
mutual
theorem Rep.mono (m : ∀ a u, ¬ B a → H a = some u → ¬ B' a ∧ H' a = some u) : ∀ {x : D} {v : V}, Rep K cA B H x v → Rep K cA B' H' x v
  | _, _, .non => .non
  | _, _, .bl b => .bl b
  | _, _, .int i => .int i
  | _, _, .str s => .str s
  | _, _, .tup h hs => .tup (h.elim (fun h => .inl (m _ _ h.1 h.2)) .inr) (RepL.mono m hs)
  | _, _, .lst hb h hs => .lst (m _ _ hb h).1 (m _ _ hb h).2 (RepL.mono m hs)
  | _, _, .scr h => .scr (h.elim (fun h => .inl (let ⟨o, e⟩ := h.2; ⟨(m _ _ h.1 e).1, o, (m _ _ h.1 e).2⟩)) .inr)
  | _, _, .dct hb h hs => .dct (m _ _ hb h).1 (m _ _ hb h).2 (RepK.mono m hs)
  | _, _, .ob hb h hs => .ob (m _ _ hb h).1 (m _ _ hb h).2 (RepF.mono m hs)
theorem RepL.mono (m : ∀ a u, ¬ B a → H a = some u → ¬ B' a ∧ H' a = some u) : ∀ {x : List D} {v : List V}, RepL K cA B H x v → RepL K cA B' H' x v
  | _, _, .nil => .nil
  | _, _, .cons h hs => .cons (Rep.mono m h) (RepL.mono m hs)
theorem RepK.mono (m : ∀ a u, ¬ B a → H a = some u → ¬ B' a ∧ H' a = some u) : ∀ {x : List (Key × D)} {v : List (Key × V)}, RepK K cA B H x v → RepK K cA B' H' x v
  | _, _, .nil => .nil
  | _, _, .cons h hs => .cons (Rep.mono m h) (RepK.mono m hs)
theorem RepF.mono (m : ∀ a u, ¬ B a → H a = some u → ¬ B' a ∧ H' a = some u) : ∀ {x : List (Str × D)} {v : List (Str × V)}, RepF K cA B H x v → RepF K cA B' H' x v
  | _, _, .nil => .nil
  | _, _, .cons h hs => .cons (Rep.mono m h) (RepF.mono m hs)
end
theorem RepL.length : ∀ {xs : List D} {vs : List V}, RepL K cA B H xs vs → xs.length = vs.length
  | _, _, .nil => rfl
  | _, _, .cons _ t => congrArg Nat.succ (RepL.length t)
theorem RepL.get : ∀ {xs : List D} {vs : List V} {i : Nat} {x : D}, RepL K cA B H xs vs → xs[i]? = some x → ∃ v, vs[i]? = some v ∧ Rep K cA B H x v
  | _, _, _, _, .nil, e => by simp at e
  | _, _, 0, _, .cons r _, e => by simp at e; subst e; exact ⟨_, rfl, r⟩
  | _, _, i + 1, x, .cons _ t, e => by
    obtain ⟨u, h1, h2⟩ := RepL.get (i := i) (x := x) t (by simpa using e)
    exact ⟨u, by simpa using h1, h2⟩
theorem RepL.append : ∀ {xs ys : List D} {vs us : List V}, RepL K cA B H xs vs → RepL K cA B H ys us → RepL K cA B H (xs ++ ys) (vs ++ us)
  | _, _, _, _, .nil, s => s
  | _, _, _, _, .cons r t, s => .cons r (RepL.append t s)
theorem RepL.take : ∀ {xs : List D} {vs : List V} (n : Nat), RepL K cA B H xs vs → RepL K cA B H (xs.take n) (vs.take n)
  | _, _, 0, _ => .nil
  | _, _, _ + 1, .nil => .nil
  | _, _, n + 1, .cons r t => .cons r (RepL.take n t)
theorem RepL.drop : ∀ {xs : List D} {vs : List V} (n : Nat), RepL K cA B H xs vs → RepL K cA B H (xs.drop n) (vs.drop n)
  | _, _, 0, r => r
  | _, _, _ + 1, .nil => .nil
  | _, _, n + 1, .cons _ t => RepL.drop n t
theorem RepL.set {x : D} {v : V} (r : Rep K cA B H x v) : ∀ {xs : List D} {vs : List V} (i : Nat), RepL K cA B H xs vs → RepL K cA B H (xs.set i x) (vs.set i v)
  | _, _, _, .nil => .nil
  | _, _, 0, .cons _ t => .cons r t
  | _, _, i + 1, .cons q t => .cons q (RepL.set r i t)
theorem RepL.eraseIdx : ∀ {xs : List D} {vs : List V} (i : Nat), RepL K cA B H xs vs → RepL K cA B H (xs.eraseIdx i) (vs.eraseIdx i)
  | _, _, _, .nil => .nil
  | _, _, 0, .cons _ t => t
  | _, _, i + 1, .cons q t => .cons q (RepL.eraseIdx i t)
theorem RepL.reverse : ∀ {xs : List D} {vs : List V}, RepL K cA B H xs vs → RepL K cA B H xs.reverse vs.reverse
  | _, _, .nil => .nil
  | _, _, .cons r t => by rw [List.reverse_cons, List.reverse_cons]; exact RepL.append (RepL.reverse t) (.cons r .nil)
theorem RepL.ints : ∀ {xs : List D} {vs : List V} {ns : List Int}, RepL K cA B H xs vs → xs = ns.map D.int → vs = ns.map V.int
  | _, _, [], .nil, _ => rfl
  | _, _, _ :: _, .nil, e => by cases e
  | _, _, [], .cons _ _, e => by cases e
  | _, _, n :: ns, .cons r t, e => by
    rw [List.map_cons] at e
    obtain ⟨e1, e2⟩ := List.cons.inj e
    subst e1
    cases r
    rw [List.map_cons, RepL.ints t e2]
theorem RepL.bls : ∀ {xs : List D} {vs : List V} {ns : List Bool}, RepL K cA B H xs vs → xs = ns.map D.bl → vs = ns.map V.bl
  | _, _, [], .nil, _ => rfl
  | _, _, _ :: _, .nil, e => by cases e
  | _, _, [], .cons _ _, e => by cases e
  | _, _, n :: ns, .cons r t, e => by
    rw [List.map_cons] at e
    obtain ⟨e1, e2⟩ := List.cons.inj e
    subst e1
    cases r
    rw [List.map_cons, RepL.bls t e2]
end

/-! ### owned objects in the heap -/
section
variable (K : PySem.W.Frag) (cA : Str → Addr) (B : Addr → Prop) (L : Addr → Option Own) (H : Hp) (r : List Str → Own)
mutual
inductive OVR : List Str → OV → V → Prop
  | d {p : List Str} {x : D} {v : V} : Rep K cA B H x v → OVR p (.d x) v
  | lst {p : List Str} {a : Addr} {xs : List D} {vs : List V} : L a = some (r p) → H a = some (.lst vs) → RepL K cA B H xs vs → OVR p (.lst xs) (.ref a)
  | dic {p : List Str} {a : Addr} {xs : List (Key × D)} {vs : List (Key × V)} : L a = some (r p) → H a = some (.dK vs) → RepK K cA B H xs vs → OVR p (.dic xs) (.ref a)
  | ins {p : List Str} {a : Addr} {C : Str} {dx : Addr} {fs : List (Str × OV)} {vs : List (Str × V)} : L a = some (r p) → H a = some (.ins (cA C) dx vs) → (fs.map (·.1)).Nodup → OVRF p fs vs → OVR p (.ins C fs) (.ref a)
inductive OVRF : List Str → List (Str × OV) → List (Str × V) → Prop
  | nil {p : List Str} : OVRF p [] []
  | cons {p : List Str} {f : Str} {o : OV} {v : V} {fs : List (Str × OV)} {vs : List (Str × V)} : OVR (f :: p) o v → OVRF p fs vs → OVRF p ((f, o) :: fs) ((f, v) :: vs)
end
end
section
variable {K : PySem.W.Frag} {cA : Str → Addr} {B B' : Addr → Prop} {L L' : Addr → Option Own} {H H' : Hp} {r r' : List Str → Own}
mutual
/-- moved to another state: its own objects stand (at their paths), data stand -/
theorem OVR.mono (m : ∀ a u, ¬ B a → H a = some u → ¬ B' a ∧ H' a = some u) (q : ∀ a u p, L a = some (r p) → H a = some u → L' a = some (r' p) ∧ H' a = some u) :
    ∀ {p : List Str} {o : OV} {v : V}, OVR K cA B L H r p o v → OVR K cA B' L' H' r' p o v
  | _, _, _, .d h => .d (h.mono m)
  | _, _, _, .lst l h hs => .lst (q _ _ _ l h).1 (q _ _ _ l h).2 (hs.mono m)
  | _, _, _, .dic l h hs => .dic (q _ _ _ l h).1 (q _ _ _ l h).2 (hs.mono m)
  | _, _, _, .ins l h n hs => .ins (q _ _ _ l h).1 (q _ _ _ l h).2 n (OVRF.mono m q hs)
theorem OVRF.mono (m : ∀ a u, ¬ B a → H a = some u → ¬ B' a ∧ H' a = some u) (q : ∀ a u p, L a = some (r p) → H a = some u → L' a = some (r' p) ∧ H' a = some u) :
    ∀ {p : List Str} {o : List (Str × OV)} {v : List (Str × V)}, OVRF K cA B L H r p o v → OVRF K cA B' L' H' r' p o v
  | _, _, _, .nil => .nil
  | _, _, _, .cons h hs => .cons (OVR.mono m q h) (OVRF.mono m q hs)
end
end

section
variable {K : PySem.W.Frag} {cA : Str → Addr} {B B' : Addr → Prop} {L L' : Addr → Option Own} {H H' : Hp} {r r' : List Str → Own}
mutual
/-- the same, of what lies deeper alone -/
theorem OVR.deep (n : Nat) (m : ∀ a u, ¬ B a → H a = some u → ¬ B' a ∧ H' a = some u) (q : ∀ a u p, n < p.length → L a = some (r p) → H a = some u → L' a = some (r' p) ∧ H' a = some u) :
    ∀ {p : List Str} {o : OV} {v : V}, n < p.length → OVR K cA B L H r p o v → OVR K cA B' L' H' r' p o v
  | _, _, _, _, .d h => .d (h.mono m)
  | _, _, _, g, .lst l h hs => .lst (q _ _ _ g l h).1 (q _ _ _ g l h).2 (hs.mono m)
  | _, _, _, g, .dic l h hs => .dic (q _ _ _ g l h).1 (q _ _ _ g l h).2 (hs.mono m)
  | _, _, _, g, .ins l h nd hs => .ins (q _ _ _ g l h).1 (q _ _ _ g l h).2 nd (OVRF.deep n m q (Nat.le_of_lt g) hs)
theorem OVRF.deep (n : Nat) (m : ∀ a u, ¬ B a → H a = some u → ¬ B' a ∧ H' a = some u) (q : ∀ a u p, n < p.length → L a = some (r p) → H a = some u → L' a = some (r' p) ∧ H' a = some u) :
    ∀ {p : List Str} {o : List (Str × OV)} {v : List (Str × V)}, n ≤ p.length → OVRF K cA B L H r p o v → OVRF K cA B' L' H' r' p o v
  | _, _, _, _, .nil => .nil
  | _, _, _, g, .cons h hs => .cons (OVR.deep n m q (Nat.lt_succ_of_le g) h) (OVRF.deep n m q g hs)
end
end

/-! ### the state -/
abbrev Lab := Addr → Option Own
def Bd (O : Addr → Prop) (L : Lab) (a : Addr) : Prop := O a ∨ L a ≠ none
/-- no result lies loose -/
def Cl (L : Lab) : Prop := ∀ a p, L a ≠ some (.res p)
/-- tracked and not owned: stays -/
def Stp (L : Lab) (H : Hp) (L' : Lab) (H' : Hp) : Prop := ∀ a u, L a = none → H a = some u → L' a = none ∧ H' a = some u
theorem Stp.refl {L : Lab} {H : Hp} : Stp L H L H := fun _ _ h e => ⟨h, e⟩
theorem Stp.trans {L L1 L2 : Lab} {H H1 H2 : Hp} (a : Stp L H L1 H1) (b : Stp L1 H1 L2 H2) : Stp L H L2 H2 := fun c u h e => b c u (a c u h e).1 (a c u h e).2
theorem Stp.rep {K : PySem.W.Frag} {cA : Str → Addr} {O : Addr → Prop} {L L' : Lab} {H H' : Hp} (s : Stp L H L' H') {x : D} {v : V} (h : Rep K cA (Bd O L) H x v) : Rep K cA (Bd O L') H' x v :=
  h.mono fun a u nb e => by
    have l0 : L a = none := by
      cases q : L a with
      | none => rfl
      | some o => exact absurd (.inr (by rw [q]; simp)) nb
    obtain ⟨h1, h2⟩ := s a u l0 e
    exact ⟨fun z => z.elim (fun z => nb (.inl z)) (fun z => z h1), h2⟩
theorem bd_none {O : Addr → Prop} {L : Lab} {a : Addr} (h : ¬ Bd O L a) : L a = none := by
  cases q : L a with
  | none => rfl
  | some o => exact absurd (.inr (by rw [q]; simp)) h
theorem Stp.m {O : Addr → Prop} {L L' : Lab} {H H' : Hp} (s : Stp L H L' H') : ∀ a u, ¬ Bd O L a → H a = some u → ¬ Bd O L' a ∧ H' a = some u := fun a u nb e => by
  obtain ⟨h1, h2⟩ := s a u (bd_none nb) e
  exact ⟨fun z => z.elim (fun z => nb (.inl z)) (fun z => z h1), h2⟩

def SVR (Γ : Gm) (O : Addr → Prop) (L : Lab) (m : List V) (H : Hp) (i : Nat) : SV → Option (Option V) → Prop
  | .none, _ => True
  | .d x, so => ∃ v, so = some (some v) ∧ Rep Γ.K Γ.C (Bd O L) H x v
  | .own o, so => ∃ v, so = some (some v) ∧ OVR Γ.K Γ.C (Bd O L) L H (Own.slot i) [] o v
  | .cel j, so => ∃ v, so = some (some v) ∧ m[j]? = some v
/-- the cells and the outer objects -/
structure SimS (Γ : Gm) (O : Addr → Prop) (L : Lab) (m : List V) (S : List OV) (H : Hp) : Prop where
  mlen : m.length = S.length
  cells : ∀ j o, S[j]? = some o → ∃ v, m[j]? = some v ∧ OVR Γ.K Γ.C (Bd O L) L H (Own.cell j) [] o v
  out : ∀ a, O a → H a ≠ none ∧ L a = none
  trk : ∀ a, L a ≠ none → H a ≠ none
structure Sim (Γ : Gm) (O : Addr → Prop) (L : Lab) (m : List V) (z : Z) (σ : St) (H : Hp) : Prop where
  st : SimS Γ O L m z.S H
  len : z.σ.length = σ.length
  slots : ∀ i sv, z.σ[i]? = some sv → SVR Γ O L m H i sv σ[i]?
def Wr (Γ : Gm) (O : Addr → Prop) (L : Lab) (m : List V) (σ : St) (H : Hp) : W → V → Prop
  | .d x, v => Cl L ∧ Rep Γ.K Γ.C (Bd O L) H x v
  | .cel j, v => Cl L ∧ m[j]? = some v
  | .slot i, v => Cl L ∧ σ[i]? = some (some v)
  | .new o, v => OVR Γ.K Γ.C (Bd O L) L H Own.res [] o v
def ExR (Γ : Gm) (O : Addr → Prop) (L : Lab) (H : Hp) (x : Exn) (cls : Value) (d : Option Addr) : Prop :=
  cls = .ref (Γ.C x.c) ∧ match x.arg with
    | some (f, y) => ∃ a v, d = some a ∧ H a = some (.xd [(f, v)]) ∧ Rep Γ.K Γ.C (Bd O L) H y v ∧ ¬ Bd O L a
    | none => d = none

abbrev XR := Exn → Z → Prop
abbrev WE := Z → (W → Z → Prop) → XR → Prop
abbrev WT := Z → (Bool → Z → Prop) → XR → Prop
abbrev WA := Z → (List D → Z → Prop) → XR → Prop
structure Ed where
  nx : Z → Prop
  rt : W → Z → Prop
  bk : Z → Prop
  ct : Z → Prop
abbrev WS := Z → Ed → XR → Prop

/-! ### contexts -/
abbrev Names' := List (Str × NameKind)
/-- no repr is under way -/
def NoGd (A : Around) : Prop := A.guards = some []
structure Ctx (Γ : Gm) (sc : Scope) (st : Names') (X : Cx) : Prop where
  P : X.prog = Γ.P
  w : X.w = Γ.w
  K : X.K = Γ.K
  mg : X.mg = Γ.mg
  base : X.base = Γ.base
  N : X.N = Γ.N
  nd : Γ.N.Nodup
  calm : X.calm = true
  scp : X.env.scope = sc
  kind : sc.kind = .function
  room : Room Γ.k X.A
  gd : NoGd X.A
  tk : Takes X Γ.E
  own : PassesOwn (model X.prog X.w) X.A X.env X.xe
  fn : ∀ x, (st.lookup x = some .local ∨ st.lookup x = some .cell) → Loc X.env.scope x ∧ (X.fn x = true ∨ X.env.scope.names.lookup x = some .local)

/-- what is wanted of exceptions, from here on -/
def Xok (Γ : Gm) (O : Addr → Prop) (L : Lab) (m : List V) (σ : St) (H : Hp) (R : XR) : Prop :=
  ∀ L' m' z' σ' H' x cls d, Stp L H L' H' → m <+: m' → Cl L' → Sim Γ O L' m' z' σ' H' → ExR Γ O L' H' x cls d → R x z' → Γ.E cls d σ' H'
end Eng

end
section
set_option Elab.async false
set_option linter.all false
set_option maxRecDepth 100000
/-! Eng2: moves of the relation. -/
namespace Eng
open PySem PySem.Spec PyProof.Rows L2

mutual
def OV.frz : OV → D
  | .d x => x
  | .lst xs => .lst xs
  | .dic kvs => .dct kvs
  | .ins C fs => .ob C (OV.frzF fs)
def OV.frzF : List (Str × OV) → List (Str × D)
  | [] => []
  | (f, o) :: r => (f, OV.frz o) :: OV.frzF r
end
def OV.dat : OV → Option D
  | .d x => some x
  | .lst xs => some (.lst xs)
  | .dic kvs => some (.dct kvs)
  | .ins _ _ => none
/-- the content that may be read -/
def rd (z : Z) : W → Option D
  | .d x => some x
  | .cel j => (z.S[j]?).bind OV.dat
  | .slot i => match z.σ[i]? with
    | some (.d x) => some x
    | some (.own o) => o.dat
    | some (.cel j) => (z.S[j]?).bind OV.dat
    | _ => none
  | .new _ => none
def rdAll (z : Z) : List W → Option (List D)
  | [] => some []
  | w :: ws => match rd z w, rdAll z ws with
    | some d, some ds => some (d :: ds)
    | _, _ => none
/-- as Rep; the root may be owned -/
def RepT (K : PySem.W.Frag) (cA : Str → Addr) (B : Addr → Prop) (H : Hp) (d : D) (v : V) : Prop := match d with
  | .lst xs => ∃ a vs, v = .ref a ∧ H a = some (.lst vs) ∧ RepL K cA B H xs vs
  | .dct xs => ∃ a vs, v = .ref a ∧ H a = some (.dK vs) ∧ RepK K cA B H xs vs
  | d => Rep K cA B H d v
section
variable {K : PySem.W.Frag} {cA : Str → Addr} {B : Addr → Prop} {H : Hp}
theorem Rep.t {d : D} {v : V} (h : Rep K cA B H d v) : RepT K cA B H d v := by
  cases h with
  | lst hb h hs => exact ⟨_, _, rfl, h, hs⟩
  | dct hb h hs => exact ⟨_, _, rfl, h, hs⟩
  | non => exact .non
  | bl b => exact .bl b
  | int i => exact .int i
  | str s => exact .str s
  | tup h hs => exact .tup h hs
  | scr h => exact .scr h
  | ob hb h hs => exact .ob hb h hs
theorem RepT.int {i : Int} {v : V} (h : RepT K cA B H (.int i) v) : v = .int i := by
  have h' : Rep K cA B H (.int i) v := h
  cases h'; rfl
theorem RepT.bl {i : Bool} {v : V} (h : RepT K cA B H (.bl i) v) : v = .bl i := by
  have h' : Rep K cA B H (.bl i) v := h
  cases h'; rfl
theorem RepT.str {i : Str} {v : V} (h : RepT K cA B H (.str i) v) : v = .str i := by
  have h' : Rep K cA B H (.str i) v := h
  cases h'; rfl
theorem RepT.non {v : V} (h : RepT K cA B H .non v) : v = .non := by
  have h' : Rep K cA B H .non v := h
  cases h'; rfl
theorem RepT.tup {xs : List D} {v : V} (h : RepT K cA B H (.tup xs) v) : ∃ a vs, v = .ref a ∧ SqT K H a vs ∧ RepL K cA B H xs vs := by
  have h' : Rep K cA B H (.tup xs) v := h
  cases h' with
  | tup h1 hs =>
    refine ⟨_, _, rfl, ?_, hs⟩
    rcases h1 with h1 | h1
    · exact .inl (.inl h1.2)
    · exact .inr h1
theorem RepT.lst {xs : List D} {v : V} (h : RepT K cA B H (.lst xs) v) : ∃ a vs, v = .ref a ∧ H a = some (.lst vs) ∧ RepL K cA B H xs vs := h
theorem RepT.dct {xs : List (Key × D)} {v : V} (h : RepT K cA B H (.dct xs) v) : ∃ a vs, v = .ref a ∧ H a = some (.dK vs) ∧ RepK K cA B H xs vs := h
theorem RepT.scr {ns : List Int} {v : V} (h : RepT K cA B H (.scr ns) v) : ∃ a, v = .ref a ∧ SqL K H a (ns.map V.int) := by
  have h' : Rep K cA B H (.scr ns) v := h
  cases h' with
  | scr h1 =>
    refine ⟨_, rfl, ?_⟩
    rcases h1 with h1 | h1
    · exact .inl (.inr h1.2)
    · exact .inr h1
theorem RepT.ob {C : Str} {fs : List (Str × D)} {v : V} (h : RepT K cA B H (.ob C fs) v) : ∃ a dx vs, v = .ref a ∧ H a = some (.ins (cA C) dx vs) ∧ RepF K cA B H fs vs := by
  have h' : Rep K cA B H (.ob C fs) v := h
  cases h' with
  | ob hb h1 hs => exact ⟨_, _, _, rfl, h1, hs⟩
inductive RepTs (K : PySem.W.Frag) (cA : Str → Addr) (B : Addr → Prop) (H : Hp) : List D → List V → Prop
  | nil : RepTs K cA B H [] []
  | cons {d : D} {v : V} {ds : List D} {vs : List V} : RepT K cA B H d v → RepTs K cA B H ds vs → RepTs K cA B H (d :: ds) (v :: vs)
theorem OVR.datT {L : Lab} {r : List Str → Own} {p : List Str} {o : OV} {v : V} {d : D} (h : OVR K cA B L H r p o v) (e : o.dat = some d) : RepT K cA B H d v := by
  cases h with
  | d h => cases e; exact h.t
  | lst l h hs => cases e; exact ⟨_, _, rfl, h, hs⟩
  | dic l h hs => cases e; exact ⟨_, _, rfl, h, hs⟩
  | ins l h n hs => cases e
end

section
variable {Γ : Gm} {O : Addr → Prop} {L L' : Lab} {m : List V} {z : Z} {σ : St} {H H' : Hp}
theorem Sim.slot (S : Sim Γ O L m z σ H) {i : Nat} {sv : SV} (e : z.σ[i]? = some sv) : SVR Γ O L m H i sv σ[i]? := S.slots i sv e
theorem Sim.cell (S : Sim Γ O L m z σ H) {j : Nat} {o : OV} (e : z.S[j]? = some o) : ∃ v, m[j]? = some v ∧ OVR Γ.K Γ.C (Bd O L) L H (Own.cell j) [] o v := S.st.cells j o e
theorem Sim.rdT (S : Sim Γ O L m z σ H) {w : W} {v : V} {d : D} (r : Wr Γ O L m σ H w v) (e : rd z w = some d) : RepT Γ.K Γ.C (Bd O L) H d v := by
  cases w with
  | d x => cases e; exact r.2.t
  | cel j =>
    obtain ⟨o, e1, e2⟩ := Option.bind_eq_some_iff.mp e
    obtain ⟨u, h1, h2⟩ := S.cell e1
    have e3 := r.2
    rw [h1] at e3
    cases e3
    exact h2.datT e2
  | slot i =>
    have e0 : (match z.σ[i]? with
      | some (.d x) => some x
      | some (.own o) => o.dat
      | some (.cel j) => (z.S[j]?).bind OV.dat
      | _ => none) = some d := e
    cases q : z.σ[i]? with
    | none => rw [q] at e0; cases e0
    | some sv =>
      have h := S.slot q
      rw [q] at e0
      cases sv with
      | none => cases e0
      | d x =>
        cases e0
        obtain ⟨u, h1, h2⟩ := h
        have e3 := r.2
        rw [h1] at e3
        cases e3
        exact h2.t
      | own o =>
        obtain ⟨u, h1, h2⟩ := h
        have e3 := r.2
        rw [h1] at e3
        cases e3
        exact h2.datT e0
      | cel j =>
        obtain ⟨u, h1, h2⟩ := h
        have e3 := r.2
        rw [h1] at e3
        cases e3
        obtain ⟨o, e1, e2⟩ := Option.bind_eq_some_iff.mp e0
        obtain ⟨u', h3, h4⟩ := S.cell e1
        rw [h2] at h3
        cases h3
        exact h4.datT e2
  | new o => cases e
/-- the state carried over: labels at slots and cells, data -/
theorem SVR.carry (s : Stp L H L' H') (q : ∀ a u i p, L a = some (.slot i p) → H a = some u → L' a = some (.slot i p) ∧ H' a = some u) {i : Nat} {sv : SV} {so : Option (Option V)}
    (h : SVR Γ O L m H i sv so) : SVR Γ O L' m H' i sv so := by
  cases sv with
  | none => trivial
  | d x => obtain ⟨v, e, r⟩ := h; exact ⟨v, e, s.rep r⟩
  | own o => obtain ⟨v, e, r⟩ := h; exact ⟨v, e, r.mono s.m fun a u p l hh => q a u i p l hh⟩
  | cel j => exact h
theorem SimS.carry {S : List OV} (h : SimS Γ O L m S H) (s : Stp L H L' H') (q : ∀ a u j p, L a = some (.cell j p) → H a = some u → L' a = some (.cell j p) ∧ H' a = some u) (t : ∀ a, L' a ≠ none → H' a ≠ none) : SimS Γ O L' m S H' := by
  refine ⟨h.mlen, fun j o e => ?_, fun a oa => ?_, t⟩
  · obtain ⟨v, e1, r⟩ := h.cells j o e
    exact ⟨v, e1, r.mono s.m fun a u p l hh => q a u j p l hh⟩
  · obtain ⟨h1, h2⟩ := h.out a oa
    cases e : H a with
    | none => exact absurd e h1
    | some u =>
      obtain ⟨h3, h4⟩ := s a u h2 e
      exact ⟨by rw [h4]; simp, h3⟩
theorem Sim.carry (h : Sim Γ O L m z σ H) (s : Stp L H L' H') (q1 : ∀ a u i p, L a = some (.slot i p) → H a = some u → L' a = some (.slot i p) ∧ H' a = some u)
    (q2 : ∀ a u j p, L a = some (.cell j p) → H a = some u → L' a = some (.cell j p) ∧ H' a = some u) (t : ∀ a, L' a ≠ none → H' a ≠ none) : Sim Γ O L' m z σ H' :=
  ⟨h.st.carry s q2 t, h.len, fun i sv e => (h.slots i sv e).carry s q1⟩

/-! ### a new object -/
def lab (L : Lab) (p : Addr) (o : Own) : Lab := fun a => if a = p then some o else L a
theorem lab_same {L : Lab} {p : Addr} {o : Own} : lab L p o p = some o := if_pos rfl
theorem lab_ne {L : Lab} {p a : Addr} {o : Own} (h : a ≠ p) : lab L p o a = L a := if_neg h
theorem Sim.unl (h : SimS Γ O L m z.S H) {p : Addr} (hp : H p = none) : L p = none := by
  cases e : L p with
  | none => rfl
  | some o => exact absurd hp (h.trk p (by rw [e]; simp))
theorem stp_new {p : Addr} {o : HO} (hp : H p = none) : Stp L H L (upd H p o) := fun a u l e => ⟨l, by rw [upd_ne (ne_of_none e hp)]; exact e⟩
theorem stp_newL {p : Addr} {o : HO} {w : Own} (hp : H p = none) : Stp L H (lab L p w) (upd H p o) := fun a u l e =>
  ⟨by rw [lab_ne (ne_of_none e hp)]; exact l, by rw [upd_ne (ne_of_none e hp)]; exact e⟩
/-- laid, not owned -/
theorem Sim.new (h : Sim Γ O L m z σ H) {p : Addr} (o : HO) (hp : H p = none) : Sim Γ O L m z σ (upd H p o) :=
  h.carry (stp_new hp) (fun a u i q l e => ⟨l, by rw [upd_ne (ne_of_none e hp)]; exact e⟩) (fun a u i q l e => ⟨l, by rw [upd_ne (ne_of_none e hp)]; exact e⟩) fun a l => by
    by_cases e : a = p
    · rw [e, upd_same]; simp
    · rw [upd_ne e]; exact h.st.trk a l
/-- laid, owned -/
theorem Sim.newL (h : Sim Γ O L m z σ H) {p : Addr} (o : HO) (w : Own) (hp : H p = none) : Sim Γ O (lab L p w) m z σ (upd H p o) :=
  h.carry (stp_newL hp) (fun a u i q l e => ⟨by rw [lab_ne (ne_of_none e hp)]; exact l, by rw [upd_ne (ne_of_none e hp)]; exact e⟩) (fun a u i q l e => ⟨by rw [lab_ne (ne_of_none e hp)]; exact l, by rw [upd_ne (ne_of_none e hp)]; exact e⟩) fun a l => by
    by_cases e : a = p
    · rw [e, upd_same]; simp
    · rw [upd_ne e]; rw [lab_ne e] at l; exact h.st.trk a l
/-- a new tuple of data -/
theorem rep_newT {p : Addr} {xs : List D} {vs : List V} (h : RepL Γ.K Γ.C (Bd O L) H xs vs) (hp : H p = none) (S : SimS Γ O L m z.S H) : Rep Γ.K Γ.C (Bd O L) (upd H p (.tup vs)) (.tup xs) (.ref p) := by
  have nb : ¬ Bd O L p := fun q => q.elim (fun q => absurd hp (S.out p q).1) (fun q => absurd (Sim.unl S hp) q)
  exact .tup (.inl ⟨nb, upd_same⟩) (h.mono (Stp.m (stp_new hp)))
/-- a new list of data -/
theorem ovr_newL {p : Addr} {xs : List D} {vs : List V} (h : RepL Γ.K Γ.C (Bd O L) H xs vs) (hp : H p = none) : OVR Γ.K Γ.C (Bd O (lab L p (.res []))) (lab L p (.res [])) (upd H p (.lst vs)) Own.res [] (.lst xs) (.ref p) :=
  .lst lab_same upd_same (h.mono (Stp.m (stp_newL hp)))
theorem ovr_newK {p : Addr} {xs : List (Key × D)} {vs : List (Key × V)} (h : RepK Γ.K Γ.C (Bd O L) H xs vs) (hp : H p = none) : OVR Γ.K Γ.C (Bd O (lab L p (.res []))) (lab L p (.res [])) (upd H p (.dK vs)) Own.res [] (.dic xs) (.ref p) :=
  .dic lab_same upd_same (h.mono (Stp.m (stp_newL hp)))

/-! ### a loose result: freed, or laid at a slot -/
def unres (L : Lab) : Lab := fun a => match L a with
  | some (.res _) => none
  | x => x
theorem unres_none {a : Addr} (h : L a = none) : unres L a = none := by unfold unres; rw [h]
theorem unres_slot {a : Addr} {i p} (h : L a = some (.slot i p)) : unres L a = some (.slot i p) := by unfold unres; rw [h]
theorem unres_cell {a : Addr} {i p} (h : L a = some (.cell i p)) : unres L a = some (.cell i p) := by unfold unres; rw [h]
theorem unres_res {a : Addr} {p} (h : L a = some (.res p)) : unres L a = none := by unfold unres; rw [h]
theorem unres_cl : Cl (unres L) := fun a p e => by
  unfold unres at e
  cases q : L a with
  | none => rw [q] at e; cases e
  | some o =>
    rw [q] at e
    cases o with
    | res p' => cases e
    | slot i p' => cases e
    | cell i p' => cases e
theorem unres_id (h : Cl L) : unres L = L := by
  funext a
  unfold unres
  cases q : L a with
  | none => rfl
  | some o =>
    cases o with
    | res p' => exact absurd q (h a p')
    | slot i p' => rfl
    | cell i p' => rfl
theorem stp_unres : Stp L H (unres L) H := fun a u l e => ⟨unres_none l, e⟩
theorem Sim.unres (h : Sim Γ O L m z σ H) : Sim Γ O (unres L) m z σ H :=
  h.carry stp_unres (fun a u i p l e => ⟨unres_slot l, e⟩) (fun a u i p l e => ⟨unres_cell l, e⟩) fun a l => h.st.trk a fun q => l (unres_none q)
mutual
theorem OVR.freed {B : Addr → Prop} (S : ∀ a, O a → L a = none) : ∀ {p : List Str} {o : OV} {v : V}, OVR Γ.K Γ.C (Bd O L) L H Own.res p o v → Rep Γ.K Γ.C (Bd O (Eng.unres L)) H o.frz v
  | _, _, _, .d h => (stp_unres (H := H)).rep h
  | _, _, _, .lst l h hs => .lst (fun q => q.elim (fun q => by rw [S _ q] at l; cases l) (fun q => q (unres_res l))) h (hs.mono (Stp.m stp_unres))
  | _, _, _, .dic l h hs => .dct (fun q => q.elim (fun q => by rw [S _ q] at l; cases l) (fun q => q (unres_res l))) h (hs.mono (Stp.m stp_unres))
  | _, _, _, .ins l h n hs => .ob (fun q => q.elim (fun q => by rw [S _ q] at l; cases l) (fun q => q (unres_res l))) h (OVRF.freed (B := B) S hs)
theorem OVRF.freed {B : Addr → Prop} (S : ∀ a, O a → L a = none) : ∀ {p : List Str} {o : List (Str × OV)} {v : List (Str × V)}, OVRF Γ.K Γ.C (Bd O L) L H Own.res p o v → RepF Γ.K Γ.C (Bd O (Eng.unres L)) H (OV.frzF o) v
  | _, _, _, .nil => .nil
  | _, _, _, .cons h hs => .cons (OVR.freed (B := B) S h) (OVRF.freed (B := B) S hs)
end
/-- a loose result becomes the slot's own -/
def toSlot (i : Nat) (L : Lab) : Lab := fun a => match L a with
  | some (.res p) => some (.slot i p)
  | x => x
theorem toSlot_none {i : Nat} {a : Addr} : toSlot i L a = none ↔ L a = none := by
  unfold toSlot
  cases q : L a with
  | none => simp
  | some o => cases o <;> simp
theorem toSlot_slot {i j : Nat} {a : Addr} {p} (h : L a = some (.slot j p)) : toSlot i L a = some (.slot j p) := by unfold toSlot; rw [h]
theorem toSlot_cell {i j : Nat} {a : Addr} {p} (h : L a = some (.cell j p)) : toSlot i L a = some (.cell j p) := by unfold toSlot; rw [h]
theorem toSlot_res {i : Nat} {a : Addr} {p} (h : L a = some (.res p)) : toSlot i L a = some (.slot i p) := by unfold toSlot; rw [h]
theorem toSlot_cl {i : Nat} : Cl (toSlot i L) := fun a p e => by
  unfold toSlot at e
  cases q : L a with
  | none => rw [q] at e; cases e
  | some o =>
    rw [q] at e
    cases o with
    | res p' => cases e
    | slot i p' => cases e
    | cell i p' => cases e
theorem stp_toSlot {i : Nat} : Stp L H (toSlot i L) H := fun a u l e => ⟨toSlot_none.mpr l, e⟩
theorem Sim.toSlot (h : Sim Γ O L m z σ H) (i : Nat) : Sim Γ O (toSlot i L) m z σ H :=
  h.carry stp_toSlot (fun a u i p l e => ⟨toSlot_slot l, e⟩) (fun a u i p l e => ⟨toSlot_cell l, e⟩) fun a l => h.st.trk a fun q => l (toSlot_none.mpr q)
/-! ### slots stored -/
theorem Sim.setD (h : Sim Γ O L m z σ H) (i : Nat) {x : D} {v : V} (r : Rep Γ.K Γ.C (Bd O L) H x v) : Sim Γ O L m { z with σ := z.σ.set i (.d x) } (σ.set i (some v)) H := by
  refine ⟨h.st, by simp [h.len], fun j sv e => ?_⟩
  by_cases hj : i = j
  · subst hj
    have hi : i < z.σ.length := by
      have := (List.getElem?_eq_some_iff.mp e).1
      simpa using this
    rw [List.getElem?_set_self hi] at e
    cases e
    exact ⟨v, by rw [List.getElem?_set_self (by rw [← h.len]; exact hi)], r⟩
  · rw [List.getElem?_set_ne hj] at e ⊢
    exact h.slots j sv e
theorem Sim.setC (h : Sim Γ O L m z σ H) (i : Nat) {j : Nat} {v : V} (r : m[j]? = some v) : Sim Γ O L m { z with σ := z.σ.set i (.cel j) } (σ.set i (some v)) H := by
  refine ⟨h.st, by simp [h.len], fun k sv e => ?_⟩
  by_cases hj : i = k
  · subst hj
    have hi : i < z.σ.length := by
      have := (List.getElem?_eq_some_iff.mp e).1
      simpa using this
    rw [List.getElem?_set_self hi] at e
    cases e
    exact ⟨v, by rw [List.getElem?_set_self (by rw [← h.len]; exact hi)], r⟩
  · rw [List.getElem?_set_ne hj] at e ⊢
    exact h.slots k sv e
theorem Sim.setO (h : Sim Γ O L m z σ H) (i : Nat) {o : OV} {v : V} (r : OVR Γ.K Γ.C (Bd O L) L H Own.res [] o v) : Sim Γ O (Eng.toSlot i L) m { z with σ := z.σ.set i (.own o) } (σ.set i (some v)) H := by
  have h' := h.toSlot i
  refine ⟨h'.st, by simp [h.len], fun j sv e => ?_⟩
  by_cases hj : i = j
  · subst hj
    have hi : i < z.σ.length := by
      have := (List.getElem?_eq_some_iff.mp e).1
      simpa using this
    rw [List.getElem?_set_self hi] at e
    cases e
    exact ⟨v, by rw [List.getElem?_set_self (by rw [← h.len]; exact hi)], r.mono (Stp.m stp_toSlot) fun a u p l hh => ⟨toSlot_res l, hh⟩⟩
  · rw [List.getElem?_set_ne hj] at e ⊢
    exact h'.slots j sv e
/-- a slot forgotten -/
theorem Sim.setN (h : Sim Γ O L m z σ H) (i : Nat) (v : Option V) : Sim Γ O L m { z with σ := z.σ.set i .none } (σ.set i v) H := by
  refine ⟨h.st, by simp [h.len], fun j sv e => ?_⟩
  by_cases hj : i = j
  · subst hj
    have hi : i < z.σ.length := by
      have := (List.getElem?_eq_some_iff.mp e).1
      simpa using this
    rw [List.getElem?_set_self hi] at e
    cases e
    trivial
  · rw [List.getElem?_set_ne hj] at e ⊢
    exact h.slots j sv e

/-! ### an owned list or dict changed -/
inductive Pl where
  | slot (i : Nat) | cell (j : Nat)
def plOf (z : Z) : W → Option Pl
  | .cel j => some (.cell j)
  | .slot i => match z.σ[i]? with
    | some (.own _) => some (.slot i)
    | some (.cel j) => some (.cell j)
    | _ => none
  | _ => none
def getO (z : Z) : Pl → Option OV
  | .slot i => match z.σ[i]? with
    | some (.own o) => some o
    | _ => none
  | .cell j => z.S[j]?
def setO (z : Z) : Pl → OV → Z
  | .slot i, o => { z with σ := z.σ.set i (.own o) }
  | .cell j, o => { z with S := z.S.set j o }
def Pl.own : Pl → List Str → Own
  | .slot i => Own.slot i
  | .cell j => Own.cell j
theorem Sim.pl (S : Sim Γ O L m z σ H) {w : W} {v : V} {pl : Pl} {o : OV} (r : Wr Γ O L m σ H w v) (e : plOf z w = some pl) (g : getO z pl = some o) : OVR Γ.K Γ.C (Bd O L) L H pl.own [] o v := by
  have cellc : ∀ {j : Nat}, m[j]? = some v → getO z (.cell j) = some o → OVR Γ.K Γ.C (Bd O L) L H (Pl.own (.cell j)) [] o v := fun {j} hm hg => by
    obtain ⟨u, h1, h2⟩ := S.cell (show z.S[j]? = some o from hg)
    rw [h1] at hm
    cases hm
    exact h2
  cases w with
  | d x => cases e
  | new o => cases e
  | cel j => cases e; exact cellc r.2 g
  | slot i =>
    have e0 : (match z.σ[i]? with
      | some (.own _) => some (Pl.slot i)
      | some (.cel j) => some (.cell j)
      | _ => none) = some pl := e
    cases q : z.σ[i]? with
    | none => rw [q] at e0; cases e0
    | some sv =>
      have h := S.slot q
      rw [q] at e0
      cases sv with
      | none => cases e0
      | d x => cases e0
      | own o' =>
        cases e0
        have g' : (match z.σ[i]? with
          | some (.own o) => some o
          | _ => none) = some o := g
        rw [q] at g'
        cases g'
        obtain ⟨u, h1, h2⟩ := h
        have e3 := r.2
        rw [h1] at e3
        cases e3
        exact h2
      | cel j =>
        cases e0
        obtain ⟨u, h1, h2⟩ := h
        have e3 := r.2
        rw [h1] at e3
        cases e3
        exact cellc h2 g
/-- the object at a, owned at a root, is changed: all else stands -/
theorem stp_upd {a : Addr} {u : HO} {w : Own} (l : L a = some w) : Stp L H L (upd H a u) := fun b o lb e => by
  have n : b ≠ a := fun q => by rw [q, l] at lb; cases lb
  exact ⟨lb, by rw [upd_ne n]; exact e⟩
theorem Sim.updO (S : Sim Γ O L m z σ H) {pl : Pl} {o o' : OV} {a : Addr} {u : HO} (g : getO z pl = some o) (hv : ∀ i, pl = .slot i → σ[i]? = some (some (.ref a))) (hm : ∀ j, pl = .cell j → m[j]? = some (.ref a)) (l : L a = some (pl.own [])) (hu : H a ≠ none)
    (r : OVR Γ.K Γ.C (Bd O L) L (upd H a u) pl.own [] o' (.ref a)) : Sim Γ O L m (Eng.setO z pl o') σ (upd H a u) := by
  have st := stp_upd (H := H) (u := u) l
  have tr : ∀ b, L b ≠ none → upd H a u b ≠ none := fun b lb => by
    by_cases e : b = a
    · rw [e, upd_same]; simp
    · rw [upd_ne e]; exact S.st.trk b lb
  have out : ∀ b, O b → upd H a u b ≠ none ∧ L b = none := fun b ob => by
    obtain ⟨h1, h2⟩ := S.st.out b ob
    have n : b ≠ a := fun q => by rw [q, l] at h2; cases h2
    exact ⟨by rw [upd_ne n]; exact h1, h2⟩
  cases pl with
  | slot i =>
    refine ⟨⟨S.st.mlen, fun j oj e => ?_, out, tr⟩, by simp [Eng.setO, S.len], fun j sv e => ?_⟩
    · obtain ⟨v, e1, rj⟩ := S.st.cells j oj e
      refine ⟨v, e1, rj.mono st.m fun b w p lb hb => ?_⟩
      have n : b ≠ a := fun q => by rw [q, l] at lb; cases lb
      exact ⟨lb, by rw [upd_ne n]; exact hb⟩
    · by_cases hj : i = j
      · subst hj
        have hi : i < z.σ.length := by
          have := (List.getElem?_eq_some_iff.mp e).1
          simpa [Eng.setO] using this
        have e' : (z.σ.set i (.own o'))[i]? = some sv := e
        rw [List.getElem?_set_self hi] at e'
        cases e'
        exact ⟨_, hv i rfl, r⟩
      · have e' : (z.σ.set i (.own o'))[j]? = some sv := e
        rw [List.getElem?_set_ne hj] at e'
        have h := S.slots j sv e'
        cases sv with
        | none => trivial
        | d x => obtain ⟨v, q1, q2⟩ := h; exact ⟨v, q1, st.rep q2⟩
        | cel k => exact h
        | own ow =>
          obtain ⟨v, q1, q2⟩ := h
          refine ⟨v, q1, q2.mono st.m fun b w p lb hb => ?_⟩
          have n : b ≠ a := fun q => by
            rw [q, l] at lb
            cases lb
            exact hj rfl
          exact ⟨lb, by rw [upd_ne n]; exact hb⟩
  | cell k =>
    refine ⟨⟨by simp [Eng.setO, S.st.mlen], fun j oj e => ?_, out, tr⟩, S.len, fun j sv e => ?_⟩
    · have e' : (z.S.set k o')[j]? = some oj := e
      by_cases hj : k = j
      · subst hj
        have hi : k < z.S.length := by
          have := (List.getElem?_eq_some_iff.mp e').1
          simpa using this
        rw [List.getElem?_set_self hi] at e'
        cases e'
        exact ⟨_, hm k rfl, r⟩
      · rw [List.getElem?_set_ne hj] at e'
        obtain ⟨v, e1, rj⟩ := S.st.cells j oj e'
        refine ⟨v, e1, rj.mono st.m fun b w p lb hb => ?_⟩
        have n : b ≠ a := fun q => by
          rw [q, l] at lb
          cases lb
          exact hj rfl
        exact ⟨lb, by rw [upd_ne n]; exact hb⟩
    · have h := S.slots j sv e
      cases sv with
      | none => trivial
      | d x => obtain ⟨v, q1, q2⟩ := h; exact ⟨v, q1, st.rep q2⟩
      | cel k => exact h
      | own ow =>
        obtain ⟨v, q1, q2⟩ := h
        refine ⟨v, q1, q2.mono st.m fun b w p lb hb => ?_⟩
        have n : b ≠ a := fun q => by rw [q, l] at lb; cases lb
        exact ⟨lb, by rw [upd_ne n]; exact hb⟩
end
end Eng

end
section
set_option Elab.async false
set_option linter.all false
set_option maxRecDepth 100000
/-! Eng3: the judgements; expressions. -/
namespace Eng
open PySem PySem.Spec PyProof.Rows L2

def PostE (Γ : Gm) (O : Addr → Prop) (L : Lab) (m : List V) (σ : St) (H : Hp) (Qd : W → Z → Prop) (Q : VK) : Prop :=
  ∀ L' z' H' d v, Stp L H L' H' → Sim Γ O L' m z' σ H' → Wr Γ O L' m σ H' d v → Qd d z' → Q v H'
structure SE (Γ : Gm) (sc : Scope) (st : Names') (e : Expr) (w : WE) : Prop where
  ex : ∃ t : TE, (∀ X, Ctx Γ sc st X → PE X e t) ∧ ∀ (O : Addr → Prop) (L : Lab) (m : List V) (z : Z) (σ : St) (H : Hp) (Q : VK) (Qd : W → Z → Prop) (R : XR),
    Cl L → Sim Γ O L m z σ H → w z Qd R → Xok Γ O L m σ H R → PostE Γ O L m σ H Qd Q → t σ H Q
structure ST (Γ : Gm) (sc : Scope) (st : Names') (e : Expr) (w : WT) : Prop where
  ex : ∃ t : TT, (∀ X, Ctx Γ sc st X → PT X e t) ∧ ∀ (O : Addr → Prop) (L : Lab) (m : List V) (z : Z) (σ : St) (H : Hp) (Q : Bool → Hp → Prop) (Qd : Bool → Z → Prop) (R : XR),
    Cl L → Sim Γ O L m z σ H → w z Qd R → Xok Γ O L m σ H R → (∀ L' z' H' b, Stp L H L' H' → Cl L' → Sim Γ O L' m z' σ H' → Qd b z' → Q b H') → t σ H Q
inductive Wrs (Γ : Gm) (O : Addr → Prop) (L : Lab) (m : List V) (σ : St) (H : Hp) : List W → List V → Prop
  | nil : Wrs Γ O L m σ H [] []
  | cons {w : W} {v : V} {ws : List W} {vs : List V} : Wr Γ O L m σ H w v → Wrs Γ O L m σ H ws vs → Wrs Γ O L m σ H (w :: ws) (v :: vs)
abbrev WAs := Z → (List W → Z → Prop) → XR → Prop
structure SA (Γ : Gm) (sc : Scope) (st : Names') (es : List Expr) (w : WAs) : Prop where
  ex : ∃ t : TA, (∀ X, Ctx Γ sc st X → PA X es t) ∧ ∀ (O : Addr → Prop) (L : Lab) (m : List V) (z : Z) (σ : St) (H : Hp) (Q : List V → Hp → Prop) (Qd : List W → Z → Prop) (R : XR),
    Cl L → Sim Γ O L m z σ H → w z Qd R → Xok Γ O L m σ H R → (∀ L' z' H' ds vs, Stp L H L' H' → Cl L' → Sim Γ O L' m z' σ H' → Wrs Γ O L' m σ H' ds vs → ds.length = es.length → Qd ds z' → Q vs H') → t σ H Q

section
variable {Γ : Gm} {sc : Scope} {st : Names'} {O : Addr → Prop} {L L' : Lab} {m : List V} {z z' : Z} {σ : St} {H H' : Hp} {e a b c : Expr} {w wa wb wc : WE}
theorem Xok.later {R : XR} (h : Xok Γ O L m σ H R) (s : Stp L H L' H') : Xok Γ O L' m σ H' R := fun L2 m2 z2 σ2 H2 x cls d s2 => h L2 m2 z2 σ2 H2 x cls d (s.trans s2)
theorem Wr.later {x : W} {v : V} (s : Stp L H L' H') (c : Cl L') (hn : ∀ o, x ≠ .new o) (h : Wr Γ O L m σ H x v) : Wr Γ O L' m σ H' x v := by
  cases x with
  | d x => exact ⟨c, s.rep h.2⟩
  | cel j => exact ⟨c, h.2⟩
  | slot j => exact ⟨c, h.2⟩
  | new o => exact absurd rfl (hn o)
theorem Wrs.later {x : List W} {v : List V} (s : Stp L H L' H') (c : Cl L') (hn : ∀ y ∈ x, ∀ o, y ≠ .new o) (h : Wrs Γ O L m σ H x v) : Wrs Γ O L' m σ H' x v := by
  induction h with
  | nil => exact .nil
  | cons h1 h2 ih => exact .cons (h1.later s c (hn _ List.mem_cons_self)) (ih fun y hy => hn y (List.mem_cons_of_mem _ hy))
def fz : W → W
  | .new o => .d o.frz
  | w => w
theorem fz_nn (x : W) : ∀ o, fz x ≠ .new o := by
  intro o
  cases x <;> (intro h; cases h)
theorem Wr.cl {x : W} {v : V} (h : Wr Γ O L m σ H (fz x) v) : Cl L := by
  cases x <;> exact h.1
theorem wrD {x : D} {v : V} (c : Cl L) (r : Rep Γ.K Γ.C (Bd O L) H x v) : Wr Γ O L m σ H (.d x) v := ⟨c, r⟩
theorem wrC {j : Nat} {v : V} (c : Cl L) (r : m[j]? = some v) : Wr Γ O L m σ H (.cel j) v := ⟨c, r⟩
theorem wrS {j : Nat} {v : V} (c : Cl L) (r : σ[j]? = some (some v)) : Wr Γ O L m σ H (.slot j) v := ⟨c, r⟩
def wFr (w : WE) : WE := fun z Q R => w z (fun x z' => Q (fz x) z') R
/-- loose results are freed -/
theorem SE.f (h : SE Γ sc st e w) : ∃ t : TE, (∀ X, Ctx Γ sc st X → PE X e t) ∧ ∀ (O : Addr → Prop) (L : Lab) (m : List V) (z : Z) (σ : St) (H : Hp) (Q : VK) (Qd : W → Z → Prop) (R : XR),
    Cl L → Sim Γ O L m z σ H → wFr w z Qd R → Xok Γ O L m σ H R → (∀ L' z' H' d v, Stp L H L' H' → Cl L' → (∀ o, d ≠ .new o) → Sim Γ O L' m z' σ H' → Wr Γ O L' m σ H' d v → Qd d z' → Q v H') → t σ H Q := by
  obtain ⟨t, hp, hs⟩ := h
  refine ⟨t, hp, fun O L m z σ H Q Qd R cl S hw hx k => hs O L m z σ H Q _ R cl S hw hx fun L' z' H' d v s S' r q => ?_⟩
  cases d with
  | d x => exact k L' z' H' _ v s r.1 (fz_nn (.d x)) S' r q
  | cel j => exact k L' z' H' _ v s r.1 (fz_nn (.cel j)) S' r q
  | slot j => exact k L' z' H' _ v s r.1 (fz_nn (.slot j)) S' r q
  | new o => exact k (unres L') z' H' _ v (s.trans stp_unres) unres_cl (fz_nn (.new o)) S'.unres (wrD unres_cl (OVR.freed (B := fun _ => False) (fun a oa => (S'.st.out a oa).2) r)) q
theorem SE.fr (h : SE Γ sc st e w) : SE Γ sc st e (wFr w) := by
  obtain ⟨t, hp, hs⟩ := h.f
  exact ⟨t, hp, fun O L m z σ H Q Qd R cl S hw hx k => hs O L m z σ H Q Qd R cl S hw hx fun L' z' H' d v s _ _ S' r q => k L' z' H' d v s S' r q⟩

/-! ### names, constants -/
def wVar (i : Nat) : WE := fun z Q _ => match z.σ[i]? with
  | some (.d x) => Q (.d x) z
  | some (.own _) => Q (.slot i) z
  | some (.cel j) => Q (.cel j) z
  | _ => False
def wC (x : D) : WE := fun z Q _ => Q (.d x) z
def visB (sc : Scope) (x : Str) : Bool := (match sc.names.lookup x with
  | some .local => true
  | some .cell => true
  | some .free => true
  | _ => false) && decide (x ≠ ("__debug__" : Str)) && decide (x ≠ ("__classdict__" : Str))
theorem vis_of {x : Str} (h : visB sc x = true) : Vis sc x ∧ (x == ("__debug__" : Str)) = false ∧ (x == ("__classdict__" : Str)) = false := by
  unfold visB at h
  rw [Bool.and_eq_true, Bool.and_eq_true] at h
  obtain ⟨⟨h1, h2⟩, h3⟩ := h
  refine ⟨?_, beq_eq_false_iff_ne.mpr (of_decide_eq_true h2), beq_eq_false_iff_ne.mpr (of_decide_eq_true h3)⟩
  unfold Vis
  cases q : sc.names.lookup x with
  | none => rw [q] at h1; cases h1
  | some k =>
    rw [q] at h1
    cases k <;> first | exact .inl rfl | exact .inr (.inl rfl) | exact .inr (.inr rfl) | cases h1
theorem se_var {i : Nat} {x : Str} {pos : Pos} (hN : Γ.N[i]? = some x) (hv : visB sc x = true) : SE Γ sc st (.Name x pos) (wVar i) := by
  obtain ⟨v1, v2, v3⟩ := vis_of hv
  refine ⟨tVar i, fun X C => pe_var (by rw [C.N]; exact hN) (by rw [C.scp]; exact v1) v2 v3, fun O L m z σ H Q Qd R cl S hw hx k => ?_⟩
  have hw' : (match z.σ[i]? with
    | some (.d x) => Qd (.d x) z
    | some (.own _) => Qd (.slot i) z
    | some (.cel j) => Qd (.cel j) z
    | _ => False) := hw
  cases q : z.σ[i]? with
  | none => rw [q] at hw'; exact hw'.elim
  | some sv =>
    have h := S.slot q
    rw [q] at hw'
    cases sv with
    | none => exact hw'.elim
    | d x => obtain ⟨v, e, r⟩ := h; exact ⟨v, e, k L z H (.d x) v Stp.refl S ⟨cl, r⟩ hw'⟩
    | own o => obtain ⟨v, e, r⟩ := h; exact ⟨v, e, k L z H (.slot i) v Stp.refl S ⟨cl, e⟩ hw'⟩
    | cel j => obtain ⟨v, e, r⟩ := h; exact ⟨v, e, k L z H (.cel j) v Stp.refl S ⟨cl, r⟩ hw'⟩
theorem se_c {x : D} {v : V} (hp : ∀ X, Ctx Γ sc st X → PE X e (tC v)) (r : ∀ O L H, Rep Γ.K Γ.C (Bd O L) H x v) : SE Γ sc st e (wC x) :=
  ⟨tC v, hp, fun O L m z σ H Q Qd R cl S hw hx k => k L z H (.d x) v Stp.refl S ⟨cl, r O L H⟩ hw⟩
/-- a global name of the def -/
def glB (sc : Scope) (x : Str) : Bool := (match sc.names.lookup x with
  | some .globalImplicit => true
  | _ => false) && decide (x ≠ ("__debug__" : Str))
theorem gl_of {X : Cx} {x : Str} (C : Ctx Γ sc st X) (h : glB sc x = true) : Gl X x ∧ (x == ("__debug__" : Str)) = false := by
  unfold glB at h
  rw [Bool.and_eq_true] at h
  obtain ⟨h1, h2⟩ := h
  refine ⟨?_, beq_eq_false_iff_ne.mpr (of_decide_eq_true h2)⟩
  show X.env.scope.names.lookup x = _
  rw [C.scp]
  cases q : sc.names.lookup x with
  | none => rw [q] at h1; cases h1
  | some k =>
    rw [q] at h1
    cases k <;> first | rfl | cases h1
theorem se_glo {x : Str} {pos : Pos} {d : D} {v : V} {u : Value} (hg : glB sc x = true) (hm : Γ.mg x = some u) (r : RelV v u) (r' : ∀ O L H, Rep Γ.K Γ.C (Bd O L) H d v) : SE Γ sc st (.Name x pos) (wC d) :=
  se_c (fun X C => pe_glob (gl_of C hg).1 (by rw [C.mg]; exact hm) r (gl_of C hg).2) r'

/-! ### one and two operands -/
abbrev F1 := D → (W → Prop) → Prop
abbrev F2 := D → D → (W → Prop) → Prop
abbrev FN := List D → (W → Prop) → Prop
def wOp1 (f : F1) (a : WE) : WE := fun z Q R => wFr a z (fun x z1 => ∃ d, rd z1 x = some d ∧ f d fun w => Q w z1) R
def wOp2 (f : F2) (a b : WE) : WE := fun z Q R => wFr a z (fun x z1 => wFr b z1 (fun y z2 => ∃ d1 d2, rd z2 x = some d1 ∧ rd z2 y = some d2 ∧ f d1 d2 fun w => Q w z2) R) R
abbrev R1 := V → Hp → VK → Prop
def PostV (Γ : Gm) (O : Addr → Prop) (L : Lab) (m : List V) (z : Z) (σ : St) (H : Hp) (k : W → Prop) (Q : VK) : Prop :=
  ∀ L' H' w v, Stp L H L' H' → Sim Γ O L' m z σ H' → Wr Γ O L' m σ H' w v → k w → Q v H'
def R1S (Γ : Gm) (r : R1) (f : F1) : Prop := ∀ O L m z σ H x d k Q, Cl L → Sim Γ O L m z σ H → RepT Γ.K Γ.C (Bd O L) H d x → f d k → PostV Γ O L m z σ H k Q → r x H Q
def R2S (Γ : Gm) (r : R2) (f : F2) : Prop := ∀ O L m z σ H x y d e k Q, Cl L → Sim Γ O L m z σ H → RepT Γ.K Γ.C (Bd O L) H d x → RepT Γ.K Γ.C (Bd O L) H e y → f d e k → PostV Γ O L m z σ H k Q → r x y H Q
def RNS (Γ : Gm) (r : List V → Hp → VK → Prop) (f : FN) : Prop := ∀ O L m z σ H xs ds k Q, Cl L → Sim Γ O L m z σ H → RepTs Γ.K Γ.C (Bd O L) H ds xs → f ds k → PostV Γ O L m z σ H k Q → r xs H Q
theorem se_op1 {r : R1} {f : F1} (hr : R1S Γ r f) (ha : SE Γ sc st a wa) (hp : ∀ X ta, Ctx Γ sc st X → PE X a ta → PE X e (fun σ H Q => ta σ H fun x H1 => r x H1 Q)) : SE Γ sc st e (wOp1 f wa) := by
  obtain ⟨ta, pa, sa⟩ := ha.f
  refine ⟨_, fun X C => hp X ta C (pa X C), fun O L m z σ H Q Qd R cl S hw hx k => ?_⟩
  refine sa O L m z σ H _ _ R cl S hw hx fun L1 z1 H1 x v s1 c1 n1 S1 r1 q => ?_
  obtain ⟨d, e1, q⟩ := q
  exact hr O L1 m z1 σ H1 v d _ Q c1 S1 (S1.rdT r1 e1) q fun L' H' w v' s' S' r' q' => k L' z1 H' w v' (s1.trans s') S' r' q'
theorem se_op2 {r : R2} {f : F2} (hr : R2S Γ r f) (ha : SE Γ sc st a wa) (hb : SE Γ sc st b wb) (hp : ∀ X ta tb, Ctx Γ sc st X → PE X a ta → PE X b tb → PE X e (tOp r ta tb)) : SE Γ sc st e (wOp2 f wa wb) := by
  obtain ⟨ta, pa, sa⟩ := ha.f
  obtain ⟨tb, pb, sb⟩ := hb.f
  refine ⟨_, fun X C => hp X ta tb C (pa X C) (pb X C), fun O L m z σ H Q Qd R cl S hw hx k => ?_⟩
  refine sa O L m z σ H _ _ R cl S hw hx fun L1 z1 H1 x v s1 c1 n1 S1 r1 q => ?_
  refine sb O L1 m z1 σ H1 _ _ R c1 S1 q (hx.later s1) fun L2 z2 H2 y u s2 c2 n2 S2 r2 q2 => ?_
  obtain ⟨d1, d2, e1, e2, q2⟩ := q2
  have r1' := Wr.later s2 c2 n1 r1
  exact hr O L2 m z2 σ H2 v u d1 d2 _ Q c2 S2 (S2.rdT r1' e1) (S2.rdT r2 e2) q2 fun L' H' w v' s' S' r' q' => k L' z2 H' w v' ((s1.trans s2).trans s') S' r' q'

/-! ### argument lists -/
def wNil : WAs := fun z Q _ => Q [] z
def wCons (a : WE) (r : WAs) : WAs := fun z Q R => wFr a z (fun x z1 => r z1 (fun xs z2 => Q (x :: xs) z2) R) R
/-- the written ones are no loose results -/
def Nn (ws : List W) : Prop := ∀ y ∈ ws, ∀ o, y ≠ W.new o
theorem sa_nil : SA Γ sc st [] wNil := ⟨tNil, fun X C => pa_nil, fun O L m z σ H Q Qd R cl S hw hx k => k L z H [] [] Stp.refl cl S .nil rfl hw⟩
theorem sa_cons {es : List Expr} {wr : WAs} (ha : SE Γ sc st a wa) (hr : SA Γ sc st es wr) (hs : ∀ env, starEach (a :: es) env = (false, eval a env) :: starEach es env) : SA Γ sc st (a :: es) (wCons wa wr) := by
  obtain ⟨ta, pa, sa⟩ := ha.f
  obtain ⟨tr, pr, sr⟩ := hr.ex
  refine ⟨tCons ta tr, fun X C => pa_cons (pa X C) (pr X C) (hs _), fun O L m z σ H Q Qd R cl S hw hx k => ?_⟩
  refine sa O L m z σ H _ _ R cl S hw hx fun L1 z1 H1 x v s1 c1 n1 S1 r1 q => ?_
  refine sr O L1 m z1 σ H1 _ _ R c1 S1 q (hx.later s1) fun L2 z2 H2 xs vs s2 c2 S2 r2 l2 q2 => ?_
  exact k L2 z2 H2 _ _ (s1.trans s2) c2 S2 (.cons (Wr.later s2 c2 n1 r1) r2) (congrArg Nat.succ l2) q2
theorem Sim.rdTs (S : Sim Γ O L m z σ H) : ∀ {ws : List W} {vs : List V} {ds : List D}, Wrs Γ O L m σ H ws vs → rdAll z ws = some ds → RepTs Γ.K Γ.C (Bd O L) H ds vs
  | _, _, _, .nil, e => by cases e; exact .nil
  | _, _, ds, .cons (w := w) (ws := ws) r rs, e => by
    have e0 : (match rd z w, rdAll z ws with
      | some d, some ds => some (d :: ds)
      | _, _ => none) = some ds := e
    cases q1 : rd z w with
    | none => rw [q1] at e0; cases e0
    | some d =>
      rw [q1] at e0
      cases q2 : rdAll z ws with
      | none => rw [q2] at e0; cases e0
      | some ds' =>
        rw [q2] at e0
        cases e0
        exact .cons (S.rdT r q1) (Sim.rdTs S rs q2)
/-- a call of known values by their data -/
def wCallB (f : FN) (as : WAs) : WE := fun z Q R => as z (fun ws z1 => ∃ ds, rdAll z1 ws = some ds ∧ f ds fun w => Q w z1) R
theorem se_callN {r : List V → Hp → VK → Prop} {f : FN} {es : List Expr} {was : WAs} (hr : RNS Γ r f) (ha : SA Γ sc st es was) (hp : ∀ X ta, Ctx Γ sc st X → PA X es ta → PE X e (fun σ H Q => ta σ H fun xs H1 => r xs H1 Q)) : SE Γ sc st e (wCallB f was) := by
  obtain ⟨ta, pa, sa⟩ := ha.ex
  refine ⟨_, fun X C => hp X ta C (pa X C), fun O L m z σ H Q Qd R cl S hw hx k => ?_⟩
  refine sa O L m z σ H _ _ R cl S hw hx fun L1 z1 H1 ws vs s1 c1 S1 r1 l1 q => ?_
  obtain ⟨ds, e1, q⟩ := q
  exact hr O L1 m z1 σ H1 vs ds _ Q c1 S1 (S1.rdTs r1 e1) q fun L' H' w v' s' S' r' q' => k L' z1 H' w v' (s1.trans s') S' r' q'

/-! ### tests -/
def wAsT (a : WE) : WT := fun z Q R => wFr a z (fun x z1 => ∃ b, x = .d (.bl b) ∧ Q b z1) R
/-- a bool by its expression, where the test's own rule gives that reading -/
theorem st_of {t' : TE → TT} (ha : SE Γ sc st a wa) (hp : ∀ X ta, Ctx Γ sc st X → PE X a ta → PT X e (tB ta)) : ST Γ sc st e (wAsT wa) := by
  obtain ⟨ta, pa, sa⟩ := ha.f
  refine ⟨_, fun X C => hp X ta C (pa X C), fun O L m z σ H Q Qd R cl S hw hx k => ?_⟩
  refine sa O L m z σ H _ _ R cl S hw hx fun L1 z1 H1 x v s1 c1 n1 S1 r1 q => ?_
  obtain ⟨b, rfl, q⟩ := q
  have r1' := r1.2
  cases r1'
  exact ⟨b, rfl, k L1 z1 H1 b s1 c1 S1 q⟩
def wTNot (t : WT) : WT := fun z Q R => t z (fun b z1 => Q (!b) z1) R
theorem st_not {wt : WT} {pos : Pos} (ha : ST Γ sc st a wt) : ST Γ sc st (.UnaryOp .Not a pos) (wTNot wt) := by
  obtain ⟨ta, pa, sa⟩ := ha.ex
  exact ⟨_, fun X C => pt_not (pa X C), fun O L m z σ H Q Qd R cl S hw hx k => sa O L m z σ H _ _ R cl S hw hx fun L' z' H' b s c S' q => k L' z' H' _ s c S' q⟩
/-- the parts of an and, an or as a test -/
structure SW (Γ : Gm) (sc : Scope) (st : Names') (op : BoolOp) (es : List Expr) (w : WT) : Prop where
  ex : ∃ t : TT, (∀ X pos, Ctx Γ sc st X → PW X (.BoolOp op es pos) t) ∧ ∀ (O : Addr → Prop) (L : Lab) (m : List V) (z : Z) (σ : St) (H : Hp) (Q : Bool → Hp → Prop) (Qd : Bool → Z → Prop) (R : XR),
    Cl L → Sim Γ O L m z σ H → w z Qd R → Xok Γ O L m σ H R → (∀ L' z' H' b, Stp L H L' H' → Cl L' → Sim Γ O L' m z' σ H' → Qd b z' → Q b H') → t σ H Q
def wTAnd (t u : WT) : WT := fun z Q R => t z (fun b z1 => if b = true then u z1 Q R else Q false z1) R
def wTOr (t u : WT) : WT := fun z Q R => t z (fun b z1 => if b = true then Q true z1 else u z1 Q R) R
theorem sw_and1 {wt : WT} (ha : ST Γ sc st a wt) : SW Γ sc st .And [a] wt := by
  obtain ⟨ta, pa, sa⟩ := ha.ex
  exact ⟨ta, fun X pos C => pw_and1 (pa X C), sa⟩
theorem sw_or1 {wt : WT} (ha : ST Γ sc st a wt) : SW Γ sc st .Or [a] wt := by
  obtain ⟨ta, pa, sa⟩ := ha.ex
  exact ⟨ta, fun X pos C => pw_or1 (pa X C), sa⟩
theorem sw_and {es : List Expr} {wt wu : WT} (ha : ST Γ sc st a wt) (hb : SW Γ sc st .And (b :: es) wu) : SW Γ sc st .And (a :: b :: es) (wTAnd wt wu) := by
  obtain ⟨ta, pa, sa⟩ := ha.ex
  obtain ⟨tb, pb, sb⟩ := hb.ex
  refine ⟨_, fun X pos C => pw_and (pa X C) (pb X pos C), fun O L m z σ H Q Qd R cl S hw hx k => ?_⟩
  refine sa O L m z σ H _ _ R cl S hw hx fun L1 z1 H1 b s1 c1 S1 q => ?_
  cases b with
  | true => exact sb O L1 m z1 σ H1 Q Qd R c1 S1 q (hx.later s1) fun L2 z2 H2 b2 s2 c2 S2 q2 => k L2 z2 H2 b2 (s1.trans s2) c2 S2 q2
  | false => exact k L1 z1 H1 false s1 c1 S1 q
theorem sw_or {es : List Expr} {wt wu : WT} (ha : ST Γ sc st a wt) (hb : SW Γ sc st .Or (b :: es) wu) : SW Γ sc st .Or (a :: b :: es) (wTOr wt wu) := by
  obtain ⟨ta, pa, sa⟩ := ha.ex
  obtain ⟨tb, pb, sb⟩ := hb.ex
  refine ⟨_, fun X pos C => pw_or (pa X C) (pb X pos C), fun O L m z σ H Q Qd R cl S hw hx k => ?_⟩
  refine sa O L m z σ H _ _ R cl S hw hx fun L1 z1 H1 b s1 c1 S1 q => ?_
  cases b with
  | false => exact sb O L1 m z1 σ H1 Q Qd R c1 S1 q (hx.later s1) fun L2 z2 H2 b2 s2 c2 S2 q2 => k L2 z2 H2 b2 (s1.trans s2) c2 S2 q2
  | true => exact k L1 z1 H1 true s1 c1 S1 q
theorem SW.toT {op : BoolOp} {es : List Expr} {wt : WT} {pos : Pos} (h : SW Γ sc st op es wt) : ST Γ sc st (.BoolOp op es pos) wt := by
  obtain ⟨t, p, s⟩ := h.ex
  exact ⟨t, fun X C => (p X pos C).pt, s⟩

/-! ### and, or, not as values (all but the last one True or False); a if t else b -/
structure SV' (Γ : Gm) (sc : Scope) (st : Names') (op : BoolOp) (es : List Expr) (w : WE) : Prop where
  ex : ∃ t : TE, (∀ X pos, Ctx Γ sc st X → PE X (.BoolOp op es pos) t) ∧ ∀ (O : Addr → Prop) (L : Lab) (m : List V) (z : Z) (σ : St) (H : Hp) (Q : VK) (Qd : W → Z → Prop) (R : XR),
    Cl L → Sim Γ O L m z σ H → w z Qd R → Xok Γ O L m σ H R → PostE Γ O L m σ H Qd Q → t σ H Q
def wAnd (a b : WE) : WE := fun z Q R => wFr a z (fun x z1 => ∃ k, x = .d (.bl k) ∧ if k = true then b z1 Q R else Q (.d (.bl false)) z1) R
def wOr (a b : WE) : WE := fun z Q R => wFr a z (fun x z1 => ∃ k, x = .d (.bl k) ∧ if k = true then Q (.d (.bl true)) z1 else b z1 Q R) R
theorem sv_one {op : BoolOp} (ha : SE Γ sc st a wa) : SV' Γ sc st op [a] wa := by
  obtain ⟨ta, pa, sa⟩ := ha.ex
  exact ⟨ta, fun X pos C => pe_one (pa X C), sa⟩
theorem sv_and {es : List Expr} (ha : SE Γ sc st a wa) (hb : SV' Γ sc st .And (b :: es) wb) : SV' Γ sc st .And (a :: b :: es) (wAnd wa wb) := by
  obtain ⟨ta, pa, sa⟩ := ha.f
  obtain ⟨tb, pb, sb⟩ := hb.ex
  refine ⟨_, fun X pos C => pe_and (pa X C) (pb X pos C), fun O L m z σ H Q Qd R cl S hw hx k => ?_⟩
  refine sa O L m z σ H _ _ R cl S hw hx fun L1 z1 H1 x v s1 c1 n1 S1 r1 q => ?_
  obtain ⟨j, rfl, q⟩ := q
  have r1' := r1.2
  cases r1'
  refine ⟨j, rfl, ?_⟩
  cases j with
  | true => exact sb O L1 m z1 σ H1 Q Qd R c1 S1 q (hx.later s1) fun L2 z2 H2 b2 v2 s2 S2 r2 q2 => k L2 z2 H2 b2 v2 (s1.trans s2) S2 r2 q2
  | false => exact k L1 z1 H1 _ _ s1 S1 (wrD c1 (.bl false)) q
theorem sv_or {es : List Expr} (ha : SE Γ sc st a wa) (hb : SV' Γ sc st .Or (b :: es) wb) : SV' Γ sc st .Or (a :: b :: es) (wOr wa wb) := by
  obtain ⟨ta, pa, sa⟩ := ha.f
  obtain ⟨tb, pb, sb⟩ := hb.ex
  refine ⟨_, fun X pos C => pe_or (pa X C) (pb X pos C), fun O L m z σ H Q Qd R cl S hw hx k => ?_⟩
  refine sa O L m z σ H _ _ R cl S hw hx fun L1 z1 H1 x v s1 c1 n1 S1 r1 q => ?_
  obtain ⟨j, rfl, q⟩ := q
  have r1' := r1.2
  cases r1'
  refine ⟨j, rfl, ?_⟩
  cases j with
  | false => exact sb O L1 m z1 σ H1 Q Qd R c1 S1 q (hx.later s1) fun L2 z2 H2 b2 v2 s2 S2 r2 q2 => k L2 z2 H2 b2 v2 (s1.trans s2) S2 r2 q2
  | true => exact k L1 z1 H1 _ _ s1 S1 (wrD c1 (.bl true)) q
theorem SV'.se {op : BoolOp} {es : List Expr} {pos : Pos} (h : SV' Γ sc st op es w) : SE Γ sc st (.BoolOp op es pos) w := by
  obtain ⟨t, p, s⟩ := h.ex
  exact ⟨t, fun X C => p X pos C, s⟩
def wIf (t : WT) (a b : WE) : WE := fun z Q R => t z (fun k z1 => if k = true then a z1 Q R else b z1 Q R) R
theorem se_if {wt : WT} {pos : Pos} (hc : ST Γ sc st c wt) (ha : SE Γ sc st a wa) (hb : SE Γ sc st b wb) : SE Γ sc st (.IfExp c a b pos) (wIf wt wa wb) := by
  obtain ⟨tc, pc, sc'⟩ := hc.ex
  obtain ⟨ta, pa, sa⟩ := ha.ex
  obtain ⟨tb, pb, sb⟩ := hb.ex
  refine ⟨_, fun X C => pe_ifExp (pc X C) (pa X C) (pb X C), fun O L m z σ H Q Qd R cl S hw hx k => ?_⟩
  refine sc' O L m z σ H _ _ R cl S hw hx fun L1 z1 H1 j s1 c1 S1 q => ?_
  cases j with
  | true => exact sa O L1 m z1 σ H1 Q Qd R c1 S1 q (hx.later s1) fun L2 z2 H2 b2 v2 s2 S2 r2 q2 => k L2 z2 H2 b2 v2 (s1.trans s2) S2 r2 q2
  | false => exact sb O L1 m z1 σ H1 Q Qd R c1 S1 q (hx.later s1) fun L2 z2 H2 b2 v2 s2 S2 r2 q2 => k L2 z2 H2 b2 v2 (s1.trans s2) S2 r2 q2
/-- not, by truth of a bool -/
def wNot (a : WE) : WE := fun z Q R => wFr a z (fun x z1 => ∃ k, x = .d (.bl k) ∧ Q (.d (.bl (!k))) z1) R
theorem se_not {pos : Pos} (ha : SE Γ sc st a wa) : SE Γ sc st (.UnaryOp .Not a pos) (wNot wa) := by
  obtain ⟨ta, pa, sa⟩ := ha.f
  refine ⟨_, fun X C => pe_not (pa X C), fun O L m z σ H Q Qd R cl S hw hx k => ?_⟩
  refine sa O L m z σ H _ _ R cl S hw hx fun L1 z1 H1 x v s1 c1 n1 S1 r1 q => ?_
  obtain ⟨j, rfl, q⟩ := q
  have r1' := r1.2
  cases r1'
  exact ⟨j, rfl, k L1 z1 H1 _ _ s1 S1 (wrD c1 (.bl _)) q⟩

/-! ### tuples, lists as written -/
def allD : List W → Option (List D)
  | [] => some []
  | .d x :: r => match allD r with
    | some xs => some (x :: xs)
    | none => none
  | _ :: _ => none
theorem allD_rep : ∀ {ws : List W} {vs : List V} {ds : List D}, Wrs Γ O L m σ H ws vs → allD ws = some ds → RepL Γ.K Γ.C (Bd O L) H ds vs
  | _, _, _, .nil, e => by cases e; exact .nil
  | _, _, ds, .cons (w := w) (ws := ws) r rs, e => by
    cases w with
    | d x =>
      have e0 : (match allD ws with
        | some xs => some (x :: xs)
        | none => none) = some ds := e
      cases q : allD ws with
      | none => rw [q] at e0; cases e0
      | some xs =>
        rw [q] at e0
        cases e0
        exact .cons r.2 (allD_rep rs q)
    | cel j => cases e
    | slot j => cases e
    | new o => cases e
def wTup (as : WAs) : WE := fun z Q R => as z (fun ws z1 => ∃ ds, allD ws = some ds ∧ ds.length ≤ sizeLine ∧ Q (.d (.tup ds)) z1) R
def wLst (as : WAs) : WE := fun z Q R => as z (fun ws z1 => ∃ ds, allD ws = some ds ∧ ds.length ≤ sizeLine ∧ Q (.new (.lst ds)) z1) R
theorem se_tup {es : List Expr} {was : WAs} {k : Nat} {pos : Pos} (ha : SA Γ sc st es was) : SE Γ sc st (.Tuple es k pos) (wTup was) := by
  obtain ⟨ta, pa, sa⟩ := ha.ex
  refine ⟨_, fun X C => pe_tup (pa X C), fun O L m z σ H Q Qd R cl S hw hx k => ?_⟩
  refine sa O L m z σ H _ _ R cl S hw hx fun L1 z1 H1 ws vs s1 c1 S1 r1 l1 q => ?_
  obtain ⟨ds, e1, hz, q⟩ := q
  have rl := allD_rep r1 e1
  refine ⟨by rw [← rl.length]; exact hz, fun p hp => ?_⟩
  exact k L1 z1 _ _ _ (s1.trans (stp_new hp)) (S1.new _ hp) (wrD c1 (rep_newT rl hp S1.st)) q
theorem se_lst {es : List Expr} {was : WAs} {pos : Pos} (ha : SA Γ sc st es was) : SE Γ sc st (.List es pos) (wLst was) := by
  obtain ⟨ta, pa, sa⟩ := ha.ex
  refine ⟨_, fun X C => pe_lst (pa X C), fun O L m z σ H Q Qd R cl S hw hx k => ?_⟩
  refine sa O L m z σ H _ _ R cl S hw hx fun L1 z1 H1 ws vs s1 c1 S1 r1 l1 q => ?_
  obtain ⟨ds, e1, hz, q⟩ := q
  have rl := allD_rep r1 e1
  refine ⟨by rw [← rl.length]; exact hz, fun p hp => ?_⟩
  exact k (lab L1 p (.res [])) z1 _ (.new (.lst ds)) _ (s1.trans (stp_newL hp)) (S1.newL _ _ hp) (ovr_newL rl hp) q
end
end Eng

end
section
set_option Elab.async false
set_option linter.all false
set_option maxRecDepth 100000
/-! Eng4: statements, targets, loops. -/
namespace Eng
open PySem PySem.Spec PyProof.Rows L2

structure EdOk (Γ : Gm) (O : Addr → Prop) (L : Lab) (m : List V) (H : Hp) (Dd : Ed) (D : Ends) : Prop where
  nx : ∀ L' m' z' σ' H', Stp L H L' H' → m <+: m' → Cl L' → Sim Γ O L' m' z' σ' H' → Dd.nx z' → D.nx σ' H'
  rt : ∀ L' m' z' σ' H' w v, Stp L H L' H' → m <+: m' → Sim Γ O L' m' z' σ' H' → Wr Γ O L' m' σ' H' w v → Dd.rt w z' → D.rt v H'
  bk : ∀ L' m' z' σ' H', Stp L H L' H' → m <+: m' → Cl L' → Sim Γ O L' m' z' σ' H' → Dd.bk z' → D.bk σ' H'
  ct : ∀ L' m' z' σ' H', Stp L H L' H' → m <+: m' → Cl L' → Sim Γ O L' m' z' σ' H' → Dd.ct z' → D.ct σ' H'
structure SS (Γ : Gm) (sc : Scope) (st : Names') (s : Stmt) (w : WS) : Prop where
  ex : ∃ t : TS, (∀ X, Ctx Γ sc st X → PS X s t) ∧ ∀ (O : Addr → Prop) (L : Lab) (m : List V) (z : Z) (σ : St) (H : Hp) (D : Ends) (Dd : Ed) (R : XR),
    Cl L → Sim Γ O L m z σ H → w z Dd R → Xok Γ O L m σ H R → EdOk Γ O L m H Dd D → t D σ H
structure SSs (Γ : Gm) (sc : Scope) (st : Names') (s : List Stmt) (w : WS) : Prop where
  ex : ∃ t : TS, (∀ X, Ctx Γ sc st X → PSs X s t) ∧ ∀ (O : Addr → Prop) (L : Lab) (m : List V) (z : Z) (σ : St) (H : Hp) (D : Ends) (Dd : Ed) (R : XR),
    Cl L → Sim Γ O L m z σ H → w z Dd R → Xok Γ O L m σ H R → EdOk Γ O L m H Dd D → t D σ H
abbrev WG := D → Z → (Z → Prop) → XR → Prop
abbrev WGs := List D → Z → (Z → Prop) → XR → Prop
/-- a target of data; vs: the slots that it stores -/
structure SG (Γ : Gm) (sc : Scope) (st : Names') (e : Expr) (vs : List Nat) (w : WG) : Prop where
  ex : ∃ t : TG, (∀ X, Ctx Γ sc st X → PG X e t) ∧ ∀ (O : Addr → Prop) (L : Lab) (m : List V) (z : Z) (σ : St) (H : Hp) (d : D) (v : V) (Q : St → Hp → Prop) (Qd : Z → Prop) (R : XR),
    Cl L → Sim Γ O L m z σ H → Rep Γ.K Γ.C (Bd O L) H d v → w d z Qd R → Xok Γ O L m σ H R →
    (∀ L' z' σ' H', Stp L H L' H' → Cl L' → Sim Γ O L' m z' σ' H' → σ'.length = σ.length → (∀ i, i ∉ vs → σ'[i]? = σ[i]?) → Qd z' → Q σ' H') → t v σ H Q
structure SGs (Γ : Gm) (sc : Scope) (st : Names') (es : List Expr) (vs : List Nat) (w : WGs) : Prop where
  ex : ∃ t : TGs, (∀ X, Ctx Γ sc st X → PGs X es t) ∧ ∀ (O : Addr → Prop) (L : Lab) (m : List V) (z : Z) (σ : St) (H : Hp) (ds : List D) (us : List V) (Q : St → Hp → Prop) (Qd : Z → Prop) (R : XR),
    Cl L → Sim Γ O L m z σ H → RepL Γ.K Γ.C (Bd O L) H ds us → w ds z Qd R → Xok Γ O L m σ H R →
    (∀ L' z' σ' H', Stp L H L' H' → Cl L' → Sim Γ O L' m z' σ' H' → σ'.length = σ.length → (∀ i, i ∉ vs → σ'[i]? = σ[i]?) → Qd z' → Q σ' H') → t us σ H Q

section
variable {Γ : Gm} {sc : Scope} {st : Names'} {O : Addr → Prop} {L L' : Lab} {m m' : List V} {z z' : Z} {σ : St} {H H' : Hp} {e a b c : Expr} {w wa wb wc : WE} {s : Stmt} {ss : List Stmt} {u u' : WS} {pos : Pos}
theorem EdOk.later {Dd : Ed} {D : Ends} (h : EdOk Γ O L m H Dd D) (s : Stp L H L' H') (p : m <+: m') : EdOk Γ O L' m' H' Dd D :=
  ⟨fun L2 m2 z2 σ2 H2 s2 p2 => h.nx L2 m2 z2 σ2 H2 (s.trans s2) (p.trans p2), fun L2 m2 z2 σ2 H2 w v s2 p2 => h.rt L2 m2 z2 σ2 H2 w v (s.trans s2) (p.trans p2),
   fun L2 m2 z2 σ2 H2 s2 p2 => h.bk L2 m2 z2 σ2 H2 (s.trans s2) (p.trans p2), fun L2 m2 z2 σ2 H2 s2 p2 => h.ct L2 m2 z2 σ2 H2 (s.trans s2) (p.trans p2)⟩
theorem Xok.at {R : XR} {σ' : St} (h : Xok Γ O L m σ H R) (s : Stp L H L' H') (p : m <+: m') : Xok Γ O L' m' σ' H' R := fun L2 m2 z2 σ2 H2 x cls d s2 p2 => h L2 m2 z2 σ2 H2 x cls d (s.trans s2) (p.trans p2)
theorem pre_refl : m <+: m := List.prefix_refl m

/-! ### blocks -/
def wNx : WS := fun z D _ => D.nx z
def wSeq (u u' : WS) : WS := fun z D R => u z { D with nx := fun z' => u' z' D R } R
theorem sss_nil : SSs Γ sc st [] wNx := ⟨tNext, fun X C => pss_nil, fun O L m z σ H D Dd R cl S hw hx k => k.nx L m z σ H Stp.refl pre_refl cl S hw⟩
theorem sss_cons (h1 : SS Γ sc st s u) (h2 : SSs Γ sc st ss u') : SSs Γ sc st (s :: ss) (wSeq u u') := by
  obtain ⟨t1, p1, s1⟩ := h1.ex
  obtain ⟨t2, p2, s2⟩ := h2.ex
  refine ⟨_, fun X C => pss_cons (p1 X C) (p2 X C), fun O L m z σ H D Dd R cl S hw hx k => ?_⟩
  refine s1 O L m z σ H _ _ R cl S hw hx ⟨fun L' m' z' σ' H' st' p c S' q => ?_, k.rt, k.bk, k.ct⟩
  exact s2 O L' m' z' σ' H' D Dd R c S' q (hx.at st' p) (k.later st' p)
/-- a ghost step: nothing runs -/
def wNever : WS := fun _ _ _ => False
theorem ss_never : SS Γ sc st s wNever := ⟨tNever, fun X C => ps_never, fun O L m z σ H D Dd R cl S hw hx k => hw⟩
theorem ss_pass : SS Γ sc st (.Pass pos) wNx := ⟨tNext, fun X C => ps_pass, fun O L m z σ H D Dd R cl S hw hx k => k.nx L m z σ H Stp.refl pre_refl cl S hw⟩
def wBk : WS := fun z D _ => D.bk z
def wCt : WS := fun z D _ => D.ct z
theorem ss_brk : SS Γ sc st (.Break pos) wBk := ⟨tBreak, fun X C => ps_break, fun O L m z σ H D Dd R cl S hw hx k => k.bk L m z σ H Stp.refl pre_refl cl S hw⟩
theorem ss_cont : SS Γ sc st (.Continue pos) wCt := ⟨tCont, fun X C => ps_continue, fun O L m z σ H D Dd R cl S hw hx k => k.ct L m z σ H Stp.refl pre_refl cl S hw⟩
def wEx (a : WE) : WS := fun z D R => wFr a z (fun _ z1 => D.nx z1) R
theorem ss_ex (ha : SE Γ sc st a wa) (hs : ∀ env, swapsWith a none pos.line env = pure false) : SS Γ sc st (.Expr a pos) (wEx wa) := by
  obtain ⟨ta, pa, sa⟩ := ha.f
  refine ⟨_, fun X C => ps_expr (pa X C) (hs _), fun O L m z σ H D Dd R cl S hw hx k => ?_⟩
  exact sa O L m z σ H _ _ R cl S hw hx fun L1 z1 H1 x v s1 c1 n1 S1 r1 q => k.nx L1 m z1 σ H1 s1 pre_refl c1 S1 q
def wRt (a : WE) : WS := fun z D R => wFr a z D.rt R
/-- return of a loose result as it is -/
def wRtO (a : WE) : WS := fun z D R => a z D.rt R
theorem ss_ret (ha : SE Γ sc st a wa) : SS Γ sc st (.Return (some a) pos) (wRt wa) := by
  obtain ⟨ta, pa, sa⟩ := ha.f
  refine ⟨_, fun X C => ps_ret (pa X C), fun O L m z σ H D Dd R cl S hw hx k => ?_⟩
  exact sa O L m z σ H _ _ R cl S hw hx fun L1 z1 H1 x v s1 c1 n1 S1 r1 q => k.rt L1 m z1 σ H1 x v s1 pre_refl S1 r1 q
theorem ss_retO (ha : SE Γ sc st a wa) : SS Γ sc st (.Return (some a) pos) (wRtO wa) := by
  obtain ⟨ta, pa, sa⟩ := ha.ex
  refine ⟨_, fun X C => ps_ret (pa X C), fun O L m z σ H D Dd R cl S hw hx k => ?_⟩
  exact sa O L m z σ H _ _ R cl S hw hx fun L1 z1 H1 x v s1 S1 r1 q => k.rt L1 m z1 σ H1 x v s1 pre_refl S1 r1 q
def wRtN : WS := fun z D _ => D.rt (.d .non) z
theorem ss_retN : SS Γ sc st (.Return none pos) wRtN := ⟨tRetN, fun X C => ps_retN, fun O L m z σ H D Dd R cl S hw hx k => k.rt L m z σ H (.d .non) .non Stp.refl pre_refl S (wrD cl .non) hw⟩
def wIfS (t : WT) (u u' : WS) : WS := fun z D R => t z (fun k z1 => if k = true then u z1 D R else u' z1 D R) R
theorem ss_if {wt : WT} {xs ys : List Stmt} (hc : ST Γ sc st c wt) (ha : SSs Γ sc st xs u) (hb : SSs Γ sc st ys u') : SS Γ sc st (.If c xs ys pos) (wIfS wt u u') := by
  obtain ⟨tc, pc, sc'⟩ := hc.ex
  obtain ⟨ta, pa, sa⟩ := ha.ex
  obtain ⟨tb, pb, sb⟩ := hb.ex
  refine ⟨_, fun X C => ps_if (pc X C) (pa X C) (pb X C), fun O L m z σ H D Dd R cl S hw hx k => ?_⟩
  refine sc' O L m z σ H _ _ R cl S hw hx fun L1 z1 H1 j s1 c1 S1 q => ?_
  cases j with
  | true => exact sa O L1 m z1 σ H1 D Dd R c1 S1 q (hx.later s1) (k.later s1 pre_refl)
  | false => exact sb O L1 m z1 σ H1 D Dd R c1 S1 q (hx.later s1) (k.later s1 pre_refl)

/-! ### targets -/
def gN (i : Nat) : WG := fun d z Q _ => Q { z with σ := z.σ.set i (.d d) }
def stoB (st : Names') (x : Str) : Bool := match st.lookup x with
  | some .local => true
  | some .cell => true
  | _ => false
theorem sto_of {x : Str} (h : stoB st x = true) : st.lookup x = some .local ∨ st.lookup x = some .cell := by
  unfold stoB at h
  cases q : st.lookup x with
  | none => rw [q] at h; cases h
  | some k =>
    rw [q] at h
    cases k <;> first | exact .inl rfl | exact .inr rfl | cases h
theorem Ctx.ix {X : Cx} (C : Ctx Γ sc st X) {i : Nat} {x : Str} (h : Γ.N[i]? = some x) : X.N[i]? = some x := by rw [C.N]; exact h
theorem Ctx.ndX {X : Cx} (C : Ctx Γ sc st X) : X.N.Nodup := by rw [C.N]; exact C.nd
theorem sg_name {i : Nat} {x : Str} (hN : Γ.N[i]? = some x) (hs : stoB st x = true) : SG Γ sc st (.Name x pos) [i] (gN i) := by
  refine ⟨gName i, fun X C => pg_name C.ndX (C.ix hN) (C.fn x (sto_of hs)).1 (C.fn x (sto_of hs)).2, fun O L m z σ H d v Q Qd R cl S r hw hx k => ?_⟩
  exact k L _ _ H Stp.refl cl (S.setD i r) (by simp) (fun j hj => List.getElem?_set_ne (fun e => hj (by simp [e]))) hw
def gNil : WGs := fun ds z Q _ => ds = [] ∧ Q z
def gCons (g : WG) (r : WGs) : WGs := fun ds z Q R => ∃ d ds', ds = d :: ds' ∧ g d z (fun z1 => r ds' z1 Q R) R
theorem sgs_nil : SGs Γ sc st [] [] gNil := by
  refine ⟨L2.gNil, fun X C => pgs_nil, fun O L m z σ H ds us Q Qd R cl S r hw hx k => ?_⟩
  obtain ⟨rfl, hw⟩ := hw
  cases r
  exact ⟨rfl, k L z σ H Stp.refl cl S rfl (fun _ _ => rfl) hw⟩
theorem sgs_cons {es : List Expr} {vs vs' : List Nat} {g : WG} {r : WGs} (h1 : SG Γ sc st e vs g) (h2 : SGs Γ sc st es vs' r)
    (hs : ∀ env, (assignEach (e :: es) env).map (·.2) = assign e env :: (assignEach es env).map (·.2)) : SGs Γ sc st (e :: es) (vs ++ vs') (gCons g r) := by
  obtain ⟨t1, p1, s1⟩ := h1.ex
  obtain ⟨t2, p2, s2⟩ := h2.ex
  refine ⟨_, fun X C => pgs_cons (p1 X C) (p2 X C) (hs _), fun O L m z σ H ds us Q Qd R cl S rr hw hx k => ?_⟩
  obtain ⟨d, ds', rfl, hw⟩ := hw
  cases rr with
  | cons q qs =>
    refine ⟨_, _, rfl, s1 O L m z σ H d _ _ _ R cl S q hw hx fun L1 z1 σ1 H1 st1 c1 S1 l1 o1 q1 => ?_⟩
    refine s2 O L1 m z1 σ1 H1 ds' _ Q Qd R c1 S1 (qs.mono (Stp.m st1)) q1 (hx.at st1 pre_refl) fun L2 z2 σ2 H2 st2 c2 S2 l2 o2 q2 => ?_
    refine k L2 z2 σ2 H2 (st1.trans st2) c2 S2 (l2.trans l1) (fun i hi => ?_) q2
    rw [List.mem_append, not_or] at hi
    exact (o2 i hi.2).trans (o1 i hi.1)
/-- a, b, .. = a tuple -/
def gT (n : Nat) (r : WGs) : WG := fun d z Q R => ∃ ds, d = .tup ds ∧ ds.length = n ∧ r ds z Q R
theorem sg_tup {es : List Expr} {k n : Nat} {vs : List Nat} {r : WGs} (h : SGs Γ sc st es vs r) (hn : ∀ env, (assignEach es env).length = n) (hst : ∀ env, (assignEach es env).findIdx? (·.1) = none) : SG Γ sc st (.Tuple es k pos) vs (gT n r) := by
  obtain ⟨t, p, s⟩ := h.ex
  refine ⟨gTup Γ.K n t, fun X C => ?_, fun O L m z σ H d v Q Qd R cl S rr hw hx k => ?_⟩
  · have := pg_tup (X := X) (k := k) (pos := pos) C.calm (p X C) (hn _) (hst _)
    rw [C.K] at this
    exact this
  · obtain ⟨ds, rfl, hl, hw⟩ := hw
    obtain ⟨a, us, rfl, hq, rl⟩ := rr.t.tup
    exact ⟨a, us, rfl, hq, by rw [← rl.length]; exact hl, s O L m z σ H ds us Q Qd R cl S rl hw hx k⟩

/-! ### assignments -/
/-- name = e, the value frozen (data), or a cell -/
def setQ (i : Nat) (D : Ed) (x : W) (z1 : Z) : Prop := match x with
  | .d d => D.nx { z1 with σ := z1.σ.set i (.d d) }
  | .cel j => D.nx { z1 with σ := z1.σ.set i (.cel j) }
  | _ => False
def wSet (i : Nat) (a : WE) : WS := fun z D R => wFr a z (setQ i D) R
/-- name = e, e a loose result that the name owns from now on -/
def wSetO (i : Nat) (a : WE) : WS := fun z D R => a z (fun x z1 => match x with
  | .new o => D.nx { z1 with σ := z1.σ.set i (.own o) }
  | _ => False) R
theorem ss_set {i : Nat} {x : Str} {pos' : Pos} (hN : Γ.N[i]? = some x) (hs : stoB st x = true) (ha : SE Γ sc st a wa) (hsw : ∀ env, swapsWith a (some (.Name x pos')) pos.line env = pure false) : SS Γ sc st (.Assign [.Name x pos'] a pos) (wSet i wa) := by
  obtain ⟨ta, pa, sa⟩ := ha.f
  refine ⟨_, fun X C => ps_set C.ndX (C.ix hN) (C.fn x (sto_of hs)).1 (pa X C) (hsw _) (C.fn x (sto_of hs)).2, fun O L m z σ H D Dd R cl S hw hx k => ?_⟩
  refine sa O L m z σ H _ _ R cl S hw hx fun L1 z1 H1 x v s1 c1 n1 S1 r1 q => ?_
  cases x with
  | d d => exact k.nx L1 m _ _ H1 s1 pre_refl c1 (S1.setD i r1.2) q
  | cel j => exact k.nx L1 m _ _ H1 s1 pre_refl c1 (S1.setC i r1.2) q
  | slot j => exact q.elim
  | new o => exact q.elim
theorem ss_setO {i : Nat} {x : Str} {pos' : Pos} (hN : Γ.N[i]? = some x) (hs : stoB st x = true) (ha : SE Γ sc st a wa) (hsw : ∀ env, swapsWith a (some (.Name x pos')) pos.line env = pure false) : SS Γ sc st (.Assign [.Name x pos'] a pos) (wSetO i wa) := by
  obtain ⟨ta, pa, sa⟩ := ha.ex
  refine ⟨_, fun X C => ps_set C.ndX (C.ix hN) (C.fn x (sto_of hs)).1 (pa X C) (hsw _) (C.fn x (sto_of hs)).2, fun O L m z σ H D Dd R cl S hw hx k => ?_⟩
  refine sa O L m z σ H _ _ R cl S hw hx fun L1 z1 H1 x v s1 S1 r1 q => ?_
  cases x with
  | d d => exact q.elim
  | cel j => exact q.elim
  | slot j => exact q.elim
  | new o => exact k.nx (toSlot i L1) m _ _ H1 (s1.trans stp_toSlot) pre_refl toSlot_cl (S1.setO i r1) q
/-- target = e of data -/
def wAsg (a : WE) (g : WG) : WS := fun z D R => wFr a z (fun x z1 => ∃ d, x = .d d ∧ g d z1 D.nx R) R
theorem ss_asg {tg : Expr} {vs : List Nat} {g : WG} (ha : SE Γ sc st a wa) (hg : SG Γ sc st tg vs g) (hs : ∀ env, swapsWithSole [tg] a pos.line env = pure false) (hw' : ∀ X, Ctx Γ sc st X → swappedStores [tg] a X.env = pure none)
    (h1 : ∀ env, (assignEach [tg] env).map (·.2) = [assign tg env]) : SS Γ sc st (.Assign [tg] a pos) (wAsg wa g) := by
  obtain ⟨ta, pa, sa⟩ := ha.f
  obtain ⟨tg', pg, sg⟩ := hg.ex
  refine ⟨_, fun X C => ps_asg (pa X C) (pg X C) (hs _) (hw' X C) (h1 _), fun O L m z σ H D Dd R cl S hw hx k => ?_⟩
  refine sa O L m z σ H _ _ R cl S hw hx fun L1 z1 H1 x v s1 c1 n1 S1 r1 q => ?_
  obtain ⟨d, rfl, q⟩ := q
  exact sg O L1 m z1 σ H1 d v _ _ R c1 S1 r1.2 q (hx.later s1) fun L2 z2 σ2 H2 s2 c2 S2 _ _ q2 => k.nx L2 m z2 σ2 H2 (s1.trans s2) pre_refl c2 S2 q2
end
end Eng

end
section
set_option Elab.async false
set_option linter.all false
set_option maxRecDepth 100000
/-! Eng5: op=, loops, comprehensions. -/
namespace Eng
open PySem PySem.Spec PyProof.Rows L2

/-- what is walked: its items as data; src: the list as it has to stand at each turn (a comprehension's) -/
structure ItOk (Γ : Gm) (O : Addr → Prop) (L : Lab) (m : List V) (H : Hp) (P : Z → St → Prop) (J : It) (xs : List D) : Prop where
  go : ∀ (O2 : Addr → Prop) L2 z2 σ2 H2 i x, (∀ a, O2 a → O a ∨ H a = none) → Stp L H L2 H2 → Cl L2 → Sim Γ O2 L2 m z2 σ2 H2 → P z2 σ2 → xs[i]? = some x → J.go i H2 ∧
    ∀ v H3, J.yld i H2 v H3 → Stp L2 H2 L2 H3 ∧ (∀ m' z' σ', m <+: m' → Sim Γ O2 L2 m' z' σ' H2 → Sim Γ O2 L2 m' z' σ' H3) ∧ Rep Γ.K Γ.C (Bd O2 L2) H3 x v
  stop : ∀ (O2 : Addr → Prop) L2 z2 σ2 H2, (∀ a, O2 a → O a ∨ H a = none) → Stp L H L2 H2 → Cl L2 → Sim Γ O2 L2 m z2 σ2 H2 → P z2 σ2 → J.stop xs.length H2
abbrev WI := Z → (List D → Option W → Z → Prop) → XR → Prop
def turnP (σ : St) (xs : List D) : Option W → Z → St → Prop
  | none => fun _ _ => True
  | some w => fun z2 σ2 => rd z2 w = some (.lst xs) ∧ ∀ i, w = .slot i → σ2[i]? = σ[i]?
/-- an iterable: src: the owned list that it leans on (none: data) -/
structure SI (Γ : Gm) (sc : Scope) (st : Names') (e : Expr) (w : WI) : Prop where
  ex : ∃ wi : TI, (∀ X tg, Ctx Γ sc st X → PI X tg e wi) ∧ ∀ (O : Addr → Prop) (L : Lab) (m : List V) (z : Z) (σ : St) (H : Hp) (Q : It → Hp → Prop) (Qd : List D → Option W → Z → Prop) (R : XR),
    Cl L → Sim Γ O L m z σ H → w z Qd R → Xok Γ O L m σ H R →
    (∀ L' z' H' J xs src, Stp L H L' H' → Cl L' → Sim Γ O L' m z' σ H' → ItOk Γ O L' m H' (turnP σ xs src) J xs → Qd xs src z' → Q J H') → wi σ H Q

section
variable {Γ : Gm} {sc : Scope} {st : Names'} {O : Addr → Prop} {L L' : Lab} {m m' : List V} {z z' : Z} {σ : St} {H H' : Hp} {e a b c : Expr} {w wa wb wc : WE} {s : Stmt} {ss : List Stmt} {u u' : WS} {pos : Pos}
/-! ### op= at a name of data -/
def wAug (i : Nat) (f : F2) (a : WE) : WS := fun z D R => ∃ d, z.σ[i]? = some (.d d) ∧ wFr a z (fun y z1 => ∃ e, rd z1 y = some e ∧ f d e fun w => match w with
  | .d x => D.nx { z1 with σ := z1.σ.set i (.d x) }
  | _ => False) R
theorem ss_aug {i : Nat} {x : Str} {pos' : Pos} {op : Operator} {r : R2} {f : F2} (hr : R2S Γ r f) (ho : ∀ X, Ctx Γ sc st X → OpR X (inplaceOp op) r) (hN : Γ.N[i]? = some x) (hs : stoB st x = true) (ha : SE Γ sc st a wa) : SS Γ sc st (.AugAssign (.Name x pos') op a pos) (wAug i f wa) := by
  obtain ⟨ta, pa, sa⟩ := ha.f
  refine ⟨_, fun X C => ps_aug C.ndX (C.ix hN) (C.fn x (sto_of hs)).1 (pa X C) (ho X C) (C.fn x (sto_of hs)).2, fun O L m z σ H D Dd R cl S hw hx k => ?_⟩
  obtain ⟨d, hd, hw⟩ := hw
  obtain ⟨v, e1, rv⟩ := S.slot hd
  refine ⟨v, e1, sa O L m z σ H _ _ R cl S hw hx fun L1 z1 H1 y u s1 c1 n1 S1 r1 q => ?_⟩
  obtain ⟨e, e2, q⟩ := q
  refine hr O L1 m z1 σ H1 v u d e _ _ c1 S1 (s1.rep rv).t (S1.rdT r1 e2) q fun L' H' w v' s' S' r' q' => ?_
  cases w with
  | d x => exact k.nx L' m _ _ H' (s1.trans s') pre_refl r'.1 (S'.setD i r'.2) q'
  | cel j => exact q'.elim
  | slot j => exact q'.elim
  | new o => exact q'.elim

/-! ### for -/
def fLoop (g : WG) (b : WS) (Dd : Ed) (R : XR) : List D → Z → Prop
  | [], z => Dd.nx z
  | x :: xs, z => g x z (fun z2 => b z2 { nx := fLoop g b Dd R xs, ct := fLoop g b Dd R xs, bk := Dd.nx, rt := Dd.rt } R) R
def wFor (wi : WI) (g : WG) (b : WS) : WS := fun z Dd R => wi z (fun xs src z1 => src = none ∧ fLoop g b Dd R xs z1) R
theorem ItOk.at {P : Z → St → Prop} {J : It} {xs : List D} (h : ItOk Γ O L m H P J xs) (p : m <+: m') (hp : ∀ O2 L2 z2 σ2 H2, Sim Γ O2 L2 m' z2 σ2 H2 → ∃ z0, Sim Γ O2 L2 m z0 σ2 H2 ∧ (P z2 σ2 → P z0 σ2)) : ItOk Γ O L m' H P J xs := by
  refine ⟨fun O2 L2 z2 σ2 H2 i x hO s c S hP e => ?_, fun O2 L2 z2 σ2 H2 hO s c S hP => ?_⟩
  · obtain ⟨z0, S0, h0⟩ := hp O2 L2 z2 σ2 H2 S
    obtain ⟨g, y⟩ := h.go O2 L2 z0 σ2 H2 i x hO s c S0 (h0 hP) e
    exact ⟨g, fun v H3 q => let ⟨a1, a2, a3⟩ := y v H3 q; ⟨a1, fun m'' z' σ' p' S' => a2 m'' z' σ' (p.trans p') S', a3⟩⟩
  · obtain ⟨z0, S0, h0⟩ := hp O2 L2 z2 σ2 H2 S
    exact h.stop O2 L2 z0 σ2 H2 hO s c S0 (h0 hP)
/-- the younger cells left out of sight -/
theorem Sim.less (p : m <+: m') (h : Sim Γ O L m' z σ H) : ∃ z0, Sim Γ O L m z0 σ H := by
  obtain ⟨r, rfl⟩ := p
  refine ⟨⟨z.σ.map fun _ => SV.none, z.S.take m.length⟩, ⟨?_, fun j o e => ?_, h.st.out, h.st.trk⟩, by simp [h.len], fun i sv e => ?_⟩
  · have := h.st.mlen
    rw [List.length_append] at this
    show m.length = (z.S.take m.length).length
    rw [List.length_take]
    omega
  · have e' : (z.S.take m.length)[j]? = some o := e
    have hj : j < m.length := by
      have := (List.getElem?_eq_some_iff.mp e').1
      rw [List.length_take] at this
      omega
    rw [List.getElem?_take_of_lt hj] at e'
    obtain ⟨v, e1, r1⟩ := h.st.cells j o e'
    rw [List.getElem?_append_left hj] at e1
    exact ⟨v, e1, r1⟩
  · have e' : (z.σ.map fun _ => SV.none)[i]? = some sv := e
    rw [List.getElem?_map] at e'
    obtain ⟨_, _, rfl⟩ := Option.map_eq_some_iff.mp e'
    trivial
theorem ItOk.grow {J : It} {xs : List D} (h : ItOk Γ O L m H (fun _ _ => True) J xs) (p : m <+: m') : ItOk Γ O L m' H (fun _ _ => True) J xs :=
  h.at p fun O2 L2 z2 σ2 H2 S => let ⟨z0, h0⟩ := S.less p; ⟨z0, h0, fun _ => trivial⟩
theorem ss_for {tg : Expr} {vs : List Nat} {wi : WI} {g : WG} (hi : SI Γ sc st e wi) (hg : SG Γ sc st tg vs g) (hb : SSs Γ sc st ss u) (hs : ∀ env x, foldedSetIterable e env x = pure x) : SS Γ sc st (.For tg e ss [] pos) (wFor wi g u) := by
  obtain ⟨ti, pi, si⟩ := hi.ex
  obtain ⟨tg', pg, sg⟩ := hg.ex
  obtain ⟨tb, pb, sb⟩ := hb.ex
  refine ⟨_, fun X C => ps_for C.own C.calm (pi X tg C) (pg X C) (pb X C) (hs _), fun O L m z σ H D Dd R cl S hw hx k => ?_⟩
  refine si O L m z σ H _ _ R cl S hw hx fun L1 z1 H1 J xs src s1 c1 S1 it q => ?_
  obtain ⟨rfl, q⟩ := q
  have it' : ItOk Γ O L1 m H1 (fun _ _ => True) J xs := it
  refine ⟨fun i mm σ2 H2 => mm = xs.length - i ∧ i ≤ xs.length ∧ ∃ L2 m2 z2, Stp L1 H1 L2 H2 ∧ m <+: m2 ∧ Cl L2 ∧ Sim Γ O L2 m2 z2 σ2 H2 ∧ fLoop g u Dd R (xs.drop i) z2, ⟨xs.length, rfl, Nat.zero_le _, L1, m, z1, Stp.refl, pre_refl, c1, S1, q⟩, ?_⟩
  rintro i mm σ2 H2 ⟨rfl, hi, L2, m2, z2, s2, p2, c2, S2, q2⟩
  have itm := it'.grow p2
  by_cases hlt : i < xs.length
  · have ex : xs[i]? = some xs[i] := by simp [hlt]
    obtain ⟨go, yl⟩ := itm.go O L2 z2 σ2 H2 i _ (fun a h => .inl h) s2 c2 S2 trivial ex
    refine .inr ⟨go, fun σ' H' => i + 1 ≤ xs.length ∧ ∃ L2 m2 z2, Stp L1 H1 L2 H' ∧ m <+: m2 ∧ Cl L2 ∧ Sim Γ O L2 m2 z2 σ' H' ∧ fLoop g u Dd R (xs.drop (i + 1)) z2, fun σ' H' n => ⟨xs.length - (i + 1), by omega, rfl, n⟩, fun v H3 y => ?_⟩
    obtain ⟨s3, S3, r3⟩ := yl v H3 y
    have e0 : xs.drop i = xs[i] :: xs.drop (i + 1) := List.drop_eq_getElem_cons hlt
    rw [e0] at q2
    have s13 := s2.trans s3
    refine sg O L2 m2 z2 σ2 H3 _ v _ _ R c2 (S3 m2 z2 σ2 pre_refl S2) r3 q2 (hx.at (s1.trans s13) p2) fun L4 z4 σ4 H4 s4 c4 S4 _ _ q4 => ?_
    have s14 := s13.trans s4
    refine sb O L4 m2 z4 σ4 H4 _ _ R c4 S4 q4 (hx.at (s1.trans s14) p2) ⟨?_, ?_, ?_, ?_⟩
    · intro L5 m5 z5 σ5 H5 s5 p5 c5 S5 q5
      exact ⟨hlt, L5, m5, z5, s14.trans s5, p2.trans p5, c5, S5, q5⟩
    · intro L5 m5 z5 σ5 H5 w v s5 p5 S5 r5 q5
      exact k.rt L5 m5 z5 σ5 H5 w v (s1.trans (s14.trans s5)) (p2.trans p5) S5 r5 q5
    · intro L5 m5 z5 σ5 H5 s5 p5 c5 S5 q5
      exact k.nx L5 m5 z5 σ5 H5 (s1.trans (s14.trans s5)) (p2.trans p5) c5 S5 q5
    · intro L5 m5 z5 σ5 H5 s5 p5 c5 S5 q5
      exact ⟨hlt, L5, m5, z5, s14.trans s5, p2.trans p5, c5, S5, q5⟩
  · have e0 : i = xs.length := by omega
    subst e0
    rw [List.drop_length] at q2
    exact .inl ⟨itm.stop O L2 z2 σ2 H2 (fun a h => .inl h) s2 c2 S2 trivial, k.nx L2 m2 z2 σ2 H2 (s1.trans s2) p2 c2 S2 q2⟩
/-! ### while -/
def wWhile (t : WT) (b : WS) : WS := fun z Dd R => ∃ I : Nat → Z → Prop, (∃ n, I n z) ∧ ∀ n z, I n z → t z (fun k z1 => if k = true then b z1 { nx := fun z' => ∃ n', n' < n ∧ I n' z', ct := fun z' => ∃ n', n' < n ∧ I n' z', bk := Dd.nx, rt := Dd.rt } R else Dd.nx z1) R
theorem ss_while {wt : WT} (hc : ST Γ sc st c wt) (hb : SSs Γ sc st ss u) : SS Γ sc st (.While c ss [] pos) (wWhile wt u) := by
  obtain ⟨tc, pc, sc'⟩ := hc.ex
  obtain ⟨tb, pb, sb⟩ := hb.ex
  refine ⟨_, fun X C => ps_while C.own (pc X C) (pb X C), fun O L m z σ H D Dd R cl S hw hx k => ?_⟩
  obtain ⟨I, ⟨n0, i0⟩, turn⟩ := hw
  refine ⟨fun n σ2 H2 => ∃ L2 m2 z2, Stp L H L2 H2 ∧ m <+: m2 ∧ Cl L2 ∧ Sim Γ O L2 m2 z2 σ2 H2 ∧ I n z2, ⟨n0, L, m, z, Stp.refl, pre_refl, cl, S, i0⟩, ?_⟩
  rintro n σ2 H2 ⟨L2, m2, z2, s2, p2, c2, S2, i2⟩
  refine sc' O L2 m2 z2 σ2 H2 _ _ R c2 S2 (turn n z2 i2) (hx.at s2 p2) fun L3 z3 H3 j s3 c3 S3 q3 => ?_
  have s13 := s2.trans s3
  cases j with
  | true =>
    refine (if_pos rfl).mpr ⟨fun σ' H' => ∃ n', n' < n ∧ ∃ L2 m2 z2, Stp L H L2 H' ∧ m <+: m2 ∧ Cl L2 ∧ Sim Γ O L2 m2 z2 σ' H' ∧ I n' z2, fun σ' H' ⟨n', l, r⟩ => ⟨n', l, r⟩, ?_⟩
    have q3' := q3
    rw [if_pos rfl] at q3'
    refine sb O L3 m2 z3 σ2 H3 _ _ R c3 S3 q3' (hx.at s13 p2) ⟨?_, ?_, ?_, ?_⟩
    · intro L5 m5 z5 σ5 H5 s5 p5 c5 S5 ⟨n', l, q5⟩
      exact ⟨n', l, L5, m5, z5, s13.trans s5, p2.trans p5, c5, S5, q5⟩
    · intro L5 m5 z5 σ5 H5 w v s5 p5 S5 r5 q5
      exact k.rt L5 m5 z5 σ5 H5 w v (s13.trans s5) (p2.trans p5) S5 r5 q5
    · intro L5 m5 z5 σ5 H5 s5 p5 c5 S5 q5
      exact k.nx L5 m5 z5 σ5 H5 (s13.trans s5) (p2.trans p5) c5 S5 q5
    · intro L5 m5 z5 σ5 H5 s5 p5 c5 S5 ⟨n', l, q5⟩
      exact ⟨n', l, L5, m5, z5, s13.trans s5, p2.trans p5, c5, S5, q5⟩
  | false =>
    have q3' := q3
    rw [if_neg Bool.false_ne_true] at q3'
    exact (if_neg Bool.false_ne_true).mpr (k.nx L3 m2 z3 σ2 H3 s13 p2 c3 S3 q3')
end
end Eng

end
section
set_option Elab.async false
set_option linter.all false
set_option maxRecDepth 100000
/-! Eng6: what is walked; comprehensions. -/
namespace Eng
open PySem PySem.Spec PyProof.Rows L2
section
variable {Γ : Gm} {sc : Scope} {st : Names'} {O : Addr → Prop} {L L' : Lab} {m m' : List V} {z z' : Z} {σ : St} {H H' : Hp} {e a b c : Expr} {w wa wb wc : WE} {s : Stmt} {ss : List Stmt} {u u' : WS} {pos : Pos}

/-! ### a list or a tuple -/
def iSeq (K : PySem.W.Frag) (tl : TE) : TI := fun σ H R => tl σ H fun x H1 => ∃ a, x = .ref a ∧ ((∃ xs, SqL K H1 a xs) ∧ R (Itl K a) H1 ∨ (∃ xs, SqT K H1 a xs) ∧ R (Itt K a) H1)
theorem pi_seq {X : Cx} {tg l : Expr} {tl : TE} (hl : PE X l tl) : PI X tg l (iSeq X.K tl) := by
  refine ⟨fun pins s σ H R I h => ?_⟩
  refine thn (hl.run pins s σ H _ I h) fun v s1 ⟨x, H1, I1, r1, q1⟩ => ?_
  obtain ⟨a, e, q⟩ := q1
  subst e
  cases r1
  rcases q with ⟨⟨xs, hq⟩, q⟩ | ⟨⟨xs, hq⟩, q⟩
  · obtain ⟨its, rv, p, hz⟩ := I1.list hq
    refine wpAny_pyIter_list p.isList ?_
    refine ⟨s1.heap.objs.size, [s1.heap.objs.size], _, _, H1, rfl, I1.kept (t' := s1.toks) fun b o e => Heap.get?_push_of_some _ e, turn_list a _, ⟨_, Heap.get?_push_size _ rfl, rfl, rfl⟩, fun b hb => ?_, q⟩
    have e : b = s1.heap.objs.size := by simpa using hb
    subst e
    exact I1.fpOk (Nat.le_refl _) (I1.hok.fresh (Nat.le_refl _))
  · obtain ⟨its, rv, p, hz⟩ := I1.tuple hq
    refine wpAny_pyIter_tuple (show s1.heap.IsTuple a its.toArray from p) ?_
    refine ⟨s1.heap.objs.size, [s1.heap.objs.size], _, _, H1, rfl, I1.kept (t' := s1.toks) fun b o e => Heap.get?_push_of_some _ e, turn_tuple a _, ⟨_, Heap.get?_push_size _ rfl, rfl, rfl⟩, fun b hb => ?_, q⟩
    have e : b = s1.heap.objs.size := by simpa using hb
    subst e
    exact I1.fpOk (Nat.le_refl _) (I1.hok.fresh (Nat.le_refl _))
def srcOf : W → Option W
  | .d _ => none
  | w => some w
def seqD : D → Option (List D)
  | .lst xs => some xs
  | .tup xs => some xs
  | .scr ns => some (ns.map D.int)
  | _ => none
/-- data, or an owned list -/
def iData (a : WE) : WI := fun z Q R => wFr a z (fun x z1 => ∃ d xs, rd z1 x = some d ∧ seqD d = some xs ∧ (srcOf x = none ∨ d = .lst xs) ∧ Q xs (srcOf x) z1) R
theorem itok_lst {K : PySem.W.Frag} (hK : Γ.K = K) {a : Addr} {xs : List D} {P : Z → St → Prop}
    (h : ∀ (O2 : Addr → Prop) L2 z2 σ2 H2, (∀ a, O2 a → O a ∨ H a = none) → Stp L H L2 H2 → Cl L2 → Sim Γ O2 L2 m z2 σ2 H2 → P z2 σ2 → ∃ vs, SqL K H2 a vs ∧ RepL Γ.K Γ.C (Bd O2 L2) H2 xs vs) : ItOk Γ O L m H P (Itl K a) xs := by
  refine ⟨fun O2 L2 z2 σ2 H2 i x hO s c S hP e => ?_, fun O2 L2 z2 σ2 H2 hO s c S hP => ?_⟩
  · obtain ⟨vs, q, r⟩ := h O2 L2 z2 σ2 H2 hO s c S hP
    obtain ⟨v, e1, r1⟩ := r.get e
    refine ⟨⟨vs, v, q, e1⟩, fun v' H3 y => ?_⟩
    obtain ⟨rfl, y⟩ := y
    have e2 := y vs q
    rw [e1] at e2
    cases e2
    exact ⟨Stp.refl, fun _ _ _ _ h => h, r1⟩
  · obtain ⟨vs, q, r⟩ := h O2 L2 z2 σ2 H2 hO s c S hP
    exact ⟨vs, q, by rw [r.length]; exact Nat.le_refl _⟩
theorem itok_tup {K : PySem.W.Frag} (hK : Γ.K = K) {a : Addr} {xs : List D} {P : Z → St → Prop}
    (h : ∀ (O2 : Addr → Prop) L2 z2 σ2 H2, (∀ a, O2 a → O a ∨ H a = none) → Stp L H L2 H2 → Cl L2 → Sim Γ O2 L2 m z2 σ2 H2 → P z2 σ2 → ∃ vs, SqT K H2 a vs ∧ RepL Γ.K Γ.C (Bd O2 L2) H2 xs vs) : ItOk Γ O L m H P (Itt K a) xs := by
  refine ⟨fun O2 L2 z2 σ2 H2 i x hO s c S hP e => ?_, fun O2 L2 z2 σ2 H2 hO s c S hP => ?_⟩
  · obtain ⟨vs, q, r⟩ := h O2 L2 z2 σ2 H2 hO s c S hP
    obtain ⟨v, e1, r1⟩ := r.get e
    refine ⟨⟨vs, v, q, e1⟩, fun v' H3 y => ?_⟩
    obtain ⟨rfl, y⟩ := y
    have e2 := y vs q
    rw [e1] at e2
    cases e2
    exact ⟨Stp.refl, fun _ _ _ _ h => h, r1⟩
  · obtain ⟨vs, q, r⟩ := h O2 L2 z2 σ2 H2 hO s c S hP
    exact ⟨vs, q, by rw [r.length]; exact Nat.le_refl _⟩
theorem stp_m2 {O2 : Addr → Prop} (hO : ∀ a, O2 a → O a ∨ H a = none) (s : Stp L H L' H') : ∀ a u, ¬ Bd O L a → H a = some u → ¬ Bd O2 L' a ∧ H' a = some u := fun a u nb e => by
  obtain ⟨h1, h2⟩ := s a u (bd_none nb) e
  refine ⟨fun z => z.elim (fun z => ?_) (fun z => z h1), h2⟩
  rcases hO a z with q | q
  · exact nb (.inl q)
  · rw [q] at e; cases e
theorem map_int_rep (ns : List Int) : RepL Γ.K Γ.C (Bd O L) H (ns.map D.int) (ns.map V.int) := by
  induction ns with
  | nil => exact .nil
  | cons n ns ih => exact .cons (.int n) ih
theorem si_data (ha : SE Γ sc st a wa) : SI Γ sc st a (iData wa) := by
  obtain ⟨ta, pa, sa⟩ := ha.f
  refine ⟨iSeq Γ.K ta, fun X tg C => ?_, fun O L m z σ H Q Qd R cl S hw hx k => ?_⟩
  · have := pi_seq (tg := tg) (pa X C)
    rw [C.K] at this
    exact this
  refine sa O L m z σ H _ _ R cl S hw hx fun L1 z1 H1 x v s1 c1 n1 S1 r1 q => ?_
  obtain ⟨d, xs, e1, e2, hsrc, q⟩ := q
  -- an owned list stands by its place
  have own : (∀ y, x ≠ .d y) → d = .lst xs → ∃ a, v = .ref a ∧ (∃ vs, SqL Γ.K H1 a vs) ∧ ItOk Γ O L1 m H1 (turnP σ xs (some x)) (Itl Γ.K a) xs := fun nd ed => by
    subst ed
    obtain ⟨a, vs, rfl, hh, rl⟩ := (S1.rdT r1 e1).lst
    refine ⟨a, rfl, ⟨vs, SqL.of hh⟩, itok_lst rfl fun O2 L2 z2 σ2 H2 hO s2 c2 S2 hP => ?_⟩
    have r2 : Wr Γ O2 L2 m σ2 H2 x (.ref a) := by
      cases x with
      | d y => exact absurd rfl (nd y)
      | new o => exact absurd rfl (n1 o)
      | cel j => exact ⟨c2, r1.2⟩
      | slot j => exact ⟨c2, by rw [hP.2 j rfl]; exact r1.2⟩
    obtain ⟨a', vs', ea, hh', rl'⟩ := (S2.rdT r2 hP.1).lst
    cases ea
    exact ⟨vs', SqL.of hh', rl'⟩
  cases x with
  | d y =>
    have e1' : y = d := Option.some.inj e1
    subst e1'
    cases y with
    | lst ys =>
      cases e2
      obtain ⟨a, vs, rfl, hh, rl⟩ := r1.2.t.lst
      have rr := r1.2
      cases rr with
      | lst nb hh' rl' =>
        refine ⟨a, rfl, .inl ⟨⟨_, SqL.of hh'⟩, k L1 z1 H1 _ _ none s1 c1 S1 (itok_lst rfl fun O2 L2 z2 σ2 H2 hO s2 c2 S2 hP => ?_) q⟩⟩
        exact ⟨_, SqL.of (s2 _ _ (bd_none nb) hh').2, rl'.mono (stp_m2 hO s2)⟩
    | tup ys =>
      cases e2
      have rr := r1.2
      cases rr with
      | tup hh rl =>
        have hq : ∀ {L2 : Lab} {H2 : Hp}, Stp L1 H1 L2 H2 → SqT Γ.K H2 _ _ := fun {L2 H2} s2 => hh.elim (fun hh => .inl (.inl (s2 _ _ (bd_none hh.1) hh.2).2)) .inr
        refine ⟨_, rfl, .inr ⟨⟨_, hq (Stp.refl)⟩, k L1 z1 H1 _ _ none s1 c1 S1 (itok_tup rfl fun O2 L2 z2 σ2 H2 hO s2 c2 S2 hP => ?_) q⟩⟩
        exact ⟨_, hq s2, rl.mono (stp_m2 hO s2)⟩
    | scr ns =>
      cases e2
      have rr := r1.2
      cases rr with
      | scr hh =>
        have hq : ∀ {L2 : Lab} {H2 : Hp}, Stp L1 H1 L2 H2 → SqL Γ.K H2 _ (ns.map V.int) := fun {L2 H2} s2 => hh.elim (fun hh => let ⟨o, e⟩ := hh.2; .inl (.inr ⟨o, (s2 _ _ (bd_none hh.1) e).2⟩)) .inr
        refine ⟨_, rfl, .inl ⟨⟨_, hq (Stp.refl)⟩, k L1 z1 H1 _ _ none s1 c1 S1 (itok_lst rfl fun O2 L2 z2 σ2 H2 hO s2 c2 S2 hP => ?_) q⟩⟩
        exact ⟨_, hq s2, map_int_rep ns⟩
    | _ => cases e2
  | cel j =>
    obtain ⟨a, ev, hq, it⟩ := own (fun y h => by cases h) (hsrc.elim (fun h => by cases h) id)
    exact ⟨a, ev, .inl ⟨hq, k L1 z1 H1 _ _ _ s1 c1 S1 it q⟩⟩
  | slot j =>
    obtain ⟨a, ev, hq, it⟩ := own (fun y h => by cases h) (hsrc.elim (fun h => by cases h) id)
    exact ⟨a, ev, .inl ⟨hq, k L1 z1 H1 _ _ _ s1 c1 S1 it q⟩⟩
  | new o => exact absurd rfl (n1 o)

/-! ### range -/
def rngD (lo : Int) (n : Nat) : List D := (List.range n).map fun i : Nat => D.int (lo + i)
def iR1 (as : WAs) : WI := fun z Q R => as z (fun ws z1 => ∃ j : Int, ws = [.d (.int j)] ∧ -(2 ^ 62) ≤ j ∧ j < 2 ^ 62 ∧ Q (rngD 0 j.toNat) none z1) R
def iR2 (as : WAs) : WI := fun z Q R => as z (fun ws z1 => ∃ i j : Int, ws = [.d (.int i), .d (.int j)] ∧ (-(2 ^ 62) ≤ i ∧ i < 2 ^ 62 ∧ -(2 ^ 62) ≤ j ∧ j < 2 ^ 62) ∧ Q (rngD i (j - i).toNat) none z1) R
theorem itok_rng {lo : Int} {n : Nat} {P : Z → St → Prop} : ItOk Γ O L m H P (Itr lo n) (rngD lo n) := by
  refine ⟨fun O2 L2 z2 σ2 H2 i x hO s c S hP e => ?_, fun O2 L2 z2 σ2 H2 hO s c S hP => ?_⟩
  · unfold rngD at e
    rw [List.getElem?_map] at e
    obtain ⟨j, e1, rfl⟩ := Option.map_eq_some_iff.mp e
    have hi : i < n := by
      have := (List.getElem?_eq_some_iff.mp e1).1
      simpa using this
    have : j = i := by
      rw [List.getElem?_range hi] at e1
      exact (Option.some.inj e1).symm
    subst this
    refine ⟨hi, fun v H3 y => ?_⟩
    obtain ⟨rfl, rfl⟩ := y
    exact ⟨Stp.refl, fun _ _ _ _ h => h, .int _⟩
  · show n ≤ (rngD lo n).length
    unfold rngD
    simp
theorem si_r1 {p : Pos} {was : WAs} (hg : glB sc "range" = true) (hm : Γ.mg "range" = none) (ha : SA Γ sc st [a] was) (hs : ∀ env, starEach [a] env = [(false, eval a env)]) : SI Γ sc st (.Call (.Name "range" p) [a] [] pos) (iR1 was) := by
  obtain ⟨ta, pa, sa⟩ := ha.ex
  refine ⟨iRng1 ta, fun X tg C => pi_range1 (gl_of C hg).1 (by rw [C.mg]; exact hm) (pa X C) (hs _), fun O L m z σ H Q Qd R cl S hw hx k => ?_⟩
  refine sa O L m z σ H _ _ R cl S hw hx fun L1 z1 H1 ws vs s1 c1 S1 r1 l1 q => ?_
  obtain ⟨j, rfl, h1, h2, q⟩ := q
  cases r1 with
  | cons r rs =>
    cases rs
    have r' := r.2
    cases r'
    exact ⟨j, rfl, h1, h2, k L1 z1 H1 _ _ none s1 c1 S1 itok_rng q⟩
theorem si_r2 {p : Pos} {was : WAs} (hg : glB sc "range" = true) (hm : Γ.mg "range" = none) (ha : SA Γ sc st [a, b] was) (hs : ∀ env, starEach [a, b] env = [(false, eval a env), (false, eval b env)]) (hs2 : ∀ env, starEach [b] env = [(false, eval b env)]) : SI Γ sc st (.Call (.Name "range" p) [a, b] [] pos) (iR2 was) := by
  obtain ⟨ta, pa, sa⟩ := ha.ex
  refine ⟨iRng2 ta, fun X tg C => pi_range2 (gl_of C hg).1 (by rw [C.mg]; exact hm) (pa X C) (hs _) (hs2 _), fun O L m z σ H Q Qd R cl S hw hx k => ?_⟩
  refine sa O L m z σ H _ _ R cl S hw hx fun L1 z1 H1 ws vs s1 c1 S1 r1 l1 q => ?_
  obtain ⟨i, j, rfl, h1, q⟩ := q
  cases r1 with
  | cons r rs =>
    cases rs with
    | cons r2 rs =>
      cases rs
      have r' := r.2
      cases r'
      have r2' := r2.2
      cases r2'
      exact ⟨i, j, rfl, h1, k L1 z1 H1 _ _ none s1 c1 S1 itok_rng q⟩

/-! ### comprehensions -/
abbrev Gm.noE (Γ : Gm) : Gm := { Γ with E := fun _ _ _ _ => False }
theorem Sim.no (h : Sim Γ O L m z σ H) : Sim Γ.noE O L m z σ H := ⟨⟨h.st.mlen, h.st.cells, h.st.out, h.st.trk⟩, h.len, h.slots⟩
theorem Sim.ofNo (h : Sim Γ.noE O L m z σ H) : Sim Γ O L m z σ H := ⟨⟨h.st.mlen, h.st.cells, h.st.out, h.st.trk⟩, h.len, h.slots⟩
theorem ctx_blk {X : Cx} {scope : Scope} {own : List (Str × Nat)} (C : Ctx Γ sc st X) (ok : BlkOk Γ.N sc scope own) (s : Shared) (H : Hp) (Cc : Addr) (cl : List (Str × Addr)) (fp : List Addr) :
    Ctx Γ.noE (relS scope sc) scope.names (X.blk s H scope (compEnvC scope cl Cc X.env) fp) := by
  have hsc : (compEnvC scope cl Cc X.env).scope = relS scope X.env.scope := rfl
  refine ⟨C.P, C.w, C.K, C.mg, C.base, C.N, C.nd, C.calm, ?_, ?_, C.room, C.gd, takes0, PassesOwn.never, fun x hx => ?_⟩
  · show (compEnvC scope cl Cc X.env).scope = _
    rw [hsc, C.scp]
  · show scope.kind = _
    exact ok.kind
  · have hl : ∀ k, k ≠ NameKind.free → scope.names.lookup x = some k → (relS scope X.env.scope).names.lookup x = some k := fun k hk e => lookup_relS_keep hk e
    rcases hx with hx | hx
    · have e := hl _ (by decide) hx
      exact ⟨.inl e, .inr e⟩
    · have e := hl _ (by decide) hx
      exact ⟨.inr e, .inl (by show (scope.names.lookup x == some NameKind.cell) = true; rw [hx]; rfl)⟩
structure SIf (Γ : Gm) (sc : Scope) (st : Names') (ifs : List Expr) (w : WT) : Prop where
  ex : ∃ t : TT, (∀ X, Ctx Γ sc st X → PTs X ifs t) ∧ ∀ (O : Addr → Prop) (L : Lab) (m : List V) (z : Z) (σ : St) (H : Hp) (Q : Bool → Hp → Prop) (Qd : Bool → Z → Prop) (R : XR),
    Cl L → Sim Γ O L m z σ H → w z Qd R → Xok Γ O L m σ H R → (∀ L' z' H' b, Stp L H L' H' → Cl L' → Sim Γ O L' m z' σ H' → Qd b z' → Q b H') → t σ H Q
def wYes : WT := fun z Q _ => Q true z
theorem sif_nil : SIf Γ sc st [] wYes := ⟨tYes, fun X C => pts_nil, fun O L m z σ H Q Qd R cl S hw hx k => k L z H true Stp.refl cl S hw⟩
theorem sif_one {wt : WT} (h : ST Γ sc st c wt) : SIf Γ sc st [c] wt := by
  obtain ⟨t, p, s⟩ := h.ex
  exact ⟨t, fun X C => pts_one (p X C), s⟩
abbrev wps := @L2.wipe
def wipeZ (z : Z) : List Nat → Z
  | [] => z
  | v :: vs => { wipeZ z vs with σ := (wipeZ z vs).σ.set v .none }
theorem wipeZ_S (z : Z) : ∀ vs, (wipeZ z vs).S = z.S
  | [] => rfl
  | v :: vs => wipeZ_S z vs
theorem Sim.wipe (h : Sim Γ O L m z σ H) : ∀ vs : List Nat, Sim Γ O L m (wipeZ z vs) (L2.wipe σ vs) H
  | [] => h
  | v :: vs => (h.wipe vs).setN v none
/-- what was data or a cell at the block's own places stands again -/
def backS (z1 z2 : Z) : List Nat → Z
  | [] => z2
  | v :: vs => { backS z1 z2 vs with σ := (backS z1 z2 vs).σ.set v (match z1.σ[v]? with
      | some (.d x) => .d x
      | some (.cel j) => .cel j
      | _ => .none) }
theorem backS_S (z1 z2 : Z) : ∀ vs, (backS z1 z2 vs).S = z2.S
  | [] => rfl
  | v :: vs => backS_S z1 z2 vs
def noX : XR := fun _ _ => False
theorem xok_no : Xok Γ.noE O L m σ H noX := fun _ _ _ _ _ _ _ _ _ _ _ _ _ h => h
/-- the turns: P what must stand at each -/
def cLoop (vs : List Nat) (P : Z → Prop) (g : WG) (t : WT) (el : WE) (Q : List D → Z → Prop) : List D → List D → Z → Prop
  | [], acc, z => P z ∧ Q acc z
  | x :: xs, acc, z => P z ∧ g x z (fun z2 => t z2 (fun k z3 => if k = true then wFr el z3 (fun y z4 => ∃ d, y = .d d ∧ acc.length < sizeLine ∧ cLoop vs P g t el Q xs (acc ++ [d]) (wipeZ z4 vs)) noX else cLoop vs P g t el Q xs acc (wipeZ z3 vs)) noX) noX
def srcP (xs : List D) : Option W → Z → Prop
  | none => fun _ => True
  | some w => fun z2 => rd z2 w = some (.lst xs)
theorem lookup_set_off {σ σ' : St} {vs : List Nat} (hl : σ'.length = σ.length) (h : ∀ i, i ∉ vs → σ'[i]? = σ[i]?) : L2.wipe σ' vs = L2.wipe σ vs := by
  apply List.ext_getElem?
  intro i
  by_cases hi : i ∈ vs
  · by_cases hlt : i < σ.length
    · have q : ∀ (τ : St), i < τ.length → ∀ vs : List Nat, i ∈ vs → (L2.wipe τ vs)[i]? = some none := by
        intro τ ht vs
        induction vs with
        | nil => intro h; cases h
        | cons v vs ih =>
          intro h
          unfold L2.wipe
          by_cases e : v = i
          · subst e
            rw [List.getElem?_set_self (by rw [wipe_length]; exact ht)]
          · rw [List.getElem?_set_ne e]
            rcases List.mem_cons.mp h with q | q
            · exact absurd q.symm e
            · exact ih q
      rw [q σ' (by omega) vs hi, q σ hlt vs hi]
    · rw [List.getElem?_eq_none (by rw [wipe_length]; omega), List.getElem?_eq_none (by rw [wipe_length]; omega)]
  · rw [wipe_out hi, wipe_out hi, h i hi]
/-- behind a block: the own places as they were -/
theorem Sim.back {z1 z2 : Z} {σ : St} {L1 L2 : Lab} {H1 H2 : Hp} (h1 : Sim Γ O L1 m z1 σ H1) (s : Stp L1 H1 L2 H2) {vs : List Nat} (h2 : Sim Γ O L2 m z2 (wps σ vs) H2) : Sim Γ O L2 m (backS z1 z2 vs) σ H2 := by
  have gen : ∀ ws : List Nat, (backS z1 z2 ws).σ.length = z2.σ.length ∧ (∀ i sv, (backS z1 z2 ws).σ[i]? = some sv → (i ∈ ws ∧ SVR Γ O L2 m H2 i sv σ[i]?) ∨ (i ∉ ws ∧ z2.σ[i]? = some sv)) := by
    intro ws
    induction ws with
    | nil => exact ⟨rfl, fun i sv e => .inr ⟨by simp, e⟩⟩
    | cons v ws ih =>
      refine ⟨by show ((backS z1 z2 ws).σ.set v _).length = _; rw [List.length_set]; exact ih.1, fun i sv e => ?_⟩
      have e' : ((backS z1 z2 ws).σ.set v (match z1.σ[v]? with
        | some (.d x) => .d x
        | some (.cel j) => .cel j
        | _ => .none))[i]? = some sv := e
      by_cases hv : v = i
      · subst hv
        have hlt : v < (backS z1 z2 ws).σ.length := by
          have := (List.getElem?_eq_some_iff.mp e').1
          simpa using this
        rw [List.getElem?_set_self hlt] at e'
        have e2 := Option.some.inj e'
        refine .inl ⟨by simp, ?_⟩
        cases q : z1.σ[v]? with
        | none => rw [q] at e2; subst e2; trivial
        | some sv1 =>
          have r := h1.slot q
          rw [q] at e2
          cases sv1 with
          | none => subst e2; trivial
          | own o => subst e2; trivial
          | d x => subst e2; obtain ⟨v1, ev, rv⟩ := r; exact ⟨v1, ev, s.rep rv⟩
          | cel j => subst e2; exact r
      · rw [List.getElem?_set_ne hv] at e'
        rcases ih.2 i sv e' with ⟨q1, q2⟩ | ⟨q1, q2⟩
        · exact .inl ⟨List.mem_cons_of_mem _ q1, q2⟩
        · exact .inr ⟨by simp only [List.mem_cons, not_or]; exact ⟨fun q => hv q.symm, q1⟩, q2⟩
  obtain ⟨g1, g2⟩ := gen vs
  refine ⟨by rw [show (backS z1 z2 vs).S = z2.S from backS_S z1 z2 vs]; exact h2.st, by rw [g1, h2.len, wipe_length], fun i sv e => ?_⟩
  rcases g2 i sv e with ⟨_, q⟩ | ⟨q1, q2⟩
  · exact q
  · have r := h2.slot q2
    rw [wipe_out q1] at r
    exact r
/-- the new list stands outside while it grows -/
def With (O : Addr → Prop) (D : Addr) : Addr → Prop := fun a => O a ∨ a = D
theorem Sim.hide (h : Sim Γ O L m z σ H) {D : Addr} (u : HO) (hD : H D = none) : Sim Γ (With O D) L m z σ (upd H D u) := by
  have h' := h.new u hD
  have lD : L D = none := Sim.unl h.st hD
  have hm : ∀ a u', ¬ Bd O L a → H a = some u' → ¬ Bd (With O D) L a ∧ (upd H D u) a = some u' := fun a u' nb e => by
    have n : a ≠ D := ne_of_none e hD
    exact ⟨fun q => q.elim (fun q => q.elim (fun q => nb (.inl q)) n) (fun q => nb (.inr q)), by rw [upd_ne n]; exact e⟩
  have hq : ∀ a u' (w : Own), L a = some w → H a = some u' → L a = some w ∧ (upd H D u) a = some u' := fun a u' w l e => ⟨l, by rw [upd_ne (ne_of_none e hD)]; exact e⟩
  refine ⟨⟨h.st.mlen, fun j o e => ?_, fun a q => ?_, h'.st.trk⟩, h.len, fun i sv e => ?_⟩
  · obtain ⟨v, e1, r⟩ := h.st.cells j o e
    exact ⟨v, e1, r.mono hm fun a u' p l e => hq a u' _ l e⟩
  · rcases q with q | q
    · exact h'.st.out a q
    · subst q
      exact ⟨by rw [upd_same]; simp, lD⟩
  · have r := h.slots i sv e
    cases sv with
    | none => trivial
    | d x => obtain ⟨v, e1, r⟩ := r; exact ⟨v, e1, r.mono hm⟩
    | cel j => exact r
    | own o => obtain ⟨v, e1, r⟩ := r; exact ⟨v, e1, r.mono hm fun a u' p l e => hq a u' _ l e⟩
theorem Sim.hidden {D : Addr} (h : Sim Γ (With O D) L m z σ H) (u : HO) : Sim Γ (With O D) L m z σ (upd H D u) := by
  have lD : L D = none := (h.st.out D (.inr rfl)).2
  have hm : ∀ a u', ¬ Bd (With O D) L a → H a = some u' → ¬ Bd (With O D) L a ∧ (upd H D u) a = some u' := fun a u' nb e => ⟨nb, by rw [upd_ne fun q => nb (.inl (.inr q))]; exact e⟩
  have hq : ∀ a u' (w : Own), L a = some w → H a = some u' → L a = some w ∧ (upd H D u) a = some u' := fun a u' w l e => ⟨l, by rw [upd_ne fun q => by rw [q, lD] at l; cases l]; exact e⟩
  have tr : ∀ a, H a ≠ none → upd H D u a ≠ none := fun a q => by
    by_cases e : a = D
    · rw [e, upd_same]; simp
    · rw [upd_ne e]; exact q
  refine ⟨⟨h.st.mlen, fun j o e => ?_, fun a q => ⟨tr a (h.st.out a q).1, (h.st.out a q).2⟩, fun a q => tr a (h.st.trk a q)⟩, h.len, fun i sv e => ?_⟩
  · obtain ⟨v, e1, r⟩ := h.st.cells j o e
    exact ⟨v, e1, r.mono hm fun a u' p l e => hq a u' _ l e⟩
  · have r := h.slots i sv e
    cases sv with
    | none => trivial
    | d x => obtain ⟨v, e1, r⟩ := r; exact ⟨v, e1, r.mono hm⟩
    | cel j => exact r
    | own o => obtain ⟨v, e1, r⟩ := r; exact ⟨v, e1, r.mono hm fun a u' p l e => hq a u' _ l e⟩
theorem Rep.hidden {D : Addr} {x : Eng.D} {v : V} (u : HO) (h : Rep Γ.K Γ.C (Bd (With O D) L) H x v) : Rep Γ.K Γ.C (Bd (With O D) L) (upd H D u) x v :=
  h.mono fun a u' nb e => ⟨nb, by rw [upd_ne fun q => nb (.inl (.inr q))]; exact e⟩
/-- .. and comes out as a loose result -/
theorem Sim.shown {D : Addr} (h : Sim Γ (With O D) L m z σ H) (hO : ¬ O D) : Sim Γ O (lab L D (.res [])) m z σ H := by
  have lD : L D = none := (h.st.out D (.inr rfl)).2
  have hm : ∀ a u', ¬ Bd (With O D) L a → H a = some u' → ¬ Bd O (lab L D (.res [])) a ∧ H a = some u' := fun a u' nb e => by
    have n : a ≠ D := fun q => nb (.inl (.inr q))
    exact ⟨fun q => q.elim (fun q => nb (.inl (.inl q))) (fun q => by rw [lab_ne n] at q; exact nb (.inr q)), e⟩
  have hq : ∀ a u' (w : Own), L a = some w → H a = some u' → lab L D (.res []) a = some w ∧ H a = some u' := fun a u' w l e => ⟨by rw [lab_ne fun q => by rw [q, lD] at l; cases l]; exact l, e⟩
  refine ⟨⟨h.st.mlen, fun j o e => ?_, fun a q => ?_, fun a q => ?_⟩, h.len, fun i sv e => ?_⟩
  · obtain ⟨v, e1, r⟩ := h.st.cells j o e
    exact ⟨v, e1, r.mono hm fun a u' p l e => hq a u' _ l e⟩
  · have n : a ≠ D := fun e => hO (e ▸ q)
    exact ⟨(h.st.out a (.inl q)).1, by rw [lab_ne n]; exact (h.st.out a (.inl q)).2⟩
  · by_cases e : a = D
    · rw [e]; exact (h.st.out D (.inr rfl)).1
    · rw [lab_ne e] at q; exact h.st.trk a q
  · have r := h.slots i sv e
    cases sv with
    | none => trivial
    | d x => obtain ⟨v, e1, r⟩ := r; exact ⟨v, e1, r.mono hm⟩
    | cel j => exact r
    | own o => obtain ⟨v, e1, r⟩ := r; exact ⟨v, e1, r.mono hm fun a u' p l e => hq a u' _ l e⟩
def wComp (vs : List Nat) (wi : WI) (g : WG) (t : WT) (el : WE) : WE := fun z Q R => wi z (fun xs src z1 => cLoop vs (srcP xs src) g t el (fun acc z2 => Q (.new (.lst acc)) (backS z1 z2 vs)) xs [] (wipeZ z1 vs)) R
/-- the simulation of a comprehension's reading -/
theorem lc_sim {tg el iter : Expr} {ifs : List Expr} {vs : List Nat} {scope : Scope} {wi : WI} {g : WG} {wt : WT} {we : WE} (hi : SI Γ sc st iter wi) (hg : SG Γ.noE (relS scope sc) scope.names tg vs g) (ht : SIf Γ.noE (relS scope sc) scope.names ifs wt) (he : SE Γ.noE (relS scope sc) scope.names el we) :
    ∃ (ti : TI) (tg' : TG) (tt : TT) (te : TE), (∀ X tg, Ctx Γ sc st X → PI X tg iter ti) ∧ (∀ X, Ctx Γ.noE (relS scope sc) scope.names X → PG X tg tg' ∧ PTs X ifs tt ∧ PE X el te) ∧
      ∀ (O : Addr → Prop) (L : Lab) (m : List V) (z : Z) (σ : St) (H : Hp) (Q : VK) (Qd : W → Z → Prop) (R : XR),
        Cl L → Sim Γ O L m z σ H → wComp vs wi g wt we z Qd R → Xok Γ O L m σ H R → PostE Γ O L m σ H Qd Q → tLc ti tg' tt te vs σ H Q := by
  obtain ⟨ti, pi, si⟩ := hi.ex
  obtain ⟨tg', pg, sg⟩ := hg.ex
  obtain ⟨tt, pt, st'⟩ := ht.ex
  obtain ⟨te, pe, se⟩ := he.f
  refine ⟨ti, tg', tt, te, pi, fun X C => ⟨pg X C, pt X C, pe X C⟩, fun O L m z σ H Q Qd R cl S hw hx k => ?_⟩
  refine si O L m z σ H _ _ R cl S hw hx fun L1 z1 H1 J xs src s1 c1 S1 it q D hD => ?_
  have nO : ¬ O D := fun q => (S1.st.out D q).1 hD
  have hO2 : ∀ a, With O D a → O a ∨ H1 a = none := fun a q => q.elim .inl fun e => .inr (e ▸ hD)
  have turnOf : ∀ {z2 : Z} {τ : St}, (∀ i, i ∉ vs → τ[i]? = σ[i]?) → srcP xs src z2 → (∀ i, i ∈ vs → ∀ w, src = some w → w = .slot i → False) → turnP σ xs src z2 τ := fun {z2 τ} h1 h2 h4 => by
    cases src with
    | none => trivial
    | some w => exact ⟨h2, fun i ew => h1 i fun hi => h4 i hi w rfl ew⟩
  -- a slot that is walked is none of the block's own
  have wiped : ∀ (z2 : Z), (∀ i, i ∈ vs → z2.σ[i]? = some SV.none ∨ z2.σ[i]? = none) → ∀ i, i ∈ vs → ∀ x, rd z2 (.slot i) = some x → False := by
    intro z2 h i hi x e
    have e0 : (match z2.σ[i]? with
      | some (.d x) => some x
      | some (.own o) => o.dat
      | some (.cel j) => (z2.S[j]?).bind OV.dat
      | _ => none) = some x := e
    rcases h i hi with q | q <;> (rw [q] at e0; cases e0)
  have isW : ∀ z2 : Z, ∀ i, i ∈ vs → (wipeZ z2 vs).σ[i]? = some SV.none ∨ (wipeZ z2 vs).σ[i]? = none := by
    intro z2 i hi
    have q : ∀ ws : List Nat, i ∈ ws → (wipeZ z2 ws).σ[i]? = some SV.none ∨ (wipeZ z2 ws).σ[i]? = none := by
      intro ws
      induction ws with
      | nil => intro h; cases h
      | cons v ws ih =>
        intro h
        show ((wipeZ z2 ws).σ.set v SV.none)[i]? = _ ∨ ((wipeZ z2 ws).σ.set v SV.none)[i]? = _
        by_cases ev : v = i
        · subst ev
          by_cases hlt : v < (wipeZ z2 ws).σ.length
          · exact .inl (List.getElem?_set_self hlt)
          · exact .inr (List.getElem?_eq_none (by rw [List.length_set]; omega))
        · rw [List.getElem?_set_ne ev]
          rcases List.mem_cons.mp h with q | q
          · exact absurd q.symm ev
          · exact ih q
    exact q vs hi
  have offs : ∀ (z2 : Z), (∀ i, i ∈ vs → z2.σ[i]? = some SV.none ∨ z2.σ[i]? = none) → srcP xs src z2 → ∀ i, i ∈ vs → ∀ w, src = some w → w = .slot i → False := fun z2 h hP i hi w ew ei => by
    subst ew
    subst ei
    exact wiped z2 h i hi _ hP
  have offW : ∀ i, i ∉ vs → (wps σ vs)[i]? = σ[i]? := fun i hi => wipe_out hi
  refine ⟨fun i mm H2 => mm = xs.length - i ∧ i ≤ xs.length ∧ ∃ L2 z2 acc avs, Stp L1 H1 L2 H2 ∧ Cl L2 ∧ Sim Γ (With O D) L2 m z2 (wps σ vs) H2 ∧ (∀ i, i ∈ vs → z2.σ[i]? = some SV.none ∨ z2.σ[i]? = none) ∧ H2 D = some (.lst avs) ∧ RepL Γ.K Γ.C (Bd (With O D) L2) H2 acc avs ∧
    cLoop vs (srcP xs src) g wt we (fun acc z2 => Qd (.new (.lst acc)) (backS z1 z2 vs)) (xs.drop i) acc z2,
    ⟨xs.length, rfl, Nat.zero_le _, L1, wipeZ z1 vs, [], [], stp_new hD, c1, (S1.wipe vs).hide _ hD, isW z1, upd_same, .nil, q⟩, ?_⟩
  rintro i mm H2 ⟨rfl, hi, L2, z2, acc, avs, s2, c2, S2, w2, hD2, ra, q2⟩
  by_cases hlt : i < xs.length
  · have e0 : xs.drop i = xs[i] :: xs.drop (i + 1) := List.drop_eq_getElem_cons hlt
    rw [e0] at q2
    obtain ⟨hP, q2⟩ := q2
    have ex : xs[i]? = some xs[i] := by simp [hlt]
    obtain ⟨go, yl⟩ := it.go (With O D) L2 z2 (wps σ vs) H2 i _ hO2 s2 c2 S2 (turnOf offW hP (offs z2 w2 hP)) ex
    refine .inr ⟨go, fun H' => i + 1 ≤ xs.length ∧ ∃ L2 z2 acc avs, Stp L1 H1 L2 H' ∧ Cl L2 ∧ Sim Γ (With O D) L2 m z2 (wps σ vs) H' ∧ (∀ i, i ∈ vs → z2.σ[i]? = some SV.none ∨ z2.σ[i]? = none) ∧ H' D = some (.lst avs) ∧ RepL Γ.K Γ.C (Bd (With O D) L2) H' acc avs ∧
      cLoop vs (srcP xs src) g wt we (fun acc z2 => Qd (.new (.lst acc)) (backS z1 z2 vs)) (xs.drop (i + 1)) acc z2, fun H' n => ⟨xs.length - (i + 1), by omega, rfl, n⟩, fun v H3 y => ?_⟩
    obtain ⟨s3, S3, r3⟩ := yl v H3 y
    refine sg (With O D) L2 m z2 (wps σ vs) H3 _ v _ _ noX c2 (S3 m z2 _ pre_refl S2).no r3 q2 xok_no fun L4 z4 σ4 H4 s4 c4 S4 l4 o4 q4 => ?_
    have e4 : wps σ4 vs = wps (wps σ vs) vs := lookup_set_off l4 o4
    refine ⟨e4.trans (lookup_set_off (by rw [wipe_length]) fun i hi => wipe_out hi), ?_⟩
    have e5 : wps σ4 vs = wps σ vs := e4.trans (lookup_set_off (by rw [wipe_length]) fun i hi => wipe_out hi)
    refine st' (With O D) L4 m z4 σ4 H4 _ _ noX c4 S4 q4 xok_no fun L5 z5 H5 b s5 c5 S5 q5 => ?_
    have s25 := (s3.trans s4).trans s5
    have lD2 : L2 D = none := (S2.st.out D (.inr rfl)).2
    cases b with
    | true =>
      refine (if_pos rfl).mpr ?_
      rw [if_pos rfl] at q5
      refine se (With O D) L5 m z5 σ4 H5 _ _ noX c5 S5 q5 xok_no fun L6 z6 H6 x6 v6 s6 c6 n6 S6 r6 q6 => ?_
      obtain ⟨d, rfl, hz, q6⟩ := q6
      have s26 := s25.trans s6
      have hD6 : H6 D = some (.lst avs) := (s26 D _ lD2 hD2).2
      have ra6 : RepL Γ.K Γ.C (Bd (With O D) L6) H6 acc avs := ra.mono (Stp.m s26)
      refine ⟨avs, hD6, by rw [← ra6.length]; exact hz, hlt, L6, wipeZ z6 vs, acc ++ [d], avs ++ [v6], ?_, c6, ?_, isW z6, upd_same, ?_, q6⟩
      · intro a u l e
        obtain ⟨h1, h2⟩ := (s2.trans s26) a u l e
        exact ⟨h1, by rw [upd_ne (ne_of_none e hD)]; exact h2⟩
      · have S6' := (S6.ofNo.hidden (.lst (avs ++ [v6]))).wipe vs
        have S6'' : Sim Γ (With O D) L6 m (wipeZ z6 vs) (wps σ4 vs) (upd H6 D (.lst (avs ++ [v6]))) := S6'
        rw [e5] at S6''
        exact S6''
      · exact (ra6.append (.cons r6.2 .nil)).mono fun a u' nb e => ⟨nb, by rw [upd_ne fun q => nb (.inl (.inr q))]; exact e⟩
    | false =>
      refine (if_neg Bool.false_ne_true).mpr ?_
      rw [if_neg Bool.false_ne_true] at q5
      refine ⟨hlt, L5, wipeZ z5 vs, acc, avs, s2.trans s25, c5, ?_, isW z5, (s25 D _ lD2 hD2).2, ra.mono (Stp.m s25), q5⟩
      have S5' : Sim Γ (With O D) L5 m (wipeZ z5 vs) (wps σ4 vs) H5 := S5.ofNo.wipe vs
      rw [e5] at S5'
      exact S5'
  · have e0 : i = xs.length := by omega
    subst e0
    rw [List.drop_length] at q2
    obtain ⟨hP, q2⟩ := q2
    refine .inl ⟨it.stop (With O D) L2 z2 (wps σ vs) H2 hO2 s2 c2 S2 (turnOf offW hP (offs z2 w2 hP)), ?_⟩
    have S3 := S2.shown nO
    have lD2 : L2 D = none := (S2.st.out D (.inr rfl)).2
    have sE : Stp L1 H1 (lab L2 D (.res [])) H2 := fun a u l e => by
      obtain ⟨h1, h2⟩ := s2 a u l e
      exact ⟨by rw [lab_ne (ne_of_none e hD)]; exact h1, h2⟩
    refine k (lab L2 D (.res [])) (backS z1 z2 vs) H2 (.new (.lst acc)) (.ref D) (s1.trans sE) (Sim.back S1 sE S3) ?_ q2
    refine .lst lab_same hD2 (ra.mono fun a u' nb e => ?_)
    have n : a ≠ D := fun q => nb (.inl (.inr q))
    exact ⟨fun q => q.elim (fun q => nb (.inl (.inl q))) (fun q => by rw [lab_ne n] at q; exact nb (.inr q)), e⟩
theorem se_lc {tg el iter : Expr} {ifs : List Expr} {own : List (Str × Nat)} {scope : Scope} {wi : WI} {g : WG} {wt : WT} {we : WE} (ok : BlkOk Γ.N sc scope own) (hi : SI Γ sc st iter wi) (hg : SG Γ.noE (relS scope sc) scope.names tg (own.map (·.2)) g) (ht : SIf Γ.noE (relS scope sc) scope.names ifs wt) (he : SE Γ.noE (relS scope sc) scope.names el we)
    (hs : ∀ env x, foldedSetIterable iter env x = pure x) : SE Γ sc st (.ListComp el [⟨tg, iter, ifs, 0⟩] scope pos) (wComp (own.map (·.2)) wi g wt we) := by
  obtain ⟨ti, tg', tt, te, p1, p2, sim⟩ := lc_sim hi hg ht he
  refine ⟨_, fun X C => ?_, sim⟩
  have ok' : BlkOk X.N X.env.scope scope own := by rw [C.N, C.scp]; exact ok
  have cb := fun s H Cc cl fp => p2 _ (ctx_blk C ok s H Cc cl fp)
  exact pe_lc C.calm C.ndX (p1 X tg C) ok' (fun s H Cc cl fp => (cb s H Cc cl fp).1) (fun s H Cc cl fp => (cb s H Cc cl fp).2.1) (fun s H Cc cl fp => (cb s H Cc cl fp).2.2) (hs _)
/-- name = [..] on one line -/
theorem ss_setLc {own' : Bool} {i : Nat} {y : Str} {py spos : Pos} {tg el iter : Expr} {ifs : List Expr} {own : List (Str × Nat)} {scope : Scope} {wi : WI} {g : WG} {wt : WT} {we : WE} (hN : Γ.N[i]? = some y) (hyl : sc.names.lookup y = some .local) (ok : BlkOk Γ.N sc scope own) (hi : SI Γ sc st iter wi) (hg : SG Γ.noE (relS scope sc) scope.names tg (own.map (·.2)) g) (ht : SIf Γ.noE (relS scope sc) scope.names ifs wt) (he : SE Γ.noE (relS scope sc) scope.names el we)
    (hs : ∀ env x, foldedSetIterable iter env x = pure x) (hl : (py.line == pos.line) = true) (ha : (scope.names.any fun (n, k) => n == y && (k == .local || k == .cell)) = false) :
    SS Γ sc st (.Assign [.Name y py] (.ListComp el [⟨tg, iter, ifs, 0⟩] scope pos) spos) (if own' then wSetO i (wComp (own.map (·.2)) wi g wt we) else wSet i (wComp (own.map (·.2)) wi g wt we)) := by
  obtain ⟨ti, tg', tt, te, p1, p2, sim⟩ := lc_sim (vs := own.map (·.2)) hi hg ht he
  refine ⟨tAsg (tLc ti tg' tt te (own.map (·.2))) (gName i), fun X C => ?_, fun O L m z σ H D Dd R cl S hw hx k => ?_⟩
  · have ok' : BlkOk X.N X.env.scope scope own := by rw [C.N, C.scp]; exact ok
    have cb := fun s H Cc cl fp => p2 _ (ctx_blk C ok s H Cc cl fp)
    have hyl' : X.env.scope.names.lookup y = some .local := by rw [C.scp]; exact hyl
    have hk : X.env.scope.kind = .function := by rw [C.scp]; exact C.kind
    exact ps_setLc C.calm C.ndX (C.ix hN) hyl' (sw_true hk hyl' hl ha) (p1 X tg C) ok' (fun s H Cc cl fp => (cb s H Cc cl fp).1) (fun s H Cc cl fp => (cb s H Cc cl fp).2.1) (fun s H Cc cl fp => (cb s H Cc cl fp).2.2) (hs _)
  · cases own' with
    | true =>
      have hw' : wSetO i (wComp (own.map (·.2)) wi g wt we) z Dd R := hw
      refine sim O L m z σ H _ _ R cl S hw' hx fun L1 z1 H1 x v s1 S1 r1 q => ?_
      cases x with
      | d d => exact q.elim
      | cel j => exact q.elim
      | slot j => exact q.elim
      | new o => exact k.nx (toSlot i L1) m _ _ H1 (s1.trans stp_toSlot) pre_refl toSlot_cl (S1.setO i r1) q
    | false =>
      have hw' : wComp (own.map (·.2)) wi g wt we z (fun x z' => setQ i Dd (fz x) z') R := hw
      refine sim O L m z σ H _ _ R cl S hw' hx fun L1 z1 H1 x v s1 S1 r1 q => ?_
      cases x with
      | d d => exact k.nx L1 m _ _ H1 s1 pre_refl r1.1 (S1.setD i r1.2) q
      | cel j => exact k.nx L1 m _ _ H1 s1 pre_refl r1.1 (S1.setC i r1.2) q
      | slot j => exact q.elim
      | new o => exact k.nx (unres L1) m _ _ H1 (s1.trans stp_unres) pre_refl unres_cl (S1.unres.setD i (OVR.freed (B := fun _ => False) (fun a oa => (S1.st.out a oa).2) r1)) q
end
end Eng

end
section
set_option Elab.async false
set_option linter.all false
set_option maxRecDepth 100000
/-! Eng7: taking, pushing; calls of defs; bodies. -/
namespace Eng
open PySem PySem.Spec PyProof.Rows L2
section
variable {Γ : Gm} {sc : Scope} {st : Names'} {O : Addr → Prop} {L L' : Lab} {m m' : List V} {z z' : Z} {σ : St} {H H' : Hp} {e a b c : Expr} {w wa wb wc : WE} {s : Stmt} {ss : List Stmt} {u u' : WS} {pos : Pos}

/-! ### relabelling in general -/
/-- labels changed by f; f keeps none -/
def rel (f : Own → Option Own) (L : Lab) : Lab := fun a => match L a with
  | some o => f o
  | none => none
theorem rel_none {f : Own → Option Own} {a : Addr} (h : L a = none) : rel f L a = none := by unfold rel; rw [h]
theorem rel_some {f : Own → Option Own} {a : Addr} {o : Own} (h : L a = some o) : rel f L a = f o := by unfold rel; rw [h]
theorem rel_of {f : Own → Option Own} {a : Addr} {o : Own} (h : rel f L a = some o) : ∃ o', L a = some o' ∧ f o' = some o := by
  unfold rel at h
  cases q : L a with
  | none => rw [q] at h; cases h
  | some o' => rw [q] at h; exact ⟨o', rfl, h⟩
theorem stp_rel {f : Own → Option Own} : Stp L H (rel f L) H := fun a u l e => ⟨rel_none l, e⟩
theorem rel_trk {f : Own → Option Own} (t : ∀ a, L a ≠ none → H a ≠ none) : ∀ a, rel f L a ≠ none → H a ≠ none := fun a q => t a fun l => q (rel_none l)
/-- the own of a root becomes data -/
theorem OVR.free {r : List Str → Own} {f : Own → Option Own} (hf : ∀ p, f (r p) = none) (S : ∀ a, O a → L a = none) {o : OV} {v : V} {p : List Str} (h : OVR Γ.K Γ.C (Bd O L) L H r p o v) : Rep Γ.K Γ.C (Bd O (rel f L)) H o.frz v := by
  exact go S hf h
where
  go {r : List Str → Own} {f : Own → Option Own} (S : ∀ a, O a → L a = none) (hf : ∀ p, f (r p) = none) : ∀ {p : List Str} {o : OV} {v : V}, OVR Γ.K Γ.C (Bd O L) L H r p o v → Rep Γ.K Γ.C (Bd O (rel f L)) H o.frz v
  | _, _, _, .d h => (stp_rel (H := H)).rep h
  | _, _, _, .lst l h hs => .lst (fun q => q.elim (fun q => by rw [S _ q] at l; cases l) (fun q => q (by rw [rel_some l]; exact hf _))) h (hs.mono (Stp.m stp_rel))
  | _, _, _, .dic l h hs => .dct (fun q => q.elim (fun q => by rw [S _ q] at l; cases l) (fun q => q (by rw [rel_some l]; exact hf _))) h (hs.mono (Stp.m stp_rel))
  | _, _, _, .ins l h n hs => .ob (fun q => q.elim (fun q => by rw [S _ q] at l; cases l) (fun q => q (by rw [rel_some l]; exact hf _))) h (goF S hf hs)
  goF {r : List Str → Own} {f : Own → Option Own} (S : ∀ a, O a → L a = none) (hf : ∀ p, f (r p) = none) : ∀ {p : List Str} {o : List (Str × OV)} {v : List (Str × V)}, OVRF Γ.K Γ.C (Bd O L) L H r p o v → RepF Γ.K Γ.C (Bd O (rel f L)) H (OV.frzF o) v
  | _, _, _, .nil => .nil
  | _, _, _, .cons h hs => .cons (go S hf h) (goF S hf hs)
/-- a root renamed -/
theorem OVR.ren {r r' : List Str → Own} {f : Own → Option Own} (hf : ∀ p, f (r p) = some (r' p)) {o : OV} {v : V} {p : List Str} (h : OVR Γ.K Γ.C (Bd O L) L H r p o v) : OVR Γ.K Γ.C (Bd O (rel f L)) (rel f L) H r' p o v :=
  h.mono (Stp.m stp_rel) fun a u p l e => ⟨by rw [rel_some l]; exact hf p, e⟩
/-! ### a name's own list taken: it becomes data -/
def fTake (i : Nat) : Own → Option Own
  | .slot j p => if j = i then none else some (.slot j p)
  | o => some o
def wTake (i : Nat) : WE := fun z Q _ => ∃ o, z.σ[i]? = some (.own o) ∧ Q (.d o.frz) { z with σ := z.σ.set i (.d o.frz) }
theorem rel_cl {f : Own → Option Own} (hf : ∀ o p, f o = some (.res p) → ∃ p', o = .res p') (c : Cl L) : Cl (rel f L) := fun a p e => by
  obtain ⟨o, h1, h2⟩ := rel_of e
  obtain ⟨p', rfl⟩ := hf o p h2
  exact c a p' h1
theorem Sim.relSlot (S : Sim Γ O L m z σ H) {i : Nat} {f : Own → Option Own} (h1 : ∀ j p, j ≠ i → f (.slot j p) = some (.slot j p)) (h2 : ∀ j p, f (.cell j p) = some (.cell j p)) {sv : SV} (hv : SVR Γ O (rel f L) m H i sv σ[i]?) : Sim Γ O (rel f L) m { z with σ := z.σ.set i sv } σ H := by
  refine ⟨⟨S.st.mlen, fun j o e => ?_, fun a oa => ⟨(S.st.out a oa).1, rel_none (S.st.out a oa).2⟩, rel_trk S.st.trk⟩, by simp [S.len], fun j sv' e => ?_⟩
  · obtain ⟨v, e1, r⟩ := S.st.cells j o e
    exact ⟨v, e1, r.mono (Stp.m stp_rel) fun a u p l e => ⟨by rw [rel_some l]; exact h2 j p, e⟩⟩
  · by_cases hj : i = j
    · subst hj
      have hi : i < z.σ.length := by
        have := (List.getElem?_eq_some_iff.mp e).1
        simpa using this
      rw [List.getElem?_set_self hi] at e
      cases e
      exact hv
    · rw [List.getElem?_set_ne hj] at e
      have h := S.slots j sv' e
      cases sv' with
      | none => trivial
      | d x => obtain ⟨v, e1, r⟩ := h; exact ⟨v, e1, stp_rel.rep (H := H) r⟩
      | cel k => exact h
      | own o => obtain ⟨v, e1, r⟩ := h; exact ⟨v, e1, r.mono (Stp.m stp_rel) fun a u p l e => ⟨by rw [rel_some l]; exact h1 j p fun q => hj q.symm, e⟩⟩
theorem se_take {i : Nat} {x : Str} {pos : Pos} (hN : Γ.N[i]? = some x) (hv : visB sc x = true) : SE Γ sc st (.Name x pos) (wTake i) := by
  obtain ⟨v1, v2, v3⟩ := vis_of hv
  refine ⟨tVar i, fun X C => pe_var (by rw [C.N]; exact hN) (by rw [C.scp]; exact v1) v2 v3, fun O L m z σ H Q Qd R cl S hw hx k => ?_⟩
  obtain ⟨o, e, hw⟩ := hw
  obtain ⟨v, e1, r⟩ := S.slot e
  have fr : Rep Γ.K Γ.C (Bd O (rel (fTake i) L)) H o.frz v := r.free (fun p => if_pos rfl) fun a oa => (S.st.out a oa).2
  refine ⟨v, e1, k (rel (fTake i) L) _ H _ v stp_rel (S.relSlot (i := i) (f := fTake i) (sv := .d o.frz) (fun j p n => if_neg n) (fun j p => rfl) ⟨v, e1, fr⟩) (wrD (rel_cl (fun o p q => ?_) cl) fr) hw⟩
  cases o with
  | res p' => exact ⟨p', rfl⟩
  | cell j p' => cases q
  | slot j p' =>
    have q' : (if j = i then none else some (Own.slot j p')) = some (.res p) := q
    by_cases hj : j = i
    · rw [if_pos hj] at q'; cases q'
    · rw [if_neg hj] at q'; cases q'
/-- .. handed out as it is -/
def fMove (i : Nat) : Own → Option Own
  | .slot j p => if j = i then some (.res p) else some (.slot j p)
  | o => some o
def wMove (i : Nat) : WE := fun z Q _ => ∃ o, z.σ[i]? = some (.own o) ∧ Q (.new o) { z with σ := z.σ.set i .none }
theorem se_move {i : Nat} {x : Str} {pos : Pos} (hN : Γ.N[i]? = some x) (hv : visB sc x = true) : SE Γ sc st (.Name x pos) (wMove i) := by
  obtain ⟨v1, v2, v3⟩ := vis_of hv
  refine ⟨tVar i, fun X C => pe_var (by rw [C.N]; exact hN) (by rw [C.scp]; exact v1) v2 v3, fun O L m z σ H Q Qd R cl S hw hx k => ?_⟩
  obtain ⟨o, e, hw⟩ := hw
  obtain ⟨v, e1, r⟩ := S.slot e
  exact ⟨v, e1, k (rel (fMove i) L) _ H (.new o) v stp_rel (S.relSlot (i := i) (f := fMove i) (sv := .none) (fun j p n => if_neg n) (fun j p => rfl) trivial) (r.ren fun p => if_pos rfl) hw⟩
/-! ### a name's own object laid among the cells -/
def fPush (i n : Nat) : Own → Option Own
  | .slot j p => if j = i then some (.cell n p) else some (.slot j p)
  | .cell j p => if j < n then some (.cell j p) else none
  | o => some o
def wPush (i : Nat) (u : WS) : WS := fun z D R => ∃ o, z.σ[i]? = some (.own o) ∧ u { σ := z.σ.set i (.cel z.S.length), S := z.S ++ [o] } D R
theorem sss_push {i : Nat} (h : SSs Γ sc st ss u) : SSs Γ sc st ss (wPush i u) := by
  obtain ⟨t, p, s⟩ := h.ex
  refine ⟨t, p, fun O L m z σ H D Dd R cl S hw hx k => ?_⟩
  obtain ⟨o, e, hw⟩ := hw
  obtain ⟨v, e1, r⟩ := S.slot e
  have hp : m <+: m ++ [v] := List.prefix_append m [v]
  have hsz := S.st.mlen
  have cl' : Cl (rel (fPush i z.S.length) L) := rel_cl (fun o p q => by
    cases o with
    | res p' => exact ⟨p', rfl⟩
    | cell j p' =>
      have q' : (if j < z.S.length then some (Own.cell j p') else none) = some (.res p) := q
      by_cases hj : j < z.S.length
      · rw [if_pos hj] at q'; cases q'
      · rw [if_neg hj] at q'; cases q'
    | slot j p' =>
      have q' : (if j = i then some (Own.cell z.S.length p') else some (Own.slot j p')) = some (.res p) := q
      by_cases hj : j = i
      · rw [if_pos hj] at q'; cases q'
      · rw [if_neg hj] at q'; cases q') cl
  refine s O (rel (fPush i z.S.length) L) (m ++ [v]) _ σ H D Dd R cl' ⟨⟨?_, fun j oj ej => ?_, fun a oa => ⟨(S.st.out a oa).1, rel_none (S.st.out a oa).2⟩, rel_trk S.st.trk⟩, by simp [S.len], fun j sv ej => ?_⟩ hw (hx.at stp_rel hp) (k.later stp_rel hp)
  · show (m ++ [v]).length = (z.S ++ [o]).length
    rw [List.length_append, List.length_append, hsz] <;> rfl
  · have ej' : (z.S ++ [o])[j]? = some oj := ej
    by_cases hj : j < z.S.length
    · rw [List.getElem?_append_left hj] at ej'
      obtain ⟨vj, e2, rj⟩ := S.st.cells j oj ej'
      exact ⟨vj, by rw [List.getElem?_append_left (by rw [hsz]; exact hj)]; exact e2, rj.mono (Stp.m stp_rel) fun a u p l e => ⟨by rw [rel_some l]; exact if_pos hj, e⟩⟩
    · have hjl : j = z.S.length := by
        have := (List.getElem?_eq_some_iff.mp ej').1
        rw [List.length_append, List.length_singleton] at this
        omega
      subst hjl
      rw [List.getElem?_append_right (Nat.le_refl _), Nat.sub_self] at ej'
      cases ej'
      refine ⟨v, ?_, r.mono (Stp.m stp_rel) fun a u p l e => ⟨by rw [rel_some l]; exact if_pos rfl, e⟩⟩
      rw [← hsz, List.getElem?_append_right (Nat.le_refl _), Nat.sub_self]
      rfl
  · by_cases hj : i = j
    · subst hj
      have hi : i < z.σ.length := by
        have := (List.getElem?_eq_some_iff.mp ej).1
        simpa using this
      have ej' : (z.σ.set i (.cel z.S.length))[i]? = some sv := ej
      rw [List.getElem?_set_self hi] at ej'
      cases ej'
      refine ⟨v, e1, ?_⟩
      rw [← hsz, List.getElem?_append_right (Nat.le_refl _), Nat.sub_self]
      rfl
    · have ej' : (z.σ.set i (.cel z.S.length))[j]? = some sv := ej
      rw [List.getElem?_set_ne hj] at ej'
      have h := S.slots j sv ej'
      cases sv with
      | none => trivial
      | d x => obtain ⟨v, e1, r⟩ := h; exact ⟨v, e1, stp_rel.rep (H := H) r⟩
      | cel k =>
        obtain ⟨v', e2, e3⟩ := h
        exact ⟨v', e2, by rw [List.getElem?_append_left (List.getElem?_eq_some_iff.mp e3).1]; exact e3⟩
      | own oj => obtain ⟨v', e2, r⟩ := h; exact ⟨v', e2, r.mono (Stp.m stp_rel) fun a u p l e => ⟨by rw [rel_some l]; exact if_neg fun q => hj q.symm, e⟩⟩

/-! ### what a def promises, over data -/
abbrev DSpec := List W → List OV → (W → List OV → Prop) → (Exn → List OV → Prop) → Prop
def argB : W → Bool
  | .d _ => true
  | .cel _ => true
  | _ => false
/-- only cells (and a loose result) are owned -/
def Ent (L : Lab) : Prop := ∀ a o, L a = some o → ∃ j p, o = .cell j p
def Ent2 (L : Lab) : Prop := ∀ a o, L a = some o → (∃ j p, o = .cell j p) ∨ ∃ p, o = .res p
theorem Ent.cl (h : Ent L) : Cl L := fun a p e => by
  obtain ⟨j, q, e'⟩ := h a _ e
  cases e'
inductive ArgR (K : PySem.W.Frag) (cA : Str → Addr) (O : Addr → Prop) (L : Lab) (m : List V) (H : Hp) : List W → List V → Prop
  | nil : ArgR K cA O L m H [] []
  | d {x : D} {v : V} {ws : List W} {vs : List V} : Rep K cA (Bd O L) H x v → ArgR K cA O L m H ws vs → ArgR K cA O L m H (.d x :: ws) (v :: vs)
  | c {j : Nat} {v : V} {ws : List W} {vs : List V} : m[j]? = some v → ArgR K cA O L m H ws vs → ArgR K cA O L m H (.cel j :: ws) (v :: vs)
/-- what all defs of a law share -/
abbrev Gm.core (Γ : Gm) : Gm := { Γ with N := [], k := 0, base := {}, E := fun _ _ _ _ => False }
def toSp (Γ : Gm) (sp : DSpec) : Sp := fun vs H Q E => ∃ (O : Addr → Prop) (L : Lab) (m : List V) (S : List OV) (ws : List W) (Qd : W → List OV → Prop) (Rd : Exn → List OV → Prop),
  Ent L ∧ SimS Γ.core O L m S H ∧ ArgR Γ.K Γ.C O L m H ws vs ∧ sp ws S Qd Rd ∧
  (∀ L' S' H' r v, Ent2 L' → Stp L H L' H' → SimS Γ.core O L' m S' H' → Wr Γ.core O L' m [] H' r v → Qd r S' → Q v H') ∧
  (∀ L' S' H' x cls d, Ent L' → Stp L H L' H' → SimS Γ.core O L' m S' H' → ExR Γ.core O L' H' x cls d → Rd x S' → E cls d H')
theorem SimS.core {S : List OV} (h : SimS Γ O L m S H) : SimS Γ.core O L m S H := ⟨h.mlen, h.cells, h.out, h.trk⟩
theorem SimS.ofCore {S : List OV} (h : SimS Γ.core O L m S H) : SimS Γ O L m S H := ⟨h.mlen, h.cells, h.out, h.trk⟩
theorem ArgR.length {ws : List W} {vs : List V} (h : ArgR Γ.K Γ.C O L m H ws vs) : ws.length = vs.length := by
  induction h with
  | nil => rfl
  | d _ _ ih => exact congrArg Nat.succ ih
  | c _ _ ih => exact congrArg Nat.succ ih
theorem ArgR.append {ws ws' : List W} {vs vs' : List V} (h : ArgR Γ.K Γ.C O L m H ws vs) (h' : ArgR Γ.K Γ.C O L m H ws' vs') : ArgR Γ.K Γ.C O L m H (ws ++ ws') (vs ++ vs') := by
  induction h with
  | nil => exact h'
  | d r _ ih => exact .d r ih
  | c r _ ih => exact .c r ih
/-! the caller's side -/
def fCell : Own → Option Own
  | .cell j p => some (.cell j p)
  | _ => none
theorem ent_rel : Ent (rel fCell L) := fun a o e => by
  obtain ⟨o', h1, h2⟩ := rel_of e
  cases o' with
  | cell j p => cases h2; exact ⟨j, p, rfl⟩
  | slot j p => cases h2
  | res p => cases h2
/-- the callers' slots stand outside -/
def OutS (O : Addr → Prop) (L : Lab) : Addr → Prop := fun a => O a ∨ ∃ i p, L a = some (.slot i p)
theorem bd_call (cl : Cl L) (a : Addr) : Bd (OutS O L) (rel fCell L) a ↔ Bd O L a := by
  unfold Bd OutS
  constructor
  · rintro ((h | ⟨i, p, h⟩) | h)
    · exact .inl h
    · exact .inr (by rw [h]; simp)
    · exact .inr fun q => h (rel_none q)
  · rintro (h | h)
    · exact .inl (.inl h)
    · cases q : L a with
      | none => exact absurd q h
      | some o =>
        cases o with
        | slot i p => exact .inl (.inr ⟨i, p, rfl⟩)
        | cell j p => exact .inr (by rw [rel_some q]; simp [fCell])
        | res p => exact absurd q (cl a p)
/-- behind the call: the callers' slots as they were, else as the callee left it -/
def joinL (L L' : Lab) : Lab := fun a => match L a with
  | some (.slot i p) => some (.slot i p)
  | _ => L' a
theorem joinL_slot {a : Addr} {i p} (h : L a = some (.slot i p)) : joinL L L' a = some (.slot i p) := by unfold joinL; rw [h]
theorem joinL_other {a : Addr} (h : ∀ i p, L a ≠ some (.slot i p)) : joinL L L' a = L' a := by
  unfold joinL
  cases q : L a with
  | none => rfl
  | some o =>
    cases o with
    | slot i p => exact absurd q (h i p)
    | cell j p => rfl
    | res p => rfl
theorem call_in (S : Sim Γ O L m z σ H) (cl : Cl L) : SimS Γ (OutS O L) (rel fCell L) m z.S H := by
  refine ⟨S.st.mlen, fun j o e => ?_, fun a q => ?_, rel_trk S.st.trk⟩
  · obtain ⟨v, e1, r⟩ := S.st.cells j o e
    exact ⟨v, e1, r.mono (fun a u nb e => ⟨fun q => nb ((bd_call cl a).mp q), e⟩) fun a u p l e => ⟨by rw [rel_some l]; rfl, e⟩⟩
  · rcases q with q | ⟨i, p, q⟩
    · exact ⟨(S.st.out a q).1, rel_none (S.st.out a q).2⟩
    · exact ⟨S.st.trk a (by rw [q]; simp), by rw [rel_some q]; rfl⟩
theorem wrs_args {ws : List W} {vs : List V} (cl : Cl L) (h : Wrs Γ O L m σ H ws vs) (hb : ws.all argB = true) : ArgR Γ.K Γ.C (OutS O L) (rel fCell L) m H ws vs := by
  induction h with
  | nil => exact .nil
  | @cons w v ws vs r rs ih =>
    rw [List.all_cons, Bool.and_eq_true] at hb
    cases w with
    | d x => exact .d (r.2.mono fun a u nb e => ⟨fun q => nb ((bd_call cl a).mp q), e⟩) (ih hb.2)
    | cel j => exact .c r.2 (ih hb.2)
    | slot j => exact absurd hb.1 Bool.false_ne_true
    | new o => exact absurd hb.1 Bool.false_ne_true
theorem call_out (S : Sim Γ O L m z σ H) (cl : Cl L) {S' : List OV} (e2 : Ent2 L') (s : Stp (rel fCell L) H L' H') (h : SimS Γ (OutS O L) L' m S' H') :
    Stp L H (joinL L L') H' ∧ Sim Γ O (joinL L L') m { z with S := S' } σ H' ∧ (∀ a, Bd O (joinL L L') a ↔ Bd (OutS O L) L' a) ∧ ∀ a o, (∀ i p, o ≠ .slot i p) → L' a = some o → joinL L L' a = some o := by
  have slotOut : ∀ a i p, L a = some (.slot i p) → L' a = none ∧ ∀ u, H a = some u → H' a = some u := fun a i p l =>
    ⟨(h.out a (.inr ⟨i, p, l⟩)).2, fun u e => (s a u (by rw [rel_some l]; rfl) e).2⟩
  have bd : ∀ a, Bd O (joinL L L') a ↔ Bd (OutS O L) L' a := by
    intro a
    unfold Bd OutS
    by_cases hs : ∃ i p, L a = some (.slot i p)
    · obtain ⟨i, p, l⟩ := hs
      exact ⟨fun _ => .inl (.inr ⟨i, p, l⟩), fun _ => .inr (by rw [joinL_slot l]; simp)⟩
    · rw [joinL_other fun i p q => hs ⟨i, p, q⟩]
      exact ⟨fun q => q.elim (fun q => .inl (.inl q)) .inr, fun q => q.elim (fun q => q.elim .inl fun q => absurd q hs) .inr⟩
  have st : Stp L H (joinL L L') H' := fun a u l e => by
    obtain ⟨h1, h2⟩ := s a u (rel_none l) e
    exact ⟨by rw [joinL_other fun i p q => by rw [l] at q; cases q]; exact h1, h2⟩
  have keep : ∀ a o, (∀ i p, o ≠ .slot i p) → L' a = some o → joinL L L' a = some o := fun a o n l => by
    rw [joinL_other fun i p q => by rw [(slotOut a i p q).1] at l; cases l]
    exact l
  refine ⟨st, ⟨⟨h.mlen, fun j o e => ?_, fun a oa => ?_, fun a q => ?_⟩, S.len, fun i sv e => (S.slots i sv e).carry st fun a u i p l e => ⟨joinL_slot l, (slotOut a i p l).2 u e⟩⟩, bd, keep⟩
  · obtain ⟨v, e1, r⟩ := h.cells j o e
    exact ⟨v, e1, r.mono (fun a u nb e => ⟨fun q => nb ((bd a).mp q), e⟩) fun a u p l e => ⟨keep a _ (fun i p q => by cases q) l, e⟩⟩
  · obtain ⟨h1, h2⟩ := S.st.out a oa
    refine ⟨(h.out a (.inl oa)).1, ?_⟩
    rw [joinL_other fun i p q => by rw [h2] at q; cases q]
    exact (h.out a (.inl oa)).2
  · by_cases hs : ∃ i p, L a = some (.slot i p)
    · obtain ⟨i, p, l⟩ := hs
      exact (h.out a (.inr ⟨i, p, l⟩)).1
    · rw [joinL_other fun i p q => hs ⟨i, p, q⟩] at q
      exact h.trk a q
/-- a call by its promise over data -/
def wCall (sp : DSpec) (as : WAs) : WE := fun z Q R => as z (fun ws z1 => ws.all argB = true ∧ sp ws z1.S (fun r S' => Q r { z1 with S := S' }) (fun x S' => R x { z1 with S := S' })) R
theorem call_sim {sp : DSpec} {ws : List W} {vs : List V} {Q : VK} {Qd : W → Z → Prop} {R : XR} (S : Sim Γ O L m z σ H) (cl : Cl L) (r : Wrs Γ O L m σ H ws vs) (hb : ws.all argB = true)
    (h : sp ws z.S (fun r S' => Qd r { z with S := S' }) (fun x S' => R x { z with S := S' })) (hx : Xok Γ O L m σ H R) (k : PostE Γ O L m σ H Qd Q) : toSp Γ sp vs H Q (fun c d H' => Γ.E c d σ H') := by
  refine ⟨OutS O L, rel fCell L, m, z.S, ws, _, _, ent_rel, (call_in S cl).core, wrs_args cl r hb, h, fun L' S' H' w v e2 s h' rw' q => ?_, fun L' S' H' x cls d e1 s h' rx q => ?_⟩
  · obtain ⟨st', S2, bd, keep⟩ := call_out S cl e2 s h'.ofCore
    refine k (joinL L L') _ H' w v st' S2 ?_ q
    have clj : Cl L' → Cl (joinL L L') := fun c a p e => by
      by_cases hs : ∃ i p, L a = some (.slot i p)
      · obtain ⟨i, p', l⟩ := hs
        rw [joinL_slot l] at e
        cases e
      · rw [joinL_other fun i p q => hs ⟨i, p, q⟩] at e
        exact c a p e
    cases w with
    | d x => exact wrD (clj rw'.1) (rw'.2.mono fun a u nb e => ⟨fun q => nb ((bd a).mp q), e⟩)
    | cel j => exact wrC (clj rw'.1) rw'.2
    | slot j =>
      have := rw'.2
      simp at this
    | new o => exact OVR.mono (fun a u nb e => ⟨fun q => nb ((bd a).mp q), e⟩) (fun a u p l e => ⟨keep a _ (fun i p q => by cases q) l, e⟩) rw'
  · have e2 : Ent2 L' := fun a o e => .inl (e1 a o e)
    obtain ⟨st', S2, bd, keep⟩ := call_out S cl e2 s h'.ofCore
    refine hx (joinL L L') m _ σ H' x cls d st' pre_refl ?_ S2 ?_ q
    · intro a p e
      by_cases hs : ∃ i p, L a = some (.slot i p)
      · obtain ⟨i, p', l⟩ := hs
        rw [joinL_slot l] at e
        cases e
      · rw [joinL_other fun i p q => hs ⟨i, p, q⟩] at e
        exact e1.cl a p e
    · obtain ⟨ec, rx⟩ := rx
      refine ⟨ec, ?_⟩
      cases q2 : x.arg with
      | none => rw [q2] at rx; exact rx
      | some fy =>
        obtain ⟨f, y⟩ := fy
        rw [q2] at rx
        obtain ⟨a, v, e1, e2, e3, e4⟩ := rx
        exact ⟨a, v, e1, e2, e3.mono fun a u nb e => ⟨fun q => nb ((bd a).mp q), e⟩, fun q => e4 ((bd a).mp q)⟩
end
end Eng

end
section
set_option Elab.async false
set_option linter.all false
set_option maxRecDepth 100000
/-! EngG: promises of defs that are run where no guard stands in the stack (so that repr of nested data shows it whole). -/
namespace Eng
open PySem PySem.Spec PyProof.Rows L2
theorem NoGd.deeper {A : Around} (g : NoGd A) (e : Env) : NoGd (A.deeper e) := g
theorem NoGd.make {A : Around} (g : NoGd A) (C : Addr) (us : List Value) (kw : List (Str × Value)) : NoGd (A.under (.builtin "type.__call__" ⟨.ref C :: us, kw⟩)) := by
  have e : (Code.builtin "type.__call__" ⟨.ref C :: us, kw⟩).guards = [] := by
    have : (Code.builtin "type.__call__" ⟨.ref C :: us, kw⟩).isGuard = false := by
      show guardIds.contains "type.__call__" = false
      decide +kernel
    simp [Code.guards, this]
  unfold NoGd Around.under
  simp only [e, show A.guards = some [] from g]
  rfl
/-- as FnOk, where no guard stands -/
structure FnOkG (P : Program) (w : World) (K : PySem.W.Frag) (mg : Str → Option Value) (bs : Heap) (X : CXT) (n : Nat) (fn : Addr) (fdt : FuncData) (xs : List Str) (prm : Sp) : Prop where
  len : ∀ ys G R W, prm ys G R W → ys.length = xs.length
  run : ∀ (A : Around) (out : List Env) (sh : Shared) (G : Hp) (args : Args) (vals : List Value) (ys : List V) (R : VK) (W : XK), NoGd A → Room n A → Env0 P w K mg bs A out sh G → BindsTo sh fdt args (xs.zip vals) → Vals ys vals → prm ys G R W →
    codeAny (model P w) A (.call (.ref fn) args) (CR X out P w G sh R W) sh
section
variable {P : Program} {w : World} {K : PySem.W.Frag} {mg : Str → Option Value} {bs : Heap} {CX : CXT} {k : Nat} {f : Addr} {fd : FuncData} {ps : List Str} {sp : Sp}
theorem FnOkG.lift (F : FnOkG P w K mg bs CX k f fd ps sp) {j : Nat} (h : k ≤ j) : FnOkG P w K mg bs CX j f fd ps sp :=
  ⟨F.len, fun A o sh G args vals ys R W g r => F.run A o sh G args vals ys R W g (r.mono h)⟩
/-- a def of the text keeps a promise where its body does -/
theorem okG_of {x qual : Str} {params : Arguments} {body : List Stmt} {scope : Scope} {dvs : List V} {kws : List (Str × V)} {N : List Str} (D : FunD K x qual params body scope dvs kws f fd) (Sc : FnScope N ps scope) (hl : ∀ ys G R W, sp ys G R W → ys.length = ps.length)
    (hb : ∀ (cd : Value) (A : Around) (out : List Env) (sh : Shared) (G : Hp) (ys : List V) (R : VK) (W : XK), NoGd A → Room k (A.deeper (envOfC qual scope sh.heap.objs.size f cd)) → sp ys G R W →
      ∃ t, PSs (cxOf CX P w K mg bs N qual scope f cd A out sh G W) body t ∧ t { nx := fun _ G' => R .non G', rt := R } (start N ys) G) : FnOkG P w K mg bs CX (k + 1) f fd ps sp := by
  obtain ⟨oc, od, dV, kV, doc, pm, an, cd, ct, osl, rfl, lk, hcd, _, _⟩ := D.ex
  refine ⟨hl, fun A out sh G args vals ys R W g hr e0 hbd rv hsp => ?_⟩
  have ln := hl _ _ _ _ hsp
  have inK : K.In sh.heap := e0.mod.kin.keeps fun b o e => (e0.bs b o e).1
  have nl : sh.heap.NoLimit := e0.mod.nolimit.keeps fun b o e => (e0.bs b o e).1
  have kd : ∀ y ∈ ps.zip vals, scope.names.lookup y.1 = some .local ∨ (scope.names.lookup y.1 = some .cell ∧ ((cellsFrom (sh.heap.objs.size + 1) scope.names []).lookup y.1).isSome = true) := by
    rintro ⟨nm, v⟩ hy
    refine (Sc.par nm (List.of_mem_zip hy).1).imp id fun q => ⟨q, PySem.W.cellsFrom_some _ _ _ (.inl q)⟩
  refine codeAny_call_function hr.depth (inK _ _ lk) rfl Sc.co Sc.gen rfl (PySem.W.codeRec_of inK hcd) (hbd _ _ _ _ ?_)
  refine wpAny_newFunctionEnv_cells Sc.kind kd fun env he s1 st => ?_
  subst he
  refine ⟨nl.keeps st.toInCall.keep, codeAny_func ?_⟩
  obtain ⟨t, ht, hq⟩ := hb cd A out sh G ys R W g (hr.deeper _) hsp
  have I := inv_start (CX := CX) (w := w) (N := N) (E := W) Sc hr.hd e0 ln rv st
  refine wpAny_mono (ht.run [] s1 (start N ys) G _ I hq) (fun fl s2 hs => ?_) fun e s2 hs => hs
  cases fl with
  | ret u =>
    obtain ⟨v, _, G2, J, rv2, q⟩ := hs
    exact ⟨v, G2, J.os, J.bare, J.base, J.hok, rv2, q⟩
  | next =>
    obtain ⟨_, G2, J, q⟩ := hs
    exact ⟨V.non, G2, J.os, J.bare, J.base, J.hok, rfl, q⟩
  | brk => exact hs.elim fun _ h => h.elim fun _ h => False.elim h.2
  | cont => exact hs.elim fun _ h => h.elim fun _ h => False.elim h.2
end
section
variable {X : Cx} {CX : CXT} {k : Nat} {f : Addr} {fd : FuncData} {ps : List Str} {sp : Sp} {pins : List (Addr × Obj)} {σ : St} {H : Hp} {s : Shared} {Q : VK}
/-- a call of it -/
theorem run_fnG {W : XK} {us vals : List Value} {kw : List (Str × Value)} {ys : List V} (F : FnOkG X.prog X.w X.K X.mg X.base CX k f fd ps sp) (g : NoGd X.A) (hr : Room k X.A) (hb : BindsTo s fd ⟨us, kw⟩ (ps.zip vals)) (rv : Vals ys vals) (hx : PassesAt CX X σ W) (I : Inv X pins σ H s) (h : sp ys H Q W) :
    wpAny (model X.prog X.w) X.A (call (.ref f) us kw) (EP X pins σ Q) X.xe s := by
  refine wpAny_call (codeAny_mono (F.run X.A X.stack s H ⟨us, kw⟩ vals ys Q W g hr I.env0 hb rv h) fun r s2 hq => ?_)
  match r, hq with
  | .error e, hq => exact hx pins H s e s2 I hq
  | .ok (.ret u), hq => exact I.after hq
  | .ok .next, hq => exact False.elim hq
  | .ok .brk, hq => exact False.elim hq
  | .ok .cont, hq => exact False.elim hq
/-- an instance made by it -/
theorem run_mkG {C : Addr} {W : XK} {us : List Value} {ys : List V} (M : Mk X.K C f) (F : FnOkG X.prog X.w X.K X.mg X.base CX k f fd ps sp) (g : NoGd X.A) (hr : Room (k + 1) X.A) (hb : Binds X.K fd ps []) (hx : PassesAt CX X σ W) (I : Inv X pins σ H s) (rv : Vals ys us)
    (h : ∀ x dx, H x = none → H dx = none → dx ≠ x → sp (.ref x :: ys) (upd (upd H dx (.own x)) x (.ins C dx [])) (fun v H2 => v = .non ∧ Q (.ref x) H2) W) :
    wpAny (model X.prog X.w) X.A (call (.ref C) us) (EP X pins σ Q) X.xe s := by
  have hq := h (s.heap.objs.size + 1) s.heap.objs.size (I.hok.fresh (Nat.le_succ _)) (I.hok.fresh (Nat.le_refl _)) (Nat.ne_of_lt (Nat.lt_succ_self _))
  have J := Inv.made (C := C) I
  have rw2 : Vals (V.ref (s.heap.objs.size + 1) :: ys) (Value.ref (s.heap.objs.size + 1) :: us) := .cons rfl rv
  have ln : (Value.ref (s.heap.objs.size + 1) :: us ++ []).length = ps.length := by
    have e := rw2.length
    rw [F.len _ _ _ _ hq] at e
    rw [List.append_nil, ← e]
  have bd := hb _ (Value.ref (s.heap.objs.size + 1) :: us) J.kIn ln
  rw [List.append_nil] at bd
  have run := F.run _ X.stack _ _ ⟨Value.ref (s.heap.objs.size + 1) :: us, []⟩ (Value.ref (s.heap.objs.size + 1) :: us) _ _ W (g.make C us []) (hr.make C us []) (J.env0.make C us []) bd rw2 hq
  refine wpAny_call (make_map (f := f) I.kIn M.makes M.init (beq_iff_eq.mp M.fn) (codeAny_mono run fun r s2 hq2 => ?_))
  match r, hq2 with
  | .error e, hq2 => exact hx pins _ _ e s2 J hq2
  | .ok (.ret u), hq2 =>
    obtain ⟨v, H2, J2, rv2, ev, q⟩ := J.after hq2
    subst ev
    exact ⟨rv2, V.ref (s.heap.objs.size + 1), H2, J2, rfl, q⟩
  | .ok .next, hq2 => exact False.elim hq2
  | .ok .brk, hq2 => exact False.elim hq2
  | .ok .cont, hq2 => exact False.elim hq2
end
end Eng

end
section
set_option Elab.async false
set_option linter.all false
set_option maxRecDepth 100000
/-! Eng8: the calls' expressions; bodies. -/
namespace Eng
open PySem PySem.Spec PyProof.Rows L2
/-- the values of keywords -/
structure SK (Γ : Gm) (sc : Scope) (st : Names') (kws : List Keyword) (w : WAs) : Prop where
  ex : ∃ t : TA, (∀ X, Ctx Γ sc st X → PK X kws t) ∧ ∀ (O : Addr → Prop) (L : Lab) (m : List V) (z : Z) (σ : St) (H : Hp) (Q : List V → Hp → Prop) (Qd : List W → Z → Prop) (R : XR),
    Cl L → Sim Γ O L m z σ H → w z Qd R → Xok Γ O L m σ H R → (∀ L' z' H' ds vs, Stp L H L' H' → Cl L' → Sim Γ O L' m z' σ H' → Wrs Γ O L' m σ H' ds vs → ds.length = kws.length → Qd ds z' → Q vs H') → t σ H Q
section
variable {Γ : Gm} {sc : Scope} {st : Names'} {O : Addr → Prop} {L L' : Lab} {m m' : List V} {z z' : Z} {σ : St} {H H' : Hp} {e a b c o : Expr} {w wa wb wc wo : WE} {s : Stmt} {ss : List Stmt} {u u' : WS} {p pos apos : Pos} {es : List Expr} {was wks : WAs} {kws : List Keyword}
theorem Wrs.length {ws : List W} {vs : List V} (h : Wrs Γ O L m σ H ws vs) : ws.length = vs.length := by
  induction h with
  | nil => rfl
  | cons _ _ ih => exact congrArg Nat.succ ih
theorem Wrs.append {ws ws' : List W} {vs vs' : List V} (h : Wrs Γ O L m σ H ws vs) (h' : Wrs Γ O L m σ H ws' vs') : Wrs Γ O L m σ H (ws ++ ws') (vs ++ vs') := by
  induction h with
  | nil => exact h'
  | cons r _ ih => exact .cons r ih
theorem sk_nil : SK Γ sc st [] wNil := ⟨tNil, fun X C => pk_nil, fun O L m z σ H Q Qd R cl S hw hx k => k L z H [] [] Stp.refl cl S .nil rfl hw⟩
theorem sk_cons {nm : Option Str} {kpos : Pos} {wr : WAs} (ha : SE Γ sc st a wa) (hr : SK Γ sc st kws wr) : SK Γ sc st (⟨nm, a, kpos⟩ :: kws) (wCons wa wr) := by
  obtain ⟨ta, pa, sa⟩ := ha.f
  obtain ⟨tr, pr, sr⟩ := hr.ex
  refine ⟨tCons ta tr, fun X C => pk_cons (pa X C) (pr X C), fun O L m z σ H Q Qd R cl S hw hx k => ?_⟩
  refine sa O L m z σ H _ _ R cl S hw hx fun L1 z1 H1 x v s1 c1 n1 S1 r1 q => ?_
  refine sr O L1 m z1 σ H1 _ _ R c1 S1 q (hx.later s1) fun L2 z2 H2 xs vs s2 c2 S2 r2 l2 q2 => ?_
  exact k L2 z2 H2 _ _ (s1.trans s2) c2 S2 (.cons (Wr.later s2 c2 n1 r1) r2) (congrArg Nat.succ l2) q2

/-- a function value called with so many values and such keywords keeps a promise over data -/
structure RunOk (Γ : Gm) (f : Addr) (n : Nat) (ks : List Str) (sp : DSpec) : Prop where
  kp : PySem.W.keepIn Γ.K (.ref f) = true
  run : ∀ (X : Cx) (sc : Scope) (st : Names'), Ctx Γ sc st X → ∀ (pins : List (Addr × Obj)) (s : Shared) (σ : St) (H : Hp) (Q : VK) (us ws : List Value) (vs zs : List V), Inv X pins σ H s → Vals vs us → Vals zs ws → vs.length = n → zs.length = ks.length →
    toSp Γ sp (vs ++ zs) H Q (fun c d H => Γ.E c d σ H) → wpAny (model X.prog X.w) X.A (call (.ref f) us (ks.zip ws)) (EP X pins σ Q) X.xe s
theorem run_plain {k : Nat} {f : Addr} {fd : FuncData} {ps : List Str} {sp : DSpec} {n : Nat} (F : FnOkG Γ.P Γ.w Γ.K Γ.mg Γ.base (L2.CX Γ.P Γ.w) k f fd ps (toSp Γ sp)) (hk : k ≤ Γ.k) (hb : Binds Γ.K fd ps []) (kp : PySem.W.keepIn Γ.K (.ref f) = true) : RunOk Γ f n [] sp := by
  refine ⟨kp, fun X sc st C pins s σ H Q us ws vs zs I r rz l1 l2 h => ?_⟩
  have hz : zs = [] := List.length_eq_zero_iff.mp l2
  subst hz
  have F' : FnOkG X.prog X.w X.K X.mg X.base (L2.CX X.prog X.w) k f fd ps (toSp Γ sp) := by
    rw [C.P, C.w, C.K, C.mg, C.base]; exact F
  have hb' : Binds X.K fd ps [] := by rw [C.K]; exact hb
  cases rz
  rw [List.append_nil] at h
  have hl : us.length = ps.length := r.length.symm.trans (F'.len _ _ _ _ h)
  have bd := hb' s us I.kIn (by rw [List.append_nil]; exact hl)
  rw [List.append_nil] at bd
  exact run_fnG F' C.gd (C.room.mono hk) bd r (passAt C.tk σ) I h

/-! ### f(..) -/
theorem call_go {sp : DSpec} {Q : VK} {Qd : W → Z → Prop} {R : XR} {Ξ : Prop} {n : Nat} (S : Sim Γ O L m z σ H) (cl : Cl L) {ws : List W} {vs : List V} (r : Wrs Γ O L m σ H ws vs)
    (q : ws.all argB = true ∧ sp ws z.S (fun r S' => Qd r { z with S := S' }) (fun x S' => R x { z with S := S' })) (hx : Xok Γ O L m σ H R) (k : PostE Γ O L m σ H Qd Q) : toSp Γ sp vs H Q (fun c d H' => Γ.E c d σ H') :=
  call_sim S cl r q.1 q.2 hx k
theorem se_call0 {x : Str} {f : Addr} {sp : DSpec} (hg : glB sc x = true) (hm : Γ.mg x = some (.ref f)) (R : RunOk Γ f 0 [] sp) : SE Γ sc st (.Call (.Name x p) [] [] pos) (wCall sp wNil) := by
  refine ⟨fun σ H Q => toSp Γ sp [] H Q (fun c d H' => Γ.E c d σ H'), fun X C => ⟨fun pins s σ H Q I h => ?_⟩, fun O L m z σ H Q Qd R' cl S hw hx k => ?_⟩
  · have hg' := gl_of C hg
    refine wpAny_Call_Name_kw (ld_glob I hg'.1 (by rw [C.mg]; exact hm) ?_ hg'.2)
    have kp : PySem.W.keepIn X.K (.ref f) = true := by rw [C.K]; exact R.kp
    exact PySem.W.callWith_K0 I.kIn kp (R.run X sc st C pins s σ H Q [] [] [] [] I .nil .nil rfl rfl h)
  · exact call_sim S cl .nil hw.1 hw.2 hx k
theorem se_call {x : Str} {f : Addr} {sp : DSpec} (hg : glB sc x = true) (hm : Γ.mg x = some (.ref f)) (R : RunOk Γ f (a :: es).length [] sp) (ha : SA Γ sc st (a :: es) was) (hs : ∀ env, starEach (a :: es) env = (false, eval a env) :: starEach es env) (hpl : ∀ env, (backTo pos (starEach es env)).any (·.1) = false) :
    SE Γ sc st (.Call (.Name x p) (a :: es) [] pos) (wCall sp was) := by
  obtain ⟨ta, pa, sa⟩ := ha.ex
  refine ⟨fun σ H Q => ta σ H fun vs H1 => vs.length = (a :: es).length ∧ toSp Γ sp vs H1 Q (fun c d H' => Γ.E c d σ H'), fun X C => ⟨fun pins s σ H Q I h => ?_⟩, fun O L m z σ H Q Qd R' cl S hw hx k => ?_⟩
  · have hg' := gl_of C hg
    refine wpAny_Call_Name_kw (ld_glob I hg'.1 (by rw [C.mg]; exact hm) ?_ hg'.2)
    have kp : PySem.W.keepIn X.K (.ref f) = true := by rw [C.K]; exact R.kp
    refine PySem.W.callWith_K (h₀ := X.base) I.ok.mod.kin kp (thn ((pa X C).run pos pins s σ H _ I h) fun us s1 ⟨vs, H1, I1, r, l, q⟩ => ⟨I1.kIn, ?_⟩) (hs X.env) (hpl X.env)
    exact R.run X sc st C pins s1 σ H1 Q us [] vs [] I1 r .nil l rfl (by rw [List.append_nil]; exact q)
  · refine sa O L m z σ H _ _ R' cl S hw hx fun L1 z1 H1 ws vs s1 c1 S1 r1 l1 q => ?_
    exact ⟨r1.length.symm.trans l1, call_sim S1 c1 r1 q.1 q.2 (hx.later s1) fun L' z' H' d v s' S' r' q' => k L' z' H' d v (s1.trans s') S' r' q'⟩
/-- f(e, .., k = v, ..) -/
def wCallK (sp : DSpec) (as ks : WAs) : WE := fun z Q R => as z (fun ws z1 => (∀ y ∈ ws, ∀ o, y ≠ W.new o) ∧ ks z1 (fun zs z2 => (ws ++ zs).all argB = true ∧ sp (ws ++ zs) z2.S (fun r S' => Q r { z2 with S := S' }) (fun x S' => R x { z2 with S := S' })) R) R
theorem se_callK {x : Str} {f : Addr} {sp : DSpec} {ks : List Str} (hg : glB sc x = true) (hm : Γ.mg x = some (.ref f)) (R : RunOk Γ f (a :: es).length ks sp) (hlk : kws.length = ks.length) (ha : SA Γ sc st (a :: es) was) (hk : SK Γ sc st kws wks) (hs : ∀ env, starEach (a :: es) env = (false, eval a env) :: starEach es env)
    (hall : ∀ env, (backToKw pos (keywordEach kws env)).all (·.1.isSome) = true) (hks : ∀ env, (backToKw pos (keywordEach kws env)).filterMap (·.1) = ks)
    (hpl : ∀ env, ((backTo pos (starEach (a :: es) env)).any (·.1) || (backToKw pos (keywordEach kws env)).any (·.1.isNone)) = false) :
    SE Γ sc st (.Call (.Name x p) (a :: es) kws pos) (wCallK sp was wks) := by
  obtain ⟨ta, pa, sa⟩ := ha.ex
  obtain ⟨tk, pk, sk⟩ := hk.ex
  refine ⟨fun σ H Q => ta σ H fun vs H1 => tk σ H1 fun zs H2 => vs.length = (a :: es).length ∧ zs.length = ks.length ∧ toSp Γ sp (vs ++ zs) H2 Q (fun c d H' => Γ.E c d σ H'), fun X C => ⟨fun pins s σ H Q I h => ?_⟩, fun O L m z σ H Q Qd R' cl S hw hx k => ?_⟩
  · have hg' := gl_of C hg
    refine wpAny_Call_Name_kw (ld_glob I hg'.1 (by rw [C.mg]; exact hm) ?_ hg'.2)
    have kp : PySem.W.keepIn X.K (.ref f) = true := by rw [C.K]; exact R.kp
    refine PySem.W.callWith_KW (h₀ := X.base) I.ok.mod.kin kp (hall X.env) (thn ((pa X C).run pos pins s σ H _ I h) fun us s1 ⟨vs, H1, I1, r, q⟩ => ?_) (hpl X.env) (hs X.env)
    refine thn ((pk X C).run pos pins s1 σ H1 _ I1 q) fun ws s2 ⟨zs, H2, I2, rz, l1, l2, q2⟩ => ⟨I2.kIn, ?_⟩
    rw [hks]
    exact R.run X sc st C pins s2 σ H2 Q us ws vs zs I2 r rz l1 l2 q2
  · refine sa O L m z σ H _ _ R' cl S hw hx fun L1 z1 H1 ws vs s1 c1 S1 r1 l1 q => ?_
    obtain ⟨nn, q⟩ := q
    refine sk O L1 m z1 σ H1 _ _ R' c1 S1 q (hx.later s1) fun L2 z2 H2 zs us s2 c2 S2 r2 l2 q2 => ?_
    have r12 := (r1.later s2 c2 nn).append r2
    exact ⟨r1.length.symm.trans l1, (r2.length.symm.trans l2).trans hlk, call_sim S2 c2 r12 q2.1 q2.2 (hx.later (s1.trans s2)) fun L' z' H' d v s' S' r' q' => k L' z' H' d v ((s1.trans s2).trans s') S' r' q'⟩

/-! ### o.m(..) of an own class -/
/-- the class of a value -/
def clsOf (z : Z) : W → Option Str
  | .d (.ob C _) => some C
  | .cel j => match z.S[j]? with
    | some (.ins C _) => some C
    | some (.d (.ob C _)) => some C
    | _ => none
  | _ => none
/-- names of its fields -/
def fldsOf (z : Z) : W → List Str
  | .d (.ob _ fs) => fs.map (·.1)
  | .cel j => match z.S[j]? with
    | some (.ins _ fs) => fs.map (·.1)
    | some (.d (.ob _ fs)) => fs.map (·.1)
    | _ => []
  | _ => []
theorem repF_names {K : PySem.W.Frag} {cA : Str → Addr} {B : Addr → Prop} {fs : List (Str × D)} {vs : List (Str × V)} (h : RepF K cA B H fs vs) : vs.map (·.1) = fs.map (·.1) := by
  cases h with
  | nil => rfl
  | cons r rs => rw [List.map_cons, List.map_cons, repF_names rs]
theorem ovrF_names {K : PySem.W.Frag} {cA : Str → Addr} {B : Addr → Prop} {r : List Str → Own} : ∀ {q : List Str} {fs : List (Str × OV)} {vs : List (Str × V)}, OVRF K cA B L H r q fs vs → vs.map (·.1) = fs.map (·.1)
  | _, _, _, .nil => rfl
  | _, _, _, .cons _ rs => by rw [List.map_cons, List.map_cons, ovrF_names rs]
theorem Sim.ins (S : Sim Γ O L m z σ H) {x : W} {v : V} {C : Str} (r : Wr Γ O L m σ H x v) (h : clsOf z x = some C) : ∃ a dx vs, v = .ref a ∧ H a = some (.ins (Γ.C C) dx vs) ∧ vs.map (·.1) = fldsOf z x := by
  cases x with
  | slot j => cases h
  | new o => cases h
  | d x =>
    cases x with
    | ob C' fs =>
      cases h
      obtain ⟨a, dx, vs, rfl, e, rf⟩ := r.2.t.ob
      exact ⟨a, dx, vs, rfl, e, repF_names rf⟩
    | _ => cases h
  | cel j =>
    have h' : (match z.S[j]? with
      | some (.ins C _) => some C
      | some (.d (.ob C _)) => some C
      | _ => none) = some C := h
    show ∃ a dx vs, v = .ref a ∧ H a = some (.ins (Γ.C C) dx vs) ∧ vs.map (·.1) = (match z.S[j]? with
      | some (.ins _ fs) => fs.map (·.1)
      | some (.d (.ob _ fs)) => fs.map (·.1)
      | _ => [])
    cases q : z.S[j]? with
    | none => rw [q] at h'; cases h'
    | some oj =>
      obtain ⟨v', e1, rj⟩ := S.cell q
      have e2 := r.2
      rw [e1] at e2
      cases e2
      rw [q] at h'
      cases oj with
      | lst xs => cases h'
      | dic xs => cases h'
      | ins C' fs =>
        cases h'
        cases rj with
        | ins l e n rf => exact ⟨_, _, _, rfl, e, ovrF_names rf⟩
      | d x =>
        cases x with
        | ob C' fs =>
          cases h'
          cases rj with
          | d rr =>
            obtain ⟨a, dx, vs, rfl, e, rf⟩ := rr.t.ob
            exact ⟨a, dx, vs, rfl, e, repF_names rf⟩
        | _ => cases h'
theorem lookup_none {vs : List (Str × V)} {x : Str} (h : x ∉ vs.map (·.1)) : vs.lookup x = none := by
  induction vs with
  | nil => rfl
  | cons q vs ih =>
    rw [List.map_cons, List.mem_cons, not_or] at h
    show (match x == q.1 with | true => some q.2 | false => vs.lookup x) = none
    rw [show (x == q.1) = false from beq_eq_false_iff_ne.mpr h.1]
    exact ih h.2
/-- a call that isn't super() -/
def plainB : Expr → Bool
  | .Call (.Attribute _ _ _) _ _ _ => true
  | .Call _ _ _ _ => false
  | _ => true
theorem attr_plain {o : Expr} (h : plainB o = true) (f : Str) (env : Env) (w : Sem Value) : attributeBase o f env w = w := by
  cases o with
  | Call fn es kws pos => cases fn <;> first | rfl | cases h
  | _ => first | rfl | cases h
theorem meth_eval {o : Expr} {m : Str} {es : List Expr} {kws : List Keyword} {apos pos : Pos} (ho : plainB o = true) (hl : (apos.endLine == pos.line) = true) (hf : ∀ env, methodCallForm (es.length + kws.length) (backTo pos (starEach es env)) (backToKw pos (keywordEach kws env)) = true) (env : Env) :
    eval (.Call (.Attribute o m apos) es kws pos) env = (do
      let ov ← eval o env
      standAt apos.atName
      let (f, first) ← holding [ov] (getMethod ov m (do return (← importBound o env).getD true))
      callWith pos f first (backTo pos (starEach es env)) (backToKw pos (keywordEach kws env))) := by
  have e1 : calleeOf true o env = fun ov m => getMethod ov m (do return (← importBound o env).getD true) := by funext ov m; rfl
  show (do
    let ov ← attributeBase o m env (eval o env)
    standAt apos.atName
    methodCall o m apos pos env ov (es.length + kws.length) (backTo pos (starEach es env)) (backToKw pos (keywordEach kws env))) = _
  rw [attr_plain ho]
  have e2 : methodCallPos true o env apos pos = pure pos := by
    unfold methodCallPos
    exact if_pos (by rw [hl, Bool.or_true])
  have e3 : ∀ ov, methodCall o m apos pos env ov (es.length + kws.length) (backTo pos (starEach es env)) (backToKw pos (keywordEach kws env)) = (do
      let (f, first) ← holding [ov] (getMethod ov m (do return (← importBound o env).getD true))
      callWith pos f first (backTo pos (starEach es env)) (backToKw pos (keywordEach kws env))) := fun ov => by
    unfold methodCall
    rw [hf env, e1, e2]
    simp only [pure_bind]
  simp only [e3]
/-- a method of the class C -/
structure MethFact (Γ : Gm) (C m : Str) (f : Addr) : Prop where
  cls : Cls Γ.K (Γ.C C)
  me : Meth Γ.K (Γ.C C) m f
def wMeth (C m : Str) (sp : DSpec) (wo : WE) (as : WAs) : WE := fun z Q R => wFr wo z (fun x z1 => clsOf z1 x = some C ∧ m ∉ fldsOf z1 x ∧ (∀ j, x ≠ .slot j) ∧ as z1 (fun ws z2 => ws.all argB = true ∧ sp (x :: ws) z2.S (fun r S' => Q r { z2 with S := S' }) (fun y S' => R y { z2 with S := S' })) R) R
theorem argB_of {x : W} (h1 : ∀ j, x ≠ .slot j) (h2 : ∀ o, x ≠ .new o) : argB x = true := by
  cases x with
  | d x => rfl
  | cel j => rfl
  | slot j => exact absurd rfl (h1 j)
  | new o => exact absurd rfl (h2 o)
theorem se_meth {C m' : Str} {f : Addr} {sp : DSpec} (hM : MethFact Γ C m' f) (R : RunOk Γ f (a :: es).length.succ [] sp) (ho : SE Γ sc st o wo) (ha : SA Γ sc st (a :: es) was) (hs : ∀ env, starEach (a :: es) env = (false, eval a env) :: starEach es env) (hpl : ∀ env, (backTo pos (starEach es env)).any (·.1) = false)
    (hob : plainB o = true) (hl : (apos.endLine == pos.line) = true) (hf : ∀ env, methodCallForm ((a :: es).length + ([] : List Keyword).length) (backTo pos (starEach (a :: es) env)) (backToKw pos (keywordEach [] env)) = true) :
    SE Γ sc st (.Call (.Attribute o m' apos) (a :: es) [] pos) (wMeth C m' sp wo was) := by
  obtain ⟨to, po, so⟩ := ho.f
  obtain ⟨ta, pa, sa⟩ := ha.ex
  refine ⟨fun σ H Q => to σ H fun x H1 => ∃ a' dx fs, x = .ref a' ∧ H1 a' = some (.ins (Γ.C C) dx fs) ∧ fs.lookup m' = none ∧ ta σ H1 fun vs H2 => vs.length = (a :: es).length ∧ toSp Γ sp (x :: vs) H2 Q (fun c d H' => Γ.E c d σ H'), fun X Cx' => ⟨fun pins s σ H Q I h => ?_⟩, fun O L m z σ H Q Qd R' cl S hw hx k => ?_⟩
  · have kp : PySem.W.keepIn X.K (.ref f) = true := by rw [Cx'.K]; exact R.kp
    have cK : Cls X.K (Γ.C C) := by rw [Cx'.K]; exact hM.cls
    have mK : Meth X.K (Γ.C C) m' f := by rw [Cx'.K]; exact hM.me
    refine PySem.W.methodCall_KW (thn ((po X Cx').run pins s σ H _ I h) fun u s1 ⟨x, H1, I1, rx, a', dx, fs, ex, ea, l, q⟩ => ?_) (meth_eval hob hl hf X.env)
    subst ex
    obtain rfl : u = Value.ref a' := rx
    refine getmeth_ok I1 ea cK mK l ?_
    refine PySem.W.callWith_K (first := [.ref a']) (h₀ := X.base) I.ok.mod.kin kp (thn ((pa X Cx').run pos pins s1 σ H1 _ I1 q) fun us s2 ⟨vs, H2, I2, r, ln, q2⟩ => ⟨I2.kIn, ?_⟩) (hs X.env) (hpl X.env)
    exact R.run X sc st Cx' pins s2 σ H2 Q (.ref a' :: us) [] (.ref a' :: vs) [] I2 (.cons rfl r) .nil (congrArg Nat.succ ln) rfl (by rw [List.append_nil]; exact q2)
  · refine so O L m z σ H _ _ R' cl S hw hx fun L1 z1 H1 x v s1 c1 n1 S1 r1 q => ?_
    obtain ⟨hc, hn, hns, q⟩ := q
    obtain ⟨a', dx, vs, rfl, e, en⟩ := S1.ins r1 hc
    refine ⟨a', dx, vs, rfl, e, lookup_none (by rw [en]; exact hn), ?_⟩
    refine sa O L1 m z1 σ H1 _ _ R' c1 S1 q (hx.later s1) fun L2 z2 H2 ws us s2 c2 S2 r2 l2 q2 => ?_
    have r12 := Wrs.cons (Wr.later s2 c2 n1 r1) r2
    exact ⟨r2.length.symm.trans l2, call_sim S2 c2 r12 (by rw [List.all_cons, argB_of hns n1]; exact q2.1) q2.2 (hx.later (s1.trans s2)) fun L' z' H' d v s' S' r' q' => k L' z' H' d v ((s1.trans s2).trans s') S' r' q'⟩
theorem se_meth0 {C m' : Str} {f : Addr} {sp : DSpec} (hM : MethFact Γ C m' f) (R : RunOk Γ f 1 [] sp) (ho : SE Γ sc st o wo)
    (hob : plainB o = true) (hl : (apos.endLine == pos.line) = true) (hf : ∀ env, methodCallForm (([] : List Expr).length + ([] : List Keyword).length) (backTo pos (starEach [] env)) (backToKw pos (keywordEach [] env)) = true) :
    SE Γ sc st (.Call (.Attribute o m' apos) [] [] pos) (wMeth C m' sp wo wNil) := by
  obtain ⟨to, po, so⟩ := ho.f
  refine ⟨fun σ H Q => to σ H fun x H1 => ∃ a' dx fs, x = .ref a' ∧ H1 a' = some (.ins (Γ.C C) dx fs) ∧ fs.lookup m' = none ∧ toSp Γ sp [x] H1 Q (fun c d H' => Γ.E c d σ H'), fun X Cx' => ⟨fun pins s σ H Q I h => ?_⟩, fun O L m z σ H Q Qd R' cl S hw hx k => ?_⟩
  · have kp : PySem.W.keepIn X.K (.ref f) = true := by rw [Cx'.K]; exact R.kp
    have cK : Cls X.K (Γ.C C) := by rw [Cx'.K]; exact hM.cls
    have mK : Meth X.K (Γ.C C) m' f := by rw [Cx'.K]; exact hM.me
    refine PySem.W.methodCall_KW (thn ((po X Cx').run pins s σ H _ I h) fun u s1 ⟨x, H1, I1, rx, a', dx, fs, ex, ea, l, q⟩ => ?_) (meth_eval hob hl hf X.env)
    subst ex
    obtain rfl : u = Value.ref a' := rx
    refine getmeth_ok I1 ea cK mK l ?_
    exact PySem.W.callWith_K0 (first := [.ref a']) I1.kIn kp (R.run X sc st Cx' pins s1 σ H1 Q [.ref a'] [] [.ref a'] [] I1 (.cons rfl .nil) .nil rfl rfl q)
  · refine so O L m z σ H _ _ R' cl S hw hx fun L1 z1 H1 x v s1 c1 n1 S1 r1 q => ?_
    obtain ⟨hc, hn, hns, q⟩ := q
    obtain ⟨a', dx, vs, rfl, e, en⟩ := S1.ins r1 hc
    refine ⟨a', dx, vs, rfl, e, lookup_none (by rw [en]; exact hn), ?_⟩
    exact call_sim S1 c1 (Wrs.cons r1 .nil) (by rw [List.all_cons, argB_of hns n1]; rfl) q.2 (hx.later s1) fun L' z' H' d v s' S' r' q' => k L' z' H' d v (s1.trans s') S' r' q'
end
end Eng

end
section
set_option Elab.async false
set_option linter.all false
set_option maxRecDepth 100000
/-! Eng9: bodies keep promises; instances made. -/
namespace Eng
open PySem PySem.Spec PyProof.Rows L2
section
variable {Γ : Gm} {sc : Scope} {st : Names'} {O : Addr → Prop} {L L' : Lab} {m m' : List V} {z z' : Z} {σ : St} {H H' : Hp} {e a b c o : Expr} {w wa wb wc wo : WE} {s : Stmt} {ss : List Stmt} {u u' : WS} {p pos apos : Pos} {es : List Expr} {was wks : WAs} {kws : List Keyword}

/-! ### a def's end: the younger cells and the slots left -/
def fRet (n : Nat) : Own → Option Own
  | .slot _ _ => none
  | .cell j p => if j < n then some (.cell j p) else none
  | .res p => some (.res p)
theorem ret_sim (S : Sim Γ O L m' z σ H) (p : m <+: m') : SimS Γ O (rel (fRet m.length) L) m (z.S.take m.length) H := by
  have hl := S.st.mlen
  obtain ⟨r, rfl⟩ := p
  rw [List.length_append] at hl
  refine ⟨by rw [List.length_take]; omega, fun j o e => ?_, fun a oa => ⟨(S.st.out a oa).1, rel_none (S.st.out a oa).2⟩, rel_trk S.st.trk⟩
  have hj : j < m.length := by
    have := (List.getElem?_eq_some_iff.mp e).1
    rw [List.length_take] at this
    omega
  rw [List.getElem?_take_of_lt hj] at e
  obtain ⟨v, e1, r1⟩ := S.st.cells j o e
  rw [List.getElem?_append_left hj] at e1
  exact ⟨v, e1, r1.mono (Stp.m stp_rel) fun a u p l e => ⟨by rw [rel_some l]; exact if_pos hj, e⟩⟩
/-- the slots at a def's entry -/
def svOf : W → SV
  | .d x => .d x
  | .cel j => .cel j
  | _ => .none
def z0 (N : List Str) (ws : List W) (S : List OV) : Z := ⟨ws.map svOf ++ List.replicate (N.length - ws.length) .none, S⟩
def resB (n : Nat) : W → Prop
  | .cel j => j < n
  | .slot _ => False
  | _ => True
def ed0 (n : Nat) (Qd : W → List OV → Prop) : Ed := ⟨fun z => Qd (.d .non) (z.S.take n), fun r z => resB n r ∧ Qd r (z.S.take n), fun _ => False, fun _ => False⟩
theorem start_sim {N : List Str} {S : List OV} {ws : List W} {vs : List V} (h : SimS Γ O L m S H) (r : ArgR Γ.K Γ.C O L m H ws vs) : Sim Γ O L m (z0 N ws S) (start N vs) H := by
  refine ⟨h, ?_, fun i sv e => ?_⟩
  · show (ws.map svOf ++ List.replicate (N.length - ws.length) SV.none).length = (vs.map some ++ List.replicate (N.length - vs.length) none).length
    rw [List.length_append, List.length_append, List.length_map, List.length_map, List.length_replicate, List.length_replicate, r.length]
  · have e' : (ws.map svOf ++ List.replicate (N.length - ws.length) SV.none)[i]? = some sv := e
    show SVR Γ O L m H i sv (vs.map some ++ List.replicate (N.length - vs.length) none)[i]?
    by_cases hi : i < ws.length
    · rw [List.getElem?_append_left (by simpa using hi), List.getElem?_map] at e'
      rw [List.getElem?_append_left (by simpa [← r.length] using hi), List.getElem?_map]
      obtain ⟨w, e1, rfl⟩ := Option.map_eq_some_iff.mp e'
      have key : ∀ {ws : List W} {vs : List V} {i : Nat} {w : W}, ArgR Γ.K Γ.C O L m H ws vs → ws[i]? = some w → SVR Γ O L m H i (svOf w) (vs[i]?.map some) := by
        intro ws vs i w r
        induction r generalizing i with
        | nil => intro e; simp at e
        | d rr rs ih =>
          intro e
          cases i with
          | zero => simp at e; subst e; exact ⟨_, rfl, rr⟩
          | succ i =>
            have := ih (i := i) (by simpa using e)
            cases w with
            | d x => obtain ⟨v, q1, q2⟩ := this; exact ⟨v, by simpa using q1, q2⟩
            | cel j => obtain ⟨v, q1, q2⟩ := this; exact ⟨v, by simpa using q1, q2⟩
            | slot j => trivial
            | new o => trivial
        | c rr rs ih =>
          intro e
          cases i with
          | zero => simp at e; subst e; exact ⟨_, rfl, rr⟩
          | succ i =>
            have := ih (i := i) (by simpa using e)
            cases w with
            | d x => obtain ⟨v, q1, q2⟩ := this; exact ⟨v, by simpa using q1, q2⟩
            | cel j => obtain ⟨v, q1, q2⟩ := this; exact ⟨v, by simpa using q1, q2⟩
            | slot j => trivial
            | new o => trivial
      exact key r e1
    · rw [List.getElem?_append_right (by simpa using hi), List.getElem?_replicate] at e'
      split at e'
      · cases e'; trivial
      · cases e'
theorem ent2_ret : Ent2 (rel (fRet m.length) L) := fun a o e => by
  obtain ⟨o', h1, h2⟩ := rel_of e
  cases o' with
  | slot j p => cases h2
  | cell j p =>
    have h2' : (if j < m.length then some (Own.cell j p) else none) = some o := h2
    by_cases hj : j < m.length
    · rw [if_pos hj] at h2'; cases h2'; exact .inl ⟨j, p, rfl⟩
    · rw [if_neg hj] at h2'; cases h2'
  | res p => cases h2; exact .inr ⟨p, rfl⟩
theorem rel_ret_cl (c : Cl L) : Ent (rel (fRet m.length) L) := fun a o e => by
  rcases ent2_ret a o e with h | ⟨p, rfl⟩
  · exact h
  · obtain ⟨o', h1, h2⟩ := rel_of e
    cases o' with
    | slot j p => cases h2
    | cell j p' =>
      have h2' : (if j < m.length then some (Own.cell j p') else none) = some (Own.res p) := h2
      by_cases hj : j < m.length
      · rw [if_pos hj] at h2'; cases h2'
      · rw [if_neg hj] at h2'; cases h2'
    | res p' => exact absurd h1 (c a p')
/-- THE RULE for a def -/
theorem fn_ok {x qual : Str} {params : Arguments} {body : List Stmt} {scope : Scope} {dvs : List V} {kwd : List (Str × V)} {f : Addr} {fd : FuncData} {ps : List Str} {sp : DSpec} {wbd : WS}
    (F : FunD Γ.K x qual params body scope dvs kwd f fd) (Sc : FnScope Γ.N ps scope) (hlen : ∀ ws S Q R, sp ws S Q R → ws.length = ps.length)
    (hb : ∀ E : WX, SSs { Γ with E := E } scope scope.names body wbd) (hbody : ∀ ws S Qd Rd, sp ws S Qd Rd → wbd (z0 Γ.N ws S) (ed0 S.length Qd) (fun x z => Rd x (z.S.take S.length))) :
    FnOkG Γ.P Γ.w Γ.K Γ.mg Γ.base (L2.CX Γ.P Γ.w) (Γ.k + 1) f fd ps (toSp Γ sp) := by
  refine okG_of F Sc (fun vs H Q E h => ?_) fun cdv A outer s H vs Q E gd hr h => ?_
  · obtain ⟨O, L, m, S, ws, Qd, Rd, _, _, r, hs, _, _⟩ := h
    rw [← r.length]
    exact hlen _ _ _ _ hs
  · obtain ⟨O, L, m, S, ws, Qd, Rd, en, hS, r, hs, k1, k2⟩ := h
    obtain ⟨t, pt, sim⟩ := (hb fun cls d _ H => E cls d H).ex
    refine ⟨t, pt _ ⟨rfl, rfl, rfl, rfl, rfl, rfl, Sc.nd, rfl, rfl, Sc.kind, hr, gd, takes_of rfl rfl rfl rfl, passes_of rfl, fun x hx => ⟨hx, .inl rfl⟩⟩, ?_⟩
    have S0 : Sim { Γ with E := fun cls d _ H => E cls d H } O L m (z0 Γ.N ws S) (start Γ.N vs) H := start_sim ⟨hS.mlen, hS.cells, hS.out, hS.trk⟩ r
    have hsz : m.length = S.length := hS.mlen
    refine sim O L m _ _ H _ _ _ en.cl S0 (hbody ws S Qd Rd hs) ?_ ⟨?_, ?_, ?_, ?_⟩
    · intro L' m' z' σ' H' x cls d s' p' c' S' rx q
      have rs := ret_sim S' p'
      rw [hsz] at rs
      refine k2 (rel (fRet S.length) L') _ H' x cls d (by have := rel_ret_cl (m := m) c'; rw [hsz] at this; exact this) (s'.trans stp_rel) ⟨rs.mlen, rs.cells, rs.out, rs.trk⟩ ?_ q
      obtain ⟨ec, rx⟩ := rx
      refine ⟨ec, ?_⟩
      cases q2 : x.arg with
      | none => rw [q2] at rx; exact rx
      | some fy =>
        obtain ⟨f, y⟩ := fy
        rw [q2] at rx
        obtain ⟨a, v, e1, e2, e3, e4⟩ := rx
        exact ⟨a, v, e1, e2, (stp_rel (H := H')).rep e3, (Stp.m (stp_rel (f := fRet S.length) (H := H')) a _ e4 e2).1⟩
    · intro L' m' z' σ' H' s' p' c' S' q
      have rs := ret_sim S' p'
      rw [hsz] at rs
      exact k1 (rel (fRet S.length) L') _ H' (.d .non) .non (by have := ent2_ret (L := L') (m := m); rw [hsz] at this; exact this) (s'.trans stp_rel) ⟨rs.mlen, rs.cells, rs.out, rs.trk⟩
        (wrD (by have := (rel_ret_cl (m := m) c').cl; rw [hsz] at this; exact this) .non) q
    · intro L' m' z' σ' H' w v s' p' S' rw' q
      have rs := ret_sim S' p'
      rw [hsz] at rs
      obtain ⟨q1, q2⟩ := q
      refine k1 (rel (fRet S.length) L') _ H' w v (by have := ent2_ret (L := L') (m := m); rw [hsz] at this; exact this) (s'.trans stp_rel) ⟨rs.mlen, rs.cells, rs.out, rs.trk⟩ ?_ q2
      cases w with
      | d y => exact wrD (by have := (rel_ret_cl (m := m) rw'.1).cl; rw [hsz] at this; exact this) (stp_rel.rep (H := H') rw'.2)
      | cel j =>
        refine wrC (by have := (rel_ret_cl (m := m) rw'.1).cl; rw [hsz] at this; exact this) ?_
        obtain ⟨r', rfl⟩ := p'
        have hj : j < m.length := by rw [hsz]; exact q1
        have := rw'.2
        rw [List.getElem?_append_left hj] at this
        exact this
      | slot j => exact q1.elim
      | new o => exact OVR.mono (Stp.m stp_rel) (fun a u p l e => ⟨by rw [rel_some l]; rfl, e⟩) rw'
    · intro L' m' z' σ' H' s' p' c' S' q
      exact q.elim
    · intro L' m' z' σ' H' s' p' c' S' q
      exact q.elim
end
end Eng

end
section
set_option Elab.async false
set_option linter.all false
set_option maxRecDepth 100000
/-! Eng10: instances made, fields, changes of lists. -/
namespace Eng
open PySem PySem.Spec PyProof.Rows L2
section
variable {Γ : Gm} {sc : Scope} {st : Names'} {O : Addr → Prop} {L L' : Lab} {m m' : List V} {z z' : Z} {σ : St} {H H' : Hp} {e a b c o : Expr} {w wa wb wc wo : WE} {s : Stmt} {ss : List Stmt} {u u' : WS} {p pos apos : Pos} {es : List Expr} {was wks : WAs} {kws : List Keyword}

/-! ### C(..) -/
structure MakeOk (Γ : Gm) (C : Str) (sp : DSpec) : Prop where
  ex : ∃ (k : Nat) (f : Addr) (fd : FuncData) (ps : List Str), FnOkG Γ.P Γ.w Γ.K Γ.mg Γ.base (L2.CX Γ.P Γ.w) k f fd ps (toSp Γ sp) ∧ k + 1 ≤ Γ.k ∧ Binds Γ.K fd ps [] ∧ Mk Γ.K (Γ.C C) f
def wMk (C : Str) (sp : DSpec) (as : WAs) : WE := fun z Q R => as z (fun ws z1 => ws.all argB = true ∧ sp (.cel z1.S.length :: ws) (z1.S ++ [.ins C []]) (fun r S' => r = .d .non ∧ ∃ S0 o, S' = S0 ++ [o] ∧ Q (.new o) { z1 with S := S0 }) (fun y S' => R y { z1 with S := S'.take z1.S.length })) R
/-- the cells from the n-th on left -/
def fLow (n : Nat) : Own → Option Own
  | .cell j p => if j < n then some (.cell j p) else none
  | o => some o
/-- the n-th cell handed out -/
def fUp (n : Nat) : Own → Option Own
  | .cell j p => if j < n then some (.cell j p) else if j = n then some (.res p) else none
  | o => some o
theorem low_sim {r0 : List V} (S : Sim Γ O L (m ++ r0) z σ H) (hs : ∀ i j : Nat, z.σ[i]? = some (SV.cel j) → j < m.length) {f : Own → Option Own} (hf1 : ∀ i p, f (.slot i p) = some (.slot i p)) (hf2 : ∀ j p, j < m.length → f (.cell j p) = some (.cell j p)) : Sim Γ O (rel f L) m { z with S := z.S.take m.length } σ H := by
  have hl := S.st.mlen
  rw [List.length_append] at hl
  refine ⟨⟨by show m.length = (z.S.take m.length).length; rw [List.length_take]; omega, fun j o e => ?_, fun a oa => ⟨(S.st.out a oa).1, rel_none (S.st.out a oa).2⟩, rel_trk S.st.trk⟩, S.len, fun i sv e => ?_⟩
  · have e' : (z.S.take m.length)[j]? = some o := e
    have hj : j < m.length := by
      have := (List.getElem?_eq_some_iff.mp e').1
      rw [List.length_take] at this
      omega
    rw [List.getElem?_take_of_lt hj] at e'
    obtain ⟨v, e1, r1⟩ := S.st.cells j o e'
    rw [List.getElem?_append_left hj] at e1
    exact ⟨v, e1, r1.mono (Stp.m stp_rel) fun a u p l e => ⟨by rw [rel_some l]; exact hf2 j p hj, e⟩⟩
  · have h := S.slots i sv e
    cases sv with
    | none => trivial
    | d x => obtain ⟨v, e1, r⟩ := h; exact ⟨v, e1, stp_rel.rep (H := H) r⟩
    | cel j =>
      obtain ⟨v, e1, e2⟩ := h
      rw [List.getElem?_append_left (hs i j e)] at e2
      exact ⟨v, e1, e2⟩
    | own o => obtain ⟨v, e1, r⟩ := h; exact ⟨v, e1, r.mono (Stp.m stp_rel) fun a u p l e => ⟨by rw [rel_some l]; exact hf1 i p, e⟩⟩
theorem Sim.celLt (S : Sim Γ O L m z σ H) : ∀ i j : Nat, z.σ[i]? = some (SV.cel j) → j < m.length := fun i j e => by
  obtain ⟨v, _, e2⟩ := S.slot e
  exact (List.getElem?_eq_some_iff.mp e2).1
/-- the state with a new instance as one cell more -/
theorem mk_sim (S : Sim Γ O L m z σ H) (cl : Cl L) {C : Str} {x dx : Addr} (hx : H x = none) (hdx : H dx = none) (ne : dx ≠ x) :
    Stp L H (lab (rel (fLow m.length) L) x (.cell m.length [])) (upd (upd H dx (.own x)) x (.ins (Γ.C C) dx [])) ∧ Cl (lab (rel (fLow m.length) L) x (.cell m.length [])) ∧
    Sim Γ O (lab (rel (fLow m.length) L) x (.cell m.length [])) (m ++ [.ref x]) { z with S := z.S ++ [.ins C []] } σ (upd (upd H dx (.own x)) x (.ins (Γ.C C) dx [])) := by
  have hkeep : ∀ a u, H a = some u → (upd (upd H dx (.own x)) x (.ins (Γ.C C) dx [])) a = some u := fun a u e => by
    rw [upd_ne (ne_of_none e hx), upd_ne (ne_of_none e hdx)]; exact e
  have hlab : ∀ a, H a ≠ none → lab (rel (fLow m.length) L) x (.cell m.length []) a = rel (fLow m.length) L a := fun a e => lab_ne fun q => e (q ▸ hx)
  have st' : Stp L H (lab (rel (fLow m.length) L) x (.cell m.length [])) (upd (upd H dx (.own x)) x (.ins (Γ.C C) dx [])) := fun a u l e =>
    ⟨by rw [hlab a (by rw [e]; simp)]; exact rel_none l, hkeep a u e⟩
  refine ⟨st', fun a p e => ?_, ⟨⟨?_, fun j o e => ?_, fun a oa => ?_, fun a q => ?_⟩, S.len, fun i sv e => ?_⟩⟩
  · by_cases ha : a = x
    · rw [ha, lab_same] at e; cases e
    · rw [lab_ne ha] at e
      obtain ⟨o', h1, h2⟩ := rel_of e
      cases o' with
      | slot i q => cases h2
      | res q => exact cl a q h1
      | cell j q =>
        have h2' : (if j < m.length then some (Own.cell j q) else none) = some (Own.res p) := h2
        by_cases hj : j < m.length
        · rw [if_pos hj] at h2'; cases h2'
        · rw [if_neg hj] at h2'; cases h2'
  · show (m ++ [V.ref x]).length = (z.S ++ [OV.ins C []]).length
    rw [List.length_append, List.length_append, S.st.mlen] <;> rfl
  · have e' : (z.S ++ [OV.ins C []])[j]? = some o := e
    by_cases hj : j < z.S.length
    · rw [List.getElem?_append_left hj] at e'
      obtain ⟨v, e1, r1⟩ := S.st.cells j o e'
      refine ⟨v, by rw [List.getElem?_append_left (by rw [S.st.mlen]; exact hj)]; exact e1, r1.mono (Stp.m st') fun a u p l e => ⟨?_, hkeep a u e⟩⟩
      rw [hlab a (by rw [e]; simp), rel_some l]
      exact if_pos (by rw [S.st.mlen]; exact hj)
    · have hjl : j = z.S.length := by
        have := (List.getElem?_eq_some_iff.mp e').1
        rw [List.length_append, List.length_singleton] at this
        omega
      subst hjl
      rw [List.getElem?_append_right (Nat.le_refl _), Nat.sub_self] at e'
      cases e'
      refine ⟨.ref x, by rw [← S.st.mlen, List.getElem?_append_right (Nat.le_refl _), Nat.sub_self]; rfl, ?_⟩
      rw [← S.st.mlen]
      exact .ins lab_same upd_same (by simp) .nil
  · obtain ⟨h1, h2⟩ := S.st.out a oa
    refine ⟨?_, by rw [hlab a h1]; exact rel_none h2⟩
    cases q : H a with
    | none => exact absurd q h1
    | some u => rw [hkeep a u q]; simp
  · by_cases ha : a = x
    · rw [ha, upd_same]; simp
    · rw [lab_ne ha] at q
      cases q2 : H a with
      | none => exact absurd q2 (rel_trk S.st.trk a q)
      | some u => rw [hkeep a u q2]; simp
  · have h := S.slots i sv e
    cases sv with
    | none => trivial
    | d y => obtain ⟨v, e1, r⟩ := h; exact ⟨v, e1, st'.rep r⟩
    | cel j =>
      obtain ⟨v, e1, e2⟩ := h
      exact ⟨v, e1, by rw [List.getElem?_append_left (List.getElem?_eq_some_iff.mp e2).1]; exact e2⟩
    | own oj =>
      obtain ⟨v, e1, r⟩ := h
      exact ⟨v, e1, r.mono (Stp.m st') fun a u p l e => ⟨by rw [hlab a (by rw [e]; simp), rel_some l]; rfl, hkeep a u e⟩⟩
theorem se_mk {x C : Str} {sp : DSpec} (hg : glB sc x = true) (hm : Γ.mg x = some (.ref (Γ.C C))) (M : MakeOk Γ C sp) (ha : SA Γ sc st (a :: es) was) (hs : ∀ env, starEach (a :: es) env = (false, eval a env) :: starEach es env) (hpl : ∀ env, (backTo pos (starEach es env)).any (·.1) = false) :
    SE Γ sc st (.Call (.Name x p) (a :: es) [] pos) (wMk C sp was) := by
  obtain ⟨ta, pa, sa⟩ := ha.ex
  obtain ⟨k0, f, fd, ps, F, hk, hb, mk⟩ := M.ex
  refine ⟨fun σ H Q => ta σ H fun vs H1 => ∀ x dx, H1 x = none → H1 dx = none → dx ≠ x → toSp Γ sp (.ref x :: vs) (upd (upd H1 dx (.own x)) x (.ins (Γ.C C) dx [])) (fun v H2 => v = .non ∧ Q (.ref x) H2) (fun c d H' => Γ.E c d σ H'), fun X Cx' => ⟨fun pins s σ H Q I h => ?_⟩, fun O L m z σ H Q Qd R' cl S hw hx k => ?_⟩
  · have hg' := gl_of Cx' hg
    refine wpAny_Call_Name_kw (ld_glob I hg'.1 (by rw [Cx'.mg]; exact hm) ?_ hg'.2)
    have mk' : Mk X.K (Γ.C C) f := by rw [Cx'.K]; exact mk
    have F' : FnOkG X.prog X.w X.K X.mg X.base (L2.CX X.prog X.w) k0 f fd ps (toSp Γ sp) := by
      rw [Cx'.P, Cx'.w, Cx'.K, Cx'.mg, Cx'.base]; exact F
    have hb' : Binds X.K fd ps [] := by rw [Cx'.K]; exact hb
    refine PySem.W.callWith_K (h₀ := X.base) I.ok.mod.kin mk'.kp (thn ((pa X Cx').run pos pins s σ H _ I h) fun us s1 ⟨vs, H1, I1, r, q⟩ => ⟨I1.kIn, ?_⟩) (hs X.env) (hpl X.env)
    exact run_mkG (W := fun c d H' => Γ.E c d σ H') mk' F' Cx'.gd (Cx'.room.mono hk) hb' (passAt Cx'.tk σ) I1 r q
  · refine sa O L m z σ H _ _ R' cl S hw hx fun L1 z1 H1 ws vs s1 c1 S1 r1 l1 q => ?_
    intro x dx nx ndx ne
    obtain ⟨hargs, q⟩ := q
    obtain ⟨st2, cl2, S2⟩ := mk_sim (C := C) S1 c1 nx ndx ne
    have hn : m.length = z1.S.length := S1.st.mlen
    -- the arguments among one cell more
    have rws : Wrs Γ O (lab (rel (fLow m.length) L1) x (.cell m.length [])) (m ++ [.ref x]) σ (upd (upd H1 dx (.own x)) x (.ins (Γ.C C) dx [])) (.cel m.length :: ws) (.ref x :: vs) := by
      refine .cons (wrC cl2 (by rw [List.getElem?_append_right (Nat.le_refl _), Nat.sub_self]; rfl)) ?_
      clear q l1
      induction r1 with
      | nil => exact .nil
      | @cons w v ws vs r rs ih =>
        rw [List.all_cons, Bool.and_eq_true] at hargs
        refine .cons ?_ (ih hargs.2)
        cases w with
        | d y => exact wrD cl2 (st2.rep r.2)
        | cel j => exact wrC cl2 (by rw [List.getElem?_append_left (List.getElem?_eq_some_iff.mp r.2).1]; exact r.2)
        | slot j => exact absurd hargs.1 Bool.false_ne_true
        | new oo => exact absurd hargs.1 Bool.false_ne_true
    refine call_sim (Qd := fun r z' => r = .d .non ∧ z'.σ = z1.σ ∧ ∃ S0 o, z'.S = S0 ++ [o] ∧ Qd (.new o) { z1 with S := S0 }) (R := fun y z' => z'.σ = z1.σ ∧ R' y { z1 with S := z'.S.take m.length }) S2 cl2 rws (by rw [List.all_cons]; exact hargs) ?_ ?_ ?_
    · rw [← hn] at q
      have e1 : (fun (r : W) (S' : List OV) => r = .d .non ∧ ∃ S0 o, S' = S0 ++ [o] ∧ Qd (.new o) { z1 with S := S0 }) = (fun r S' => r = .d .non ∧ (Z.mk z1.σ S').σ = z1.σ ∧ ∃ S0 o, (Z.mk z1.σ S').S = S0 ++ [o] ∧ Qd (.new o) { z1 with S := S0 }) := by
        funext r S'
        simp
      have e2 : (fun (y : Exn) (S' : List OV) => R' y { z1 with S := S'.take m.length }) = (fun y S' => (Z.mk z1.σ S').σ = z1.σ ∧ R' y { z1 with S := (Z.mk z1.σ S').S.take m.length }) := by
        funext y S'
        simp
      rw [e1, e2] at q
      exact q
    · intro L3 m3 z3 σ3 H3 y cls d s3 p3 c3 S3 rx q3
      obtain ⟨eσ, q3⟩ := q3
      obtain ⟨r3, rfl⟩ := p3
      rw [List.append_assoc] at S3
      have hc : ∀ i j : Nat, z3.σ[i]? = some (SV.cel j) → j < m.length := by rw [eσ]; exact S1.celLt
      have S4 := low_sim (f := fLow m.length) S3 hc (fun i p => rfl) fun j p hj => if_pos hj
      rw [eσ] at S4
      refine hx (rel (fLow m.length) L3) m _ σ3 H3 y cls d ((s1.trans (st2.trans s3)).trans stp_rel) pre_refl (rel_cl (fun o p q => ?_) c3) S4 ?_ q3
      · cases o with
        | res p' => exact ⟨p', rfl⟩
        | slot j p' => cases q
        | cell j p' =>
          have q' : (if j < m.length then some (Own.cell j p') else none) = some (Own.res p) := q
          by_cases hj : j < m.length
          · rw [if_pos hj] at q'; cases q'
          · rw [if_neg hj] at q'; cases q'
      · obtain ⟨ec, rx⟩ := rx
        refine ⟨ec, ?_⟩
        cases q2 : y.arg with
        | none => rw [q2] at rx; exact rx
        | some fy =>
          obtain ⟨f', y'⟩ := fy
          rw [q2] at rx
          obtain ⟨a', v, e1, e2, e3, e4⟩ := rx
          exact ⟨a', v, e1, e2, (stp_rel (H := H3)).rep e3, (Stp.m (stp_rel (f := fLow m.length) (H := H3)) a' _ e4 e2).1⟩
    · intro L3 z3 H3 d v s3 S3 r3 q3
      obtain ⟨rfl, eσ, S0, o, eS, q3⟩ := q3
      have r3' := r3.2
      cases r3'
      refine ⟨rfl, ?_⟩
      have hc : ∀ i j : Nat, z3.σ[i]? = some (SV.cel j) → j < m.length := by rw [eσ]; exact S1.celLt
      have S4 := low_sim (f := fUp m.length) S3 hc (fun i p => rfl) fun j p hj => if_pos hj
      have hl3 := S3.st.mlen
      rw [eS, List.length_append, List.length_append] at hl3
      have hS0 : S0.length = m.length := by simp at hl3; omega
      have et : z3.S.take m.length = S0 := by rw [eS, ← hS0, List.take_left']; rfl
      rw [et, eσ] at S4
      obtain ⟨v', e1, ro⟩ := S3.st.cells m.length o (by rw [eS, ← hS0, List.getElem?_append_right (Nat.le_refl _), Nat.sub_self]; rfl)
      rw [List.getElem?_append_right (Nat.le_refl _), Nat.sub_self] at e1
      have e1' : V.ref x = v' := Option.some.inj e1
      subst e1'
      have s14 : Stp L1 H1 (rel (fUp m.length) L3) H3 := (st2.trans s3).trans stp_rel
      exact k _ _ H3 (.new o) _ (s1.trans s14) S4 (ro.ren fun p => by show (if m.length < m.length then _ else if m.length = m.length then _ else _) = _; rw [if_neg (Nat.lt_irrefl _), if_pos rfl]) q3

/-! ### fields -/
theorem se_mk0 {x C : Str} {sp : DSpec} : True := trivial
structure FldFact (Γ : Gm) (C f : Str) : Prop where
  cls : Cls Γ.K (Γ.C C)
  no : NoAttr Γ.K (Γ.C C) f
/-- a field's data -/
def fldD (z : Z) (f : Str) : W → Option (Str × D)
  | .d (.ob C fs) => (fs.lookup f).map fun x => (C, x)
  | .cel j => match z.S[j]? with
    | some (.ins C fs) => match fs.lookup f with
      | some (.d x) => some (C, x)
      | _ => none
    | some (.d (.ob C fs)) => (fs.lookup f).map fun x => (C, x)
    | _ => none
  | _ => none
theorem repF_at {K : PySem.W.Frag} {cA : Str → Addr} {B : Addr → Prop} {f : Str} {x : D} : ∀ {fs : List (Str × D)} {vs : List (Str × V)}, RepF K cA B H fs vs → fs.lookup f = some x → ∃ v, vs.lookup f = some v ∧ Rep K cA B H x v
  | _, _, .nil, e => by cases e
  | _, _, .cons (k := k) (x := y) (xs := fs) (v := v) (vs := vs) r rs, e => by
    have e' : (match f == k with | true => some y | false => fs.lookup f) = some x := e
    show ∃ v', (match f == k with | true => some v | false => vs.lookup f) = some v' ∧ _
    cases q : (f == k) with
    | true => rw [q] at e'; cases e'; exact ⟨v, rfl, r⟩
    | false => rw [q] at e'; exact repF_at rs e'
theorem ovrF_at {K : PySem.W.Frag} {cA : Str → Addr} {B : Addr → Prop} {r : List Str → Own} {f : Str} {o : OV} : ∀ {q : List Str} {fs : List (Str × OV)} {vs : List (Str × V)}, OVRF K cA B L H r q fs vs → fs.lookup f = some o → ∃ v, vs.lookup f = some v ∧ OVR K cA B L H r (f :: q) o v
  | _, _, _, .nil, e => by cases e
  | _, _, _, .cons (f := k) (o := y) (fs := fs) (v := v) (vs := vs) r rs, e => by
    have e' : (match f == k with | true => some y | false => fs.lookup f) = some o := e
    show ∃ v', (match f == k with | true => some v | false => vs.lookup f) = some v' ∧ _
    cases q : (f == k) with
    | true => rw [q] at e'; cases e'; exact ⟨v, rfl, by rw [beq_iff_eq.mp q]; exact r⟩
    | false => rw [q] at e'; exact ovrF_at rs e'
theorem Sim.fld (S : Sim Γ O L m z σ H) {x : W} {v : V} {f C : Str} {y : D} (r : Wr Γ O L m σ H x v) (h : fldD z f x = some (C, y)) : ∃ a dx vs u, v = .ref a ∧ H a = some (.ins (Γ.C C) dx vs) ∧ vs.lookup f = some u ∧ Rep Γ.K Γ.C (Bd O L) H y u := by
  have obj : ∀ {C' : Str} {fs : List (Str × D)} {v : V}, Rep Γ.K Γ.C (Bd O L) H (.ob C' fs) v → (fs.lookup f).map (fun x => (C', x)) = some (C, y) → ∃ a dx vs u, v = .ref a ∧ H a = some (.ins (Γ.C C) dx vs) ∧ vs.lookup f = some u ∧ Rep Γ.K Γ.C (Bd O L) H y u := by
    intro C' fs v r e
    obtain ⟨x', e1, e2⟩ := Option.map_eq_some_iff.mp e
    cases e2
    obtain ⟨a, dx, vs, rfl, eh, rf⟩ := r.t.ob
    obtain ⟨u, e3, ru⟩ := repF_at rf e1
    exact ⟨a, dx, vs, u, rfl, eh, e3, ru⟩
  cases x with
  | slot j => cases h
  | new o => cases h
  | d x =>
    cases x with
    | ob C' fs => exact obj r.2 h
    | _ => cases h
  | cel j =>
    have h' : (match z.S[j]? with
      | some (.ins C fs) => (match fs.lookup f with
        | some (.d x) => some (C, x)
        | _ => none)
      | some (.d (.ob C fs)) => (fs.lookup f).map fun x => (C, x)
      | _ => none) = some (C, y) := h
    cases q : z.S[j]? with
    | none => rw [q] at h'; cases h'
    | some oj =>
      obtain ⟨v', e1, rj⟩ := S.cell q
      have e2 := r.2
      rw [e1] at e2
      cases e2
      rw [q] at h'
      cases oj with
      | lst xs => cases h'
      | dic xs => cases h'
      | ins C' fs =>
        have h2 : (match fs.lookup f with
          | some (.d x) => some (C', x)
          | _ => none) = some (C, y) := h'
        cases q2 : fs.lookup f with
        | none => rw [q2] at h2; cases h2
        | some of' =>
          rw [q2] at h2
          cases of' with
          | d x =>
            cases h2
            cases rj with
            | ins l eh n rf =>
              obtain ⟨u, e3, ru⟩ := ovrF_at rf q2
              cases ru with
              | d ru => exact ⟨_, _, _, u, rfl, eh, e3, ru⟩
          | lst xs => cases h2
          | dic xs => cases h2
          | ins C2 f2 => cases h2
      | d x =>
        cases x with
        | ob C' fs =>
          cases rj with
          | d rr => exact obj rr h'
        | _ => cases h'
def wFld (C f : Str) (wo : WE) : WE := fun z Q R => wFr wo z (fun x z1 => ∃ y, fldD z1 f x = some (C, y) ∧ Q (.d y) z1) R
theorem se_fld {C f : Str} (hF : FldFact Γ C f) (ho : SE Γ sc st o wo) (hob : plainB o = true) : SE Γ sc st (.Attribute o f pos) (wFld C f wo) := by
  obtain ⟨to, po, so⟩ := ho.f
  refine ⟨tFld Γ.K to f, fun X Cx' => ?_, fun O L m z σ H Q Qd R' cl S hw hx k => ?_⟩
  · have := pe_fld (pos := pos) (po X Cx') (attr_plain hob f X.env (eval o X.env))
    rw [Cx'.K] at this
    exact this
  · refine so O L m z σ H _ _ R' cl S hw hx fun L1 z1 H1 x v s1 c1 n1 S1 r1 q => ?_
    obtain ⟨y, hy, q⟩ := q
    obtain ⟨a, dx, vs, u, rfl, eh, eu, ru⟩ := S1.fld r1 hy
    exact ⟨a, _, dx, vs, u, rfl, eh, hF.cls, hF.no, eu, k L1 z1 H1 (.d y) u s1 S1 (wrD c1 ru) q⟩
/-- o.f = data, o one of the cells -/
def putO (f : Str) (x : OV) : List (Str × OV) → List (Str × OV)
  | [] => [(f, x)]
  | (g, y) :: r => if g = f then (g, x) :: r else (g, y) :: putO f x r
theorem putO_names (f : Str) (x : OV) : ∀ fs : List (Str × OV), (putO f x fs).map (·.1) = if f ∈ fs.map (·.1) then fs.map (·.1) else fs.map (·.1) ++ [f]
  | [] => by simp [putO]
  | (g, y) :: r => by
    unfold putO
    by_cases h : g = f
    · subst h
      simp
    · rw [if_neg h, List.map_cons, putO_names f x r]
      have h' : ¬ f = g := fun q => h q.symm
      by_cases q : f ∈ r.map (·.1)
      · rw [if_pos q, if_pos (by simp only [List.map_cons, List.mem_cons]; exact .inr q), List.map_cons]
      · rw [if_neg q, if_neg (by simp only [List.map_cons, List.mem_cons, not_or]; exact ⟨h', q⟩), List.map_cons]; rfl
theorem ovrF_put {K : PySem.W.Frag} {cA : Str → Addr} {B : Addr → Prop} {r : List Str → Own} {f : Str} {y : D} {u : V} (ru : Rep K cA B H y u) : ∀ {q : List Str} {fs : List (Str × OV)} {vs : List (Str × V)}, OVRF K cA B L H r q fs vs → OVRF K cA B L H r q (putO f (.d y) fs) (putF f u vs)
  | _, _, _, .nil => .cons (.d ru) .nil
  | _, _, _, .cons (f := k) (o := y') (fs := fs) (v := v) (vs := vs) r1 rs => by
    unfold putO putF
    by_cases h : k = f
    · subst h
      rw [if_pos rfl, if_pos rfl]
      exact .cons (.d ru) rs
    · rw [if_neg h, if_neg h]
      exact .cons r1 (ovrF_put ru rs)
def wFldS (C f : Str) (wo wv : WE) : WS := fun z D R => wFr wv z (fun y z1 => ∃ d, y = .d d ∧ wFr wo z1 (fun x z2 => ∃ j fs, x = .cel j ∧ z2.S[j]? = some (.ins C fs) ∧ fs.length < 1000 ∧ D.nx { z2 with S := z2.S.set j (.ins C (putO f (.d d) fs)) }) R) R
theorem ss_fld {C f : Str} {pos' : Pos} (hF : FldFact Γ C f) (ho : SE Γ sc st o wo) (hv : SE Γ sc st a wa) (hs : ∀ env, swapsWith a (some (.Attribute o f pos')) pos.line env = pure false) : SS Γ sc st (.Assign [.Attribute o f pos'] a pos) (wFldS C f wo wa) := by
  obtain ⟨to, po, so⟩ := ho.f
  obtain ⟨ta, pa, sa⟩ := hv.f
  refine ⟨sFld Γ.K to ta f, fun X Cx' => ?_, fun O L m z σ H D Dd R' cl S hw hx k => ?_⟩
  · have := ps_fld (pos := pos) (pos' := pos') (f := f) (po X Cx') (pa X Cx') (hs X.env)
    rw [Cx'.K] at this
    exact this
  · refine sa O L m z σ H _ _ R' cl S hw hx fun L1 z1 H1 y u s1 c1 n1 S1 r1 q => ?_
    obtain ⟨d, rfl, q⟩ := q
    refine so O L1 m z1 σ H1 _ _ R' c1 S1 q (hx.later s1) fun L2 z2 H2 x v s2 c2 n2 S2 r2 q2 => ?_
    obtain ⟨j, fs, rfl, ej, hl, q2⟩ := q2
    have rd := s2.rep r1.2
    obtain ⟨v', e1, rj⟩ := S2.cell ej
    have e2 := r2.2
    rw [e1] at e2
    cases e2
    cases rj with
    | @ins _ a C' dx fs' vs l eh n rf =>
      refine ⟨a, _, dx, vs, rfl, eh, hF.cls, hF.no, ?_, ?_⟩
      · have := congrArg List.length (ovrF_names rf)
        rw [List.length_map, List.length_map] at this
        omega
      · have st3 := stp_upd (H := H2) (u := .ins (Γ.C C) dx (putF f u vs)) l
        refine k.nx L2 m _ σ _ ((s1.trans s2).trans st3) pre_refl c2 (S2.updO (pl := .cell j) (o := .ins C fs) ej (fun i q => by cases q) (fun j' q => by cases q; exact e1) l (by rw [eh]; simp) ?_) q2
        refine .ins l upd_same ?_ ?_
        · rw [putO_names]
          by_cases q : f ∈ fs.map (·.1)
          · rw [if_pos q]; exact n
          · rw [if_neg q]; exact List.nodup_append.mpr ⟨n, by simp, fun a ha b hb e => q (by simp at hb; rw [hb] at e; rw [← e]; exact ha)⟩
        · refine OVRF.deep 0 (Stp.m st3) (fun b u' p' g lb hb => ⟨lb, ?_⟩) (Nat.zero_le _) (ovrF_put rd rf)
          have hba : b ≠ a := fun e => by
            subst e
            rw [l] at lb
            cases lb
            exact absurd g (Nat.lt_irrefl _)
          rw [upd_ne hba]; exact hb
end
end Eng

end
section
set_option Elab.async false
set_option linter.all false
set_option maxRecDepth 100000
/-! Eng11: lists and dicts that change. -/
namespace Eng
open PySem PySem.Spec PyProof.Rows L2
section
variable {Γ : Gm} {sc : Scope} {st : Names'} {O : Addr → Prop} {L L' : Lab} {m m' : List V} {z z' : Z} {σ : St} {H H' : Hp} {e a b c o : Expr} {w wa wb wc wo wi wv : WE} {s : Stmt} {ss : List Stmt} {u u' : WS} {p pos apos : Pos} {es : List Expr} {was wks : WAs} {kws : List Keyword}

/-! ### methods of an owned list: arguments data, then (result, list behind) -/
abbrev FM := List D → List D → (D → List D → Prop) → Prop
def MutS (Γ : Gm) (r : V → List V → Hp → VK → Prop) (f : FM) : Prop := ∀ (B : Addr → Prop) (H : Hp) (l : Addr) (us : List V) (xs ds : List D) (vs : List V) (k : D → List D → Prop) (Q : VK),
  H l = some (.lst us) → RepL Γ.K Γ.C B H xs us → RepL Γ.K Γ.C B H ds vs → f xs ds k → (∀ y v xs' us', RepL Γ.K Γ.C B H xs' us' → (Rep Γ.K Γ.C B H y v) → k y xs' → Q v (upd H l (.lst us'))) → r (.ref l) vs H Q
def wMut (f : FM) (wo : WE) (as : WAs) : WE := fun z Q R => wFr wo z (fun x z1 => (∃ pl xs, plOf z1 x = some pl ∧ getO z1 pl = some (.lst xs)) ∧ as z1 (fun ws z2 => ∃ pl xs ds, plOf z2 x = some pl ∧ getO z2 pl = some (.lst xs) ∧ allD ws = some ds ∧ f xs ds fun y xs' => Q (.d y) (Eng.setO z2 pl (.lst xs'))) R) R
theorem Sim.plv (S : Sim Γ O L m z σ H) {x : W} {a : Addr} {pl : Pl} (r : Wr Γ O L m σ H x (.ref a)) (e : plOf z x = some pl) : (∀ i, pl = .slot i → σ[i]? = some (some (.ref a))) ∧ ∀ j, pl = .cell j → m[j]? = some (.ref a) := by
  cases x with
  | d y => cases e
  | new o => cases e
  | cel j => cases e; exact ⟨(fun i q => by cases q), (fun j' q => by cases q; exact r.2)⟩
  | slot i =>
    have e0 : (match z.σ[i]? with
      | some (.own _) => some (Pl.slot i)
      | some (.cel j) => some (.cell j)
      | _ => none) = some pl := e
    cases q : z.σ[i]? with
    | none => rw [q] at e0; cases e0
    | some sv =>
      have h := S.slot q
      rw [q] at e0
      cases sv with
      | none => cases e0
      | d x => cases e0
      | own o' => cases e0; exact ⟨(fun i' q' => by cases q'; exact r.2), (fun j' q' => by cases q')⟩
      | cel j =>
        cases e0
        obtain ⟨u, h1, h2⟩ := h
        have e3 := r.2
        rw [h1] at e3
        cases e3
        exact ⟨(fun i' q' => by cases q'), (fun j' q' => by cases q'; exact h2)⟩
theorem se_mut {r : V → List V → Hp → VK → Prop} {f : FM} (hr : MutS Γ r f) (ho : SE Γ sc st o wo) (ha : SA Γ sc st es was) (hp : ∀ X to ta, Ctx Γ sc st X → PE X o to → PA X es ta → PE X e (tBM X.K "list" r to ta)) : SE Γ sc st e (wMut f wo was) := by
  obtain ⟨to, po, so⟩ := ho.f
  obtain ⟨ta, pa, sa⟩ := ha.ex
  refine ⟨tBM Γ.K "list" r to ta, fun X C => by have := hp X to ta C (po X C) (pa X C); rw [C.K] at this; exact this, fun O L m z σ H Q Qd R cl S hw hx k => ?_⟩
  refine so O L m z σ H _ _ R cl S hw hx fun L1 z1 H1 x v s1 c1 n1 S1 r1 q => ?_
  obtain ⟨⟨pl1, xs1, e1, g1⟩, q⟩ := q
  have ov1 := S1.pl r1 e1 g1
  cases ov1 with
  | @lst _ a _ vs1 l1 h1 rl1 =>
    refine ⟨.inl ⟨rfl, _, SqL.of h1⟩, ?_⟩
    refine sa O L1 m z1 σ H1 _ _ R c1 S1 q (hx.later s1) fun L2 z2 H2 ws vs s2 c2 S2 r2 l2 q2 => ?_
    obtain ⟨pl, xs, ds, e2, g2, ed, q2⟩ := q2
    have r1' := Wr.later s2 c2 n1 r1
    have ov2 := S2.pl r1' e2 g2
    obtain ⟨pv1, pv2⟩ := S2.plv r1' e2
    cases ov2 with
    | @lst _ _ _ us lb hh rl =>
      refine hr (Bd O L2) H2 a us xs ds vs _ _ hh rl (allD_rep r2 ed) q2 fun y v xs' us' rl' ry q3 => ?_
      have st3 := stp_upd (H := H2) (u := .lst us') lb
      exact k L2 _ _ (.d y) v ((s1.trans s2).trans st3) (S2.updO g2 pv1 pv2 lb (by rw [hh]; simp) (.lst lb upd_same (rl'.mono (Stp.m st3)))) (wrD c2 (st3.rep ry)) q3
def fAppend : FM := fun xs ds k => ∃ d, ds = [d] ∧ xs.length < sizeLine ∧ k .non (xs ++ [d])
theorem mut_append : MutS Γ rAppend fAppend := by
  intro B H l us xs ds vs k Q hl rl rv h post
  obtain ⟨d, rfl, hz, h⟩ := h
  cases rv with
  | cons r rs =>
    cases rs
    exact ⟨l, us, _, rfl, rfl, hl, by rw [← rl.length]; exact hz, post _ _ _ _ (rl.append (.cons r .nil)) .non h⟩
def fPop : FM := fun xs ds k => ∃ i j y, ds = [.int i] ∧ -(2 ^ 63) ≤ i ∧ i < 2 ^ 63 ∧ ixN xs.length i = some j ∧ xs[j]? = some y ∧ k y (xs.eraseIdx j)
theorem mut_pop : MutS Γ rPopAt fPop := by
  intro B H l us xs ds vs k Q hl rl rv h post
  obtain ⟨i, j, y, rfl, h1, h2, h3, h4, h⟩ := h
  cases rv with
  | cons r rs =>
    cases rs
    cases r
    obtain ⟨v, e1, r1⟩ := rl.get h4
    exact ⟨l, us, i, j, v, rfl, rfl, hl, h1, h2, by rw [← rl.length]; exact (ixN_seq h3).1, e1, post _ _ _ _ (rl.eraseIdx j) r1 h⟩
def fPop0 : FM := fun xs ds k => ∃ y, ds = [] ∧ xs[xs.length - 1]? = some y ∧ k y xs.dropLast
theorem RepL.dropLast {K : PySem.W.Frag} {cA : Str → Addr} {B : Addr → Prop} {xs : List D} {vs : List V} (h : RepL K cA B H xs vs) : RepL K cA B H xs.dropLast vs.dropLast := by
  rw [List.dropLast_eq_take, List.dropLast_eq_take, h.length]
  exact h.take _
theorem mut_pop0 : MutS Γ rPop fPop0 := by
  intro B H l us xs ds vs k Q hl rl rv h post
  obtain ⟨y, rfl, h4, h⟩ := h
  cases rv
  obtain ⟨v, e1, r1⟩ := rl.get h4
  exact ⟨l, us, v, rfl, rfl, hl, by rw [← rl.length]; exact e1, post _ _ _ _ rl.dropLast r1 h⟩
def fExtend : FM := fun xs ds k => ∃ ys, ds = [.lst ys] ∧ xs.length + ys.length ≤ sizeLine ∧ k .non (xs ++ ys)
theorem mut_extend : MutS Γ rExtend fExtend := by
  intro B H l us xs ds vs k Q hl rl rv h post
  obtain ⟨ys, rfl, hz, h⟩ := h
  cases rv with
  | cons r rs =>
    cases rs
    cases r with
    | lst nb hb rl2 => exact ⟨l, _, us, _, rfl, rfl, hl, hb, by rw [← rl.length, ← rl2.length]; exact hz, post _ _ _ _ (rl.append rl2) .non h⟩
theorem map_erase {α β : Type} (f : α → β) : ∀ (l : List α) (j : Nat), (l.map f).eraseIdx j = (l.eraseIdx j).map f
  | [], _ => rfl
  | _ :: _, 0 => rfl
  | a :: l, j + 1 => congrArg (f a :: ·) (map_erase f l j)
def fRemove : FM := fun xs ds k => ∃ (ns : List Int) (i : Int) (j : Nat), xs = ns.map D.int ∧ ds = [.int i] ∧ ns[j]? = some i ∧ (∀ m : Nat, m < j → ns[m]? ≠ some i) ∧ k .non ((ns.eraseIdx j).map D.int)
theorem mut_remove : MutS Γ rRemI fRemove := by
  intro B H l us xs ds vs k Q hl rl rv h post
  obtain ⟨ns, i, j, ex, rfl, h1, h2, h⟩ := h
  cases rv with
  | cons r rs =>
    cases rs
    cases r
    have eu := rl.ints ex
    subst eu
    have rl' : RepL Γ.K Γ.C B H ((ns.eraseIdx j).map D.int) ((ns.eraseIdx j).map V.int) := by
      have := rl.eraseIdx j
      rw [ex, map_erase, map_erase] at this
      exact this
    exact ⟨l, ns, i, j, rfl, rfl, hl, h1, h2, post _ _ _ _ rl' .non h⟩

/-! ### xs[i] = data -/
def gIx (wo wi : WE) : WG := fun d z Q R => wFr wo z (fun x z1 => wFr wi z1 (fun y z2 => ∃ pl xs i j, plOf z2 x = some pl ∧ getO z2 pl = some (.lst xs) ∧ y = .d (.int i) ∧ ixN xs.length i = some j ∧ Q (Eng.setO z2 pl (.lst (xs.set j d)))) R) R
theorem sg_ix {i : Expr} (ho : SE Γ sc st o wo) (hi : SE Γ sc st i wi) (hA : ∀ env v, assign (.Subscript o i pos) env v = (do
      let ov ← holding [v] (eval o env)
      let iv ← holding [v, ov] (eval i env)
      standAt pos
      holding [v, ov, iv] (setItem ov iv v)
      release [v, ov, iv] [])) : SG Γ sc st (.Subscript o i pos) [] (gIx wo wi) := by
  obtain ⟨to, po, so⟩ := ho.f
  obtain ⟨ti, pi, si⟩ := hi.f
  refine ⟨gSub to ti rSetL, fun X C => pg_sub (po X C) (pi X C) set_list (hA X.env), fun O L m z σ H d v Q Qd R cl S r hw hx k => ?_⟩
  refine so O L m z σ H _ _ R cl S hw hx fun L1 z1 H1 x xv s1 c1 n1 S1 r1 q => ?_
  refine si O L1 m z1 σ H1 _ _ R c1 S1 q (hx.later s1) fun L2 z2 H2 y yv s2 c2 n2 S2 r2 q2 => ?_
  obtain ⟨pl, xs, n, j, e2, g2, rfl, hj, q2⟩ := q2
  have r1' := Wr.later s2 c2 n1 r1
  have r2' := r2.2
  cases r2'
  have ov2 := S2.pl r1' e2 g2
  have rd := (s1.trans s2).rep r
  cases ov2 with
  | @lst _ a _ us lb hh rl =>
    obtain ⟨pv1, pv2⟩ := S2.plv r1' e2
    have st3 := stp_upd (H := H2) (u := .lst (us.set j v)) lb
    refine ⟨a, us, n, j, rfl, rfl, hh, by rw [← rl.length]; exact hj, ?_⟩
    exact k L2 _ σ _ ((s1.trans s2).trans st3) c2 (S2.updO g2 pv1 pv2 lb (by rw [hh]; simp) (.lst lb upd_same ((rl.set rd j).mono (Stp.m st3)))) rfl (fun _ _ => rfl) q2

/-! ### dicts -/
def keyD : D → Option Key
  | .int i => some (.inl i)
  | .str x => some (.inr x)
  | _ => none
theorem keyD_rep {K : PySem.W.Frag} {cA : Str → Addr} {B : Addr → Prop} {d : D} {v : V} {k : Key} (h : RepT K cA B H d v) (e : keyD d = some k) : v = kV k := by
  cases d with
  | int i => cases e; exact h.int
  | str s => cases e; exact h.str
  | _ => cases e
/-- the entry of a key -/
def atK (kvs : List (Key × D)) (k : Key) : Option D := (kvs.find? fun kv => decide (kv.1 = k)).map (·.2)
theorem repK_at {K : PySem.W.Frag} {cA : Str → Addr} {B : Addr → Prop} {k : Key} : ∀ {kvs : List (Key × D)} {vs : List (Key × V)}, RepK K cA B H kvs vs → (∀ d, atK kvs k = some d → ∃ v, valV vs k = some v ∧ Rep K cA B H d v) ∧ (atK kvs k = none → valV vs k = none)
  | _, _, .nil => ⟨(fun d e => by cases e), (fun _ => rfl)⟩
  | _, _, .cons (k := k0) (x := x) (xs := xs) (v := v) (vs := vs) r rs => by
    by_cases h : k0 = k
    · subst h
      rw [valV_pos (p := (k0, v)) rfl]
      have e0 : atK ((k0, x) :: xs) k0 = some x := by simp [atK, List.find?_cons]
      rw [e0]
      exact ⟨(fun d e => by cases e; exact ⟨v, rfl, r⟩), (fun e => by cases e)⟩
    · rw [valV_neg (p := (k0, v)) h]
      have e0 : atK ((k0, x) :: xs) k = atK xs k := by simp [atK, List.find?_cons, h]
      rw [e0]
      exact repK_at rs
def putKD (kvs : List (Key × D)) (k : Key) (v : D) : List (Key × D) :=
  if (kvs.any fun kv => decide (kv.1 = k)) = true then kvs.map (fun kv => if kv.1 = k then (kv.1, v) else kv) else kvs ++ [(k, v)]
theorem repK_any {K : PySem.W.Frag} {cA : Str → Addr} {B : Addr → Prop} {k : Key} : ∀ {kvs : List (Key × D)} {vs : List (Key × V)}, RepK K cA B H kvs vs → (kvs.any fun kv => decide (kv.1 = k)) = (vs.any fun kv => decide (kv.1 = k))
  | _, _, .nil => rfl
  | _, _, .cons r rs => by rw [List.any_cons, List.any_cons, repK_any rs]
theorem repK_append {K : PySem.W.Frag} {cA : Str → Addr} {B : Addr → Prop} : ∀ {kvs kvs' : List (Key × D)} {vs vs' : List (Key × V)}, RepK K cA B H kvs vs → RepK K cA B H kvs' vs' → RepK K cA B H (kvs ++ kvs') (vs ++ vs')
  | _, _, _, _, .nil, h => h
  | _, _, _, _, .cons r rs, h => .cons r (repK_append rs h)
theorem repK_put {K : PySem.W.Frag} {cA : Str → Addr} {B : Addr → Prop} {k : Key} {d : D} {v : V} (r : Rep K cA B H d v) {kvs : List (Key × D)} {vs : List (Key × V)} (h : RepK K cA B H kvs vs) : RepK K cA B H (putKD kvs k d) (putK vs k v) := by
  unfold putKD putK
  rw [repK_any h]
  by_cases q : (vs.any fun kv => decide (kv.1 = k)) = true
  · rw [if_pos q, if_pos q]
    have go : ∀ {kvs : List (Key × D)} {vs : List (Key × V)}, RepK K cA B H kvs vs → RepK K cA B H (kvs.map fun kv => if kv.1 = k then (kv.1, d) else kv) (vs.map fun kv => if kv.1 = k then (kv.1, v) else kv) := by
      intro kvs
      induction kvs with
      | nil => intro vs h; cases h; exact .nil
      | cons q kvs ih =>
        intro vs h
        cases h with
        | @cons k0 x _ v0 vs r0 rs =>
          rw [List.map_cons, List.map_cons]
          by_cases e : k0 = k
          · simp only [e, if_true]; exact .cons r (ih rs)
          · simp only [e, if_false]; exact .cons r0 (ih rs)
    exact go h
  · rw [if_neg q, if_neg q]
    exact repK_append h (.cons r .nil)
theorem repK_len {K : PySem.W.Frag} {cA : Str → Addr} {B : Addr → Prop} : ∀ {kvs : List (Key × D)} {vs : List (Key × V)}, RepK K cA B H kvs vs → kvs.length = vs.length
  | _, _, .nil => rfl
  | _, _, .cons _ rs => congrArg Nat.succ (repK_len rs)
/-- d[k] -/
def fDGet : F2 := fun d k q => ∃ kvs kk y, d = .dct kvs ∧ keyD k = some kk ∧ atK kvs kk = some y ∧ q (.d y)
def fDIn (neg : Bool) : F2 := fun k d q => ∃ kvs kk, d = .dct kvs ∧ keyD k = some kk ∧ q (.d (.bl (if neg then !(atK kvs kk).isSome else (atK kvs kk).isSome)))
def rDGet : R2 := fun x y H Q => ∃ a v, x = .ref a ∧ DGet H a y (some v) ∧ Q v H
theorem r2_dget : R2S Γ rDGet fDGet := by
  intro O L m z σ H x y d e k Q cl S rx ry h post
  obtain ⟨kvs, kk, w, rfl, hk, hw, h⟩ := h
  obtain ⟨a, vs, rfl, hh, rk⟩ := rx.dct
  have ey := keyD_rep ry hk
  subst ey
  obtain ⟨v, e1, r1⟩ := (repK_at rk).1 w hw
  exact ⟨a, v, rfl, by rw [← e1]; exact DGet.k hh, post L H (.d w) v Stp.refl S (wrD cl r1) h⟩
def rDIn (neg : Bool) : R2 := fun y x H Q => ∃ a o, x = .ref a ∧ DGet H a y o ∧ Q (.bl (if neg then !o.isSome else o.isSome)) H
theorem r2_din (neg : Bool) : R2S Γ (rDIn neg) (fDIn neg) := by
  intro O L m z σ H x y d e k Q cl S rx ry h post
  obtain ⟨kvs, kk, rfl, hk, h⟩ := h
  obtain ⟨a, vs, rfl, hh, rk⟩ := ry.dct
  have ey := keyD_rep rx hk
  subst ey
  have eS : (valV vs kk).isSome = (atK kvs kk).isSome := by
    cases q : atK kvs kk with
    | none => rw [(repK_at rk).2 q]; rfl
    | some w => obtain ⟨v, e1, _⟩ := (repK_at rk).1 w q; rw [e1]; rfl
  exact ⟨a, valV vs kk, rfl, DGet.k hh, by rw [eS]; exact post L H (.d (.bl _)) _ Stp.refl S (wrD cl (.bl _)) h⟩
theorem Ctx.u1 {X : Cx} (C : Ctx Γ sc st X) : X.A.units + 1 < cLine := hu_of C.room
theorem se_dget {i : Expr} (ho : SE Γ sc st o wo) (hi : SE Γ sc st i wi) (hs : NoSl i) : SE Γ sc st (.Subscript o i pos) (wOp2 fDGet wo wi) :=
  se_op2 r2_dget ho hi fun X to ti C p1 p2 => pe_dget C.u1 p1 p2 hs
theorem pc_se {op : CmpOp} {neg : Bool} (h : ∀ X ta tb, Ctx Γ sc st X → PE X a ta → PE X b tb → PC X op a b (tOp (rDIn neg) ta tb)) (ha : SE Γ sc st a wa) (hb : SE Γ sc st b wb) (h1 : behindInMarks op b = false) : SE Γ sc st (.Compare a [op] [b] pos) (wOp2 (fDIn neg) wa wb) :=
  se_op2 (r2_din neg) ha hb fun X ta tb C p1 p2 => pe_cmp (h X ta tb C p1 p2) h1
theorem se_din (ha : SE Γ sc st a wa) (hb : SE Γ sc st b wb) (h1 : behindInMarks .In b = false) : SE Γ sc st (.Compare a [.In] [b] pos) (wOp2 (fDIn false) wa wb) :=
  pc_se (neg := false) (fun X ta tb C p1 p2 => pc_din C.u1 p1 p2) ha hb h1
theorem se_dnin (ha : SE Γ sc st a wa) (hb : SE Γ sc st b wb) (h1 : behindInMarks .NotIn b = false) : SE Γ sc st (.Compare a [.NotIn] [b] pos) (wOp2 (fDIn true) wa wb) :=
  pc_se (neg := true) (fun X ta tb C p1 p2 => pc_dnotin C.u1 p1 p2) ha hb h1
/-- d[k] = data -/
def wDPut (wo wi wv : WE) : WS := fun z D R => wFr wv z (fun x z1 => ∃ d, x = .d d ∧ wFr wo z1 (fun y z2 => wFr wi z2 (fun i z3 => ∃ pl kvs k kd, plOf z3 y = some pl ∧ getO z3 pl = some (.dic kvs) ∧ i = .d kd ∧ keyD kd = some k ∧ kvs.length < sizeLine ∧ D.nx (Eng.setO z3 pl (.dic (putKD kvs k d)))) R) R) R
theorem ss_dput {i : Expr} {pos' : Pos} (ho : SE Γ sc st o wo) (hi : SE Γ sc st i wi) (hv : SE Γ sc st a wv) (hs : ∀ env, swapsWith a (some (.Subscript o i pos')) pos.line env = pure false) : SS Γ sc st (.Assign [.Subscript o i pos'] a pos) (wDPut wo wi wv) := by
  obtain ⟨to, po, so⟩ := ho.f
  obtain ⟨ti, pi, si⟩ := hi.f
  obtain ⟨tv, pv, sv⟩ := hv.f
  refine ⟨_, fun X C => ps_dput C.u1 (po X C) (pi X C) (pv X C) (hs X.env), fun O L m z σ H D Dd R cl S hw hx k => ?_⟩
  refine sv O L m z σ H _ _ R cl S hw hx fun L1 z1 H1 x v s1 c1 n1 S1 r1 q => ?_
  obtain ⟨d, rfl, q⟩ := q
  refine so O L1 m z1 σ H1 _ _ R c1 S1 q (hx.later s1) fun L2 z2 H2 y yv s2 c2 n2 S2 r2 q2 => ?_
  refine si O L2 m z2 σ H2 _ _ R c2 S2 q2 (hx.later (s1.trans s2)) fun L3 z3 H3 i iv s3 c3 n3 S3 r3 q3 => ?_
  obtain ⟨pl, kvs, kk, kd, e3, g3, rfl, hk, hz, q3⟩ := q3
  have r2' := Wr.later s3 c3 n2 r2
  have ov := S3.pl r2' e3 g3
  have rd := (s2.trans s3).rep r1.2
  have ek := keyD_rep r3.2.t hk
  subst ek
  cases ov with
  | @dic _ a' _ us lb hh rk =>
    obtain ⟨pv1, pv2⟩ := S3.plv r2' e3
    have st4 := stp_upd (H := H3) (u := .dK (putK us kk v)) lb
    refine ⟨a', _, rfl, DPut.k hh (by rw [← repK_len rk]; exact hz), ?_⟩
    exact k.nx L3 m _ σ _ (((s1.trans s2).trans s3).trans st4) pre_refl c3 (S3.updO g3 pv1 pv2 lb (by rw [hh]; simp) (.dic lb upd_same ((repK_put rd rk).mono (Stp.m st4)))) q3
/-- {} -/
def wDNew : WE := fun z Q _ => Q (.new (.dic [])) z
theorem se_dnew : SE Γ sc st (.Dict [] [] pos) wDNew := by
  refine ⟨tDNewK, fun X C => pe_dnewK, fun O L m z σ H Q Qd R cl S hw hx k => fun p hp => ?_⟩
  exact k (lab L p (.res [])) z _ (.new (.dic [])) _ (stp_newL hp) (S.newL _ _ hp) (ovr_newK .nil hp) hw
end
end Eng

end
section
set_option Elab.async false
set_option linter.all false
set_option maxRecDepth 100000
/-! Eng12: operators and built-ins over data. -/
namespace Eng
open PySem PySem.Spec PyProof.Rows L2
mutual
/-- as the library's data; nothing of what it doesn't speak of -/
def D.py : D → Option PyData
  | .non => some .none
  | .bl b => some (.bool b)
  | .int i => some (.int i)
  | .str s => some (.str s)
  | .tup xs => (D.pys xs).map .tuple
  | .lst xs => (D.pys xs).map .list
  | .scr _ => none
  | .dct _ => none
  | .ob _ _ => none
def D.pys : List D → Option (List PyData)
  | [] => some []
  | x :: xs => match D.py x, D.pys xs with
    | some y, some ys => some (y :: ys)
    | _, _ => none
end
section
variable {K : PySem.W.Frag} {cA : Str → Addr} {B : Addr → Prop} {H : Hp}
mutual
theorem Rep.dp : ∀ {x : D} {v : V} {y : PyData}, Rep K cA B H x v → x.py = some y → Dp K H v y
  | _, _, _, .non, e => by cases e; exact .non
  | _, _, _, .bl b, e => by cases e; exact .bl b
  | _, _, _, .int b, e => by cases e; exact .int b
  | _, _, _, .str b, e => by cases e; exact .str b
  | _, _, y, .tup (xs := xs) h hs, e => by
    obtain ⟨ys, e1, rfl⟩ := Option.map_eq_some_iff.mp e
    refine .tup ?_ (RepL.dp hs e1)
    rcases h with h1 | h1
    · exact .inl (.inl h1.2)
    · exact .inr h1
  | _, _, y, .lst nb h hs, e => by
    obtain ⟨ys, e1, rfl⟩ := Option.map_eq_some_iff.mp e
    exact .lst (SqL.of h) (RepL.dp hs e1)
  | _, _, _, .scr _, e => by cases e
  | _, _, _, .dct _ _ _, e => by cases e
  | _, _, _, .ob _ _ _, e => by cases e
theorem RepL.dp : ∀ {xs : List D} {vs : List V} {ys : List PyData}, RepL K cA B H xs vs → D.pys xs = some ys → DpAll K H vs ys
  | _, _, _, .nil, e => by cases e; exact .nil
  | _, _, ys, .cons (x := x) (xs := xs) r rs, e => by
    have e0 : (match D.py x, D.pys xs with
      | some y, some ys => some (y :: ys)
      | _, _ => none) = some ys := e
    cases q1 : D.py x with
    | none => rw [q1] at e0; cases e0
    | some y =>
      cases q2 : D.pys xs with
      | none => rw [q1, q2] at e0; cases e0
      | some ys' =>
        rw [q1, q2] at e0
        cases e0
        exact .cons (Rep.dp r q1) (RepL.dp rs q2)
end
theorem RepT.dp {x : D} {v : V} {y : PyData} (h : RepT K cA B H x v) (e : x.py = some y) : Dp K H v y := by
  cases x with
  | lst xs =>
    obtain ⟨a, vs, rfl, hh, rl⟩ := h.lst
    obtain ⟨ys, e1, rfl⟩ := Option.map_eq_some_iff.mp e
    exact .lst (SqL.of hh) (RepL.dp rl e1)
  | dct xs => cases e
  | non => exact Rep.dp (show Rep K cA B H .non v from h) e
  | bl b => exact Rep.dp (show Rep K cA B H (.bl b) v from h) e
  | int b => exact Rep.dp (show Rep K cA B H (.int b) v from h) e
  | str b => exact Rep.dp (show Rep K cA B H (.str b) v from h) e
  | tup b => exact Rep.dp (show Rep K cA B H (.tup b) v from h) e
  | scr b => cases e
  | ob _ _ => cases e
end
section
variable {Γ : Gm} {sc : Scope} {st : Names'}

/-! ### operators -/
def CMulW' (i j : Int) : Prop := i.natAbs < 2 ^ 20000 ∧ j.natAbs < 2 ^ 20000
def fAdd : F2 := fun d e k => match d, e with
  | .int i, .int j => k (.d (.int (i + j)))
  | .str s, .str t => s.length + t.length ≤ sizeLine ∧ k (.d (.str (s ++ t)))
  | .tup xs, .tup ys => xs.length + ys.length ≤ sizeLine ∧ k (.d (.tup (xs ++ ys)))
  | .lst xs, .lst ys => xs.length + ys.length ≤ sizeLine ∧ k (.new (.lst (xs ++ ys)))
  | _, _ => False
def fSub : F2 := fun d e k => match d, e with
  | .int i, .int j => k (.d (.int (i - j)))
  | _, _ => False
def fMul : F2 := fun d e k => match d, e with
  | .int i, .int j => CMulW' i j ∧ k (.d (.int (i * j)))
  | _, _ => False
def fDiv : F2 := fun d e k => match d, e with
  | .int i, .int j => (0 < j ∧ j.natAbs < 2 ^ 8000) ∧ k (.d (.int (i / j)))
  | _, _ => False
def fMod : F2 := fun d e k => match d, e with
  | .int i, .int j => 0 < j ∧ k (.d (.int (i % j)))
  | _, _ => False
def fPow : F2 := fun d e k => match d, e with
  | .int i, .int j => CPow i j ∧ k (.d (.int (i ^ j.toNat)))
  | _, _ => False
def fNeg : F1 := fun d k => match d with
  | .int i => k (.d (.int (-i)))
  | _ => False
def fEq (neg : Bool) : F2 := fun d e k => ∃ x y, d.py = some x ∧ e.py = some y ∧ SeqAt.shaped x = true ∧ SeqAt.shaped y = true ∧ k (.d (.bl (if neg then !PyData.eqv x y else PyData.eqv x y)))
def fCmp (p : Int → Int → Bool) : F2 := fun d e k => match d, e with
  | .int i, .int j => k (.d (.bl (p i j)))
  | _, _ => False
def fIsN (neg : Bool) : F2 := fun d e k => e = .non ∧ (match d with
  | .non => k (.d (.bl (!neg)))
  | _ => k (.d (.bl neg)))
def fIsB (neg : Bool) : F2 := fun d e k => ∃ x y, d = .bl x ∧ e = .bl y ∧ k (.d (.bl (if neg then !decide (x = y) else decide (x = y))))
/-- in: flat things, by what they are -/
def flatD : D → Option V
  | .non => some .non
  | .bl b => some (.bl b)
  | .int i => some (.int i)
  | .str s => some (.str s)
  | _ => none
/-- in a list: things of any depth -/
def fInD (neg : Bool) : F2 := fun d e k => ∃ x ys, d.py = some x ∧ e.py = some (.list ys) ∧ SeqAt.shaped x = true ∧ x.depth ≤ 60 ∧ SeqAt.shaped (.list ys) = true ∧ k (.d (.bl (if neg then !(ys.any fun z => PyData.eqv z x) else ys.any fun z => PyData.eqv z x)))
def fIn (neg : Bool) : F2 := fun d e k => match d with
  | .tup ds => fInD neg (.tup ds) e k
  | d => ∃ x xs vs, flatD d = some x ∧ seqD e = some xs ∧ xs.mapM flatD = some vs ∧ flatV x = true ∧ vs.all flatV = true ∧ k (.d (.bl (if neg then !inV x vs else inV x vs)))
def fIx : F2 := fun d e k => match d, e with
  | .lst xs, .int i => ∃ y, atI xs i = some y ∧ k (.d y)
  | .tup xs, .int i => ∃ y, atI xs i = some y ∧ k (.d y)
  | .str s, .int i => ∃ y, s.length ≤ sizeLine ∧ atI s.cps.toList i = some y ∧ k (.d (.str ⟨#[y]⟩))
  | _, _ => False

theorem r2_val {f : F2} {r : R2} (h : ∀ (O : Addr → Prop) (L : Lab) (H : Hp) x y d e k Q, RepT Γ.K Γ.C (Bd O L) H d x → RepT Γ.K Γ.C (Bd O L) H e y → f d e k → (∀ w v, Rep Γ.K Γ.C (Bd O L) H w v → k (.d w) → Q v H) → r x y H Q) : R2S Γ r f :=
  fun O L m z σ H x y d e k Q cl S rx ry hf post => h O L H x y d e k Q rx ry hf fun w v rw' hk => post L H (.d w) v Stp.refl S (wrD cl rw') hk
theorem r2_sub : R2S Γ (rI0 fun i j => .int (i - j)) fSub := r2_val fun O L H x y d e k Q rx ry h post => by
  cases d <;> cases e <;> first | exact h.elim | skip
  exact ⟨_, _, rx.int, ry.int, post _ _ (.int _) h⟩
theorem r2_mul : R2S Γ (rI CMulW fun i j => .int (i * j)) fMul := r2_val fun O L H x y d e k Q rx ry h post => by
  cases d <;> cases e <;> first | exact h.elim | skip
  exact ⟨_, _, rx.int, ry.int, wide_mul h.1.1 h.1.2 (by decide) (by decide) (by decide), post _ _ (.int _) h.2⟩
theorem r2_div : R2S Γ (rI CDivW fun i j => .int (i / j)) fDiv := r2_val fun O L H x y d e k Q rx ry h post => by
  cases d <;> cases e <;> first | exact h.elim | skip
  exact ⟨_, _, rx.int, ry.int, wide_div h.1.1 h.1.2 (by decide) (by decide), post _ _ (.int _) h.2⟩
theorem r2_mod : R2S Γ (rI (fun _ j => 0 < j) fun i j => .int (i % j)) fMod := r2_val fun O L H x y d e k Q rx ry h post => by
  cases d <;> cases e <;> first | exact h.elim | skip
  exact ⟨_, _, rx.int, ry.int, h.1, post _ _ (.int _) h.2⟩
theorem r2_pow : R2S Γ (rI CPow fun i j => .int (i ^ j.toNat)) fPow := r2_val fun O L H x y d e k Q rx ry h post => by
  cases d <;> cases e <;> first | exact h.elim | skip
  exact ⟨_, _, rx.int, ry.int, h.1, post _ _ (.int _) h.2⟩
theorem r2_cmp {p : Int → Int → Bool} : R2S Γ (rI0 fun i j => .bl (p i j)) (fCmp p) := r2_val fun O L H x y d e k Q rx ry h post => by
  cases d <;> cases e <;> first | exact h.elim | skip
  exact ⟨_, _, rx.int, ry.int, post _ _ (.bl _) h⟩
theorem r2_eq : R2S Γ (rEqD Γ.K) (fEq false) := r2_val fun O L H x y d e k Q rx ry h post => by
  obtain ⟨x', y', e1, e2, s1, s2, h⟩ := h
  exact ⟨x', y', rx.dp e1, ry.dp e2, s1, s2, post _ _ (.bl _) h⟩
theorem r2_ne : R2S Γ (rNeD Γ.K) (fEq true) := r2_val fun O L H x y d e k Q rx ry h post => by
  obtain ⟨x', y', e1, e2, s1, s2, h⟩ := h
  exact ⟨x', y', rx.dp e1, ry.dp e2, s1, s2, post _ _ (.bl _) h⟩
theorem isN_of {K : PySem.W.Frag} {cA : Str → Addr} {B : Addr → Prop} {H : Hp} {d : D} {v : V} (r : RepT K cA B H d v) : (v = .non ↔ d = .non) := by
  cases d with
  | non => exact ⟨fun _ => rfl, fun _ => r.non⟩
  | bl b => rw [r.bl]; exact ⟨(fun h => nomatch h), (fun h => nomatch h)⟩
  | int b => rw [r.int]; exact ⟨(fun h => nomatch h), (fun h => nomatch h)⟩
  | str b => rw [r.str]; exact ⟨(fun h => nomatch h), (fun h => nomatch h)⟩
  | tup b => obtain ⟨a, vs, rfl, _⟩ := r.tup; exact ⟨(fun h => nomatch h), (fun h => nomatch h)⟩
  | lst b => obtain ⟨a, vs, rfl, _⟩ := r.lst; exact ⟨(fun h => nomatch h), (fun h => nomatch h)⟩
  | scr b => obtain ⟨a, rfl, _⟩ := r.scr; exact ⟨(fun h => nomatch h), (fun h => nomatch h)⟩
  | dct b => obtain ⟨a, vs, rfl, _⟩ := r.dct; exact ⟨(fun h => nomatch h), (fun h => nomatch h)⟩
  | ob b c => obtain ⟨a, dx, vs, rfl, _⟩ := r.ob; exact ⟨(fun h => nomatch h), (fun h => nomatch h)⟩
def rIsN (neg : Bool) : R2 := fun x y H Q => y = .non ∧ Q (.bl (if neg then !decide (x = .non) else decide (x = .non))) H
theorem r2_isN (neg : Bool) : R2S Γ (rIsN neg) (fIsN neg) := r2_val fun O L H x y d e k Q rx ry h post => by
  obtain ⟨rfl, h⟩ := h
  refine ⟨ry.non, ?_⟩
  by_cases hd : d = .non
  · subst hd
    have ex : x = .non := rx.non
    subst ex
    cases neg <;> exact post _ _ (.bl _) h
  · have hx : ¬ x = .non := fun q => hd ((isN_of rx).mp q)
    rw [decide_eq_false hx]
    have h' : k (.d (.bl neg)) := by cases d <;> first | exact absurd rfl hd | exact h
    cases neg <;> exact post _ _ (.bl _) h'
def rIsB' (neg : Bool) : R2 := fun x y H Q => ∃ a b : Bool, x = .bl a ∧ y = .bl b ∧ Q (.bl (if neg then !decide (a = b) else decide (a = b))) H
theorem r2_isB (neg : Bool) : R2S Γ (rIsB' neg) (fIsB neg) := r2_val fun O L H x y d e k Q rx ry h post => by
  obtain ⟨a, b, rfl, rfl, h⟩ := h
  exact ⟨a, b, rx.bl, ry.bl, post _ _ (.bl _) h⟩
theorem flat_rep {K : PySem.W.Frag} {cA : Str → Addr} {B : Addr → Prop} {H : Hp} {d : D} {v x : V} (r : RepT K cA B H d v) (e : flatD d = some x) : v = x := by
  cases d with
  | non => cases e; exact r.non
  | bl b => cases e; exact r.bl
  | int b => cases e; exact r.int
  | str b => cases e; exact r.str
  | _ => cases e
theorem flats_rep {K : PySem.W.Frag} {cA : Str → Addr} {B : Addr → Prop} {H : Hp} : ∀ {xs : List D} {us vs : List V}, RepL K cA B H xs us → xs.mapM flatD = some vs → us = vs
  | _, _, vs, .nil, e => by simp at e; exact e.symm
  | _, _, vs, .cons (x := x) (xs := xs) (v := v) (vs := us) r rs, e => by
    rw [List.mapM_cons] at e
    cases q1 : flatD x with
    | none => rw [q1] at e; cases e
    | some y =>
      rw [q1] at e
      cases q2 : xs.mapM flatD with
      | none => rw [q2] at e; cases e
      | some ys =>
        rw [q2] at e
        have e' : y :: ys = vs := Option.some.inj e
        rw [← e', flats_rep rs q2, flat_rep r.t q1]
theorem seq_rep {K : PySem.W.Frag} {cA : Str → Addr} {B : Addr → Prop} {H : Hp} {d : D} {v : V} {xs : List D} (r : RepT K cA B H d v) (e : seqD d = some xs) : ∃ a us, v = .ref a ∧ (SqL K H a us ∨ SqT K H a us) ∧ RepL K cA B H xs us := by
  cases d with
  | lst ys => cases e; obtain ⟨a, us, rfl, hh, rl⟩ := r.lst; exact ⟨a, us, rfl, .inl (SqL.of hh), rl⟩
  | tup ys => cases e; obtain ⟨a, us, rfl, hh, rl⟩ := r.tup; exact ⟨a, us, rfl, .inr hh, rl⟩
  | scr ns =>
    cases e
    obtain ⟨a, rfl, hh⟩ := r.scr
    refine ⟨a, _, rfl, .inl hh, ?_⟩
    clear hh r
    induction ns with
    | nil => exact .nil
    | cons n ns ih => exact .cons (.int n) ih
  | _ => cases e
/-- in a list, by data -/
def rInDn (K : PySem.W.Frag) (neg : Bool) : R2 := fun x y H Q => ∃ d ds, Dp K H x d ∧ Dp K H y (.list ds) ∧ SeqAt.shaped d = true ∧ d.depth ≤ 60 ∧ SeqAt.shaped (.list ds) = true ∧ Q (.bl (if neg then !(ds.any fun z => PyData.eqv z d) else ds.any fun z => PyData.eqv z d)) H
theorem op_inDn {X : Cx} (hu : X.A.units + 64 < cLine) : OpR X (compareOp .In) (rInDn X.K false) := by
  intro pins s σ H x y v u Q I rx ry h
  obtain ⟨d, ds, hd, he, sd, s6, se, q⟩ := h
  obtain ⟨as, r1⟩ := Dp.reads I d x v hd rx
  obtain ⟨bs, r2⟩ := Dp.reads I (.list ds) y u he ry
  exact SeqAt.in_list_reads r2 r1 (SeqAt.canLay_of_shaped se) (SeqAt.canLay_of_shaped sd) (by have := Nat.min_le_right (PyData.depthAll ds) d.depth; omega) ⟨.bl _, H, I, rfl, q⟩
theorem op_notInDn {X : Cx} (hu : X.A.units + 64 < cLine) : OpR X (compareOp .NotIn) (rInDn X.K true) := by
  intro pins s σ H x y v u Q I rx ry h
  obtain ⟨d, ds, hd, he, sd, s6, se, q⟩ := h
  obtain ⟨as, r1⟩ := Dp.reads I d x v hd rx
  obtain ⟨bs, r2⟩ := Dp.reads I (.list ds) y u he ry
  exact SeqAt.notIn_list_reads r2 r1 (SeqAt.canLay_of_shaped se) (SeqAt.canLay_of_shaped sd) (by have := Nat.min_le_right (PyData.depthAll ds) d.depth; omega) ⟨.bl _, H, I, rfl, q⟩
def rInA (K : PySem.W.Frag) (neg : Bool) : R2 := fun x y H Q => rIn K neg x y H Q ∨ rInDn K neg x y H Q
theorem r2_in (neg : Bool) : R2S Γ (rInA Γ.K neg) (fIn neg) := r2_val fun O L H x y d e k Q rx ry h post => by
  by_cases hd : ∃ ds, d = .tup ds
  · obtain ⟨ds, rfl⟩ := hd
    obtain ⟨x', ys, e1, e2, s1, s6, s2, h⟩ := h
    exact .inr ⟨x', ys, rx.dp e1, ry.dp e2, s1, s6, s2, post _ _ (.bl _) h⟩
  · refine .inl ?_
    have h' : ∃ x xs vs, flatD d = some x ∧ seqD e = some xs ∧ xs.mapM flatD = some vs ∧ flatV x = true ∧ vs.all flatV = true ∧ k (.d (.bl (if neg then !inV x vs else inV x vs))) := by
      cases d with
      | tup ds => exact absurd ⟨ds, rfl⟩ hd
      | _ => exact h
    obtain ⟨fx, xs, vs, e1, e2, e3, f1, f2, h⟩ := h'
    obtain ⟨a, us, rfl, hh, rl⟩ := seq_rep ry e2
    have eu := flats_rep rl e3
    subst eu
    have ex := flat_rep rx e1
    subst ex
    exact ⟨a, us, rfl, hh, f1, f2, post _ _ (.bl _) h⟩
def rAdd (K : PySem.W.Frag) : R2 := fun x y H Q => (rI0 (fun i j => .int (i + j)) x y H Q ∨ (∃ i j, x = .str i ∧ y = .str j ∧ i.length + j.length ≤ sizeLine ∧ Q (.str (i ++ j)) H)) ∨ rCatA K x y H Q ∨ rCat x y H Q
theorem r2_add : R2S Γ (rAdd Γ.K) fAdd := by
  intro O L m z σ H x y d e k Q cl S rx ry h post
  have val : ∀ w v, Rep Γ.K Γ.C (Bd O L) H w v → k (.d w) → Q v H := fun w v rw' hk => post L H (.d w) v Stp.refl S (wrD cl rw') hk
  cases d <;> cases e <;> first | exact h.elim | skip
  case int.int i j => exact .inl (.inl ⟨_, _, rx.int, ry.int, val _ _ (.int _) h⟩)
  case str.str i j => exact .inl (.inr ⟨_, _, rx.str, ry.str, h.1, val _ _ (.str _) h.2⟩)
  case tup.tup xs ys =>
    have rx' : Rep Γ.K Γ.C (Bd O L) H (.tup xs) x := rx
    have ry' : Rep Γ.K Γ.C (Bd O L) H (.tup ys) y := ry
    obtain ⟨a, us, rfl, ha, ra⟩ := rx.tup
    obtain ⟨b, vs, rfl, hb, rb⟩ := ry.tup
    refine .inr (.inl ⟨a, b, us, vs, rfl, rfl, ha, hb, by rw [← ra.length, ← rb.length]; exact h.1, fun e1 => ?_, fun e1 e2 => ?_, fun e1 e2 p hp => ?_⟩)
    · have ex : xs = [] := by subst e1; exact List.length_eq_zero_iff.mp ra.length
      subst ex
      exact val _ _ ry' h.2
    · have ey : ys = [] := by subst e2; exact List.length_eq_zero_iff.mp rb.length
      subst ey
      have h2 := h.2
      rw [List.append_nil] at h2
      exact val _ _ rx' h2
    · exact post L _ (.d (.tup (xs ++ ys))) _ (stp_new hp) (S.new _ hp) (wrD cl (rep_newT (ra.append rb) hp S.st)) h.2
  case lst.lst xs ys =>
    obtain ⟨a, us, rfl, ha, ra⟩ := rx.lst
    obtain ⟨b, vs, rfl, hb, rb⟩ := ry.lst
    refine .inr (.inr ⟨a, b, us, vs, rfl, rfl, ha, hb, by rw [← ra.length, ← rb.length]; exact h.1, fun p hp => ?_⟩)
    exact post (lab L p (.res [])) _ (.new (.lst (xs ++ ys))) _ (stp_newL hp) (S.newL _ _ hp) (ovr_newL (ra.append rb) hp) h.2
theorem opr_add {X : Cx} : OpR X (binaryOp .Add) (rAdd X.K) := (op_add.or op_add_str).or (op_catA.or op_cat)
end
end Eng

end
section
set_option Elab.async false
set_option linter.all false
set_option maxRecDepth 100000
/-! Eng13: more operators; built-in functions over data. -/
namespace Eng
open PySem PySem.Spec PyProof.Rows L2
section
variable {Γ : Gm} {sc : Scope} {st : Names'} {a b c e : Expr} {wa wb wc : WE} {pos : Pos}
theorem r1_val {f : F1} {r : R1} (h : ∀ (O : Addr → Prop) (L : Lab) (H : Hp) x d k Q, RepT Γ.K Γ.C (Bd O L) H d x → f d k → (∀ w v, Rep Γ.K Γ.C (Bd O L) H w v → k (.d w) → Q v H) → r x H Q) : R1S Γ r f :=
  fun O L m z σ H x d k Q cl S rx hf post => h O L H x d k Q rx hf fun w v rw' hk => post L H (.d w) v Stp.refl S (wrD cl rw') hk
theorem r1_neg : R1S Γ (rU fun i => .int (-i)) fNeg := r1_val fun O L H x d k Q rx h post => by
  cases d <;> first | exact h.elim | skip
  exact ⟨_, rx.int, post _ _ (.int _) h⟩
theorem r2_ix : R2S Γ (rIx Γ.K) fIx := by
  intro O L m z σ H x y d e k Q cl S rx ry h post
  have val : ∀ w v, Rep Γ.K Γ.C (Bd O L) H w v → k (.d w) → Q v H := fun w v rw' hk => post L H (.d w) v Stp.refl S (wrD cl rw') hk
  have atR : ∀ {xs : List D} {us : List V} {i : Int} {y : D}, RepL Γ.K Γ.C (Bd O L) H xs us → atI xs i = some y → ∃ v, atI us i = some v ∧ Rep Γ.K Γ.C (Bd O L) H y v := by
    intro xs us i y rl hy
    unfold atI at hy ⊢
    rw [← rl.length]
    cases q : ixN xs.length i with
    | none => rw [q] at hy; cases hy
    | some j =>
      rw [q] at hy
      obtain ⟨v, e1, r1⟩ := rl.get (x := y) (i := j) hy
      exact ⟨v, e1, r1⟩
  cases d <;> cases e <;> first | exact h.elim | skip
  case lst.int xs i =>
    obtain ⟨y', hy, hk⟩ := h
    obtain ⟨a, us, rfl, hh, rl⟩ := rx.lst
    obtain ⟨v, e1, r1⟩ := atR rl hy
    exact .inl ⟨a, us, i, v, rfl, ry.int, SqL.of hh, e1, val _ _ r1 hk⟩
  case tup.int xs i =>
    obtain ⟨y', hy, hk⟩ := h
    obtain ⟨a, us, rfl, hh, rl⟩ := rx.tup
    obtain ⟨v, e1, r1⟩ := atR rl hy
    exact .inr (.inl ⟨a, us, i, v, rfl, ry.int, hh, e1, val _ _ r1 hk⟩)
  case str.int s i =>
    obtain ⟨y', hz, hy, hk⟩ := h
    exact .inr (.inr ⟨s, i, y', rx.str, ry.int, hz, hy, val _ _ (.str _) hk⟩)
/-! ### slices -/
def cutD {α : Type} (xs : List α) (lo hi : Option Int) : List α := (xs.drop (HT.sIx xs.length 0 lo)).take (HT.sIx xs.length xs.length hi - HT.sIx xs.length 0 lo)
def fSl : D → Option Int → Option Int → (W → Prop) → Prop := fun d lo hi k => match d with
  | .tup xs => k (.d (.tup (cutD xs lo hi)))
  | .lst xs => k (.new (.lst (cutD xs lo hi)))
  | .scr ns => k (.new (.lst ((cutD ns lo hi).map D.int)))
  | .str s => s.length ≤ sizeLine ∧ k (.d (.str (cutS s lo hi)))
  | _ => False
def wPt (a : Option WE) : Z → (Option Int → Z → Prop) → XR → Prop := match a with
  | none => fun z Q _ => Q none z
  | some wa => fun z Q R => wFr wa z (fun y z1 => ∃ i, rd z1 y = some (.int i) ∧ Q (some i) z1) R
def wSl (a : WE) (lo hi : Option WE) : WE := fun z Q R => wFr a z (fun x z1 => wPt lo z1 (fun l z2 => wPt hi z2 (fun u z3 => ∃ d, rd z3 x = some d ∧ fSl d l u fun w => Q w z3) R) R) R
structure SO (Γ : Gm) (sc : Scope) (st : Names') (e : Option Expr) (w : Option WE) : Prop where
  ex : ∃ t : TO, (∀ X, Ctx Γ sc st X → PO X e t) ∧ ∀ (O : Addr → Prop) (L : Lab) (m : List V) (z : Z) (σ : St) (H : Hp) (Q : Option Int → Hp → Prop) (Qd : Option Int → Z → Prop) (R : XR),
    Cl L → Sim Γ O L m z σ H → wPt w z Qd R → Xok Γ O L m σ H R → (∀ L' z' H' o, Stp L H L' H' → Cl L' → Sim Γ O L' m z' σ H' → Qd o z' → Q o H') → t σ H Q
theorem so_none : SO Γ sc st none none := ⟨tNoPart, fun X C => po_none, fun O L m z σ H Q Qd R cl S hw hx k => k L z H none Stp.refl cl S hw⟩
theorem so_some (ha : SE Γ sc st a wa) : SO Γ sc st (some a) (some wa) := by
  obtain ⟨ta, pa, sa⟩ := ha.f
  refine ⟨_, fun X C => po_some (pa X C), fun O L m z σ H Q Qd R cl S hw hx k => ?_⟩
  have hw' : wFr wa z (fun y z1 => ∃ i, rd z1 y = some (.int i) ∧ Qd (some i) z1) R := hw
  refine sa O L m z σ H _ _ R cl S hw' hx fun L1 z1 H1 x v s1 c1 n1 S1 r1 q => ?_
  obtain ⟨i, e1, q⟩ := q
  exact ⟨i, (S1.rdT r1 e1).int, k L1 z1 H1 _ s1 c1 S1 q⟩
theorem cut_rep {K : PySem.W.Frag} {cA : Str → Addr} {B : Addr → Prop} {H : Hp} {xs : List D} {us : List V} (h : RepL K cA B H xs us) (lo hi : Option Int) : RepL K cA B H (cutD xs lo hi) (cutV us lo hi) := by
  unfold cutD cutV
  rw [← h.length]
  exact (h.drop _).take _
theorem cut_all {α : Type} (xs : List α) {lo hi : Option Int} (h : HT.sIx xs.length 0 lo = 0 ∧ HT.sIx xs.length xs.length hi = xs.length) : cutD xs lo hi = xs := by
  unfold cutD
  rw [h.1, h.2, List.drop_zero, Nat.sub_zero, List.take_length]
theorem cut_map {α β : Type} (f : α → β) (xs : List α) (lo hi : Option Int) : cutD (xs.map f) lo hi = (cutD xs lo hi).map f := by
  unfold cutD
  rw [List.length_map, List.map_take, List.map_drop]
def rSl (K : PySem.W.Frag) : V → Option Int → Option Int → Hp → VK → Prop := fun x lo hi H Q => rSlL K x lo hi H Q ∨ rSlA K x lo hi H Q ∨ rSlS x lo hi H Q
theorem sl_any {X : Cx} : SlR X (rSl X.K) := by
  intro pins s σ H x v vl vu lo hi sl Q I rx hs pl pu h
  rcases h with h | h | h
  · exact sl_list pins s σ H x v vl vu lo hi sl Q I rx hs pl pu h
  · exact sl_tupA pins s σ H x v vl vu lo hi sl Q I rx hs pl pu h
  · exact sl_str pins s σ H x v vl vu lo hi sl Q I rx hs pl pu h
theorem se_sl {lo hi : Option Expr} {wl wh : Option WE} {p2 : Pos} (ha : SE Γ sc st a wa) (hl : SO Γ sc st lo wl) (hh : SO Γ sc st hi wh) : SE Γ sc st (.Subscript a (.Slice lo hi none p2) pos) (wSl wa wl wh) := by
  obtain ⟨ta, pa, sa⟩ := ha.f
  obtain ⟨tl, pl, sl⟩ := hl.ex
  obtain ⟨th, ph, sh⟩ := hh.ex
  refine ⟨tSl (rSl Γ.K) ta tl th, fun X C => ?_, fun O L m z σ H Q Qd R cl S hw hx k => ?_⟩
  · have := pe_slice (X := X) (pos := pos) (p2 := p2) (sl_any (X := X)) (pa X C) (pl X C) (ph X C)
    rw [C.K] at this
    exact this
  refine sa O L m z σ H _ _ R cl S hw hx fun L1 z1 H1 x v s1 c1 n1 S1 r1 q => ?_
  refine sl O L1 m z1 σ H1 _ _ R c1 S1 q (hx.later s1) fun L2 z2 H2 l s2 c2 S2 q2 => ?_
  refine sh O L2 m z2 σ H2 _ _ R c2 S2 q2 (hx.later (s1.trans s2)) fun L3 z3 H3 u s3 c3 S3 q3 => ?_
  obtain ⟨d, e1, q3⟩ := q3
  have s13 := (s1.trans s2).trans s3
  have rx := S3.rdT (Wr.later (s2.trans s3) c3 n1 r1) e1
  cases d <;> first | exact q3.elim | skip
  case tup xs =>
    have rx' : Rep Γ.K Γ.C (Bd O L3) H3 (.tup xs) v := rx
    obtain ⟨a', us, rfl, hh', rl⟩ := rx.tup
    refine .inr (.inl ⟨a', us, rfl, hh', fun hq => ?_, fun hq p hp => ?_⟩)
    · have q3' : Qd (.d (.tup (cutD xs l u))) z3 := q3
      rw [cut_all xs (by rw [rl.length]; exact hq)] at q3'
      exact k L3 z3 H3 _ _ s13 S3 (wrD c3 rx') q3'
    · exact k L3 z3 _ _ _ (s13.trans (stp_new hp)) (S3.new _ hp) (wrD c3 (rep_newT (cut_rep rl l u) hp S3.st)) q3
  case lst xs =>
    obtain ⟨a', us, rfl, hh', rl⟩ := rx.lst
    refine .inl ⟨a', us, rfl, SqL.of hh', fun p hp => ?_⟩
    exact k (lab L3 p (.res [])) z3 _ (.new (.lst _)) _ (s13.trans (stp_newL hp)) (S3.newL _ _ hp) (ovr_newL (cut_rep rl l u) hp) q3
  case scr ns =>
    obtain ⟨a', us, rfl, hh', rl⟩ := seq_rep rx (xs := ns.map D.int) rfl
    have hh2 : SqL Γ.K H3 a' us := by
      obtain ⟨a2, e2, h2⟩ := rx.scr
      cases e2
      rw [rl.ints rfl]
      exact h2
    refine .inl ⟨a', us, rfl, hh2, fun p hp => ?_⟩
    have rc := cut_rep rl l u
    rw [cut_map] at rc
    exact k (lab L3 p (.res [])) z3 _ (.new (.lst _)) _ (s13.trans (stp_newL hp)) (S3.newL _ _ hp) (ovr_newL rc hp) q3
  case str s =>
    obtain ⟨hz, q3⟩ := q3
    exact .inr (.inr ⟨s, rx.str, hz, k L3 z3 H3 _ _ s13 S3 (wrD c3 (.str _)) q3⟩)
/-- xs[::-1] of a list -/
def fRev : F1 := fun d k => match d with
  | .lst xs => k (.new (.lst xs.reverse))
  | _ => False
theorem se_rev {k : Nat} {p1 p2 p3 : Pos} (ha : SE Γ sc st a wa) : SE Γ sc st (.Subscript a (.Slice none none (some (.UnaryOp .USub (.Constant (.int 1) k p1) p2)) p3) pos) (wOp1 fRev wa) :=
  se_op1 (r := fun x H Q => ∃ a xs, x = .ref a ∧ SqL Γ.K H a xs ∧ ∀ p, H p = none → Q (.ref p) (upd H p (.lst xs.reverse)))
    (fun O L m z σ H x d k Q cl S rx h post => by
      cases d <;> first | exact h.elim | skip
      obtain ⟨a', us, rfl, hh', rl⟩ := rx.lst
      exact ⟨a', us, rfl, SqL.of hh', fun p hp => post (lab L p (.res [])) _ (.new (.lst _)) _ (stp_newL hp) (S.newL _ _ hp) (ovr_newL rl.reverse hp) h⟩) ha
    fun X ta C p => by
      have := pe_revL (X := X) (k := k) (p1 := p1) (p2 := p2) (p3 := p3) (pos := pos) p
      rw [C.K] at this
      exact this

/-! ### built-in functions -/
theorem rn_val {f : FN} {r : List V → Hp → VK → Prop} (h : ∀ (O : Addr → Prop) (L : Lab) (H : Hp) xs ds k Q, RepTs Γ.K Γ.C (Bd O L) H ds xs → f ds k → (∀ w v, Rep Γ.K Γ.C (Bd O L) H w v → k (.d w) → Q v H) → r xs H Q) : RNS Γ r f :=
  fun O L m z σ H xs ds k Q cl S rx hf post => h O L H xs ds k Q rx hf fun w v rw' hk => post L H (.d w) v Stp.refl S (wrD cl rw') hk
def fLen : FN := fun ds k => match ds with
  | [.lst xs] => k (.d (.int xs.length))
  | [.tup xs] => k (.d (.int xs.length))
  | [.scr xs] => k (.d (.int xs.length))
  | [.str s] => s.length ≤ sizeLine ∧ k (.d (.int s.length))
  | _ => False
theorem rn_len : RNS Γ (fun xs H Q => ∃ x n, xs = [x] ∧ LenV Γ.K x H n ∧ Q (.int n) H) fLen := rn_val fun O L H xs ds k Q rx h post => by
  unfold fLen at h
  split at h
  · cases rx with
    | cons r t =>
      cases t
      obtain ⟨a, us, rfl, hh, rl⟩ := r.lst
      exact ⟨_, _, rfl, .inl ⟨us, SqL.of hh, rl.length⟩, post _ _ (.int _) h⟩
  · cases rx with
    | cons r t =>
      cases t
      obtain ⟨a, us, rfl, hh, rl⟩ := r.tup
      exact ⟨_, _, rfl, .inr ⟨us, hh, rl.length⟩, post _ _ (.int _) h⟩
  · cases rx with
    | cons r t =>
      cases t
      obtain ⟨a, rfl, hh⟩ := r.scr
      exact ⟨_, _, rfl, .inl ⟨_, hh, by simp⟩, post _ _ (.int _) h⟩
  · cases rx with
    | cons r t =>
      cases t
      have e := r.str
      subst e
      exact ⟨_, _, rfl, ⟨h.1, rfl⟩, post _ _ (.int _) h.2⟩
  · exact h.elim
def fAbs : FN := fun ds k => match ds with
  | [.int i] => k (.d (.int (if i < 0 then -i else i)))
  | _ => False
theorem rn_abs : RNS Γ (fun xs H Q => ∃ i, xs = [.int i] ∧ Q (.int (if i < 0 then -i else i)) H) fAbs := rn_val fun O L H xs ds k Q rx h post => by
  unfold fAbs at h
  split at h
  · cases rx with
    | cons r t =>
      cases t
      have e := r.int
      subst e
      exact ⟨_, rfl, post _ _ (.int _) h⟩
  · exact h.elim
def fMax2 : FN := fun ds k => match ds with
  | [.int i, .int j] => k (.d (.int (if j > i then j else i)))
  | _ => False
def fMin2 : FN := fun ds k => match ds with
  | [.int i, .int j] => k (.d (.int (if j < i then j else i)))
  | _ => False
theorem rn_max2 : RNS Γ (fun xs H Q => ∃ i j, xs = [.int i, .int j] ∧ Q (.int (if j > i then j else i)) H) fMax2 := rn_val fun O L H xs ds k Q rx h post => by
  unfold fMax2 at h
  split at h
  · cases rx with
    | cons r t =>
      cases t with
      | cons r' t' =>
        cases t'
        have e := r.int
        subst e
        have e := r'.int
        subst e
        exact ⟨_, _, rfl, post _ _ (.int _) h⟩
  · exact h.elim
theorem rn_min2 : RNS Γ (fun xs H Q => ∃ i j, xs = [.int i, .int j] ∧ Q (.int (if j < i then j else i)) H) fMin2 := rn_val fun O L H xs ds k Q rx h post => by
  unfold fMin2 at h
  split at h
  · cases rx with
    | cons r t =>
      cases t with
      | cons r' t' =>
        cases t'
        have e := r.int
        subst e
        have e := r'.int
        subst e
        exact ⟨_, _, rfl, post _ _ (.int _) h⟩
  · exact h.elim
def fInt1 : FN := fun ds k => match ds with
  | [.int i] => k (.d (.int i))
  | [.bl b] => k (.d (.int (if b then 1 else 0)))
  | _ => False
theorem rn_int1 : RNS Γ (fun xs H Q => (∃ i, xs = [.int i] ∧ Q (.int i) H) ∨ ∃ k, xs = [.bl k] ∧ Q (.int (if k then 1 else 0)) H) fInt1 := rn_val fun O L H xs ds k Q rx h post => by
  unfold fInt1 at h
  split at h
  · cases rx with
    | cons r t =>
      cases t
      have e := r.int
      subst e
      exact .inl ⟨_, rfl, post _ _ (.int _) h⟩
  · cases rx with
    | cons r t =>
      cases t
      have e := r.bl
      subst e
      exact .inr ⟨_, rfl, post _ _ (.int _) h⟩
  · exact h.elim
def fStrI : FN := fun ds k => match ds with
  | [.int i] => i.natAbs.log2 < 1920 ∧ k (.d (.str (toString i)))
  | _ => False
theorem rn_strI : RNS Γ (fun xs H Q => ∃ i, xs = [.int i] ∧ i.natAbs.log2 < 1920 ∧ Q (.str (toString i)) H) fStrI := rn_val fun O L H xs ds k Q rx h post => by
  unfold fStrI at h
  split at h
  · cases rx with
    | cons r t =>
      cases t
      have e := r.int
      subst e
      exact ⟨_, rfl, h.1, post _ _ (.str _) h.2⟩
  · exact h.elim
def fSum : FN := fun ds k => ∃ ns : List Int, ds = [.lst (ns.map D.int)] ∧ k (.d (.int ns.sum))
theorem rn_sum : RNS Γ (rSum Γ.K) fSum := rn_val fun O L H xs ds k Q rx h post => by
  obtain ⟨ns, rfl, h⟩ := h
  cases rx with
  | cons r t =>
    cases t
    obtain ⟨a, us, rfl, hh, rl⟩ := r.lst
    have e := rl.ints rfl
    subst e
    exact ⟨a, ns, rfl, SqL.of hh, post _ _ (.int _) h⟩
def fAll : FN := fun ds k => ∃ ns : List Bool, ds = [.lst (ns.map D.bl)] ∧ k (.d (.bl (ns.all id)))
theorem rn_all : RNS Γ (rAll Γ.K) fAll := rn_val fun O L H xs ds k Q rx h post => by
  obtain ⟨ns, rfl, h⟩ := h
  cases rx with
  | cons r t =>
    cases t
    obtain ⟨a, us, rfl, hh, rl⟩ := r.lst
    have e := rl.bls rfl
    subst e
    exact ⟨a, ns, rfl, SqL.of hh, post _ _ (.bl _) h⟩
/-- list(x), x a list, a tuple, the script -/
def fListOf : FN := fun ds k => ∃ d xs, ds = [d] ∧ seqD d = some xs ∧ k (.new (.lst xs))
theorem rn_list : RNS Γ (fun xs H Q => ∃ p ys, xs = [.ref p] ∧ (SqL Γ.K H p ys ∨ SqT Γ.K H p ys) ∧ ∀ l, H l = none → Q (.ref l) (upd H l (.lst ys))) fListOf := by
  intro O L m z σ H xs ds k Q cl S rx h post
  obtain ⟨d, ys, rfl, e1, h⟩ := h
  cases rx with
  | cons r t =>
    cases t
    obtain ⟨a, us, rfl, hh, rl⟩ := seq_rep r e1
    exact ⟨a, us, rfl, hh, fun p hp => post (lab L p (.res [])) _ (.new (.lst _)) _ (stp_newL hp) (S.newL _ _ hp) (ovr_newL rl hp) h⟩
def fTupOf : FN := fun ds k => match ds with
  | [.lst xs] => k (.d (.tup xs))
  | [.tup xs] => k (.d (.tup xs))
  | _ => False
theorem rn_tuple : RNS Γ (fun xs H Q => ∃ p ys, xs = [.ref p] ∧ ((SqL Γ.K H p ys ∧ ∀ l, H l = none → Q (.ref l) (upd H l (.tup ys))) ∨ (SqT Γ.K H p ys ∧ Q (.ref p) H))) fTupOf := by
  intro O L m z σ H xs ds k Q cl S rx h post
  unfold fTupOf at h
  split at h
  · cases rx with
    | cons r t =>
      cases t
      obtain ⟨a, us, rfl, hh, rl⟩ := r.lst
      exact ⟨a, us, rfl, .inl ⟨SqL.of hh, fun p hp => post L _ (.d (.tup _)) _ (stp_new hp) (S.new _ hp) (wrD cl (rep_newT rl hp S.st)) h⟩⟩
  · cases rx with
    | @cons d0 v0 _ _ r t =>
      cases t
      have r' : Rep Γ.K Γ.C (Bd O L) H _ v0 := r
      obtain ⟨a, us, rfl, hh, rl⟩ := r.tup
      exact ⟨a, us, rfl, .inr ⟨hh, post L H (.d _) _ Stp.refl S (wrD cl r') h⟩⟩
  · exact h.elim
/-- sorted of ints, any number -/
def fSortI : FN := fun ds k => ∃ ns : List Int, ds = [.lst (ns.map D.int)] ∧ ∀ rs : List Int, rs.Perm ns → rs.Pairwise (fun x y => x ≤ y) → k (.new (.lst (rs.map D.int)))
theorem repL_ints {K : PySem.W.Frag} {cA : Str → Addr} {B : Addr → Prop} {H : Hp} : ∀ ns : List Int, RepL K cA B H (ns.map D.int) (ns.map V.int)
  | [] => .nil
  | n :: ns => .cons (.int n) (repL_ints ns)
theorem rn_sortI : RNS Γ (rSortedI Γ.K) fSortI := by
  intro O L m z σ H xs ds k Q cl S rx h post
  obtain ⟨ns, rfl, h⟩ := h
  cases rx with
  | cons r t =>
    cases t
    obtain ⟨a, us, rfl, hh, rl⟩ := r.lst
    have e := rl.ints rfl
    subst e
    exact ⟨a, ns, rfl, SqL.of hh, fun rs p hp1 hp2 hp => post (lab L p (.res [])) _ (.new (.lst _)) _ (stp_newL hp) (S.newL _ _ hp) (ovr_newL (repL_ints rs) hp) (h rs hp1 hp2)⟩
end
end Eng

end
section
set_option Elab.async false
set_option linter.all false
set_option maxRecDepth 100000
/-! Eng14: sorted of tuples of ints, any number of them. -/
namespace Eng
open PySem PySem.Spec PyProof.Rows L2
section
variable {prog : Program} {w : World} {A : Around} {s : Shared} {E : Value → Shared → Prop}
def lexI (xs ys : List Int) : Bool := HT.lexLt xs ys
theorem lexI_irr : ∀ xs : List Int, lexI xs xs = false
  | [] => rfl
  | x :: xs => by
    show HT.lexLt (x :: xs) (x :: xs) = false
    rw [HT.lexLt_cons, if_pos rfl]
    exact lexI_irr xs
theorem lexI_nil (ys : List Int) : HT.lexLt ys [] = false := by cases ys <;> rfl
theorem lexI_as : ∀ xs ys : List Int, lexI xs ys = true → lexI ys xs = false
  | [], [], h => by cases h
  | [], y :: ys, h => rfl
  | x :: xs, [], h => by cases h
  | x :: xs, y :: ys, h => by
    have h' : (if x = y then HT.lexLt xs ys else decide (x < y)) = true := h
    show (if y = x then HT.lexLt ys xs else decide (y < x)) = false
    by_cases e : x = y
    · rw [if_pos e] at h'
      rw [if_pos e.symm]
      exact lexI_as xs ys h'
    · rw [if_neg e] at h'
      rw [if_neg (fun q => e q.symm)]
      have := of_decide_eq_true h'
      exact decide_eq_false (by omega)
theorem lexI_tr : ∀ xs ys zs : List Int, lexI ys xs = false → lexI zs ys = false → lexI zs xs = false
  | [], ys, zs, h1, h2 => lexI_nil zs
  | x :: xs, [], zs, h1, h2 => by cases h1
  | x :: xs, y :: ys, [], h1, h2 => by cases h2
  | x :: xs, y :: ys, z :: zs, h1, h2 => by
    have h1' : (if y = x then HT.lexLt ys xs else decide (y < x)) = false := h1
    have h2' : (if z = y then HT.lexLt zs ys else decide (z < y)) = false := h2
    show (if z = x then HT.lexLt zs xs else decide (z < x)) = false
    by_cases e1 : y = x
    · by_cases e2 : z = y
      · rw [if_pos e1] at h1'
        rw [if_pos e2] at h2'
        rw [if_pos (e2.trans e1)]
        exact lexI_tr xs ys zs h1' h2'
      · rw [if_neg e2] at h2'
        rw [if_neg (fun q => e2 (q.trans e1.symm))]
        rw [← e1]; exact h2'
    · rw [if_neg e1] at h1'
      have a1 := of_decide_eq_false h1'
      by_cases e2 : z = y
      · rw [if_neg (fun q => e1 (e2.symm.trans q))]
        rw [e2]; exact h1'
      · rw [if_neg e2] at h2'
        have a2 := of_decide_eq_false h2'
        have : ¬ z = x := by omega
        rw [if_neg this]
        exact decide_eq_false (by omega)
theorem swo_lexI {α : Type} (k : α → List Int) : SrtO.Swo fun v u => lexI (k v) (k u) :=
  ⟨fun x y h => lexI_as _ _ h, fun x y z h1 h2 => lexI_tr _ _ _ h1 h2⟩
def IsTI (h : Heap) (v : Value) (ns : List Int) : Prop := ∃ a o us n, v = .ref a ∧ h.get? a = some o ∧ o.cls = .type "tuple" ∧ o.data = .seq us n ∧ IntsAre us.toList ns
theorem IsTI.keeps {h h' : Heap} {v : Value} {ns : List Int} (p : IsTI h v ns) (k : ∀ b o, h.get? b = some o → o.cls = .type "tuple" → h'.get? b = some o) : IsTI h' v ns := by
  obtain ⟨a, o, us, n, e, ho, hc, hd, hi⟩ := p
  exact ⟨a, o, us, n, e, k a o ho hc, hc, hd, hi⟩
theorem lex_run : ∀ (us vs : List Value) (ns ms : List Int) (i : Nat) (Q : Bool → Shared → Prop), IntsAre us ns → IntsAre vs ms → ns.length = ms.length → Q (lexI ns ms) s → PySem.W.KatLex prog w A true false Q (us.zip vs) i s
  | _, _, [], [], i, Q, .nil, .nil, _, h => PySem.W.kat_nil h
  | _, _, [], _ :: _, i, Q, .nil, .cons _ _ _, l, h => by cases l
  | _, _, _ :: _, [], i, Q, .cons _ _ _, .nil, l, h => by cases l
  | _, _, x :: ns, y :: ms, i, Q, .cons _ t h1, .cons _ t' h2, l, h => by
    refine PySem.W.kat_cons (SeqAt.EqAt.int_int x t y t' prog w _ _ ?_)
    have h' : Q (if x = y then HT.lexLt ns ms else decide (x < y)) s := h
    refine PySem.W.kat_go (fun e1 => ?_) (fun e1 => ?_)
    · have ex : x = y := by simpa using e1
      rw [if_pos ex] at h'
      exact PySem.W.kat_yes (lex_run _ _ ns ms (i + 1) Q h1 h2 (Nat.succ.inj l) h')
    · have ex : ¬ x = y := by simpa using e1
      rw [if_neg ex] at h'
      exact PySem.W.kat_no (TS.oneLt_ints _ h')
theorem tup_cmp {vs : List Value} {k : Value → List Int} {d : Nat} (hp : ∀ v ∈ vs, IsTI s.heap v (k v) ∧ (k v).length = d) : SrtO.Cmp prog w A s (tuples' true) (fun p => p.1 ∈ vs) (SrtO.lt2 fun v u => lexI (k v) (k u)) := by
  intro p q hm hm'
  obtain ⟨h1, l1⟩ := hp _ hm
  obtain ⟨h2, l2⟩ := hp _ hm'
  show wpAny (model prog w) A (keyLt' (tuples' true) p.1 q.1) (fun r s' => s' = s ∧ r = lexI (k p.1) (k q.1)) (fun _ _ => False) s
  generalize k p.1 = x at h1 l1 ⊢
  generalize k q.1 = y at h2 l2 ⊢
  obtain ⟨a, o, us, n, e, ho, hc, hd, hi⟩ := h1
  obtain ⟨a', o', us', n', e', ho', hc', hd', hi'⟩ := h2
  rw [e, e']
  refine PySem.W.kat_lt ho hd ho' hd' ?_
  have z1 : us.size = x.length := by rw [← hi.length]; simp
  have z2 : us'.size = y.length := by rw [← hi'.length]; simp
  have ez : decide (us.size < us'.size) = false := decide_eq_false (by omega)
  rw [ez]
  exact lex_run _ _ x y 0 _ hi hi' (by omega) ⟨rfl, rfl⟩
theorem firstsI {h : Heap} {k : Value → List Int} {d : Nat} (hd : 1 ≤ d) : ∀ {vs : List Value}, (∀ v ∈ vs, IsTI h v (k v) ∧ (k v).length = d) → ∃ fs : List Value, PySem.W.KatTups h vs fs ∧ fs.length = vs.length ∧ ∀ f ∈ fs, ∃ x t, f = Value.int x t
  | [], _ => ⟨[], PySem.W.KatTups.nil, rfl, fun f hf => absurd hf (by simp)⟩
  | v :: vs, hv => by
    obtain ⟨fs, h1, h2, h3⟩ := firstsI hd fun v hm => hv v (List.mem_cons_of_mem _ hm)
    obtain ⟨⟨a, o, us, n, e, ho, hc, hd', hi⟩, l⟩ := hv v List.mem_cons_self
    obtain ⟨f, ef, ff⟩ : ∃ f, us[0]? = some f ∧ ∃ x t, f = Value.int x t := by
      rcases us with ⟨ul⟩
      have hi2 : IntsAre ul (k v) := hi
      generalize k v = x at hi2 l
      cases hi2 with
      | nil => simp at l; omega
      | cons x0 t hi' => exact ⟨_, rfl, x0, t, rfl⟩
    rw [e]
    refine ⟨f :: fs, PySem.W.KatTups.cons ho hc hd' ef h1, by rw [List.length_cons, List.length_cons, h2], fun f' hf => ?_⟩
    rcases List.mem_cons.mp hf with q | q
    · rw [q]; exact ff
    · exact h3 f' q
theorem tup_sortable {a : Addr} {vs : List Value} {k : Value → List Int} {d : Nat} (hd : 1 ≤ d) (h0 : 0 < vs.length) (hp : ∀ v ∈ vs, IsTI s.heap v (k v) ∧ (k v).length = d) (ha : ∀ o, s.heap.get? a = some o → o.cls ≠ .type "tuple") : SrtO.SortableO prog w A s a vs fun v u => lexI (k v) (k u) := by
  intro h' keep
  have hp' : ∀ v ∈ vs, IsTI h' v (k v) ∧ (k v).length = d := fun v hm => ⟨(hp v hm).1.keeps fun b o e c => keep b o (fun z => by subst z; exact ha o e c) e, (hp v hm).2⟩
  obtain ⟨fs, h1, h2, h3⟩ := firstsI hd hp'
  refine ⟨tuples' true, fun Q E hq => ?_, tup_cmp hp'⟩
  refine PySem.W.kat_kind (T := .type "int") h1 (by omega) (fun f hm => ?_) (by rfl) ?_
  · obtain ⟨x, t, rfl⟩ := h3 f hm
    exact PySem.W.Looks.now
  · have e : (Value.type "int" != Value.type "tuple") = true := by first | decide +kernel | rfl | decide
    rw [e]
    exact hq
theorem sorted_tups {l : Addr} {vs : List Value} {k : Value → List Int} {d : Nat} {Q : Value → Shared → Prop} (hd : 1 ≤ d) (hl : s.heap.IsList l vs.toArray) (hz : vs.length ≤ sizeLine) (hp : ∀ v ∈ vs, IsTI s.heap v (k v) ∧ (k v).length = d)
    (h : ∀ (h' : Heap) (d : Addr) (out : List Value), SrtO.Srtd (fun v u => lexI (k v) (k u)) out → out.Perm vs → (∀ b o, s.heap.get? b = some o → h'.get? b = some o) → s.heap.objs.size ≤ d → (∃ n, h'.get? d = some (seqObj "list" out.toArray n)) → Q (.ref d) { s with heap := h' }) :
    wpAny (model prog w) A (call (.builtin "sorted") [.ref l]) Q E s := by
  refine SrtO.sorted_ord (swo_lexI k) hl hz (fun h2 h₁ a ha kk => ?_) fun out hs hb => ?_
  · refine tup_sortable (s := { s with heap := h₁ }) hd (by omega) (fun v hm => ⟨(hp v hm).1.keeps fun b o e _ => (kk b o e).2, (hp v hm).2⟩) fun o e => ?_
    have e' : some o = some (seqObj "list" vs.toArray 0) := e.symm.trans ha
    cases e'
    intro c
    exact absurd (Value.type.inj c) (by decide)
  · exact h _ _ out hs hb.perm (fun b o e => PyProof.Rows.sortedAll_old e) (Nat.le_succ _) (PyProof.Rows.sortedAll_at s.heap vs out.toArray)
end
/-- sorted(xs), a list of tuples of ints, each of as many -/
def rSortedN (K : PySem.W.Frag) : List V → Hp → VK → Prop := fun vs H Q => ∃ (a : Addr) (xs : List V) (nss : List (List Int)) (d : Nat), vs = [V.ref a] ∧ SqL K H a xs ∧ 1 ≤ d ∧ xs.length = nss.length ∧
  (∀ p ∈ xs.zip nss, p.2.length = d ∧ ∃ t, p.1 = V.ref t ∧ SqT K H t (p.2.map V.int)) ∧
  ∀ ys rs p, ys.length = rs.length → (ys.zip rs).Perm (xs.zip nss) → rs.Pairwise (fun x y => lexI y x = false) → H p = none → Q (.ref p) (upd H p (.lst ys))
theorem intsI : ∀ {us : List Value} {ns : List Int}, Vals (ns.map V.int) us → IntsAre us ns := fun r => intsAre_of r
theorem cr_sortedN {X : Cx} : CallR X (.builtin "sorted") (rSortedN X.K) := by
  intro pins s σ H vs us Q I r h
  obtain ⟨a, xs, nss, d, rfl, hs, hd, hl0, hx, q⟩ := h
  obtain ⟨its, rv, hl, hz⟩ := I.list hs
  obtain ⟨u, rfl, ru⟩ := vals1 r
  obtain rfl : u = Value.ref a := ru
  have exx : ∀ x ∈ xs, ∃ ns, (x, ns) ∈ xs.zip nss := by
    intro x hxm
    obtain ⟨i, hi, e⟩ := List.mem_iff_getElem.mp hxm
    refine ⟨nss[i], List.mem_iff_getElem.mpr ⟨i, by rw [List.length_zip]; omega, ?_⟩⟩
    rw [List.getElem_zip, e]
  obtain ⟨e1, e2⟩ := refs_back rv fun x m => by
    obtain ⟨ns, hm⟩ := exx x m
    obtain ⟨_, t, e, _⟩ := hx _ hm
    exact ⟨t, e⟩
  classical
  let g : V → List Int := fun x => if c : ∃ ns, (x, ns) ∈ xs.zip nss then c.choose else []
  have gs : ∀ p ∈ xs.zip nss, g p.1 = p.2 := by
    intro p hp
    have c : ∃ ns, (p.1, ns) ∈ xs.zip nss := ⟨p.2, hp⟩
    have eg : g p.1 = c.choose := dif_pos c
    obtain ⟨_, t, e, ht⟩ := hx _ hp
    obtain ⟨_, t', e', ht'⟩ := hx _ c.choose_spec
    have ett : t = t' := by
      have : V.ref t = V.ref t' := e.symm.trans e'
      exact V.ref.inj this
    subst ett
    have := I.tuple_inj ht' ht
    rw [eg]
    have inj : ∀ (x y : List Int), x.map V.int = y.map V.int → x = y := by
      intro x
      induction x with
      | nil => intro y h; cases y with
        | nil => rfl
        | cons _ _ => cases h
      | cons i x ih => intro y h; cases y with
        | nil => cases h
        | cons j y =>
          rw [List.map_cons, List.map_cons] at h
          injection h with h1 h2
          injection h1 with h1
          rw [h1, ih y h2]
    exact inj _ _ this
  have gm : ∀ x ∈ xs, (x, g x) ∈ xs.zip nss := by
    intro x hxm
    obtain ⟨ns, hm⟩ := exx x hxm
    have : g x = ns := gs _ hm
    rw [this]; exact hm
  have gz : xs.zip nss = xs.map fun x => (x, g x) := by
    refine List.ext_getElem (by rw [List.length_zip, List.length_map]; omega) fun i h1 h2 => ?_
    have hm : (xs.zip nss)[i] ∈ xs.zip nss := List.getElem_mem h1
    have := gs _ hm
    rw [List.getElem_zip] at this ⊢
    rw [List.getElem_map]
    exact congrArg (Prod.mk _) this.symm
  refine sorted_tups (k := fun u => g (backV u)) hd hl.isList (by rw [← rv.length]; exact hz) (fun v hv => ?_) fun h' d' out h1 h2 kp hd' hn => ?_
  · obtain ⟨t, rfl⟩ := e2 v hv
    have hm : V.ref t ∈ xs := by rw [e1]; exact List.mem_map.mpr ⟨_, hv, rfl⟩
    have hm' := gm _ hm
    obtain ⟨l, t', e, ht⟩ := hx _ hm'
    cases e
    obtain ⟨its2, r2, ⟨o, ho, hc, n, hdd⟩, _⟩ := I.tuple ht
    exact ⟨⟨t, o, its2.toArray, n, rfl, ho, hc, hdd, intsI r2⟩, l⟩
  · have h3 : ∀ u ∈ out, ∃ a, u = Value.ref a := fun u hu => e2 u (h2.mem_iff.mp hu)
    obtain ⟨n, hn⟩ := hn
    have hz' : out.length = xs.length := by rw [h2.length_eq, e1, List.length_map]
    refine ⟨.ref d', upd H d' (.lst (out.map backV)), I.laid (t' := s.toks) kp hd' ⟨?_, out, n, vals_back h3, hn⟩, rfl, q _ (out.map fun u => g (backV u)) d' (by simp) ?_ ?_ (I.hok.fresh hd')⟩
    · rw [List.length_map, hz']
      exact hz
    · have ezz : (out.map backV).zip (out.map fun u => g (backV u)) = (out.map backV).map fun x => (x, g x) := by
        rw [List.map_map]
        clear h1 h2 h3 hn hz' kp
        induction out with
        | nil => rfl
        | cons u out ih => rw [List.map_cons, List.map_cons, List.map_cons, List.zip_cons_cons, ih]; rfl
      rw [ezz, gz, e1]
      exact (h2.map backV).map _
    · exact List.pairwise_map.mpr h1
section
variable {Γ : Gm}
def tupI (ns : List Int) : D := .tup (ns.map D.int)
def fSortN : FN := fun ds k => ∃ (nss : List (List Int)) (d : Nat), ds = [.lst (nss.map tupI)] ∧ 1 ≤ d ∧ (∀ ns ∈ nss, ns.length = d) ∧
  ∀ rs : List (List Int), rs.Perm nss → rs.Pairwise (fun x y => lexI y x = false) → k (.new (.lst (rs.map tupI)))
theorem repL_zip {K : PySem.W.Frag} {cA : Str → Addr} {B : Addr → Prop} {H : Hp} : ∀ {nss : List (List Int)} {us : List V}, RepL K cA B H (nss.map tupI) us → ∀ p ∈ us.zip nss, Rep K cA B H (tupI p.2) p.1
  | [], _, .nil, p, h => absurd h (by simp)
  | n :: nss, _, .cons r t, p, h => by
    rw [List.zip_cons_cons] at h
    rcases List.mem_cons.mp h with q | q
    · subst q; exact r
    · exact repL_zip t p q
theorem repL_of_zip {K : PySem.W.Frag} {cA : Str → Addr} {B : Addr → Prop} {H : Hp} : ∀ {nss : List (List Int)} {us : List V}, us.length = nss.length → (∀ p ∈ us.zip nss, Rep K cA B H (tupI p.2) p.1) → RepL K cA B H (nss.map tupI) us
  | [], [], _, _ => .nil
  | [], _ :: _, l, _ => by cases l
  | _ :: _, [], l, _ => by cases l
  | n :: nss, u :: us, l, h => .cons (h (u, n) (by rw [List.zip_cons_cons]; exact List.mem_cons_self)) (repL_of_zip (Nat.succ.inj l) fun p hp => h p (by rw [List.zip_cons_cons]; exact List.mem_cons_of_mem _ hp))
theorem rn_sortN : RNS Γ (rSortedN Γ.K) fSortN := by
  intro O L m z σ H xs ds k Q cl S rx h post
  obtain ⟨nss, d, rfl, hd, hl, h⟩ := h
  cases rx with
  | cons r t =>
    cases t
    obtain ⟨a, us, rfl, hh, rl⟩ := r.lst
    have hlen : us.length = nss.length := by rw [← rl.length, List.length_map]
    refine ⟨a, us, nss, d, rfl, SqL.of hh, hd, hlen, fun p hp => ?_, fun ys rs p e1 e2 e3 hp => ?_⟩
    · have h1 := repL_zip rl p hp
      refine ⟨hl _ (List.of_mem_zip hp).2, ?_⟩
      obtain ⟨t, us', e, hq, rl'⟩ := h1.t.tup
      have := rl'.ints rfl
      subst this
      exact ⟨t, e, hq⟩
    · have hr : RepL Γ.K Γ.C (Bd O L) H (rs.map tupI) ys := repL_of_zip e1 fun p hp => repL_zip rl p (e2.mem_iff.mp hp)
      have hperm : rs.Perm nss := by
        have := e2.map Prod.snd
        rw [List.map_snd_zip (by omega), List.map_snd_zip (by omega)] at this
        exact this
      exact post (lab L p (.res [])) _ (.new (.lst _)) _ (stp_newL hp) (S.newL _ _ hp) (ovr_newL hr hp) (h rs hperm e3)
end
end Eng

end
section
set_option Elab.async false
set_option linter.all false
set_option maxRecDepth 100000
/-! Eng15: comparisons as tests, chains, isinstance, parallel assignment, star targets, dicts. -/
namespace Eng
open PySem PySem.Spec PyProof.Rows L2
section
variable {Γ : Gm} {sc : Scope} {st : Names'} {O : Addr → Prop} {L L' : Lab} {m : List V} {z z' : Z} {σ : St} {H H' : Hp} {a b c e : Expr} {wa wb wc : WE} {pos : Pos}
/-! ### comparisons -/
theorem st_cmp' {r : R2} {f : F2} (hr : R2S Γ r f) (ha : SE Γ sc st a wa) (hb : SE Γ sc st b wb) (hpt : ∀ X ta tb, Ctx Γ sc st X → PE X a ta → PE X b tb → PT X e (tTest (tOp r ta tb))) : ST Γ sc st e (wAsT (wOp2 f wa wb)) := by
  obtain ⟨ta, pa, sa⟩ := ha.f
  obtain ⟨tb, pb, sb⟩ := hb.f
  refine ⟨_, fun X C => hpt X ta tb C (pa X C) (pb X C), fun O L m z σ H Q Qd R cl S hw hx k => ?_⟩
  have hw' : wFr wa z (fun x z1 => wFr wb z1 (fun y z2 => ∃ d1 d2, rd z2 x = some d1 ∧ rd z2 y = some d2 ∧ f d1 d2 fun w => ∃ bb, fz w = .d (.bl bb) ∧ Qd bb z2) R) R := hw
  refine sa O L m z σ H _ _ R cl S hw' hx fun L1 z1 H1 x v s1 c1 n1 S1 r1 q => ?_
  refine sb O L1 m z1 σ H1 _ _ R c1 S1 q (hx.later s1) fun L2 z2 H2 y u s2 c2 n2 S2 r2 q2 => ?_
  obtain ⟨d1, d2, e1, e2, q2⟩ := q2
  have r1' := Wr.later s2 c2 n1 r1
  refine hr O L2 m z2 σ H2 v u d1 d2 _ _ c2 S2 (S2.rdT r1' e1) (S2.rdT r2 e2) q2 fun L' H' w v' s' S' r' q' => ?_
  obtain ⟨bb, e, q'⟩ := q'
  cases w with
  | d d =>
    cases e
    have r0 := r'.2
    cases r0
    exact ⟨bb, rfl, k L' z2 H' bb ((s1.trans s2).trans s') r'.1 S' q'⟩
  | cel j => cases e
  | slot j => cases e
  | new o =>
    have e' : W.d o.frz = .d (.bl bb) := e
    cases o with
    | d x =>
      have e2 : x = .bl bb := by injection e'
      subst e2
      cases r' with
      | d rr =>
        cases rr
        exact ⟨bb, rfl, k (Eng.unres L') z2 H' bb (((s1.trans s2).trans s').trans stp_unres) unres_cl S'.unres q'⟩
    | lst x => cases e'
    | dic x => cases e'
    | ins x y => cases e'
theorem st_cmp {op : CmpOp} {r : R2} {f : F2} (ho : ∀ X, Ctx Γ sc st X → OpR X (compareOp op) r) (hr : R2S Γ r f) (ha : SE Γ sc st a wa) (hb : SE Γ sc st b wb) (hm : behindInMarks op b = false) : ST Γ sc st (.Compare a [op] [b] pos) (wAsT (wOp2 f wa wb)) :=
  st_cmp' hr ha hb fun X ta tb C pa pb => pt_cmpR (ho X C) pa pb hm
theorem se_cmp {op : CmpOp} {r : R2} {f : F2} (ho : ∀ X, Ctx Γ sc st X → OpR X (compareOp op) r) (hr : R2S Γ r f) (ha : SE Γ sc st a wa) (hb : SE Γ sc st b wb) (hm : behindInMarks op b = false) : SE Γ sc st (.Compare a [op] [b] pos) (wOp2 f wa wb) :=
  se_op2 hr ha hb fun X ta tb C pa pb => pe_cmpR (ho X C) pa pb hm
theorem se_bin {op : Operator} {r : R2} {f : F2} (ho : ∀ X, Ctx Γ sc st X → OpR X (binaryOp op) r) (hr : R2S Γ r f) (ha : SE Γ sc st a wa) (hb : SE Γ sc st b wb) : SE Γ sc st (.BinOp a op b pos) (wOp2 f wa wb) :=
  se_op2 hr ha hb fun X ta tb C pa pb => pe_op (ho X C) pa pb
/-- a op b op' c of ints -/
def wChain (p p' : Int → Int → Bool) (a b c : WE) : WE := fun z Q R => wFr a z (fun x z1 => ∃ i, x = .d (.int i) ∧ wFr b z1 (fun y z2 => ∃ j, y = .d (.int j) ∧
  if p i j = true then wFr c z2 (fun u z3 => ∃ l, u = .d (.int l) ∧ Q (.d (.bl (p' j l))) z3) R else Q (.d (.bl false)) z2) R) R
def wChainT (p p' : Int → Int → Bool) (a b c : WE) : WT := fun z Q R => wFr a z (fun x z1 => ∃ i, x = .d (.int i) ∧ wFr b z1 (fun y z2 => ∃ j, y = .d (.int j) ∧
  if p i j = true then wFr c z2 (fun u z3 => ∃ l, u = .d (.int l) ∧ Q (p' j l) z3) R else Q false z2) R) R
theorem se_chain {op op' : CmpOp} {p p' : Int → Int → Bool} (ho : ∀ X, Ctx Γ sc st X → OpR X (compareOp op) (rI0 fun i j => .bl (p i j))) (ho' : ∀ X, Ctx Γ sc st X → OpR X (compareOp op') (rI0 fun i j => .bl (p' i j)))
    (ha : SE Γ sc st a wa) (hb : SE Γ sc st b wb) (hc : SE Γ sc st c wc) (hm : lastMarks [op, op'] [b, c] = false) : SE Γ sc st (.Compare a [op, op'] [b, c] pos) (wChain p p' wa wb wc) := by
  obtain ⟨ta, pa, sa⟩ := ha.f
  obtain ⟨tb, pb, sb⟩ := hb.f
  obtain ⟨tc, pc, sc'⟩ := hc.f
  refine ⟨_, fun X C => pe_chain (ho X C) (ho' X C) (pa X C) (pb X C) (pc X C) hm, fun O L m z σ H Q Qd R cl S hw hx k => ?_⟩
  refine sa O L m z σ H _ _ R cl S hw hx fun L1 z1 H1 x v s1 c1 n1 S1 r1 q => ?_
  obtain ⟨i, rfl, q⟩ := q
  have r1' := r1.2
  cases r1'
  refine sb O L1 m z1 σ H1 _ _ R c1 S1 q (hx.later s1) fun L2 z2 H2 y u s2 c2 n2 S2 r2 q2 => ?_
  obtain ⟨j, rfl, q2⟩ := q2
  have r2' := r2.2
  cases r2'
  refine ⟨i, j, rfl, rfl, p i j, rfl, ?_⟩
  by_cases hp : p i j = true
  · rw [if_pos hp] at q2 ⊢
    refine sc' O L2 m z2 σ H2 _ _ R c2 S2 q2 (hx.later (s1.trans s2)) fun L3 z3 H3 y u s3 c3 n3 S3 r3 q3 => ?_
    obtain ⟨l, rfl, q3⟩ := q3
    have r3' := r3.2
    cases r3'
    exact ⟨j, l, rfl, rfl, k L3 z3 H3 _ _ ((s1.trans s2).trans s3) S3 (wrD c3 (.bl _)) q3⟩
  · rw [if_neg hp] at q2 ⊢
    exact k L2 z2 H2 _ _ (s1.trans s2) S2 (wrD c2 (.bl _)) q2
theorem st_chain {op op' : CmpOp} {p p' : Int → Int → Bool} (ho : ∀ X, Ctx Γ sc st X → OpR X (compareOp op) (rI0 fun i j => .bl (p i j))) (ho' : ∀ X, Ctx Γ sc st X → OpR X (compareOp op') (rI0 fun i j => .bl (p' i j)))
    (ha : SE Γ sc st a wa) (hb : SE Γ sc st b wb) (hc : SE Γ sc st c wc) (hm : lastMarks [op, op'] [b, c] = false) : ST Γ sc st (.Compare a [op, op'] [b, c] pos) (wChainT p p' wa wb wc) := by
  obtain ⟨ta, pa, sa⟩ := ha.f
  obtain ⟨tb, pb, sb⟩ := hb.f
  obtain ⟨tc, pc, sc'⟩ := hc.f
  refine ⟨_, fun X C => pt_chain (ho X C) (ho' X C) (pa X C) (pb X C) (pc X C) hm, fun O L m z σ H Q Qd R cl S hw hx k => ?_⟩
  refine sa O L m z σ H _ _ R cl S hw hx fun L1 z1 H1 x v s1 c1 n1 S1 r1 q => ?_
  obtain ⟨i, rfl, q⟩ := q
  have r1' := r1.2
  cases r1'
  refine sb O L1 m z1 σ H1 _ _ R c1 S1 q (hx.later s1) fun L2 z2 H2 y u s2 c2 n2 S2 r2 q2 => ?_
  obtain ⟨j, rfl, q2⟩ := q2
  have r2' := r2.2
  cases r2'
  refine ⟨i, j, rfl, rfl, p i j, rfl, ?_⟩
  by_cases hp : p i j = true
  · rw [if_pos hp] at q2 ⊢
    refine sc' O L2 m z2 σ H2 _ _ R c2 S2 q2 (hx.later (s1.trans s2)) fun L3 z3 H3 y u s3 c3 n3 S3 r3 q3 => ?_
    obtain ⟨l, rfl, q3⟩ := q3
    have r3' := r3.2
    cases r3'
    exact ⟨j, l, rfl, rfl, _, rfl, k L3 z3 H3 _ ((s1.trans s2).trans s3) c3 S3 q3⟩
  · rw [if_neg hp] at q2 ⊢
    exact ⟨_, rfl, k L2 z2 H2 _ (s1.trans s2) c2 S2 q2⟩
/-- a value that is a bool, as a test -/
theorem st_val (ha : SE Γ sc st a wa) (he : ∀ env whole, isTrue a env whole = (do let v ← whole; standAt a.pos; holding [v] (truthy v))) : ST Γ sc st a (wAsT wa) :=
  st_of (t' := tB) ha fun X ta C pa => pt_val pa (he _)

/-! ### isinstance -/
def tyD : D → Option String
  | .non => some "NoneType"
  | .bl _ => some "bool"
  | .int _ => some "int"
  | .str _ => some "str"
  | .tup _ => some "tuple"
  | .lst _ => some "list"
  | .scr _ => some "list"
  | .dct _ => some "dict"
  | .ob _ _ => none
def isiB (t u : String) : Bool := t == u || (t == "bool" && u == "int")
def kitU : List String := ["int", "bool", "str", "tuple", "list", "dict"]
theorem kit_isi {K : PySem.W.Frag} {d : D} {t u : String} (ht : tyD d = some t) (hu : u ∈ kitU) : PySem.W.kitOne K (.type t) (.type u) = some (isiB t u) := by
  have h2 : u = "int" ∨ u = "bool" ∨ u = "str" ∨ u = "tuple" ∨ u = "list" ∨ u = "dict" := by simpa [kitU] using hu
  cases d <;> cases ht <;> rcases h2 with rfl | rfl | rfl | rfl | rfl | rfl <;> with_unfolding_all rfl
theorem tyx_rep {K : PySem.W.Frag} {cA : Str → Addr} {B : Addr → Prop} {d : D} {v : V} {t : String} (r : RepT K cA B H d v) (ht : tyD d = some t) : TyX K H v (.type t) := by
  cases d with
  | non => cases ht; rw [r.non]; exact .base .non
  | bl b => cases ht; rw [r.bl]; exact .base (.bl b)
  | int b => cases ht; rw [r.int]; exact .base (.int b)
  | str b => cases ht; rw [r.str]; exact .base (.str b)
  | tup xs =>
    cases ht
    have r' : Rep K cA B H (.tup xs) v := r
    cases r' with
    | tup h hs =>
      rcases h with h | ⟨o, its, n, h1, h2, _⟩
      · exact .base (.tup h.2)
      · exact .kTuple h1 h2
  | lst xs => cases ht; obtain ⟨a, us, rfl, hh, rl⟩ := r.lst; exact .base (.lst hh)
  | scr xs =>
    cases ht
    have r' : Rep K cA B H (.scr xs) v := r
    cases r' with
    | scr h =>
      rcases h with h | ⟨o, its, n, h1, h2, _⟩
      · obtain ⟨o, e⟩ := h.2
        exact .base (.frz e)
      · exact .kList h1 h2
  | dct xs => cases ht; obtain ⟨a, us, rfl, hh, rl⟩ := r.dct; exact .base (.dK hh)
  | ob _ _ => cases ht
def wIsi (us : List String) (a : WE) : WE := wOp1 (fun d k => ∃ t, tyD d = some t ∧ k (.d (.bl (us.any (isiB t))))) a
theorem se_isi {p pT : Pos} {x : Str} {T : String} (hg : glB sc "isinstance" = true) (hm : Γ.mg "isinstance" = none) (hgT : glB sc x = true) (hmT : Γ.mg x = none) (hT : bootBuiltins x = some (.type T)) (hn : x ≠ "__name__") (hk : T ∈ kitU) (ha : SE Γ sc st a wa)
    (hs : ∀ env, starEach [a, .Name x pT] env = (false, eval a env) :: starEach [.Name x pT] env) :
    SE Γ sc st (.Call (.Name "isinstance" p) [a, .Name x pT] [] pos) (wIsi [T] wa) := by
  refine se_op1 (r := fun v H Q => rIsi Γ.K [v, .ty T] H Q) ?_ ha fun X ta C pa => ?_
  · intro O L m z σ H v d k Q cl S rx h post
    obtain ⟨t, ht, h⟩ := h
    refine ⟨v, .ty T, .type t, .type T, isiB t T, rfl, .ty T, tyx_rep rx ht, kit_isi ht hk, ?_⟩
    have e : [T].any (isiB t) = isiB t T := by simp
    rw [e] at h
    exact post L H (.d (.bl _)) _ Stp.refl S (wrD cl (.bl _)) h
  · have := pe_callB (X := X) (pos := pos) (p := p) (call_isi (X := X)) (gl_of C hg).1 (by rw [C.mg]; exact hm) PyProof.Rows.boot_isinstance (pa_cons pa (pa_cons (pe_bltn (v := .ty T) (pos := pT) (gl_of C hgT).1 (by rw [C.mg]; exact hmT) hT rfl hn (gl_of C hgT).2) pa_nil) (hs _))
      (by decide) (by decide) (hs _) rfl
    rw [C.K] at this
    exact this
theorem se_isi2 {p pT pU pp : Pos} {j : Nat} {x y : Str} {T U : String} (hg : glB sc "isinstance" = true) (hm : Γ.mg "isinstance" = none) (hgT : glB sc x = true) (hmT : Γ.mg x = none) (hT : bootBuiltins x = some (.type T)) (hn : x ≠ "__name__") (hk : T ∈ kitU)
    (hgU : glB sc y = true) (hmU : Γ.mg y = none) (hU : bootBuiltins y = some (.type U)) (hnU : y ≠ "__name__") (hkU : U ∈ kitU) (ha : SE Γ sc st a wa)
    (hs : ∀ env, starEach [a, .Tuple [.Name x pT, .Name y pU] j pp] env = (false, eval a env) :: starEach [.Tuple [.Name x pT, .Name y pU] j pp] env) :
    SE Γ sc st (.Call (.Name "isinstance" p) [a, .Tuple [.Name x pT, .Name y pU] j pp] [] pos) (wIsi [T, U] wa) := by
  refine se_op1 (r := fun v H Q => [V.ty T, V.ty U].length ≤ sizeLine ∧ ∀ q, H q = none → rIsiT Γ.K [v, .ref q] (upd H q (.tup [.ty T, .ty U])) Q) ?_ ha fun X ta C pa => ?_
  · intro O L m z σ H v d k Q cl S rx h post
    obtain ⟨t, ht, h⟩ := h
    refine ⟨by show 2 ≤ sizeLine; rw [sizeLine_eq]; omega, fun q hq => ?_⟩
    have rx' : TyX Γ.K (upd H q (.tup [.ty T, .ty U])) v (.type t) := by
      have up : ∀ a u, H a = some u → upd H q (.tup [.ty T, .ty U]) a = some u := fun a u e => by rw [upd_ne (ne_of_none e hq)]; exact e
      have h0 := tyx_rep rx ht
      cases d with
      | non => cases ht; rw [rx.non]; exact .base .non
      | bl b => cases ht; rw [rx.bl]; exact .base (.bl b)
      | int b => cases ht; rw [rx.int]; exact .base (.int b)
      | str b => cases ht; rw [rx.str]; exact .base (.str b)
      | tup xs =>
        cases ht
        have r' : Rep Γ.K Γ.C (Bd O L) H (.tup xs) v := rx
        cases r' with
        | tup h hs =>
          rcases h with h | ⟨o, its, n, h1, h2, _⟩
          · exact .base (.tup (up _ _ h.2))
          · exact .kTuple h1 h2
      | lst xs => cases ht; obtain ⟨a, us, rfl, hh, rl⟩ := rx.lst; exact .base (.lst (up _ _ hh))
      | scr xs =>
        cases ht
        have r' : Rep Γ.K Γ.C (Bd O L) H (.scr xs) v := rx
        cases r' with
        | scr h =>
          rcases h with h | ⟨o, its, n, h1, h2, _⟩
          · obtain ⟨o, e⟩ := h.2
            exact .base (.frz (up _ _ e))
          · exact .kList h1 h2
      | dct xs => cases ht; obtain ⟨a, us, rfl, hh, rl⟩ := rx.dct; exact .base (.dK (up _ _ hh))
      | ob _ _ => cases ht
    refine ⟨v, q, [.ty T, .ty U], .type t, [.type T, .type U], [T, U].any (isiB t), rfl, upd_same, .cons (.ty T) (.cons (.ty U) .nil), rx', ?_, ?_⟩
    · show (match PySem.W.kitOne Γ.K (.type t) (.type T) with
        | some true => some true
        | some false => PySem.W.kitAny Γ.K (.type t) [.type U]
        | none => none) = _
      rw [kit_isi ht hk]
      have e2 : PySem.W.kitAny Γ.K (.type t) [.type U] = some (isiB t U) := by
        show (match PySem.W.kitOne Γ.K (.type t) (.type U) with
          | some true => some true
          | some false => some false
          | none => none) = _
        rw [kit_isi ht hkU]
        cases isiB t U <;> rfl
      simp only [List.any_cons, List.any_nil, Bool.or_false]
      cases isiB t T
      · exact e2
      · rfl
    · exact post L _ (.d (.bl _)) _ (stp_new hq) (S.new _ hq) (wrD cl (.bl _)) h
  · have h2 : PE X (.Tuple [.Name x pT, .Name y pU] j pp) _ := pe_tup (pa_cons (pe_bltn (v := .ty T) (pos := pT) (gl_of C hgT).1 (by rw [C.mg]; exact hmT) hT rfl hn (gl_of C hgT).2) (pa_cons (pe_bltn (v := .ty U) (pos := pU) (gl_of C hgU).1 (by rw [C.mg]; exact hmU) hU rfl hnU (gl_of C hgU).2) pa_nil))
    have := pe_callB (X := X) (pos := pos) (p := p) (call_isiT (X := X)) (gl_of C hg).1 (by rw [C.mg]; exact hm) PyProof.Rows.boot_isinstance (pa_cons pa (pa_cons h2 pa_nil) (hs _)) (by decide) (by decide) (hs _) rfl
    rw [C.K] at this
    exact this
end
end Eng

end
section
set_option Elab.async false
set_option linter.all false
set_option maxRecDepth 100000
/-! Eng16: parallel assignment, star targets. -/
namespace Eng
open PySem PySem.Spec PyProof.Rows L2
section
variable {Γ : Gm} {sc : Scope} {st : Names'} {O O' : Addr → Prop} {L L' : Lab} {m : List V} {z z' : Z} {σ : St} {H H' : Hp} {a b c e : Expr} {wa wb wc : WE} {pos : Pos}
theorem Sim.chg (h : Sim Γ O L m z σ H) (hm : ∀ a u, ¬ Bd O L a → H a = some u → ¬ Bd O' L' a ∧ H' a = some u)
    (q : ∀ a u (w : Own), (∀ p, w ≠ .res p) → L a = some w → H a = some u → L' a = some w ∧ H' a = some u) (ho : ∀ a, O' a → H' a ≠ none ∧ L' a = none) (t : ∀ a, L' a ≠ none → H' a ≠ none) : Sim Γ O' L' m z σ H' := by
  refine ⟨⟨h.st.mlen, fun j o e => ?_, ho, t⟩, h.len, fun i sv e => ?_⟩
  · obtain ⟨v, e1, r⟩ := h.st.cells j o e
    exact ⟨v, e1, r.mono hm fun a u' p l e => q a u' _ (fun _ h' => by cases h') l e⟩
  · have r := h.slots i sv e
    cases sv with
    | none => trivial
    | d x => obtain ⟨v, e1, r⟩ := r; exact ⟨v, e1, r.mono hm⟩
    | cel j => exact r
    | own o => obtain ⟨v, e1, r⟩ := r; exact ⟨v, e1, r.mono hm fun a u' p l e => q a u' _ (fun _ h' => by cases h') l e⟩
/-- one of several values as it waits for its name -/
def PW1 (Γ : Gm) (O : Addr → Prop) (L : Lab) (m : List V) (σ : St) (H : Hp) (i : Nat) : W → V → Prop
  | .new o, v => OVR Γ.K Γ.C (Bd O L) L H (Own.slot i) [] o v
  | w, v => Wr Γ O L m σ H w v
inductive PWr (Γ : Gm) (O : Addr → Prop) (L : Lab) (m : List V) (σ : St) (H : Hp) : List Nat → List W → List V → Prop
  | nil : PWr Γ O L m σ H [] [] []
  | cons {i : Nat} {w : W} {v : V} {is : List Nat} {ws : List W} {vs : List V} : PW1 Γ O L m σ H i w v → PWr Γ O L m σ H is ws vs → PWr Γ O L m σ H (i :: is) (w :: ws) (v :: vs)
theorem PW1.chg {i : Nat} {w : W} {v : V} (h : PW1 Γ O L m σ H i w v) (cl : Cl L') (hm : ∀ a u, ¬ Bd O L a → H a = some u → ¬ Bd O' L' a ∧ H' a = some u)
    (q : ∀ a u (w : Own), (∀ p, w ≠ .res p) → L a = some w → H a = some u → L' a = some w ∧ H' a = some u) : PW1 Γ O' L' m σ H' i w v := by
  cases w with
  | d x => exact ⟨cl, h.2.mono hm⟩
  | cel j => exact ⟨cl, h.2⟩
  | slot j => exact ⟨cl, h.2⟩
  | new o => exact OVR.mono hm (fun a u' p l e => q a u' _ (fun _ h' => by cases h') l e) h
theorem PWr.chg {is : List Nat} {ws : List W} {vs : List V} (h : PWr Γ O L m σ H is ws vs) (cl : Cl L') (hm : ∀ a u, ¬ Bd O L a → H a = some u → ¬ Bd O' L' a ∧ H' a = some u)
    (q : ∀ a u (w : Own), (∀ p, w ≠ .res p) → L a = some w → H a = some u → L' a = some w ∧ H' a = some u) : PWr Γ O' L' m σ H' is ws vs := by
  induction h with
  | nil => exact .nil
  | cons h1 h2 ih => exact .cons (h1.chg cl hm q) ih
structure SP (Γ : Gm) (sc : Scope) (st : Names') (es : List Expr) (is : List Nat) (w : WAs) : Prop where
  ex : ∃ t : TA, (∀ X, Ctx Γ sc st X → PA X es t) ∧ ∀ (O : Addr → Prop) (L : Lab) (m : List V) (z : Z) (σ : St) (H : Hp) (Q : List V → Hp → Prop) (Qd : List W → Z → Prop) (R : XR),
    Cl L → Sim Γ O L m z σ H → w z Qd R → Xok Γ O L m σ H R → (∀ L' z' H' ds vs, Stp L H L' H' → Cl L' → Sim Γ O L' m z' σ H' → PWr Γ O L' m σ H' is ds vs → Qd ds z' → Q vs H') → t σ H Q
theorem sp_nil : SP Γ sc st [] [] wNil := ⟨tNil, fun X C => pa_nil, fun O L m z σ H Q Qd R cl S hw hx k => k L z H [] [] Stp.refl cl S .nil hw⟩
theorem sp_d {es : List Expr} {is : List Nat} {i : Nat} {wr : WAs} (ha : SE Γ sc st a wa) (hr : SP Γ sc st es is wr) (hs : ∀ env, starEach (a :: es) env = (false, eval a env) :: starEach es env) : SP Γ sc st (a :: es) (i :: is) (wCons wa wr) := by
  obtain ⟨ta, pa, sa⟩ := ha.f
  obtain ⟨tr, pr, sr⟩ := hr.ex
  refine ⟨tCons ta tr, fun X C => pa_cons (pa X C) (pr X C) (hs _), fun O L m z σ H Q Qd R cl S hw hx k => ?_⟩
  refine sa O L m z σ H _ _ R cl S hw hx fun L1 z1 H1 x v s1 c1 n1 S1 r1 q => ?_
  refine sr O L1 m z1 σ H1 _ _ R c1 S1 q (hx.later s1) fun L2 z2 H2 xs vs s2 c2 S2 r2 q2 => ?_
  refine k L2 z2 H2 _ _ (s1.trans s2) c2 S2 (.cons ?_ r2) q2
  have r1' := Wr.later s2 c2 n1 r1
  cases x with
  | d x => exact r1'
  | cel j => exact r1'
  | slot j => exact r1'
  | new o => exact absurd rfl (n1 o)
/-- the value is a loose result: its name will own it -/
def wConsO (a : WE) (r : WAs) : WAs := fun z Q R => a z (fun x z1 => (∃ o, x = .new o) ∧ r z1 (fun xs z2 => Q (x :: xs) z2) R) R
def resO (O : Addr → Prop) (L : Lab) : Addr → Prop := fun a => O a ∨ ∃ p, L a = some (.res p)
def resL (i : Nat) (L L2 : Lab) : Lab := fun a => match L a with
  | some (.res p) => some (.slot i p)
  | _ => L2 a
theorem resL_res {i : Nat} {a : Addr} {p} {L2 : Lab} (h : L a = some (.res p)) : resL i L L2 a = some (.slot i p) := by unfold resL; rw [h]
theorem resL_no {i : Nat} {a : Addr} {L2 : Lab} (h : ∀ p, L a ≠ some (.res p)) : resL i L L2 a = L2 a := by
  unfold resL
  split
  · rename_i p e; exact absurd e (h p)
  · rfl
theorem sp_o {es : List Expr} {is : List Nat} {i : Nat} {wr : WAs} (ha : SE Γ sc st a wa) (hr : SP Γ sc st es is wr) (hs : ∀ env, starEach (a :: es) env = (false, eval a env) :: starEach es env) : SP Γ sc st (a :: es) (i :: is) (wConsO wa wr) := by
  obtain ⟨ta, pa, sa⟩ := ha.ex
  obtain ⟨tr, pr, sr⟩ := hr.ex
  refine ⟨tCons ta tr, fun X C => pa_cons (pa X C) (pr X C) (hs _), fun O L m z σ H Q Qd R cl S hw hx k => ?_⟩
  refine sa O L m z σ H _ _ R cl S hw hx fun L1 z1 H1 x v s1 S1 r1 q => ?_
  obtain ⟨⟨o, rfl⟩, q⟩ := q
  have r1' : OVR Γ.K Γ.C (Bd O L1) L1 H1 Own.res [] o v := r1
  have un : ∀ a, (∀ p, L1 a ≠ some (.res p)) → unres L1 a = L1 a := fun a h => by
    unfold Eng.unres
    cases e : L1 a with
    | none => rfl
    | some w =>
      cases w with
      | slot i p => rfl
      | cell i p => rfl
      | res p => exact absurd e (h p)
  have S1' : Sim Γ (resO O L1) (unres L1) m z1 σ H1 := by
    refine S1.chg (fun a u nb e => ?_) (fun a u w hw l e => ?_) (fun a q => ?_) (fun a q => ?_)
    · have l0 := bd_none nb
      refine ⟨fun q => ?_, e⟩
      rcases q with (q | ⟨p, q⟩) | q
      · exact nb (.inl q)
      · rw [l0] at q; cases q
      · rw [unres_none l0] at q; exact q rfl
    · exact ⟨by rw [un a (fun p q => by rw [l] at q; injection q with q; exact hw p q)]; exact l, e⟩
    · rcases q with q | ⟨p, q⟩
      · exact ⟨(S1.st.out a q).1, unres_none (S1.st.out a q).2⟩
      · exact ⟨S1.st.trk a (by rw [q]; simp), unres_res q⟩
    · exact S1.st.trk a fun l0 => q (unres_none l0)
  have x1 : Xok Γ (resO O L1) (unres L1) m σ H1 R := by
    intro L' m' z' σ' H' x cls d s p c S' ex rx
    refine hx L' m' z' σ' H' x cls d ((s1.trans stp_unres).trans s) p c ?_ ?_ rx
    · exact S'.chg (fun a u nb e => ⟨fun q => q.elim (fun q => nb (.inl (.inl q))) (fun q => nb (.inr q)), e⟩) (fun a u w hw l e => ⟨l, e⟩) (fun a q => S'.st.out a (.inl q)) S'.st.trk
    · refine ⟨ex.1, ?_⟩
      have e2 := ex.2
      cases ea : x.arg with
      | none => rw [ea] at e2; exact e2
      | some fy =>
        obtain ⟨f, y⟩ := fy
        rw [ea] at e2
        obtain ⟨a', v', e3, e4, e5, e6⟩ := e2
        exact ⟨a', v', e3, e4, e5.mono (fun a u nb e => ⟨fun q => nb (q.elim (fun q => .inl (.inl q)) .inr), e⟩), fun q => e6 (q.elim (fun q => .inl (.inl q)) .inr)⟩
  refine sr (resO O L1) (unres L1) m z1 σ H1 _ _ R unres_cl S1' q x1 fun L2 z2 H2 xs vs s2 c2 S2 r2 q2 => ?_
  have nres : ∀ a, L2 a ≠ none → ∀ p, L1 a ≠ some (.res p) := fun a h p q => h (S2.st.out a (.inr ⟨p, q⟩)).2
  have hm : ∀ a u, ¬ Bd (resO O L1) L2 a → H2 a = some u → ¬ Bd O (resL i L1 L2) a ∧ H2 a = some u := fun a u nb e => by
    have nr : ∀ p, L1 a ≠ some (.res p) := fun p q => nb (.inl (.inr ⟨p, q⟩))
    refine ⟨fun q => ?_, e⟩
    rcases q with q | q
    · exact nb (.inl (.inl q))
    · rw [resL_no nr] at q; exact nb (.inr q)
  have hq : ∀ a u (w : Own), (∀ p, w ≠ .res p) → L2 a = some w → H2 a = some u → resL i L1 L2 a = some w ∧ H2 a = some u := fun a u w hw l e =>
    ⟨by rw [resL_no (nres a (by rw [l]; simp))]; exact l, e⟩
  have c3 : Cl (resL i L1 L2) := fun a p q => by
    by_cases hr : ∃ p', L1 a = some (.res p')
    · obtain ⟨p', e⟩ := hr
      rw [resL_res e] at q; cases q
    · rw [resL_no (fun p' e => hr ⟨p', e⟩)] at q
      exact c2 a p q
  have S3 : Sim Γ O (resL i L1 L2) m z2 σ H2 := by
    refine S2.chg hm hq (fun a q => ?_) (fun a q => ?_)
    · obtain ⟨h1, h2⟩ := S2.st.out a (.inl q)
      refine ⟨h1, ?_⟩
      rw [resL_no (fun p e => by rw [(S1.st.out a q).2] at e; cases e)]
      exact h2
    · by_cases hr : ∃ p', L1 a = some (.res p')
      · exact (S2.st.out a (.inr hr)).1
      · rw [resL_no (fun p' e => hr ⟨p', e⟩)] at q
        exact S2.st.trk a q
  have s3 : Stp L H (resL i L1 L2) H2 := fun a u l e => by
    obtain ⟨l1, e1⟩ := s1 a u l e
    obtain ⟨l2, e2⟩ := s2 a u (unres_none l1) e1
    exact ⟨by rw [resL_no (fun p q => by rw [l1] at q; cases q)]; exact l2, e2⟩
  refine k (resL i L1 L2) z2 H2 _ _ s3 c3 S3 (.cons ?_ (r2.chg c3 hm hq)) q2
  refine OVR.mono (fun a u nb e => ?_) (fun a u p l e => ?_) r1'
  · have l0 := bd_none nb
    obtain ⟨l2, e2⟩ := s2 a u (unres_none l0) e
    refine ⟨fun q => ?_, e2⟩
    rcases q with q | q
    · exact nb (.inl q)
    · rw [resL_no (fun p q => by rw [l0] at q; cases q)] at q; exact q l2
  · obtain ⟨l2, e2⟩ := s2 a u (unres_res l) e
    exact ⟨resL_res l, e2⟩
/-- a waiting value gets its name -/
def setW (i : Nat) (w : W) (z : Z) : Z := match w with
  | .d d => { z with σ := z.σ.set i (.d d) }
  | .cel j => { z with σ := z.σ.set i (.cel j) }
  | .new o => { z with σ := z.σ.set i (.own o) }
  | .slot _ => z
def okW : W → Prop
  | .slot _ => False
  | _ => True
theorem Sim.setS (h : Sim Γ O L m z σ H) (i : Nat) {o : OV} {v : V} (r : OVR Γ.K Γ.C (Bd O L) L H (Own.slot i) [] o v) : Sim Γ O L m { z with σ := z.σ.set i (.own o) } (σ.set i (some v)) H := by
  refine ⟨h.st, by simp [h.len], fun j sv e => ?_⟩
  by_cases hj : i = j
  · subst hj
    have hi : i < z.σ.length := by
      have := (List.getElem?_eq_some_iff.mp e).1
      simpa using this
    rw [List.getElem?_set_self hi] at e
    cases e
    exact ⟨v, by rw [List.getElem?_set_self (by rw [← h.len]; exact hi)], r⟩
  · rw [List.getElem?_set_ne hj] at e ⊢
    exact h.slots j sv e
theorem Sim.setW (h : Sim Γ O L m z σ H) (i : Nat) {w : W} {v : V} (ok : okW w) (r : PW1 Γ O L m σ H i w v) : Sim Γ O L m (Eng.setW i w z) (σ.set i (some v)) H := by
  cases w with
  | d x => exact h.setD i r.2
  | cel j => exact h.setC i r.2
  | slot j => exact ok.elim
  | new o => exact h.setS i r
theorem PW1.at' {i : Nat} {w : W} {v : V} {σ' : St} (ok : okW w) (r : PW1 Γ O L m σ H i w v) : PW1 Γ O L m σ' H i w v := by
  cases w with
  | d x => exact r
  | cel j => exact r
  | slot j => exact ok.elim
  | new o => exact r
def wPar2 (i j : Nat) (as : WAs) : WS := fun z D R => as z (fun ws z1 => ∃ u v, ws = [u, v] ∧ okW u ∧ okW v ∧ D.nx (setW j v (setW i u z1))) R
theorem ss_par2 {i j : Nat} {x y : Str} {was : WAs} {px py pt : Pos} {kt k2 : Nat} {pt2 : Pos} (hi : Γ.N[i]? = some x) (hj : Γ.N[j]? = some y) (hij : i ≠ j) (hx : sc.names.lookup x = some .local) (hy : sc.names.lookup y = some .local) (ha : SP Γ sc st [a, b] [i, j] was)
    (hw : ∀ X, Ctx Γ sc st X → swappedStores [.Tuple [.Name x px, .Name y py] kt pt] (.Tuple [a, b] k2 pt2) X.env = pure (some [x, y]))
    (hs : ∀ env, swapsWithSole [.Tuple [.Name x px, .Name y py] kt pt] (.Tuple [a, b] k2 pt2) pos.line env = pure false) :
    SS Γ sc st (.Assign [.Tuple [.Name x px, .Name y py] kt pt] (.Tuple [a, b] k2 pt2) pos) (wPar2 i j was) := by
  obtain ⟨ta, pa, sa⟩ := ha.ex
  refine ⟨_, fun X C => ps_par C.calm C.ndX (C.ix hi) (C.ix hj) hij (by rw [C.scp]; exact hx) (by rw [C.scp]; exact hy) (pa X C) (hw X C) (hs _), fun O L m z σ H D Dd R cl S hw hx k => ?_⟩
  refine sa O L m z σ H _ _ R cl S hw hx fun L1 z1 H1 ws vs s1 c1 S1 r1 q => ?_
  obtain ⟨u, v, rfl, ou, ov, q⟩ := q
  cases r1 with
  | cons ru r1 =>
    cases r1 with
    | cons rv r1 =>
      cases r1
      exact ⟨_, _, rfl, k.nx L1 m _ _ H1 s1 pre_refl c1 ((S1.setW i ou ru).setW j ov (rv.at' ov)) q⟩
def wPar3 (i j l : Nat) (as : WAs) : WS := fun z D R => as z (fun ws z1 => ∃ u v w, ws = [u, v, w] ∧ okW u ∧ okW v ∧ okW w ∧ D.nx (setW l w (setW j v (setW i u z1)))) R
theorem ss_par3 {i j l : Nat} {x y y3 : Str} {was : WAs} {px py pz pt : Pos} {kt k2 : Nat} {pt2 : Pos} (hi : Γ.N[i]? = some x) (hj : Γ.N[j]? = some y) (hl : Γ.N[l]? = some y3) (hij : i ≠ j) (hil : i ≠ l) (hjl : j ≠ l) (hx : sc.names.lookup x = some .local) (hy : sc.names.lookup y = some .local) (hz : sc.names.lookup y3 = some .local) (ha : SP Γ sc st [a, b, c] [i, j, l] was)
    (hw : ∀ X, Ctx Γ sc st X → swappedStores [.Tuple [.Name x px, .Name y py, .Name y3 pz] kt pt] (.Tuple [a, b, c] k2 pt2) X.env = pure (some [x, y, y3]))
    (hs : ∀ env, swapsWithSole [.Tuple [.Name x px, .Name y py, .Name y3 pz] kt pt] (.Tuple [a, b, c] k2 pt2) pos.line env = pure false) :
    SS Γ sc st (.Assign [.Tuple [.Name x px, .Name y py, .Name y3 pz] kt pt] (.Tuple [a, b, c] k2 pt2) pos) (wPar3 i j l was) := by
  obtain ⟨ta, pa, sa⟩ := ha.ex
  refine ⟨_, fun X C => ps_par3 C.calm C.ndX (C.ix hi) (C.ix hj) (C.ix hl) hij hil hjl (by rw [C.scp]; exact hx) (by rw [C.scp]; exact hy) (by rw [C.scp]; exact hz) (pa X C) (hw X C) (hs _), fun O L m z σ H D Dd R cl S hw hx k => ?_⟩
  refine sa O L m z σ H _ _ R cl S hw hx fun L1 z1 H1 ws vs s1 c1 S1 r1 q => ?_
  obtain ⟨u, v, w, rfl, ou, ov, ow, q⟩ := q
  cases r1 with
  | cons ru r1 =>
    cases r1 with
    | cons rv r1 =>
      cases r1 with
      | cons rw r1 =>
        cases r1
        exact ⟨_, _, _, rfl, k.nx L1 m _ _ H1 s1 pre_refl c1 (((S1.setW i ou ru).setW j ov (rv.at' ov)).setW l ow (rw.at' ow)) q⟩
end

/-! ### a, .., *rest = a tuple -/
section
variable {prog : Program} {w : World} {A : Around} {E : Value → Shared → Prop} {s : Shared}
theorem star_items {l : Addr} {items : Array Value} {n i : Nat} {Q : List Value → Shared → Prop} (hl : IsTup s.heap l items) (hh : A.handled = none) (hi : i < n) (hn : n ≤ items.size + 1) (hz : items.size ≤ 16384)
    (h : ∀ (h₂ : Heap) (tk : Nat), (∀ b o, s.heap.get? b = some o → h₂.get? b = some o) →
      Q (items.toList.take i ++ [.ref h₂.objs.size] ++ (items.toList.drop i).drop (items.size + 1 - n)) { s with heap := h₂.push (seqObj "list" ((items.toList.drop i).take (items.size + 1 - n)).toArray 0), toks := tk }) :
    wpAny (model prog w) A (unpackItems (.ref l) n (some i)) Q E s := by
  have hlt : l ≠ s.heap.objs.size := by obtain ⟨o, ho, _⟩ := hl; exact Nat.ne_of_lt (Heap.lt_size ho)
  unfold unpackItems
  refine wpAny_bind ?_
  unfold notIterableAtAll
  refine wpAny_bind (wpAny_specialOf hl.typeIs slot_tuple_iter.lookup ?_)
  refine wpAny_pure ?_
  simp only [Bool.false_eq_true, if_false]
  refine wpAny_bind (wpAny_holding (iter_tuple hl ?_))
  refine wpAny_bind (wpAny_holding (draw_tuple hlt i 0 _ _ ⟨_, Heap.get?_push_size _ rfl, rfl, rfl⟩ (hl.push _) (by omega) fun h₁ hit₁ hs₁ => ?_))
  have hl₁ : IsTup h₁ l items := (hl.push _).extBut hs₁.extBut hlt
  rw [Nat.zero_add] at hit₁
  have hit₁' := hit₁
  obtain ⟨oi, hoi, _⟩ := hit₁'
  have hl₁' := hl₁
  obtain ⟨ol, hol, _⟩ := hl₁'
  rw [List.drop_zero]
  have hfl : (items.toList.take i).length = i := by rw [List.length_take, Array.length_toList]; omega
  rw [if_neg (show ¬ ((items.toList.take i).length < i) by rw [hfl]; omega)]
  refine wpAny_bind (wpAny_holding (PySem.W.kun_collect (s := { s with heap := h₁ }) (T := "tuple_iterator") (.inr (.inr (.inr rfl))) (PySem.Walks.tuple (A := A.in1) hh s.heap.objs.size l hlt items) (fun j u st => st.1.typeIs) (k := i) (by omega) ⟨hit₁, hl₁⟩ (Heap.lt_size hoi) (Heap.lt_size hol) (fun h₂ tk hk => ?_) (by rw [sizeLine_eq]; omega)))
  have hrl : (items.toList.drop i).length = items.size - i := by rw [List.length_drop, Array.length_toList]
  have hmid : (items.toList.drop i).length - (n - 1 - i) = items.size + 1 - n := by rw [hrl]; omega
  show wpAny _ _ (if (items.toList.drop i).length < n - 1 - i then _ else _) _ _ _
  rw [if_neg (by rw [hrl]; omega)]
  show wpAny _ _ (newList ((items.toList.drop i).take ((items.toList.drop i).length - (n - 1 - i))) >>= fun d => pure (items.toList.take i ++ [d] ++ (items.toList.drop i).drop ((items.toList.drop i).length - (n - 1 - i)))) _ _ _
  rw [hmid]
  have he : ∀ b o, s.heap.get? b = some o → h₂.get? b = some o := fun b o e => hk b o (Nat.ne_of_lt (Heap.lt_size e)) (hs₁.extBut b o (Nat.ne_of_lt (Heap.lt_size e)) (Heap.get?_push_of_some _ e))
  exact wpAny_bind (wpAny_newList (wpAny_pure (h h₂ tk he)) (by rw [List.length_take, hrl, sizeLine_eq]; omega))
end
/-- (a, .., *rest) = a tuple: n names ahead of the star -/
def gStarT (K : PySem.W.Frag) (n : Nat) (t : TGs) : TG := fun v σ H Q => ∃ a xs, v = .ref a ∧ SqT K H a xs ∧ n ≤ xs.length ∧ xs.length ≤ 16384 ∧ ∀ p, H p = none → t (xs.take n ++ [.ref p]) σ (upd H p (.lst (xs.drop n))) Q
theorem pg_starT {X : Cx} {es : List Expr} {k : Nat} {pos : Pos} {t : TGs} {n : Nat} (hc : X.calm = true) (h : PGs X es t) (hn : (assignEach es X.env).length = n + 1) (hst : (assignEach es X.env).findIdx? (·.1) = some n) : PG X (.Tuple es k pos) (gStarT X.K n t) := by
  refine ⟨fun pins s σ H v u Q I r hw => ?_⟩
  obtain ⟨a, xs, e1, hq, hl, hz, hw⟩ := hw
  subst e1
  cases r
  obtain ⟨its, rv, ht, _⟩ := I.tuple hq
  have hlen : its.length = xs.length := rv.length.symm
  rw [assign_Tuple]
  refine wpAny_bind (wpAny_standAt ?_)
  unfold unpack
  rw [hn, hst]
  refine wpAny_bind (wpAny_holding (star_items ht (I.ok.hd hc) (Nat.lt_succ_self n) (by rw [List.size_toArray]; omega) (by rw [List.size_toArray]; omega) fun h₂ tk he => ?_))
  have I2 : Inv X pins σ H { s with heap := h₂, toks := tk } := I.kept (t' := tk) he
  have hf := I2.hok.fresh (Nat.le_refl h₂.objs.size)
  have e0 : its.toArray.size = its.length := List.size_toArray
  have e2 : its.toArray.size + 1 - (n + 1) = (its.drop n).length := by rw [e0, List.length_drop]; omega
  have e3 : (its.toArray.toList.drop n).take (its.toArray.size + 1 - (n + 1)) = its.drop n := by
    show (its.drop n).take _ = _
    rw [e2, List.take_length]
  have e4 : (its.toArray.toList.drop n).drop (its.toArray.size + 1 - (n + 1)) = [] := by
    show (its.drop n).drop _ = _
    rw [e2, List.drop_length]
  rw [e3, e4, List.append_nil]
  have I3 := I2.laid (a := h₂.objs.size) (o := .lst (xs.drop n)) (h' := h₂.push (seqObj "list" (its.drop n).toArray 0)) (t' := tk) (fun b u e => Heap.get?_push_of_some _ e) (Nat.le_refl _)
    ⟨by rw [List.length_drop, sizeLine_eq]; omega, its.drop n, 0, rv.drop n, Heap.get?_push_size _ rfl⟩
  exact h.run pins _ σ _ (xs.take n ++ [.ref h₂.objs.size]) _ Q I3 (Vals.append (rv.take n) (.cons (show RelV (.ref h₂.objs.size) (.ref h₂.objs.size) from rfl) .nil)) (hw _ hf)
theorem pgs_starc {X : Cx} {e : Expr} {p : Pos} {es : List Expr} {t : TG} {u : TGs} (h1 : PG X e t) (h2 : PGs X es u) : PGs X (.Starred e p :: es) (L2.gCons t u) := by
  refine ⟨fun pins s σ H vs us Q I r h => ?_⟩
  obtain ⟨v, vr, e1, h⟩ := h
  subst e1
  cases r with
  | cons r rr =>
    have hs : (assignEach (.Starred e p :: es) X.env).map (·.2) = assign e X.env :: (assignEach es X.env).map (·.2) := by rfl
    rw [hs]
    refine assignInOrder_cons (thn (h1.run pins s σ H _ _ _ I r h) fun _ s1 ⟨σ1, H1, I1, q1⟩ => ?_)
    exact h2.run pins s1 σ1 H1 _ _ Q I1 rr q1
section
variable {Γ : Gm} {sc : Scope} {st : Names'} {e : Expr} {pos : Pos}
theorem sgs_star {p : Pos} {vs : List Nat} {g : WG} (h1 : SG Γ sc st e vs g) : SGs Γ sc st [.Starred e p] (vs ++ []) (gCons g gNil) := by
  obtain ⟨t1, p1, s1⟩ := h1.ex
  refine ⟨_, fun X C => pgs_starc (p1 X C) pgs_nil, fun O L m z σ H ds us Q Qd R cl S rr hw hx k => ?_⟩
  obtain ⟨d, ds', rfl, hw⟩ := hw
  cases rr with
  | cons q qs =>
    refine ⟨_, _, rfl, s1 O L m z σ H d _ _ _ R cl S q hw hx fun L1 z1 σ1 H1 st1 c1 S1 l1 o1 q1 => ?_⟩
    obtain ⟨rfl, q1⟩ := q1
    cases qs
    refine ⟨rfl, k L1 z1 σ1 H1 st1 c1 S1 l1 (fun i hi => o1 i (by simpa using hi)) q1⟩
/-- a, .., *rest = a tuple -/
def gStar (n : Nat) (r : WGs) : WG := fun d z Q R => ∃ ds, d = .tup ds ∧ n ≤ ds.length ∧ ds.length ≤ 16384 ∧ r (ds.take n ++ [.lst (ds.drop n)]) z Q R
theorem sg_star {es : List Expr} {k n : Nat} {vs : List Nat} {r : WGs} (h : SGs Γ sc st es vs r) (hn : ∀ env, (assignEach es env).length = n + 1) (hst : ∀ env, (assignEach es env).findIdx? (·.1) = some n) : SG Γ sc st (.Tuple es k pos) vs (gStar n r) := by
  obtain ⟨t, p, s⟩ := h.ex
  refine ⟨gStarT Γ.K n t, fun X C => ?_, fun O L m z σ H d v Q Qd R cl S rr hw hx k => ?_⟩
  · have := pg_starT (X := X) (k := k) (pos := pos) C.calm (p X C) (hn _) (hst _)
    rw [C.K] at this
    exact this
  · obtain ⟨ds, rfl, hl, hz, hw⟩ := hw
    obtain ⟨a, us, rfl, hq, rl⟩ := rr.t.tup
    have hlen := rl.length
    refine ⟨a, us, rfl, hq, by omega, by omega, fun q hp => ?_⟩
    have S' := S.new (.lst (us.drop n)) hp
    have lp : L q = none := Sim.unl S.st hp
    have up : ∀ {x : D} {v : V}, Rep Γ.K Γ.C (Bd O L) H x v → Rep Γ.K Γ.C (Bd O L) (upd H q (.lst (us.drop n))) x v := fun r => (stp_new (L := L) hp).rep r
    have rl' : RepL Γ.K Γ.C (Bd O L) (upd H q (.lst (us.drop n))) ds us := rl.mono (Stp.m (stp_new (L := L) hp))
    have nb : ¬ Bd O L q := fun z => z.elim (fun z => (S.st.out q z).1 hp) (fun z => z lp)
    refine s O L m z σ _ _ _ Q Qd R cl S' ((rl'.take n).append (.cons (.lst nb upd_same (rl'.drop n)) .nil)) hw (hx.later (stp_new hp)) fun L2 z2 σ2 H2 s2 c2 S2 l2 o2 q2 => ?_
    exact k L2 z2 σ2 H2 ((stp_new hp).trans s2) c2 S2 l2 o2 q2
end
end Eng

end
section
set_option Elab.async false
set_option linter.all false
set_option maxRecDepth 100000
/-! Eng17: the rules by their constructs. -/
namespace Eng
open PySem PySem.Spec PyProof.Rows L2
section
variable {Γ : Gm} {sc : Scope} {st : Names'} {a b c e : Expr} {wa wb wc : WE} {pos : Pos} {es : List Expr} {was : WAs}
/-! ### constants -/
theorem se_int {i : Int} {k : Nat} : SE Γ sc st (.Constant (.int i) k pos) (wC (.int i)) := se_c (v := .int i) (fun X C => pe_int) fun _ _ _ => .int i
theorem se_negint {i : Int} {k : Nat} {p2 : Pos} : SE Γ sc st (.UnaryOp .USub (.Constant (.int i) k p2) pos) (wOp1 fNeg (wC (.int i))) := se_op1 r1_neg se_int fun X ta C p => pe_un un_neg p
theorem se_neg (ha : SE Γ sc st a wa) : SE Γ sc st (.UnaryOp .USub a pos) (wOp1 fNeg wa) := se_op1 r1_neg ha fun X ta C p => pe_un un_neg p
/-! ### operators -/
theorem se_add (ha : SE Γ sc st a wa) (hb : SE Γ sc st b wb) : SE Γ sc st (.BinOp a .Add b pos) (wOp2 fAdd wa wb) := se_bin (fun X C => by rw [← C.K]; exact opr_add) r2_add ha hb
theorem se_sub (ha : SE Γ sc st a wa) (hb : SE Γ sc st b wb) : SE Γ sc st (.BinOp a .Sub b pos) (wOp2 fSub wa wb) := se_bin (fun X C => op_sub) r2_sub ha hb
theorem se_mul (ha : SE Γ sc st a wa) (hb : SE Γ sc st b wb) : SE Γ sc st (.BinOp a .Mult b pos) (wOp2 fMul wa wb) := se_bin (fun X C => op_mulW) r2_mul ha hb
theorem se_fdiv (ha : SE Γ sc st a wa) (hb : SE Γ sc st b wb) : SE Γ sc st (.BinOp a .FloorDiv b pos) (wOp2 fDiv wa wb) := se_bin (fun X C => op_fdivW) r2_div ha hb
theorem se_mod (ha : SE Γ sc st a wa) (hb : SE Γ sc st b wb) : SE Γ sc st (.BinOp a .Mod b pos) (wOp2 fMod wa wb) := se_bin (fun X C => op_mod) r2_mod ha hb
theorem se_pow (ha : SE Γ sc st a wa) (hb : SE Γ sc st b wb) : SE Γ sc st (.BinOp a .Pow b pos) (wOp2 fPow wa wb) := se_bin (fun X C => op_pow) r2_pow ha hb
theorem se_ix (ha : SE Γ sc st a wa) (hb : SE Γ sc st b wb) (hs : PlainIx b) : SE Γ sc st (.Subscript a b pos) (wOp2 fIx wa wb) :=
  se_op2 r2_ix ha hb fun X ta tb C pa pb => by
    have := pe_ix (pos := pos) (ix_seq (X := X)) pa pb hs
    rw [C.K] at this
    exact this
/-! ### comparisons: as a value, as a test -/
def pLt : Int → Int → Bool := fun i j => decide (i < j)
def pLe : Int → Int → Bool := fun i j => decide (i ≤ j)
def pGt : Int → Int → Bool := fun i j => decide (j < i)
def pGe : Int → Int → Bool := fun i j => decide (j ≤ i)
theorem oLt : ∀ X, Ctx Γ sc st X → OpR X (compareOp .Lt) (rI0 fun i j => .bl (pLt i j)) := fun X C => op_lt
theorem oLe : ∀ X, Ctx Γ sc st X → OpR X (compareOp .LtE) (rI0 fun i j => .bl (pLe i j)) := fun X C => op_le
theorem oGt : ∀ X, Ctx Γ sc st X → OpR X (compareOp .Gt) (rI0 fun i j => .bl (pGt i j)) := fun X C => op_gt
theorem oGe : ∀ X, Ctx Γ sc st X → OpR X (compareOp .GtE) (rI0 fun i j => .bl (pGe i j)) := fun X C => op_ge
theorem oEq : ∀ X, Ctx Γ sc st X → OpR X (compareOp .Eq) (rEqD Γ.K) := fun X C => by rw [← C.K]; exact op_eqD C.room.units
theorem oNe : ∀ X, Ctx Γ sc st X → OpR X (compareOp .NotEq) (rNeD Γ.K) := fun X C => by rw [← C.K]; exact op_neD C.room.units
theorem oIn : ∀ X, Ctx Γ sc st X → OpR X (compareOp .In) (rInA Γ.K false) := fun X C => by rw [← C.K]; exact op_in_seq.or (op_inDn C.room.units)
theorem oNin : ∀ X, Ctx Γ sc st X → OpR X (compareOp .NotIn) (rInA Γ.K true) := fun X C => by rw [← C.K]; exact op_notIn_seq.or (op_notInDn C.room.units)
theorem oIsN : ∀ X, Ctx Γ sc st X → OpR X (compareOp .Is) (rIsN false) := fun X C => op_isN
theorem oNtN : ∀ X, Ctx Γ sc st X → OpR X (compareOp .IsNot) (rIsN true) := fun X C => op_notN
theorem oIsB : ∀ X, Ctx Γ sc st X → OpR X (compareOp .Is) (rIsB' false) := fun X C => op_isBl
theorem oNtB : ∀ X, Ctx Γ sc st X → OpR X (compareOp .IsNot) (rIsB' true) := fun X C => op_notBl
theorem se_lt (ha : SE Γ sc st a wa) (hb : SE Γ sc st b wb) : SE Γ sc st (.Compare a [.Lt] [b] pos) (wOp2 (fCmp pLt) wa wb) := se_cmp oLt r2_cmp ha hb (nomark _)
theorem st_lt (ha : SE Γ sc st a wa) (hb : SE Γ sc st b wb) : ST Γ sc st (.Compare a [.Lt] [b] pos) (wAsT (wOp2 (fCmp pLt) wa wb)) := st_cmp oLt r2_cmp ha hb (nomark _)
theorem se_le (ha : SE Γ sc st a wa) (hb : SE Γ sc st b wb) : SE Γ sc st (.Compare a [.LtE] [b] pos) (wOp2 (fCmp pLe) wa wb) := se_cmp oLe r2_cmp ha hb (nomark _)
theorem st_le (ha : SE Γ sc st a wa) (hb : SE Γ sc st b wb) : ST Γ sc st (.Compare a [.LtE] [b] pos) (wAsT (wOp2 (fCmp pLe) wa wb)) := st_cmp oLe r2_cmp ha hb (nomark _)
theorem se_gt (ha : SE Γ sc st a wa) (hb : SE Γ sc st b wb) : SE Γ sc st (.Compare a [.Gt] [b] pos) (wOp2 (fCmp pGt) wa wb) := se_cmp oGt r2_cmp ha hb (nomark _)
theorem st_gt (ha : SE Γ sc st a wa) (hb : SE Γ sc st b wb) : ST Γ sc st (.Compare a [.Gt] [b] pos) (wAsT (wOp2 (fCmp pGt) wa wb)) := st_cmp oGt r2_cmp ha hb (nomark _)
theorem se_ge (ha : SE Γ sc st a wa) (hb : SE Γ sc st b wb) : SE Γ sc st (.Compare a [.GtE] [b] pos) (wOp2 (fCmp pGe) wa wb) := se_cmp oGe r2_cmp ha hb (nomark _)
theorem st_ge (ha : SE Γ sc st a wa) (hb : SE Γ sc st b wb) : ST Γ sc st (.Compare a [.GtE] [b] pos) (wAsT (wOp2 (fCmp pGe) wa wb)) := st_cmp oGe r2_cmp ha hb (nomark _)
theorem se_eq (ha : SE Γ sc st a wa) (hb : SE Γ sc st b wb) : SE Γ sc st (.Compare a [.Eq] [b] pos) (wOp2 (fEq false) wa wb) := se_cmp oEq r2_eq ha hb (nomark _)
theorem st_eq (ha : SE Γ sc st a wa) (hb : SE Γ sc st b wb) : ST Γ sc st (.Compare a [.Eq] [b] pos) (wAsT (wOp2 (fEq false) wa wb)) := st_cmp oEq r2_eq ha hb (nomark _)
theorem se_ne (ha : SE Γ sc st a wa) (hb : SE Γ sc st b wb) : SE Γ sc st (.Compare a [.NotEq] [b] pos) (wOp2 (fEq true) wa wb) := se_cmp oNe r2_ne ha hb (nomark _)
theorem st_ne (ha : SE Γ sc st a wa) (hb : SE Γ sc st b wb) : ST Γ sc st (.Compare a [.NotEq] [b] pos) (wAsT (wOp2 (fEq true) wa wb)) := st_cmp oNe r2_ne ha hb (nomark _)
theorem se_in (ha : SE Γ sc st a wa) (hb : SE Γ sc st b wb) (hm : behindInMarks .In b = false) : SE Γ sc st (.Compare a [.In] [b] pos) (wOp2 (fIn false) wa wb) := se_cmp oIn (r2_in false) ha hb hm
theorem st_in (ha : SE Γ sc st a wa) (hb : SE Γ sc st b wb) (hm : behindInMarks .In b = false) : ST Γ sc st (.Compare a [.In] [b] pos) (wAsT (wOp2 (fIn false) wa wb)) := st_cmp oIn (r2_in false) ha hb hm
theorem se_nin (ha : SE Γ sc st a wa) (hb : SE Γ sc st b wb) (hm : behindInMarks .NotIn b = false) : SE Γ sc st (.Compare a [.NotIn] [b] pos) (wOp2 (fIn true) wa wb) := se_cmp oNin (r2_in true) ha hb hm
theorem st_nin (ha : SE Γ sc st a wa) (hb : SE Γ sc st b wb) (hm : behindInMarks .NotIn b = false) : ST Γ sc st (.Compare a [.NotIn] [b] pos) (wAsT (wOp2 (fIn true) wa wb)) := st_cmp oNin (r2_in true) ha hb hm
theorem se_isN (ha : SE Γ sc st a wa) (hb : SE Γ sc st b wb) : SE Γ sc st (.Compare a [.Is] [b] pos) (wOp2 (fIsN false) wa wb) := se_cmp oIsN (r2_isN false) ha hb (nomark _)
theorem st_isN (ha : SE Γ sc st a wa) (hb : SE Γ sc st b wb) : ST Γ sc st (.Compare a [.Is] [b] pos) (wAsT (wOp2 (fIsN false) wa wb)) := st_cmp oIsN (r2_isN false) ha hb (nomark _)
theorem se_ntN (ha : SE Γ sc st a wa) (hb : SE Γ sc st b wb) : SE Γ sc st (.Compare a [.IsNot] [b] pos) (wOp2 (fIsN true) wa wb) := se_cmp oNtN (r2_isN true) ha hb (nomark _)
theorem st_ntN (ha : SE Γ sc st a wa) (hb : SE Γ sc st b wb) : ST Γ sc st (.Compare a [.IsNot] [b] pos) (wAsT (wOp2 (fIsN true) wa wb)) := st_cmp oNtN (r2_isN true) ha hb (nomark _)
theorem se_isB (ha : SE Γ sc st a wa) (hb : SE Γ sc st b wb) : SE Γ sc st (.Compare a [.Is] [b] pos) (wOp2 (fIsB false) wa wb) := se_cmp oIsB (r2_isB false) ha hb (nomark _)
theorem st_isB (ha : SE Γ sc st a wa) (hb : SE Γ sc st b wb) : ST Γ sc st (.Compare a [.Is] [b] pos) (wAsT (wOp2 (fIsB false) wa wb)) := st_cmp oIsB (r2_isB false) ha hb (nomark _)
theorem se_ntB (ha : SE Γ sc st a wa) (hb : SE Γ sc st b wb) : SE Γ sc st (.Compare a [.IsNot] [b] pos) (wOp2 (fIsB true) wa wb) := se_cmp oNtB (r2_isB true) ha hb (nomark _)
theorem st_ntB (ha : SE Γ sc st a wa) (hb : SE Γ sc st b wb) : ST Γ sc st (.Compare a [.IsNot] [b] pos) (wAsT (wOp2 (fIsB true) wa wb)) := st_cmp oNtB (r2_isB true) ha hb (nomark _)
/-- in, a dict, as a test -/
theorem st_dnin (ha : SE Γ sc st a wa) (hb : SE Γ sc st b wb) (h1 : behindInMarks .NotIn b = false) : ST Γ sc st (.Compare a [.NotIn] [b] pos) (wAsT (wOp2 (fDIn true) wa wb)) :=
  st_cmp' (r2_din true) ha hb fun X ta tb C p1 p2 => pt_cmp (pc_dnotin C.u1 p1 p2) h1
theorem st_din (ha : SE Γ sc st a wa) (hb : SE Γ sc st b wb) (h1 : behindInMarks .In b = false) : ST Γ sc st (.Compare a [.In] [b] pos) (wAsT (wOp2 (fDIn false) wa wb)) :=
  st_cmp' (r2_din false) ha hb fun X ta tb C p1 p2 => pt_cmp (pc_din C.u1 p1 p2) h1
/-! ### built-in functions -/
section
variable {p : Pos} {x : Str} {id : String} {r : List V → Hp → VK → Prop} {f : FN}
theorem se_blt (hc : ∀ X, Ctx Γ sc st X → CallR X (.builtin id) r) (hr : RNS Γ r f) (hg : glB sc x = true) (hm : Γ.mg x = none) (hv : bootBuiltins x = some (.builtin id)) (hn : x ≠ "__name__") (ha : SA Γ sc st (a :: es) was)
    (he : ∀ env, starEach (a :: es) env = (false, eval a env) :: starEach es env) (hpl : ∀ env, (backTo pos (starEach es env)).any (·.1) = false) : SE Γ sc st (.Call (.Name x p) (a :: es) [] pos) (wCallB f was) :=
  se_callN hr ha fun X ta C pa => pe_callB (hc X C) (gl_of C hg).1 (by rw [C.mg]; exact hm) hv pa hn (gl_of C hg).2 (he _) (hpl _)
theorem se_bty (hc : ∀ X, Ctx Γ sc st X → CallR X (.type id) r) (hr : RNS Γ r f) (hg : glB sc x = true) (hm : Γ.mg x = none) (hv : bootBuiltins x = some (.type id)) (hn : x ≠ "__name__") (ha : SA Γ sc st (a :: es) was)
    (he : ∀ env, starEach (a :: es) env = (false, eval a env) :: starEach es env) (hpl : ∀ env, (backTo pos (starEach es env)).any (·.1) = false) : SE Γ sc st (.Call (.Name x p) (a :: es) [] pos) (wCallB f was) :=
  se_callN hr ha fun X ta C pa => pe_callTy (hc X C) (gl_of C hg).1 (by rw [C.mg]; exact hm) hv pa hn (gl_of C hg).2 (he _) (hpl _)
end
theorem cLen : ∀ X, Ctx Γ sc st X → CallR X (.builtin "len") (fun xs H Q => ∃ x n, xs = [x] ∧ LenV Γ.K x H n ∧ Q (.int n) H) := fun X C => by rw [← C.K]; exact call_len
theorem cAbs : ∀ X, Ctx Γ sc st X → CallR X (.builtin "abs") (fun xs H Q => ∃ i, xs = [.int i] ∧ Q (.int (if i < 0 then -i else i)) H) := fun X C => call_abs
theorem cMax2 : ∀ X, Ctx Γ sc st X → CallR X (.builtin "max") (fun xs H Q => ∃ i j, xs = [.int i, .int j] ∧ Q (.int (if j > i then j else i)) H) := fun X C => call_max2 C.calm
theorem cMin2 : ∀ X, Ctx Γ sc st X → CallR X (.builtin "min") (fun xs H Q => ∃ i j, xs = [.int i, .int j] ∧ Q (.int (if j < i then j else i)) H) := fun X C => call_min2 C.calm
theorem cSum : ∀ X, Ctx Γ sc st X → CallR X (.builtin "sum") (rSum Γ.K) := fun X C => by rw [← C.K]; exact cr_sum C.calm
theorem cAll : ∀ X, Ctx Γ sc st X → CallR X (.builtin "all") (rAll Γ.K) := fun X C => by rw [← C.K]; exact cr_all C.calm
theorem cSortI : ∀ X, Ctx Γ sc st X → CallR X (.builtin "sorted") (rSortedI Γ.K) := fun X C => by rw [← C.K]; exact cr_sortedI
theorem cSortN : ∀ X, Ctx Γ sc st X → CallR X (.builtin "sorted") (rSortedN Γ.K) := fun X C => by rw [← C.K]; exact cr_sortedN
theorem cInt1 : ∀ X, Ctx Γ sc st X → CallR X (.type "int") (fun xs H Q => (∃ i, xs = [.int i] ∧ Q (.int i) H) ∨ ∃ k, xs = [.bl k] ∧ Q (.int (if k then 1 else 0)) H) := fun X C => call_int1
theorem cStrI : ∀ X, Ctx Γ sc st X → CallR X (.type "str") (fun xs H Q => ∃ i, xs = [.int i] ∧ i.natAbs.log2 < 1920 ∧ Q (.str (toString i)) H) := fun X C => call_str_int
theorem cListOf : ∀ X, Ctx Γ sc st X → CallR X (.type "list") (fun xs H Q => ∃ p ys, xs = [.ref p] ∧ (SqL Γ.K H p ys ∨ SqT Γ.K H p ys) ∧ ∀ l, H l = none → Q (.ref l) (upd H l (.lst ys))) := fun X C => by rw [← C.K]; exact call_list_of
theorem cTupOf : ∀ X, Ctx Γ sc st X → CallR X (.type "tuple") (fun xs H Q => ∃ p ys, xs = [.ref p] ∧ ((SqL Γ.K H p ys ∧ ∀ l, H l = none → Q (.ref l) (upd H l (.tup ys))) ∨ (SqT Γ.K H p ys ∧ Q (.ref p) H))) := fun X C => by rw [← C.K]; exact call_tuple_of

/-! ### {k: v, ..} -/
def wPairs : List (WE × WE) → Z → (List (Key × D) → Z → Prop) → XR → Prop
  | [] => fun z Q _ => Q [] z
  | (a, b) :: r => fun z Q R => wFr a z (fun x z1 => ∃ kd kk, x = .d kd ∧ keyD kd = some kk ∧ wFr b z1 (fun y z2 => ∃ d, y = .d d ∧ wPairs r z2 (fun ps z3 => Q ((kk, d) :: ps) z3) R) R) R
def mergeD (kvs : List (Key × D)) : List (Key × D) := kvs.foldl (fun acc kv => putKD acc kv.1 kv.2) []
def wDisp (prs : List (WE × WE)) : WE := fun z Q R => wPairs prs z (fun ps z1 => ps.length ≤ 15 ∧ Q (.new (.dic (mergeD ps))) z1) R
structure SPs (Γ : Gm) (sc : Scope) (st : Names') (pos : Pos) (keys : List (Option Expr)) (values : List Expr) (w : List (WE × WE)) : Prop where
  ex : ∃ trs : List (TE × TE), (∀ X, Ctx Γ sc st X → PPs X pos keys values trs) ∧ ∀ (O : Addr → Prop) (L : Lab) (m : List V) (z : Z) (σ : St) (H : Hp) (Q : List (V × V) → Hp → Prop) (Qd : List (Key × D) → Z → Prop) (R : XR),
    Cl L → Sim Γ O L m z σ H → wPairs w z Qd R → Xok Γ O L m σ H R → (∀ L' z' H' ps us, Stp L H L' H' → Cl L' → Sim Γ O L' m z' σ H' → RepK Γ.K Γ.C (Bd O L') H' ps us → Qd ps z' → Q (us.map fun kv => (kV kv.1, kv.2)) H') → tPairs trs σ H Q
theorem sps_nil : SPs Γ sc st pos [] [] [] := ⟨[], fun X C => pps_nil, fun O L m z σ H Q Qd R cl S hw hx k => k L z H [] [] Stp.refl cl S .nil hw⟩
theorem sps_cons {ks : List (Option Expr)} {vs : List Expr} {ws : List (WE × WE)} (ha : SE Γ sc st a wa) (hb : SE Γ sc st b wb) (hr : SPs Γ sc st pos ks vs ws) : SPs Γ sc st pos (some a :: ks) (b :: vs) ((wa, wb) :: ws) := by
  obtain ⟨ta, pa, sa⟩ := ha.f
  obtain ⟨tb, pb, sb⟩ := hb.f
  obtain ⟨tr, pr, sr⟩ := hr.ex
  refine ⟨(ta, tb) :: tr, fun X C => pps_cons (pa X C) (pb X C) (pr X C), fun O L m z σ H Q Qd R cl S hw hx k => ?_⟩
  have hw' : wFr wa z (fun x z1 => ∃ kd kk, x = .d kd ∧ keyD kd = some kk ∧ wFr wb z1 (fun y z2 => ∃ d, y = .d d ∧ wPairs ws z2 (fun ps z3 => Qd ((kk, d) :: ps) z3) R) R) R := hw
  refine sa O L m z σ H _ _ R cl S hw' hx fun L1 z1 H1 x v s1 c1 n1 S1 r1 q => ?_
  obtain ⟨kd, kk, rfl, ek, q⟩ := q
  refine sb O L1 m z1 σ H1 _ _ R c1 S1 q (hx.later s1) fun L2 z2 H2 y u s2 c2 n2 S2 r2 q2 => ?_
  obtain ⟨d, rfl, q2⟩ := q2
  refine sr O L2 m z2 σ H2 _ _ R c2 S2 q2 (hx.later (s1.trans s2)) fun L3 z3 H3 ps us s3 c3 S3 r3 q3 => ?_
  have ev := keyD_rep r1.2.t ek
  subst ev
  exact k L3 z3 H3 ((kk, d) :: ps) ((kk, u) :: us) ((s1.trans s2).trans s3) c3 S3 (.cons (s3.rep r2.2) r3) q3
theorem Xok.wid {O O1 : Addr → Prop} {L L1 : Lab} {m : List V} {σ : St} {H H1 : Hp} {R : XR} (ho : ∀ a, O a → O1 a) (hx : Xok Γ O L m σ H R) (s1 : Stp L H L1 H1) : Xok Γ O1 L1 m σ H1 R := by
  intro L' m' z' σ' H' x cls d s p c S' ex rx
  have hm : ∀ a u, ¬ Bd O1 L' a → H' a = some u → ¬ Bd O L' a ∧ H' a = some u := fun a u nb e => ⟨fun q => nb (q.elim (fun q => .inl (ho a q)) .inr), e⟩
  refine hx L' m' z' σ' H' x cls d (s1.trans s) p c (S'.chg hm (fun a u w hw l e => ⟨l, e⟩) (fun a q => S'.st.out a (ho a q)) S'.st.trk) ?_ rx
  refine ⟨ex.1, ?_⟩
  have e2 := ex.2
  cases ea : x.arg with
  | none => rw [ea] at e2; exact e2
  | some fy =>
    obtain ⟨f, y⟩ := fy
    rw [ea] at e2
    obtain ⟨a', v', e3, e4, e5, e6⟩ := e2
    exact ⟨a', v', e3, e4, e5.mono hm, fun q => e6 (q.elim (fun q => .inl (ho _ q)) .inr)⟩
theorem repK_merge {K : PySem.W.Frag} {cA : Str → Addr} {B : Addr → Prop} {H : Hp} : ∀ (ps : List (Key × D)) (us : List (Key × V)) (kvs : List (Key × D)) (vs : List (Key × V)), RepK K cA B H ps us → RepK K cA B H kvs vs →
    RepK K cA B H (ps.foldl (fun acc kv => putKD acc kv.1 kv.2) kvs) (mergeK vs us) := by
  intro ps
  induction ps with
  | nil => intro us kvs vs r h; cases r; exact h
  | cons p ps ih =>
    intro us kvs vs r h
    cases r with
    | @cons kk x _ v us' r rs => exact ih us' (putKD kvs kk x) (putK vs kk v) rs (repK_put (k := kk) r h)
theorem se_disp {keys : List (Option Expr)} {values : List Expr} {ws : List (WE × WE)} (h : SPs Γ sc st pos keys values ws) (hall : keys.all (·.isSome) = true) (hl : keys.length = values.length) (h0 : keys ≠ []) (h15 : keys.length ≤ 15) : SE Γ sc st (.Dict keys values pos) (wDisp ws) := by
  obtain ⟨trs, pp, sim⟩ := h.ex
  refine ⟨tDisp trs, fun X C => pe_disp (pp X C) hall hl h0 h15, fun O L m z σ H Q Qd R cl S hw hx k => fun p hp => ?_⟩
  have nO : ¬ O p := fun q => (S.st.out p q).1 hp
  have lp : L p = none := Sim.unl S.st hp
  have st0 : Stp L H L (upd H p (.dK [])) := stp_new hp
  refine sim (With O p) L m z σ _ _ _ R cl (S.hide _ hp) hw (hx.wid (fun a q => .inl q) st0) fun L2 z2 H2 ps us s2 c2 S2 r2 q2 => ?_
  obtain ⟨h15', q2⟩ := q2
  obtain ⟨l2, e2⟩ := s2 p _ lp upd_same
  refine ⟨e2, us, rfl, by rw [← repK_len r2]; exact h15', ?_⟩
  have S3 := (S2.hidden (.dK (mergeK [] us))).shown nO
  have rm : RepK Γ.K Γ.C (Bd (With O p) L2) H2 (mergeD ps) (mergeK [] us) := repK_merge _ _ _ _ r2 .nil
  have rm' := rm.mono (B' := Bd O (lab L2 p (.res []))) (H' := upd H2 p (.dK (mergeK [] us))) fun a u nb e => by
    have n : a ≠ p := fun q => nb (.inl (.inr q))
    exact ⟨fun q => q.elim (fun q => nb (.inl (.inl q))) (fun q => by rw [lab_ne n] at q; exact nb (.inr q)), by rw [upd_ne n]; exact e⟩
  refine k (lab L2 p (.res [])) z2 _ (.new (.dic (mergeD ps))) _ ?_ S3 (.dic lab_same upd_same rm') q2
  intro a u l e
  have n : a ≠ p := ne_of_none e hp
  obtain ⟨h1, h2⟩ := s2 a u l (by rw [upd_ne n]; exact e)
  exact ⟨by rw [lab_ne n]; exact h1, by rw [upd_ne n]; exact h2⟩
/-! ### calls with defaults, with keywords -/
section
variable {k n : Nat} {f : Addr} {fd : FuncData} {ps ks : List Str} {sp : DSpec} {g : List Value → List Value → List Value}
theorem run_kw (F : FnOkG Γ.P Γ.w Γ.K Γ.mg Γ.base (L2.CX Γ.P Γ.w) k f fd ps (toSp Γ sp)) (hk : k ≤ Γ.k) (hb : KBn Γ.K fd ps n ks g fun vs zs => vs ++ zs) (kp : PySem.W.keepIn Γ.K (.ref f) = true) : RunOk Γ f n ks sp := by
  refine ⟨kp, fun X sc st C pins s σ H Q us ws vs zs I r rz l1 l2 h => ?_⟩
  have F' : FnOkG X.prog X.w X.K X.mg X.base (L2.CX X.prog X.w) k f fd ps (toSp Γ sp) := by
    rw [C.P, C.w, C.K, C.mg, C.base]; exact F
  have hb' : KBn X.K fd ps n ks g fun vs zs => vs ++ zs := by rw [C.K]; exact hb
  have r2 := hb'.rel r rz
  exact run_fnG F' C.gd (C.room.mono hk) (hb'.to s us ws I.kIn (r.length.symm.trans l1) (rz.length.symm.trans l2)) r2 (passAt C.tk σ) I h
def dflI (is : List Int) : List W := is.map fun i => .d (.int i)
theorem argR_app {K : PySem.W.Frag} {cA : Str → Addr} {O : Addr → Prop} {L : Lab} {m : List V} {H : Hp} {ws ws' : List W} {vs vs' : List V} (h : ArgR K cA O L m H ws vs) (h' : ArgR K cA O L m H ws' vs') : ArgR K cA O L m H (ws ++ ws') (vs ++ vs') := by
  induction h with
  | nil => exact h'
  | d r _ ih => exact .d r ih
  | c r _ ih => exact .c r ih
theorem argR_ints {K : PySem.W.Frag} {cA : Str → Addr} {O : Addr → Prop} {L : Lab} {m : List V} {H : Hp} : ∀ is : List Int, ArgR K cA O L m H (dflI is) (is.map V.int)
  | [] => .nil
  | i :: is => .d (.int i) (argR_ints is)
theorem run_dfl {is : List Int} (F : FnOkG Γ.P Γ.w Γ.K Γ.mg Γ.base (L2.CX Γ.P Γ.w) k f fd ps (toSp Γ sp)) (hk : k ≤ Γ.k) (hb : KBn Γ.K fd ps n [] g fun vs zs => vs ++ is.map V.int) (kp : PySem.W.keepIn Γ.K (.ref f) = true) : RunOk Γ f n [] (fun ws => sp (ws ++ dflI is)) := by
  refine ⟨kp, fun X sc st C pins s σ H Q us ws vs zs I r rz l1 l2 h => ?_⟩
  have F' : FnOkG X.prog X.w X.K X.mg X.base (L2.CX X.prog X.w) k f fd ps (toSp Γ sp) := by
    rw [C.P, C.w, C.K, C.mg, C.base]; exact F
  have hb' : KBn X.K fd ps n [] g fun vs zs => vs ++ is.map V.int := by rw [C.K]; exact hb
  have r2 := hb'.rel r rz
  have hz : zs = [] := List.length_eq_zero_iff.mp l2
  subst hz
  have h' : toSp Γ sp (vs ++ is.map V.int) H Q (fun c d H => Γ.E c d σ H) := by
    rw [List.append_nil] at h
    obtain ⟨O, L, m, S, ws', Qd, Rd, h1, h2, h3, h4, h5, h6⟩ := h
    exact ⟨O, L, m, S, ws' ++ dflI is, Qd, Rd, h1, h2, argR_app h3 (argR_ints is), h4, h5, h6⟩
  exact run_fnG F' C.gd (C.room.mono hk) (hb'.to s us ws I.kIn (r.length.symm.trans l1) (rz.length.symm.trans l2)) r2 (passAt C.tk σ) I h'
end
end
end Eng

end
section
set_option Elab.async false
set_option linter.all false
set_option maxRecDepth 100000
/-! Eng18: list methods, tuple displays to names, op= of ints. -/
namespace Eng
open PySem PySem.Spec PyProof.Rows L2
def fAddI : F2 := fun d e k => match d, e with
  | .int i, .int j => k (.d (.int (i + j)))
  | _, _ => False
section
variable {Γ : Gm} {sc : Scope} {st : Names'} {o a b c e : Expr} {wo wa wb wc : WE} {apos pos : Pos} {es : List Expr} {was : WAs}
theorem se_append (ho : SE Γ sc st o wo) (ha : SA Γ sc st [a] was) (hb : ∀ env, attributeBase o "append" env (eval o env) = eval o env) (hl : (apos.endLine == pos.line) = true) (hs : ∀ env, starEach [a] env = [(false, eval a env)]) :
    SE Γ sc st (.Call (.Attribute o "append" apos) [a] [] pos) (wMut fAppend wo was) :=
  se_mut mut_append ho ha fun X to ta C po pa => pe_bm PySem.F.plainAttrs_list PySem.F.slot_list_append PySem.F.type_list_append mt_append po pa (hb _) (by rw [hs]; rfl) hl (hs _) rfl
theorem se_pop (ho : SE Γ sc st o wo) (ha : SA Γ sc st [a] was) (hb : ∀ env, attributeBase o "pop" env (eval o env) = eval o env) (hl : (apos.endLine == pos.line) = true) (hs : ∀ env, starEach [a] env = [(false, eval a env)]) :
    SE Γ sc st (.Call (.Attribute o "pop" apos) [a] [] pos) (wMut fPop wo was) :=
  se_mut mut_pop ho ha fun X to ta C po pa => pe_bm PySem.F.plainAttrs_list PySem.F.slot_list_pop PySem.F.type_list_pop mt_popAt po pa (hb _) (by rw [hs]; rfl) hl (hs _) rfl
theorem se_remove (ho : SE Γ sc st o wo) (ha : SA Γ sc st [a] was) (hb : ∀ env, attributeBase o "remove" env (eval o env) = eval o env) (hl : (apos.endLine == pos.line) = true) (hs : ∀ env, starEach [a] env = [(false, eval a env)]) :
    SE Γ sc st (.Call (.Attribute o "remove" apos) [a] [] pos) (wMut fRemove wo was) :=
  se_mut mut_remove ho ha fun X to ta C po pa => pe_bm PySem.F.plainAttrs_list PySem.F.slot_list_remove PySem.F.type_list_remove mt_remove po pa (hb _) (by rw [hs]; rfl) hl (hs _) rfl
/-! ### x, y = e, e' of other names: by a tuple -/
theorem sp_tup {X : Cx} {ta : TA} {k : Nat} {p : Pos} (pa : PA X es ta) : PE X (.Tuple es k p) (fun σ H Q => ta σ H fun vs H1 => vs.length ≤ sizeLine ∧ ∀ p, H1 p = none → Q (.ref p) (upd H1 p (.tup vs))) := pe_tup pa
theorem Sim.setW' {O : Addr → Prop} {L : Lab} {m : List V} {z : Z} {σ : St} {H : Hp} (h : Sim Γ O L m z σ H) (i : Nat) {w : W} {v : V} (ok : okW w) (r : PW1 Γ O L m σ H i w v) : Sim Γ O L m (Eng.setW i w z) (σ.set i (some v)) H := h.setW i ok r
theorem PW1.new {O : Addr → Prop} {L : Lab} {m : List V} {σ : St} {H : Hp} {i : Nat} {w : W} {v : V} {p : Addr} {u : HO} (hp : H p = none) (cl : Cl L) (r : PW1 Γ O L m σ H i w v) : PW1 Γ O L m σ (upd H p u) i w v :=
  r.chg cl (fun a u' nb e => ⟨nb, by rw [upd_ne (ne_of_none e hp)]; exact e⟩) fun a u' w hw l e => ⟨l, by rw [upd_ne (ne_of_none e hp)]; exact e⟩
theorem ss_parT2 {i j : Nat} {x y : Str} {px py pt : Pos} {kt k2 : Nat} {pt2 : Pos} (hi : Γ.N[i]? = some x) (hj : Γ.N[j]? = some y) (hx : stoB st x = true) (hy : stoB st y = true) (ha : SP Γ sc st [a, b] [i, j] was)
    (hs : ∀ env, swapsWithSole [.Tuple [.Name x px, .Name y py] kt pt] (.Tuple [a, b] k2 pt2) pos.line env = pure false)
    (hw : ∀ X, Ctx Γ sc st X → swappedStores [.Tuple [.Name x px, .Name y py] kt pt] (.Tuple [a, b] k2 pt2) X.env = pure none) :
    SS Γ sc st (.Assign [.Tuple [.Name x px, .Name y py] kt pt] (.Tuple [a, b] k2 pt2) pos) (wPar2 i j was) := by
  obtain ⟨ta, pa, sa⟩ := ha.ex
  refine ⟨tAsg (tTup ta) (gTup Γ.K 2 (L2.gCons (L2.gName i) (L2.gCons (L2.gName j) (L2.gNil)))), fun X C => ?_, fun O L m z σ H D Dd R cl S hw hx k => ?_⟩
  · have := ps_asg (pos := pos) (pe_tup (x1 := k2) (pos := pt2) (pa X C)) (pg_tup (k := kt) (pos := pt) (n := 2) C.calm (pgs_cons (pg_name C.ndX (C.ix hi) (C.fn x (sto_of hx)).1 (C.fn x (sto_of hx)).2) (pgs_cons (pg_name C.ndX (C.ix hj) (C.fn y (sto_of hy)).1 (C.fn y (sto_of hy)).2) (pgs_nil) rfl) rfl) rfl rfl) (hs _) (hw X C) rfl
    rw [C.K] at this
    exact this
  refine sa O L m z σ H _ _ R cl S hw hx fun L1 z1 H1 ws vs s1 c1 S1 r1 q => ?_
  obtain ⟨u, v, rfl, ou, ov, q⟩ := q
  cases r1 with
  | cons ru r1 =>
    cases r1 with
    | cons rv r1 =>
      cases r1
      refine ⟨by show 2 ≤ sizeLine; rw [sizeLine_eq]; omega, fun p hp => ?_⟩
      refine ⟨p, _, rfl, .inl (.inl upd_same), rfl, _, _, rfl, _, _, rfl, rfl, ?_⟩
      exact k.nx L1 m _ _ _ (s1.trans (stp_new hp)) pre_refl c1 (((S1.new _ hp).setW i ou (ru.new hp c1)).setW j ov ((rv.new hp c1).at' ov)) q
theorem ss_parT3 {i j l : Nat} {x y y3 : Str} {px py pz pt : Pos} {kt k2 : Nat} {pt2 : Pos} (hi : Γ.N[i]? = some x) (hj : Γ.N[j]? = some y) (hl : Γ.N[l]? = some y3) (hx : stoB st x = true) (hy : stoB st y = true) (hz : stoB st y3 = true) (ha : SP Γ sc st [a, b, c] [i, j, l] was)
    (hs : ∀ env, swapsWithSole [.Tuple [.Name x px, .Name y py, .Name y3 pz] kt pt] (.Tuple [a, b, c] k2 pt2) pos.line env = pure false)
    (hw : ∀ X, Ctx Γ sc st X → swappedStores [.Tuple [.Name x px, .Name y py, .Name y3 pz] kt pt] (.Tuple [a, b, c] k2 pt2) X.env = pure none) :
    SS Γ sc st (.Assign [.Tuple [.Name x px, .Name y py, .Name y3 pz] kt pt] (.Tuple [a, b, c] k2 pt2) pos) (wPar3 i j l was) := by
  obtain ⟨ta, pa, sa⟩ := ha.ex
  refine ⟨tAsg (tTup ta) (gTup Γ.K 3 (L2.gCons (L2.gName i) (L2.gCons (L2.gName j) (L2.gCons (L2.gName l) (L2.gNil))))), fun X C => ?_, fun O L m z σ H D Dd R cl S hw hx k => ?_⟩
  · have := ps_asg (pos := pos) (pe_tup (x1 := k2) (pos := pt2) (pa X C)) (pg_tup (k := kt) (pos := pt) (n := 3) C.calm (pgs_cons (pg_name C.ndX (C.ix hi) (C.fn x (sto_of hx)).1 (C.fn x (sto_of hx)).2) (pgs_cons (pg_name C.ndX (C.ix hj) (C.fn y (sto_of hy)).1 (C.fn y (sto_of hy)).2) (pgs_cons (pg_name C.ndX (C.ix hl) (C.fn y3 (sto_of hz)).1 (C.fn y3 (sto_of hz)).2) (pgs_nil) rfl) rfl) rfl) rfl rfl) (hs _) (hw X C) rfl
    rw [C.K] at this
    exact this
  refine sa O L m z σ H _ _ R cl S hw hx fun L1 z1 H1 ws vs s1 c1 S1 r1 q => ?_
  obtain ⟨u, v, w, rfl, ou, ov, ow, q⟩ := q
  cases r1 with
  | cons ru r1 =>
    cases r1 with
    | cons rv r1 =>
      cases r1 with
      | cons rw r1 =>
        cases r1
        refine ⟨by show 3 ≤ sizeLine; rw [sizeLine_eq]; omega, fun p hp => ?_⟩
        refine ⟨p, _, rfl, .inl (.inl upd_same), rfl, _, _, rfl, _, _, rfl, _, _, rfl, rfl, ?_⟩
        exact k.nx L1 m _ _ _ (s1.trans (stp_new hp)) pre_refl c1 ((((S1.new _ hp).setW i ou (ru.new hp c1)).setW j ov ((rv.new hp c1).at' ov)).setW l ow ((rw.new hp c1).at' ow)) q
theorem sw_at {X : Cx} {ts : List Expr} {v : Expr} {r : Sem (Option (List Str))} (C : Ctx Γ sc st X) (h : ∀ env : Env, swappedStores ts v { env with scope := sc } = r) : swappedStores ts v X.env = r := by
  have q := h X.env
  have e : ({ X.env with scope := sc } : Env) = X.env := by
    rw [← C.scp]
  rw [e] at q
  exact q
/-- x += e of ints -/
theorem ss_iadd {i : Nat} {x : Str} {pos' : Pos} (hN : Γ.N[i]? = some x) (hs : stoB st x = true) (ha : SE Γ sc st a wa) : SS Γ sc st (.AugAssign (.Name x pos') .Add a pos) (wAug i fAddI wa) :=
  ss_aug (f := fAddI) (r2_val fun O L H x y d e k Q rx ry h post => by
    cases d <;> cases e <;> first | exact h.elim | skip
    exact ⟨_, _, rx.int, ry.int, post _ _ (.int _) h⟩) (fun X C => iop_add) hN hs ha
/-- list(range(e)) -/
def fLRg : F1 := fun d k => match d with
  | .int j => -(2 ^ 62) ≤ j ∧ j ≤ 16777216 ∧ k (.new (.lst (rngD 0 j.toNat)))
  | _ => False
theorem repL_rng {K : PySem.W.Frag} {cA : Str → Addr} {B : Addr → Prop} {H : Hp} {f : Nat → Int} : ∀ xs : List Nat, RepL K cA B H (xs.map fun i => D.int (f i)) (xs.map fun i => V.int (f i))
  | [] => .nil
  | i :: xs => .cons (.int _) (repL_rng xs)
theorem se_listRg {p p2 pos2 : Pos} (hg : glB sc "list" = true) (hm : Γ.mg "list" = none) (hg2 : glB sc "range" = true) (hm2 : Γ.mg "range" = none) (ha : SE Γ sc st a wa) (h1 : ∀ env, starEach [a] env = (false, eval a env) :: starEach [] env) (h2 : ∀ env, starEach [.Call (.Name "range" p2) [a] [] pos2] env = (false, eval (.Call (.Name "range" p2) [a] [] pos2) env) :: starEach [] env) :
    SE Γ sc st (.Call (.Name "list" p) [.Call (.Name "range" p2) [a] [] pos2] [] pos) (wOp1 fLRg wa) := by
  refine se_op1 (r := fun x H Q => ∃ n, x = .int n ∧ RgOk 0 n ∧ ∀ q, H q = none → Q (.ref q) (upd H q (.lst (rgV 0 n)))) ?_ ha fun X ta C pa => ?_
  · intro O L m z σ H x d k Q cl S rx h post
    cases d <;> first | exact h.elim | skip
    obtain ⟨g1, g2, h⟩ := h
    refine ⟨_, rx.int, ⟨by omega, by omega, g1, by omega, by omega⟩, fun q hq => ?_⟩
    rename_i j
    have e : rgV 0 j = (List.range j.toNat).map fun i : Nat => V.int (0 + i) := by
      unfold rgV; rw [Int.sub_zero]
    rw [e]
    exact post (lab L q (.res [])) _ (.new (.lst _)) _ (stp_newL hq) (S.newL _ _ hq) (ovr_newL (repL_rng (f := fun i => 0 + (i : Int)) _) hq) h
  · exact pe_listRg C.calm (gl_of C hg).1 (by rw [C.mg]; exact hm) (prg_1 (gl_of C hg2).1 (by rw [C.mg]; exact hm2) pa (h1 _)) (h2 _)
theorem se_gloI {x : Str} {i : Int} (hg : glB sc x = true) (hm : ∃ t, Γ.mg x = some (.int i t)) : SE Γ sc st (.Name x pos) (wC (.int i)) :=
  se_c (v := .int i) (fun X C => hm.elim fun t hm => pe_glob (gl_of C hg).1 (by rw [C.mg]; exact hm) ⟨t, rfl⟩ (gl_of C hg).2) fun _ _ _ => .int i
theorem se_bool {b : Bool} {k : Nat} : SE Γ sc st (.Constant (.bool b) k pos) (wC (.bl b)) := se_c (v := .bl b) (fun X C => pe_bl) fun _ _ _ => .bl b
theorem se_none {k : Nat} : SE Γ sc st (.Constant .none k pos) (wC .non) := se_c (v := .non) (fun X C => pe_non) fun _ _ _ => .non
theorem se_str {z : Str} {k : Nat} : SE Γ sc st (.Constant (.str z) k pos) (wC (.str z)) := se_c (v := .str z) (fun X C => pe_str) fun _ _ _ => .str z
end
end Eng

end
section
set_option Elab.async false
set_option linter.all false
set_option maxRecDepth 100000
/-! Eng19: the law's own promise. -/
namespace Eng
open PySem PySem.Spec PyProof.Rows L2
/-- what a law's def is asked: of each script True -/
def sp_law : DSpec := fun ws S Q _ => ∃ ns : List Int, ws = [.d (.scr ns)] ∧ ns.length ≤ 63 ∧ S = [] ∧ ∀ S', Q (.d (.bl true)) S'
def CXA : CXT := fun outer H s E u s' => ∃ (P : Program) (w : World), L2.CX P w outer H s E u s'
theorem cxa_no (H : Hp) (s : Shared) (e : Value) (s' : Shared) (h : CXA [] H s (fun _ _ _ => False) e s') : False := by
  obtain ⟨P, w, a, B, H', cls, d, _, _, _, _, _, _, _, h⟩ := h
  exact h
theorem fn_cxa {P : Program} {w : World} {K : PySem.W.Frag} {mg : Str → Option Value} {base : Heap} {k : Nat} {f : Addr} {fd : FuncData} {ps : List Str} {sp : Sp} (F : FnOkG P w K mg base (L2.CX P w) k f fd ps sp) : FnOkG P w K mg base CXA k f fd ps sp :=
  ⟨F.len, fun A outer s H args us vs Q E gd hr h0 hb hv h => codeAny_mono (F.run A outer s H args us vs Q E gd hr h0 hb hv h) fun r s' q => by
    cases r with
    | error e => exact ⟨P, w, q⟩
    | ok fl => cases fl <;> exact q⟩
theorem law_promise {Γ : Gm} {H : Hp} {a : Addr} {ns : List Int} (hl : ns.length ≤ 63) (hO : Only H) (hS : SqL Γ.K H a (ns.map V.int)) : toSp Γ sp_law [.ref a] H (fun v _ => v = .bl true) fun _ _ _ => False := by
  refine ⟨(fun _ => False), (fun _ => none), [], [], [.d (.scr ns)], (fun r _ => r = .d (.bl true)), (fun _ _ => False), (fun a o e => by cases e), ⟨rfl, (fun j o e => by simp at e), (fun a h => h.elim), (fun a h => absurd rfl h)⟩, ?_, ⟨ns, rfl, hl, rfl, (fun _ => rfl)⟩, (fun L' S' H' r v _ _ _ rr e => ?_), (fun _ _ _ _ _ _ _ _ _ _ h => h)⟩
  · refine .d (.scr ?_) .nil
    rcases hS with h | h
    · rcases h with h | ⟨o, h⟩
      · rcases hO a with q | ⟨o, xs, q⟩
        · rw [q] at h; cases h
        · rw [q] at h; cases h
      · exact .inl ⟨fun q => q.elim id fun q => q rfl, o, h⟩
    · exact .inr h
  · subst e
    have r2 := rr.2
    cases r2
    rfl
end Eng

end
section
set_option Elab.async false
set_option linter.all false
set_option maxRecDepth 100000
/-! EngHd: the head, over promises where no guard stands. -/
namespace Eng
open PySem PySem.Spec PyProof.Rows L2
/-- the law's call, at the heap behind the top, the script told as G says -/
theorem call_coreG {P : Program} {w : World} {K : PySem.W.Frag} {mg mb : Str → Option Value} {CX : CXT} {k : Nat} {fn a : Addr} {fdt : FuncData} {x : Str} {prm : Sp} {sh : Shared} {vals : List Value} {ns : List Int}
    (inK : K.In sh.heap) (nsM : sh.heap.Ns mainGlobals mg) (nsB : sh.heap.Ns builtinsNs mb) (bb : ∀ y : Str, y ≠ "__name__" → mb y = bootBuiltins y) (nl : sh.heap.NoLimit) (ge : sh.gens = #[])
    (ha : sh.heap.get? a = some { cls := .type "list", data := .seq vals.toArray }) (hr : Room k callerA)
    (F : ∀ bs : Heap, K.In bs → bs.Ns mainGlobals mg → FnOkG P w K mg bs CX k fn fdt [x] prm) (bd : ∀ (s : Shared) (u : Value), BindsTo s fdt ⟨[u], []⟩ [(x, u)])
    (hp : ∀ G : Hp, Only G → SqL K G a (ns.map V.int) → prm [.ref a] G (fun v _ => v = .bl true) fun _ _ _ => False)
    (hCX : ∀ G e s2, CX [] G sh (fun _ _ _ => False) e s2 → False)
    (G : Hp) (hO : Only G) (hS : SqL K G a (ns.map V.int)) (hok : HOk P w G sh.heap) (hA : ∀ b, G b ≠ none → b = a) (hK : G a ≠ none → K.lookup a = none) :
    codeAny (model P w) callerA (.call (.ref fn) ⟨[.ref a], []⟩) (fun r s2 => r = .ok (.ret (.bool true)) ∧ OldK sh.heap s2.heap ∧ s2.os = sh.os ∧ AllBare s2.gens) sh := by
  have keepB : ∀ {b : Addr} {o : Obj}, sh.heap.get? b = some o → G b = none → (hidT sh.heap G).get? b = some o := fun e n => hidT_get e n
  have nodict : ∀ {b : Addr} {o : Obj} {es : Array DictEntry} {ep : Nat}, sh.heap.get? b = some o → o.data = .dict es ep → G b = none := by
    intro b o es ep e d
    cases q : G b with
    | none => rfl
    | some u =>
      have eb := hA b (by rw [q]; simp)
      rw [eb, ha] at e
      cases e
      have d2 : Data.seq vals.toArray _ = Data.dict es ep := d
      cases d2
  have nsH : ∀ {b : Addr} {m : Str → Option Value}, sh.heap.Ns b m → (hidT sh.heap G).Ns b m := fun ⟨o, es, ep, e, d, r⟩ => ⟨o, es, ep, keepB e (nodict e d), d, r⟩
  have inH : K.In (hidT sh.heap G) := by
    intro b o e
    refine keepB (inK b o e) ?_
    cases q : G b with
    | none => rfl
    | some u =>
      have eb := hA b (by rw [q]; simp)
      subst eb
      rw [hK (by rw [q]; simp)] at e
      cases e
  obtain ⟨mc, c1, c2⟩ := nl
  have hM : L2.Mod K mg (hidT sh.heap G) := ⟨inH, nsH nsM, ⟨mb, nsH nsB, bb⟩, mc, nsH c1, c2⟩
  have e0 : Env0 P w K mg (hidT sh.heap G) callerA [] sh G := ⟨rfl, hM, fun b o e => of_hidT e, Nat.le_of_eq (hidT_size _ _), trivial, (fun b hb => nomatch (show b ∈ ([] : List Addr) from hb)), hok, .of_eq ge⟩
  have run := (F _ inH (nsH nsM)).run callerA [] sh G ⟨[.ref a], []⟩ [.ref a] [.ref a] _ _ rfl hr e0 (bd sh (.ref a)) (.cons rfl .nil) (hp G hO hS)
  refine codeAny_mono run fun r s2 h => ?_
  match r, h with
  | .error e, h => exact (hCX G e s2 h).elim
  | .ok .next, h => exact False.elim h
  | .ok .brk, h => exact False.elim h
  | .ok .cont, h => exact False.elim h
  | .ok (.ret u), h =>
    obtain ⟨v, G2, os, bare, un, hok2, rv, q⟩ := h
    have q2 : v = .bl true := q
    subst q2
    obtain rfl : u = Value.bool true := rv
    refine ⟨rfl, OldK.of_keep fun b o e => ?_, os, bare⟩
    cases q : G b with
    | none => exact un.keep b o e q (fun z => nomatch (show b ∈ ([] : List Addr) from z)) (by simp)
    | some u =>
      rcases hO b with z | ⟨ob, xs, z⟩
      · rw [q] at z; cases z
      · obtain ⟨e1, _⟩ := hok b _ z
        obtain ⟨e2, _⟩ := hok2 b _ (un.frzs b ob _ z)
        rw [e] at e1
        cases e1
        exact e2
theorem law_callG {P : Program} {w : World} {K : PySem.W.Frag} {mg mb : Str → Option Value} {CX : CXT} {k : Nat} {fn a : Addr} {fdt : FuncData} {x : Str} {prm : Sp} {sh : Shared} {vals : List Value} {ns : List Int}
    (inK : K.In sh.heap) (nsM : sh.heap.Ns mainGlobals mg) (nsB : sh.heap.Ns builtinsNs mb) (bb : ∀ y : Str, y ≠ "__name__" → mb y = bootBuiltins y) (nl : sh.heap.NoLimit) (ge : sh.gens = #[])
    (ha : sh.heap.get? a = some { cls := .type "list", data := .seq vals.toArray }) (hi : IntsAre vals ns) (hl : ns.length ≤ sizeLine) (hr : Room k callerA)
    (F : ∀ bs : Heap, K.In bs → bs.Ns mainGlobals mg → FnOkG P w K mg bs CX k fn fdt [x] prm) (bd : ∀ (s : Shared) (u : Value), BindsTo s fdt ⟨[u], []⟩ [(x, u)])
    (hp : ∀ G : Hp, Only G → SqL K G a (ns.map V.int) → prm [.ref a] G (fun v _ => v = .bl true) fun _ _ _ => False)
    (hCX : ∀ G e s2, CX [] G sh (fun _ _ _ => False) e s2 → False) :
    codeAny (model P w) callerA (.call (.ref fn) ⟨[.ref a], []⟩) (fun r s2 => r = .ok (.ret (.bool true)) ∧ OldK sh.heap s2.heap ∧ s2.os = sh.os ∧ AllBare s2.gens) sh := by
  have core := call_coreG (ns := ns) inK nsM nsB bb nl ge ha hr F bd hp hCX
  have rv := vals_ints hi
  have ln := hi.length
  cases hk : K.lookup a with
  | some o =>
    have e := inK a o hk
    rw [ha] at e
    cases e
    exact core (fun _ => none) (fun _ => .inl rfl) (.inr ⟨_, vals.toArray, _, hk, rfl, rfl, rfl, by rw [List.size_toArray, ln]; exact hl, by simpa using rv⟩) (fun b u z => nomatch (show (none : Option HO) = some u from z)) (fun b z => absurd rfl z) (fun z => absurd rfl z)
  | none =>
    let G : Hp := fun b => if b = a then some (.frz { cls := .type "list", data := .seq vals.toArray } (.lst (ns.map V.int))) else none
    have G1 : G a = some (.frz { cls := .type "list", data := .seq vals.toArray } (.lst (ns.map V.int))) := if_pos rfl
    have G0 : ∀ b, b ≠ a → G b = none := fun b hb => if_neg hb
    refine core G (fun b => ?_) (.inl (.inr ⟨_, G1⟩)) (fun b u z => ?_) (fun b z => ?_) fun _ => hk
    · by_cases hb : b = a
      · subst hb; exact .inr ⟨_, _, G1⟩
      · exact .inl (G0 b hb)
    · by_cases hb : b = a
      · subst hb
        rw [G1] at z
        cases z
        exact ⟨ha, by rw [List.length_map]; exact hl, vals, _, rv, ha⟩
      · rw [G0 b hb] at z
        cases z
    · by_cases hb : b = a
      · exact hb
      · exact absurd (G0 b hb) z
/-- a law: F gives the written part, the function object, the promise over every base -/
theorem walk_ofG {l : PySem.W.OpenLaw} {n k : Nat} {q : Program} {loose : List Str} {XP : (Str → Option Value) → Heap → Prop} {YP : World → Heap → Prop} {d : DefRec} {CX : CXT} {x : Str}
    (hn : l.most = some n) (hn2 : n ≤ sizeLine) (hdf : d.params.defaults = []) (hr : Room k callerA)
    (F : ∀ (w : World) (mg : Str → Option Value) (fa : Addr) (h : Heap), YP w h → h.Ns mainGlobals mg → mg d.name = some (.ref fa) →
      ∃ (K : PySem.W.Frag) (fdt : FuncData) (prm : Sp), K.In h ∧ (∀ (s : Shared) (u : Value), BindsTo s fdt ⟨[u], []⟩ [(x, u)]) ∧
        (∀ (G : Hp) (a : Addr) (ns : List Int), ns.length ≤ n → Only G → SqL K G a (ns.map V.int) → prm [.ref a] G (fun v _ => v = .bl true) fun _ _ _ => False) ∧
        ∀ bs : Heap, K.In bs → bs.Ns mainGlobals mg → FnOkG l.prog w K mg bs CX k fa fdt [x] prm)
    (hCX : ∀ (G : Hp) (s : Shared) (e : Value) (s2 : Shared), CX [] G s (fun _ _ _ => False) e s2 → False) :
    PySem.W.WalkO q loose XP YP l.row.toRowW d [] (fun f vs => PySem.call f vs) := by
  refine Att.attach_call hn hdf fun w s0 s1 mg mb fa o pm cd doc a vals ns T Y ho hd hcd hmg hobj hints hlen hg => ?_
  obtain ⟨K, fdt, prm, inK, hb, hsp, hF⟩ := F w mg fa _ Y T.T.g hmg
  exact law_callG inK T.T.g T.T.b T.T.builtins T.T.nolimit hg hobj hints (Nat.le_trans hlen hn2) hr hF hb (fun G hO hS => hsp G a ns hlen hO hS) fun G e s2 => hCX G s1 e s2
end Eng

end
section
set_option Elab.async false
set_option linter.all false
set_option maxRecDepth 100000
/-! Eng20: readings, step by step (for simp). -/
namespace Eng
open PySem PySem.Spec PyProof.Rows L2
def asD (x : W) (k : D → Prop) : Prop := match x with
  | .d d => k d
  | .new o => k o.frz
  | _ => False
def asI (x : W) (k : Int → Prop) : Prop := match x with
  | .d (.int i) => k i
  | _ => False
def asB (x : W) (k : Bool → Prop) : Prop := match x with
  | .d (.bl i) => k i
  | _ => False
def rdK (z : Z) (x : W) (k : D → Prop) : Prop := match rd z x with
  | some d => k d
  | none => False
def opK {α : Type} (o : Option α) (k : α → Prop) : Prop := match o with
  | some d => k d
  | none => False
def rdf (z : Z) (x : W) (k : D → Prop) : Prop := opK (rd z (fz x)) k
def conK (x : W) (k : W → Prop) : Prop := k (fz x)
def allK (ws : List W) (k : List D → Prop) : Prop := opK (allD ws) k
def rdAK (z : Z) (ws : List W) (k : List D → Prop) : Prop := opK (rdAll z ws) k
def tyK (d : D) (k : String → Prop) : Prop := opK (tyD d) k
def seqK (d : D) (k : List D → Prop) : Prop := opK (seqD d) k
@[simp ↓] theorem x_conK_d (d : D) (k : W → Prop) : conK (.d d) k = k (.d d) := rfl
@[simp ↓] theorem x_conK_l (d : List D) (k : W → Prop) : conK (.new (.lst d)) k = k (.d (.lst d)) := rfl
@[simp ↓] theorem x_conK_k (d : List (Key × D)) (k : W → Prop) : conK (.new (.dic d)) k = k (.d (.dct d)) := rfl
@[simp ↓] theorem x_conK_n (o : OV) (k : W → Prop) : conK (.new o) k = k (.d o.frz) := rfl
@[simp ↓] theorem x_conK_c (j : Nat) (k : W → Prop) : conK (.cel j) k = k (.cel j) := rfl
@[simp ↓] theorem x_conK_s (j : Nat) (k : W → Prop) : conK (.slot j) k = k (.slot j) := rfl
@[simp ↓] theorem x_allK_n (k : List D → Prop) : allK [] k = k [] := rfl
@[simp ↓] theorem x_allK_c (d : D) (ws : List W) (k : List D → Prop) : allK (.d d :: ws) k = allK ws fun ds => k (d :: ds) := by
  unfold allK
  show opK (match allD ws with | some xs => some (d :: xs) | none => none) k = _
  cases allD ws <;> rfl
@[simp ↓] theorem x_rdAK_n (z : Z) (k : List D → Prop) : rdAK z [] k = k [] := rfl
@[simp ↓] theorem x_rdAK_c (z : Z) (d : D) (ws : List W) (k : List D → Prop) : rdAK z (.d d :: ws) k = rdAK z ws fun ds => k (d :: ds) := by
  unfold rdAK
  show opK (match some d, rdAll z ws with | some d, some ds => some (d :: ds) | _, _ => none) k = _
  cases rdAll z ws <;> rfl
theorem x_rdAK_w (z : Z) (w : W) (ws : List W) (k : List D → Prop) : rdAK z (w :: ws) k = opK (rd z w) fun d => rdAK z ws fun ds => k (d :: ds) := by
  unfold rdAK
  show opK (match rd z w, rdAll z ws with | some d, some ds => some (d :: ds) | _, _ => none) k = _
  cases rd z w with
  | none => rfl
  | some d => cases rdAll z ws <;> rfl
@[simp ↓] theorem x_rdAK_s (z : Z) (i : Nat) (ws : List W) (k : List D → Prop) : rdAK z (.slot i :: ws) k = rdf z (.slot i) fun d => rdAK z ws fun ds => k (d :: ds) := x_rdAK_w z _ ws k
@[simp ↓] theorem x_rdAK_l (z : Z) (i : Nat) (ws : List W) (k : List D → Prop) : rdAK z (.cel i :: ws) k = rdf z (.cel i) fun d => rdAK z ws fun ds => k (d :: ds) := x_rdAK_w z _ ws k
@[simp ↓] theorem x_tyK_n (k : String → Prop) : tyK .non k = k "NoneType" := rfl
@[simp ↓] theorem x_tyK_b (b : Bool) (k : String → Prop) : tyK (.bl b) k = k "bool" := rfl
@[simp ↓] theorem x_tyK_i (b : Int) (k : String → Prop) : tyK (.int b) k = k "int" := rfl
@[simp ↓] theorem x_tyK_s (b : Str) (k : String → Prop) : tyK (.str b) k = k "str" := rfl
@[simp ↓] theorem x_tyK_t (b : List D) (k : String → Prop) : tyK (.tup b) k = k "tuple" := rfl
@[simp ↓] theorem x_tyK_l (b : List D) (k : String → Prop) : tyK (.lst b) k = k "list" := rfl
@[simp ↓] theorem x_seqK_l (b : List D) (k : List D → Prop) : seqK (.lst b) k = k b := rfl
@[simp ↓] theorem x_seqK_t (b : List D) (k : List D → Prop) : seqK (.tup b) k = k b := rfl
@[simp ↓] theorem x_seqK_s (b : List Int) (k : List D → Prop) : seqK (.scr b) k = k (b.map D.int) := rfl
@[simp ↓] theorem x_asBf (d : Bool) (k : Bool → Prop) : asB (fz (.d (.bl d))) k = k d := rfl
@[simp ↓] theorem x_asIf (d : Int) (k : Int → Prop) : asI (fz (.d (.int d))) k = k d := rfl
@[simp ↓] theorem x_asD_l (d : List D) (k : D → Prop) : asD (.new (.lst d)) k = k (.lst d) := rfl
@[simp ↓] theorem x_asD_k (d : List (Key × D)) (k : D → Prop) : asD (.new (.dic d)) k = k (.dct d) := rfl
@[simp ↓] theorem x_rdf_nk (z : Z) (o : List (Key × D)) (k : D → Prop) : rdf z (.new (.dic o)) k = k (.dct o) := rfl
@[simp ↓] theorem x_asD_d (d : D) (k : D → Prop) : asD (.d d) k = k d := rfl
@[simp ↓] theorem x_asD_n (o : OV) (k : D → Prop) : asD (.new o) k = k o.frz := rfl
@[simp ↓] theorem x_asI (d : Int) (k : Int → Prop) : asI (.d (.int d)) k = k d := rfl
@[simp ↓] theorem x_asB (d : Bool) (k : Bool → Prop) : asB (.d (.bl d)) k = k d := rfl
@[simp ↓] theorem x_opK_s {α : Type} (d : α) (k : α → Prop) : opK (some d) k = k d := rfl
@[simp ↓] theorem x_opK_n {α : Type} (k : α → Prop) : opK (none : Option α) k = False := rfl
theorem rdf_op (z : Z) (x : W) (k : D → Prop) : opK (rd z (fz x)) k = rdf z x k := rfl
@[simp ↓] theorem x_rdf_d (z : Z) (d : D) (k : D → Prop) : rdf z (.d d) k = k d := rfl
@[simp ↓] theorem x_rdf_n (z : Z) (o : OV) (k : D → Prop) : rdf z (.new o) k = k o.frz := rfl
@[simp ↓] theorem x_rdf_nl (z : Z) (o : List D) (k : D → Prop) : rdf z (.new (.lst o)) k = k (.lst o) := rfl
@[simp ↓] theorem x_rdf_c (z : Z) (j : Nat) (k : D → Prop) : rdf z (.cel j) k = opK ((z.S[j]?).bind OV.dat) k := rfl
theorem opK_ex {α : Type} (o : Option α) (k : α → Prop) : (∃ d, o = some d ∧ k d) = opK o k := by
  cases o <;> simp [opK]
theorem asD_ex (x : W) (k : D → Prop) : (∃ d, fz x = .d d ∧ k d) = asD x k := by
  cases x <;> simp [asD, fz]
theorem asB_ex (x : W) (k : Bool → Prop) : (∃ d, fz x = .d (.bl d) ∧ k d) = asB (fz x) k := by
  cases x with
  | d x => cases x <;> simp [asB, fz]
  | cel j => simp [asB, fz]
  | slot j => simp [asB, fz]
  | new o => show (∃ d, W.d o.frz = .d (.bl d) ∧ k d) = asB (.d o.frz) k; cases o.frz <;> simp [asB]
theorem asI_ex (x : W) (k : Int → Prop) : (∃ d, fz x = .d (.int d) ∧ k d) = asI (fz x) k := by
  cases x with
  | d x => cases x <;> simp [asI, fz]
  | cel j => simp [asI, fz]
  | slot j => simp [asI, fz]
  | new o => show (∃ d, W.d o.frz = .d (.int d) ∧ k d) = asI (.d o.frz) k; cases o.frz <;> simp [asI]
theorem atI_n {α : Type} (xs : List α) (n : Nat) : atI xs (n : Int) = xs[n]? := by
  unfold atI ixN
  by_cases h : n < xs.length
  · have h1 : (n : Int) < (xs.length : Nat) := by omega
    simp [h1]
  · have h1 : ¬ (n : Int) < (xs.length : Nat) := by omega
    simp [h1]
    omega
theorem seqI {u u' : WS} {z : Z} {D0 : Ed} {R : XR} (h : ∀ K : Z → Prop, (∀ z', u' z' D0 R → K z') → u z { D0 with nx := K } R) : wSeq u u' z D0 R := h _ fun _ h => h
section
variable {z : Z} {σ : List SV} {S : List OV} {D0 : Ed} {R : XR} {Q : W → Z → Prop} {QT : Bool → Z → Prop} {QA : List W → Z → Prop} {a b c : WE} {t t' : WT} {u u' : WS}
@[simp ↓] theorem x_fz_d (x : D) : fz (.d x) = .d x := rfl
@[simp ↓] theorem x_fz_c (j : Nat) : fz (.cel j) = .cel j := rfl
@[simp ↓] theorem x_fz_s (j : Nat) : fz (.slot j) = .slot j := rfl
@[simp ↓] theorem x_fz_n (o : OV) : fz (.new o) = .d o.frz := rfl
@[simp ↓] theorem x_frz_d (x : D) : OV.frz (.d x) = x := rfl
@[simp ↓] theorem x_frz_l (x : List D) : OV.frz (.lst x) = .lst x := rfl
@[simp ↓] theorem x_frz_k (x : List (Key × D)) : OV.frz (.dic x) = .dct x := rfl
@[simp ↓] theorem x_dat_d (x : D) : OV.dat (.d x) = some x := rfl
@[simp ↓] theorem x_dat_l (x : List D) : OV.dat (.lst x) = some (.lst x) := rfl
@[simp ↓] theorem x_dat_k (x : List (Key × D)) : OV.dat (.dic x) = some (.dct x) := rfl
@[simp ↓] theorem x_sv_d (x : D) : svOf (.d x) = .d x := rfl
@[simp ↓] theorem x_sv_c (j : Nat) : svOf (.cel j) = .cel j := rfl
@[simp] theorem x_z0 (N : List Str) (ws : List W) : z0 N ws S = ⟨ws.map svOf ++ List.replicate (N.length - ws.length) .none, S⟩ := rfl
@[simp ↓] theorem x_resB_d (n : Nat) (x : D) : resB n (.d x) = True := rfl
@[simp ↓] theorem x_resB_c (n j : Nat) : resB n (.cel j) = (j < n) := rfl
@[simp ↓] theorem x_resB_n (n : Nat) (o : OV) : resB n (.new o) = True := rfl
@[simp ↓] theorem x_ed_nx (n : Nat) (Qd : W → List OV → Prop) : (ed0 n Qd).nx z = Qd (.d .non) (z.S.take n) := rfl
@[simp ↓] theorem x_ed_rt (n : Nat) (Qd : W → List OV → Prop) (r : W) : (ed0 n Qd).rt r z = (resB n r ∧ Qd r (z.S.take n)) := rfl
@[simp ↓] theorem x_ed_bk (n : Nat) (Qd : W → List OV → Prop) : (ed0 n Qd).bk z = False := rfl
@[simp ↓] theorem x_ed_ct (n : Nat) (Qd : W → List OV → Prop) : (ed0 n Qd).ct z = False := rfl
@[simp ↓] theorem x_seq : wSeq u u' z D0 R = u z { D0 with nx := fun z' => u' z' D0 R } R := rfl
@[simp ↓] theorem x_nx : wNx z D0 R = D0.nx z := rfl
@[simp ↓] theorem x_bk : wBk z D0 R = D0.bk z := rfl
@[simp ↓] theorem x_ct : wCt z D0 R = D0.ct z := rfl
@[simp ↓] theorem x_never : wNever z D0 R = False := rfl
@[simp ↓] theorem x_ex : wEx a z D0 R = a z (fun _ z1 => D0.nx z1) R := rfl
@[simp ↓] theorem x_rt : wRt a z D0 R = a z (fun x z' => D0.rt (fz x) z') R := rfl
@[simp ↓] theorem x_rtO : wRtO a z D0 R = a z D0.rt R := rfl
@[simp ↓] theorem x_rtN : wRtN z D0 R = D0.rt (.d .non) z := rfl
@[simp ↓] theorem x_ifs : wIfS t u u' z D0 R = t z (fun k z1 => if k = true then u z1 D0 R else u' z1 D0 R) R := rfl
@[simp ↓] theorem x_fr : wFr a z Q R = a z (fun x z' => Q (fz x) z') R := rfl
@[simp] theorem x_var (i : Nat) : wVar i z Q R = match z.σ[i]? with
  | some (.d x) => Q (.d x) z
  | some (.own _) => Q (.slot i) z
  | some (.cel j) => Q (.cel j) z
  | _ => False := rfl
@[simp ↓] theorem x_c (x : D) : wC x z Q R = Q (.d x) z := rfl
@[simp ↓] theorem x_op1 (f : F1) : wOp1 f a z Q R = a z (fun x z1 => rdf z1 x fun d => f d fun w => Q w z1) R := by simp only [rdf, ← opK_ex]; rfl
@[simp ↓] theorem x_op2 (f : F2) : wOp2 f a b z Q R = a z (fun x z1 => b z1 (fun y z2 => rdf z2 x fun d1 => rdf z2 y fun d2 => f d1 d2 fun w => Q w z2) R) R := by
  have e : ∀ (x y : W) (z2 : Z), (∃ d1 d2, rd z2 (fz x) = some d1 ∧ rd z2 (fz y) = some d2 ∧ f d1 d2 fun w => Q w z2) = opK (rd z2 (fz x)) fun d1 => opK (rd z2 (fz y)) fun d2 => f d1 d2 fun w => Q w z2 := fun x y z2 => by
    cases rd z2 (fz x) <;> cases rd z2 (fz y) <;> simp
  simp only [rdf, ← e]; rfl
@[simp ↓] theorem x_nil : wNil z QA R = QA [] z := rfl
@[simp ↓] theorem x_cons (r : WAs) : wCons a r z QA R = a z (fun x z1 => conK x fun w => r z1 (fun xs z2 => QA (w :: xs) z2) R) R := rfl
@[simp ↓] theorem x_consO (r : WAs) : wConsO a r z QA R = a z (fun x z1 => (∃ o, x = .new o) ∧ r z1 (fun xs z2 => QA (x :: xs) z2) R) R := rfl
@[simp ↓] theorem x_callB (f : FN) (as : WAs) : wCallB f as z Q R = as z (fun ws z1 => rdAK z1 ws fun ds => f ds fun w => Q w z1) R := by simp only [rdAK, ← opK_ex]; rfl
@[simp ↓] theorem x_call (sp : DSpec) (as : WAs) : wCall sp as z Q R = as z (fun ws z1 => ws.all argB = true ∧ sp ws z1.S (fun r S' => Q r { z1 with S := S' }) (fun x S' => R x { z1 with S := S' })) R := rfl
@[simp ↓] theorem x_callK (sp : DSpec) (as ks : WAs) : wCallK sp as ks z Q R = as z (fun ws z1 => (∀ y ∈ ws, ∀ o, y ≠ W.new o) ∧ ks z1 (fun zs z2 => (ws ++ zs).all argB = true ∧ sp (ws ++ zs) z2.S (fun r S' => Q r { z2 with S := S' }) (fun x S' => R x { z2 with S := S' })) R) R := rfl
@[simp ↓] theorem x_meth (C m : Str) (sp : DSpec) (as : WAs) : wMeth C m sp a as z Q R = a z (fun x z1 => clsOf z1 (fz x) = some C ∧ m ∉ fldsOf z1 (fz x) ∧ (∀ j, fz x ≠ .slot j) ∧ as z1 (fun ws z2 => ws.all argB = true ∧ sp (fz x :: ws) z2.S (fun r S' => Q r { z2 with S := S' }) (fun y S' => R y { z2 with S := S' })) R) R := rfl
@[simp ↓] theorem x_mk (C : Str) (sp : DSpec) (as : WAs) : wMk C sp as z Q R = as z (fun ws z1 => ws.all argB = true ∧ sp (.cel z1.S.length :: ws) (z1.S ++ [.ins C []]) (fun r S' => r = .d .non ∧ ∃ S0 o, S' = S0 ++ [o] ∧ Q (.new o) { z1 with S := S0 }) (fun y S' => R y { z1 with S := S'.take z1.S.length })) R := rfl
@[simp ↓] theorem x_fld (C f : Str) : wFld C f a z Q R = a z (fun x z1 => ∃ y, fldD z1 f (fz x) = some (C, y) ∧ Q (.d y) z1) R := rfl
@[simp ↓] theorem x_fldS (C f : Str) : wFldS C f a b z D0 R = b z (fun y z1 => ∃ d, fz y = .d d ∧ a z1 (fun x z2 => ∃ j fs, fz x = .cel j ∧ z2.S[j]? = some (.ins C fs) ∧ fs.length < 1000 ∧ D0.nx { z2 with S := z2.S.set j (.ins C (putO f (.d d) fs)) }) R) R := rfl
@[simp ↓] theorem x_asT : wAsT a z QT R = a z (fun x z1 => asB (fz x) fun b => QT b z1) R := by simp only [← asB_ex]; rfl
@[simp ↓] theorem x_tnot : wTNot t z QT R = t z (fun b z1 => QT (!b) z1) R := rfl
@[simp ↓] theorem x_tand : wTAnd t t' z QT R = t z (fun b z1 => if b = true then t' z1 QT R else QT false z1) R := rfl
@[simp ↓] theorem x_tor : wTOr t t' z QT R = t z (fun b z1 => if b = true then QT true z1 else t' z1 QT R) R := rfl
@[simp ↓] theorem x_and : wAnd a b z Q R = a z (fun x z1 => asB (fz x) fun k => if k = true then b z1 Q R else Q (.d (.bl false)) z1) R := by simp only [← asB_ex]; rfl
@[simp ↓] theorem x_or : wOr a b z Q R = a z (fun x z1 => asB (fz x) fun k => if k = true then Q (.d (.bl true)) z1 else b z1 Q R) R := by simp only [← asB_ex]; rfl
@[simp ↓] theorem x_if : wIf t a b z Q R = t z (fun k z1 => if k = true then a z1 Q R else b z1 Q R) R := rfl
@[simp ↓] theorem x_not : wNot a z Q R = a z (fun x z1 => asB (fz x) fun k => Q (.d (.bl (!k))) z1) R := by simp only [← asB_ex]; rfl
@[simp ↓] theorem x_tup (as : WAs) : wTup as z Q R = as z (fun ws z1 => allK ws fun ds => ds.length ≤ sizeLine ∧ Q (.d (.tup ds)) z1) R := by simp only [allK, ← opK_ex]; rfl
@[simp ↓] theorem x_lst (as : WAs) : wLst as z Q R = as z (fun ws z1 => allK ws fun ds => ds.length ≤ sizeLine ∧ Q (.new (.lst ds)) z1) R := by simp only [allK, ← opK_ex]; rfl
@[simp ↓] theorem x_chain (p p' : Int → Int → Bool) : wChain p p' a b c z Q R = a z (fun x z1 => asI (fz x) fun i => b z1 (fun y z2 => asI (fz y) fun j => if p i j = true then c z2 (fun u z3 => asI (fz u) fun l => Q (.d (.bl (p' j l))) z3) R else Q (.d (.bl false)) z2) R) R := by simp only [← asI_ex]; rfl
@[simp ↓] theorem x_chainT (p p' : Int → Int → Bool) : wChainT p p' a b c z QT R = a z (fun x z1 => asI (fz x) fun i => b z1 (fun y z2 => asI (fz y) fun j => if p i j = true then c z2 (fun u z3 => asI (fz u) fun l => QT (p' j l) z3) R else QT false z2) R) R := by simp only [← asI_ex]; rfl
@[simp ↓] theorem x_isi (us : List String) : wIsi us a z Q R = a z (fun x z1 => rdf z1 x fun d => tyK d fun t => Q (.d (.bl (us.any (isiB t)))) z1) R := by simp only [rdf, tyK, ← opK_ex]; rfl
@[simp ↓] theorem x_pt_n (QP : Option Int → Z → Prop) : wPt none z QP R = QP none z := rfl
@[simp ↓] theorem x_pt_s (QP : Option Int → Z → Prop) : wPt (some a) z QP R = a z (fun y z1 => rdf z1 y fun d => ∃ i, d = .int i ∧ QP (some i) z1) R := by
  have e : ∀ (y : W) (z1 : Z), (∃ i, rd z1 (fz y) = some (.int i) ∧ QP (some i) z1) = opK (rd z1 (fz y)) fun d => ∃ i, d = .int i ∧ QP (some i) z1 := fun y z1 => by
    cases rd z1 (fz y) <;> simp
  simp only [rdf, ← e]; rfl
@[simp ↓] theorem x_sl (lo hi : Option WE) : wSl a lo hi z Q R = a z (fun x z1 => wPt lo z1 (fun l z2 => wPt hi z2 (fun u z3 => rdf z3 x fun d => fSl d l u fun w => Q w z3) R) R) R := by simp only [rdf, ← opK_ex]; rfl
@[simp ↓] theorem x_dnew : wDNew z Q R = Q (.new (.dic [])) z := rfl
@[simp ↓] theorem x_pairs_n (QK : List (Key × D) → Z → Prop) : wPairs [] z QK R = QK [] z := rfl
@[simp ↓] theorem x_pairs_c (QK : List (Key × D) → Z → Prop) (r : List (WE × WE)) : wPairs ((a, b) :: r) z QK R = a z (fun x z1 => asD x fun kd => opK (keyD kd) fun kk => b z1 (fun y z2 => asD y fun d => wPairs r z2 (fun ps z3 => QK ((kk, d) :: ps) z3) R) R) R := by
  have e : ∀ (x : W) (k : D → Key → Prop), (∃ kd kk, fz x = .d kd ∧ keyD kd = some kk ∧ k kd kk) = asD x fun kd => opK (keyD kd) fun kk => k kd kk := fun x k => by
    cases x <;> simp [asD, fz, ← opK_ex]
  simp only [← e, ← asD_ex]; rfl
@[simp ↓] theorem x_disp (prs : List (WE × WE)) : wDisp prs z Q R = wPairs prs z (fun ps z1 => ps.length ≤ 15 ∧ Q (.new (.dic (mergeD ps))) z1) R := rfl
@[simp] theorem x_take (i : Nat) : wTake i z Q R = ∃ o, z.σ[i]? = some (.own o) ∧ Q (.d o.frz) { z with σ := z.σ.set i (.d o.frz) } := rfl
@[simp ↓] theorem x_push (i : Nat) : wPush i u z D0 R = ∃ o, z.σ[i]? = some (.own o) ∧ u { σ := z.σ.set i (.cel z.S.length), S := z.S ++ [o] } D0 R := rfl
@[simp ↓] theorem x_mut (f : FM) (as : WAs) : wMut f a as z Q R = a z (fun x z1 => (∃ pl xs, plOf z1 (fz x) = some pl ∧ getO z1 pl = some (.lst xs)) ∧ as z1 (fun ws z2 => ∃ pl xs ds, plOf z2 (fz x) = some pl ∧ getO z2 pl = some (.lst xs) ∧ allD ws = some ds ∧ f xs ds fun y xs' => Q (.d y) (Eng.setO z2 pl (.lst xs'))) R) R := rfl
@[simp ↓] theorem x_set (i : Nat) : wSet i a z D0 R = a z (fun x z' => setQ i D0 (fz x) z') R := rfl
@[simp] theorem x_setQ_d (i : Nat) (d : D) : setQ i D0 (.d d) z = D0.nx { z with σ := z.σ.set i (.d d) } := rfl
@[simp] theorem x_setQ_c (i j : Nat) : setQ i D0 (.cel j) z = D0.nx { z with σ := z.σ.set i (.cel j) } := rfl
@[simp ↓] theorem x_setO (i : Nat) : wSetO i a z D0 R = a z (fun x z1 => match x with
  | .new o => D0.nx { z1 with σ := z1.σ.set i (.own o) }
  | _ => False) R := rfl
@[simp ↓] theorem x_asg (g : WG) : wAsg a g z D0 R = a z (fun x z1 => asD x fun d => g d z1 D0.nx R) R := by simp only [← asD_ex]; rfl
@[simp ↓] theorem x_aug (i : Nat) (f : F2) : wAug i f a z D0 R = ∃ d, z.σ[i]? = some (.d d) ∧ a z (fun y z1 => ∃ e, rd z1 (fz y) = some e ∧ f d e fun w => match w with
  | .d x => D0.nx { z1 with σ := z1.σ.set i (.d x) }
  | _ => False) R := rfl
@[simp ↓] theorem x_dput : wDPut a b c z D0 R = c z (fun x z1 => ∃ d, fz x = .d d ∧ a z1 (fun y z2 => b z2 (fun i z3 => ∃ pl kvs k kd, plOf z3 (fz y) = some pl ∧ getO z3 pl = some (.dic kvs) ∧ fz i = .d kd ∧ keyD kd = some k ∧ kvs.length < sizeLine ∧ D0.nx (Eng.setO z3 pl (.dic (putKD kvs k d)))) R) R) R := rfl
variable {d : D} {QZ : Z → Prop} {g : WG} {gs : WGs}
@[simp] theorem x_gN (i : Nat) : gN i d z QZ R = QZ { z with σ := z.σ.set i (.d d) } := rfl
@[simp ↓] theorem x_gNil : gNil [] z QZ R = QZ z := by simp [gNil]
@[simp ↓] theorem x_gCons (d : D) (ds : List D) : gCons g gs (d :: ds) z QZ R = g d z (fun z1 => gs ds z1 QZ R) R := by simp [gCons, and_assoc]
@[simp ↓] theorem x_gT (n : Nat) (ds : List D) : gT n gs (.tup ds) z QZ R = (ds.length = n ∧ gs ds z QZ R) := by simp [gT]
@[simp ↓] theorem x_gStar (n : Nat) (ds : List D) : gStar n gs (.tup ds) z QZ R = (n ≤ ds.length ∧ ds.length ≤ 16384 ∧ gs (ds.take n ++ [.lst (ds.drop n)]) z QZ R) := by simp [gStar]
@[simp ↓] theorem x_gIx : gIx a b d z QZ R = a z (fun x z1 => b z1 (fun y z2 => ∃ pl xs i j, plOf z2 (fz x) = some pl ∧ getO z2 pl = some (.lst xs) ∧ fz y = .d (.int i) ∧ ixN xs.length i = some j ∧ QZ (Eng.setO z2 pl (.lst (xs.set j d)))) R) R := rfl
@[simp ↓] theorem x_par2 (i j : Nat) (as : WAs) : wPar2 i j as z D0 R = as z (fun ws z1 => ∃ u v, ws = [u, v] ∧ okW u ∧ okW v ∧ D0.nx (setW j v (setW i u z1))) R := rfl
@[simp ↓] theorem x_par3 (i j l : Nat) (as : WAs) : wPar3 i j l as z D0 R = as z (fun ws z1 => ∃ u v w, ws = [u, v, w] ∧ okW u ∧ okW v ∧ okW w ∧ D0.nx (setW l w (setW j v (setW i u z1)))) R := rfl
@[simp] theorem x_setW_d (i : Nat) (x : D) : setW i (.d x) z = { z with σ := z.σ.set i (.d x) } := rfl
@[simp] theorem x_setW_c (i j : Nat) : setW i (.cel j) z = { z with σ := z.σ.set i (.cel j) } := rfl
@[simp] theorem x_setW_n (i : Nat) (o : OV) : setW i (.new o) z = { z with σ := z.σ.set i (.own o) } := rfl
@[simp ↓] theorem x_okW_d (x : D) : okW (.d x) = True := rfl
@[simp ↓] theorem x_okW_c (j : Nat) : okW (.cel j) = True := rfl
@[simp ↓] theorem x_okW_n (o : OV) : okW (.new o) = True := rfl
@[simp ↓] theorem x_rd_d (x : D) : rd z (.d x) = some x := rfl
@[simp ↓] theorem x_rd_c (j : Nat) : rd z (.cel j) = (z.S[j]?).bind OV.dat := rfl
@[simp] theorem x_rd_s (i : Nat) : rd z (.slot i) = match z.σ[i]? with
  | some (.d x) => some x
  | some (.own o) => o.dat
  | some (.cel j) => (z.S[j]?).bind OV.dat
  | _ => none := rfl
@[simp ↓] theorem x_rdA_n : rdAll z [] = some [] := rfl
@[simp ↓] theorem x_rdA_c (w : W) (ws : List W) : rdAll z (w :: ws) = match rd z w, rdAll z ws with
    | some d, some ds => some (d :: ds)
    | _, _ => none := rfl
@[simp ↓] theorem x_allD_n : allD [] = some [] := rfl
@[simp ↓] theorem x_allD_c (x : D) (ws : List W) : allD (.d x :: ws) = match allD ws with
    | some xs => some (x :: xs)
    | none => none := rfl
@[simp ↓] theorem x_pl_c (j : Nat) : plOf z (.cel j) = some (.cell j) := rfl
@[simp] theorem x_pl_s (i : Nat) : plOf z (.slot i) = match z.σ[i]? with
    | some (.own _) => some (.slot i)
    | some (.cel j) => some (.cell j)
    | _ => none := rfl
@[simp] theorem x_get_s (i : Nat) : getO z (.slot i) = match z.σ[i]? with
    | some (.own o) => some o
    | _ => none := rfl
@[simp ↓] theorem x_get_c (j : Nat) : getO z (.cell j) = z.S[j]? := rfl
@[simp ↓] theorem x_setO_s (i : Nat) (o : OV) : Eng.setO z (.slot i) o = { z with σ := z.σ.set i (.own o) } := rfl
@[simp ↓] theorem x_setO_c (j : Nat) (o : OV) : Eng.setO z (.cell j) o = { z with S := z.S.set j o } := rfl
@[simp ↓] theorem x_argB_d (x : D) : argB (.d x) = true := rfl
@[simp ↓] theorem x_argB_c (j : Nat) : argB (.cel j) = true := rfl
/-! ### operators at known kinds -/
variable {kk : W → Prop}
@[simp ↓] theorem x_add_i (i j : Int) : fAdd (.int i) (.int j) kk = kk (.d (.int (i + j))) := rfl
@[simp ↓] theorem x_add_t (i j : List Eng.D) : fAdd (.tup i) (.tup j) kk = (i.length + j.length ≤ sizeLine ∧ kk (.d (.tup (i ++ j)))) := rfl
@[simp ↓] theorem x_add_l (i j : List Eng.D) : fAdd (.lst i) (.lst j) kk = (i.length + j.length ≤ sizeLine ∧ kk (.new (.lst (i ++ j)))) := rfl
@[simp ↓] theorem x_addI (i j : Int) : fAddI (.int i) (.int j) kk = kk (.d (.int (i + j))) := rfl
@[simp ↓] theorem x_sub (i j : Int) : fSub (.int i) (.int j) kk = kk (.d (.int (i - j))) := rfl
@[simp ↓] theorem x_mul (i j : Int) : fMul (.int i) (.int j) kk = (CMulW' i j ∧ kk (.d (.int (i * j)))) := rfl
@[simp ↓] theorem x_div (i j : Int) : fDiv (.int i) (.int j) kk = ((0 < j ∧ j.natAbs < 2 ^ 8000) ∧ kk (.d (.int (i / j)))) := rfl
@[simp ↓] theorem x_mod (i j : Int) : fMod (.int i) (.int j) kk = (0 < j ∧ kk (.d (.int (i % j)))) := rfl
@[simp ↓] theorem x_pow (i j : Int) : fPow (.int i) (.int j) kk = (CPow i j ∧ kk (.d (.int (i ^ j.toNat)))) := rfl
@[simp ↓] theorem x_neg (i : Int) : fNeg (.int i) kk = kk (.d (.int (-i))) := rfl
@[simp ↓] theorem x_cmp (p : Int → Int → Bool) (i j : Int) : fCmp p (.int i) (.int j) kk = kk (.d (.bl (p i j))) := rfl
@[simp ↓] theorem x_isN_n (neg : Bool) : fIsN neg .non .non kk = kk (.d (.bl (!neg))) := by unfold fIsN; simp
@[simp ↓] theorem x_isN_t (neg : Bool) (xs : List Eng.D) : fIsN neg (.tup xs) .non kk = kk (.d (.bl neg)) := by unfold fIsN; simp
@[simp ↓] theorem x_isN_i (neg : Bool) (i : Int) : fIsN neg (.int i) .non kk = kk (.d (.bl neg)) := by unfold fIsN; simp
@[simp ↓] theorem x_isB (neg x y : Bool) : fIsB neg (.bl x) (.bl y) kk = kk (.d (.bl (if neg then !decide (x = y) else decide (x = y)))) := by unfold fIsB; simp
@[simp] theorem x_ix_l (xs : List Eng.D) (i : Int) : fIx (.lst xs) (.int i) kk = opK (atI xs i) fun y => kk (.d y) := by simp only [rdf, ← opK_ex]; rfl
@[simp] theorem x_ix_t (xs : List Eng.D) (i : Int) : fIx (.tup xs) (.int i) kk = opK (atI xs i) fun y => kk (.d y) := by simp only [rdf, ← opK_ex]; rfl
@[simp ↓] theorem x_sl_t (xs : List Eng.D) (l h : Option Int) : fSl (.tup xs) l h kk = kk (.d (.tup (cutD xs l h))) := rfl
@[simp ↓] theorem x_sl_l (xs : List Eng.D) (l h : Option Int) : fSl (.lst xs) l h kk = kk (.new (.lst (cutD xs l h))) := rfl
@[simp ↓] theorem x_sl_s (xs : List Int) (l h : Option Int) : fSl (.scr xs) l h kk = kk (.new (.lst ((cutD xs l h).map D.int))) := rfl
variable {kB : W → Prop}
@[simp ↓] theorem x_len_l (xs : List Eng.D) : fLen [.lst xs] kk = kk (.d (.int xs.length)) := rfl
@[simp ↓] theorem x_len_t (xs : List Eng.D) : fLen [.tup xs] kk = kk (.d (.int xs.length)) := rfl
@[simp ↓] theorem x_len_s (xs : List Int) : fLen [.scr xs] kk = kk (.d (.int xs.length)) := rfl
@[simp ↓] theorem x_len_z (s : Str) : fLen [.str s] kk = (s.length ≤ sizeLine ∧ kk (.d (.int s.length))) := rfl
@[simp ↓] theorem x_abs (i : Int) : fAbs [.int i] kk = kk (.d (.int (if i < 0 then -i else i))) := rfl
@[simp ↓] theorem x_max2 (i j : Int) : fMax2 [.int i, .int j] kk = kk (.d (.int (if j > i then j else i))) := rfl
@[simp ↓] theorem x_min2 (i j : Int) : fMin2 [.int i, .int j] kk = kk (.d (.int (if j < i then j else i))) := rfl
@[simp ↓] theorem x_int1_i (i : Int) : fInt1 [.int i] kk = kk (.d (.int i)) := rfl
@[simp ↓] theorem x_int1_b (b : Bool) : fInt1 [.bl b] kk = kk (.d (.int (if b then 1 else 0))) := rfl
@[simp ↓] theorem x_strI (i : Int) : fStrI [.int i] kk = (i.natAbs.log2 < 1920 ∧ kk (.d (.str (toString i)))) := rfl
@[simp ↓] theorem x_listOf (d : Eng.D) : fListOf [d] kk = seqK d fun xs => kk (.new (.lst xs)) := by simp only [seqK, ← opK_ex]; unfold fListOf; simp
@[simp ↓] theorem x_tupOf_l (xs : List Eng.D) : fTupOf [.lst xs] kk = kk (.d (.tup xs)) := rfl
@[simp ↓] theorem x_tupOf_t (xs : List Eng.D) : fTupOf [.tup xs] kk = kk (.d (.tup xs)) := rfl
@[simp ↓] theorem x_ty_n : tyD .non = some "NoneType" := rfl
@[simp ↓] theorem x_ty_b (b : Bool) : tyD (.bl b) = some "bool" := rfl
@[simp ↓] theorem x_ty_i (i : Int) : tyD (.int i) = some "int" := rfl
@[simp ↓] theorem x_ty_s (i : Str) : tyD (.str i) = some "str" := rfl
@[simp ↓] theorem x_ty_t (i : List Eng.D) : tyD (.tup i) = some "tuple" := rfl
@[simp ↓] theorem x_ty_l (i : List Eng.D) : tyD (.lst i) = some "list" := rfl
@[simp ↓] theorem x_seqD_l (i : List Eng.D) : seqD (.lst i) = some i := rfl
@[simp ↓] theorem x_seqD_t (i : List Eng.D) : seqD (.tup i) = some i := rfl
@[simp ↓] theorem x_seqD_s (i : List Int) : seqD (.scr i) = some (i.map D.int) := rfl
@[simp ↓] theorem x_pLt (i j : Int) : pLt i j = decide (i < j) := rfl
@[simp ↓] theorem x_pLe (i j : Int) : pLe i j = decide (i ≤ j) := rfl
@[simp ↓] theorem x_pGt (i j : Int) : pGt i j = decide (j < i) := rfl
@[simp ↓] theorem x_pGe (i j : Int) : pGe i j = decide (j ≤ i) := rfl
end
def oneI : List W → Option Int
  | [.d (.int j)] => some j
  | _ => none
def twoI : List W → Option (Int × Int)
  | [.d (.int i), .d (.int j)] => some (i, j)
  | _ => none
@[simp ↓] theorem x_oneI (j : Int) : oneI [.d (.int j)] = some j := rfl
@[simp ↓] theorem x_twoI (i j : Int) : twoI [.d (.int i), .d (.int j)] = some (i, j) := rfl
@[simp ↓] theorem x_at0 {α : Type} (xs : List α) : atI xs 0 = xs[0]? := atI_n xs 0
@[simp ↓] theorem x_at1 {α : Type} (xs : List α) : atI xs 1 = xs[1]? := atI_n xs 1
@[simp ↓] theorem x_atN {α : Type} (xs : List α) (n : Nat) : atI xs (no_index (OfNat.ofNat n : Int)) = xs[n]? := atI_n xs n
section
variable {z : Z} {R : XR} {QI : List D → Option W → Z → Prop} {a : WE} {D0 : Ed}
@[simp ↓] theorem x_iData : iData a z QI R = a z (fun x z1 => rdf z1 x fun d => seqK d fun xs => (srcOf (fz x) = none ∨ d = .lst xs) ∧ QI xs (srcOf (fz x)) z1) R := by
  have e : ∀ (x : W) (z1 : Z), (∃ d xs, rd z1 (fz x) = some d ∧ seqD d = some xs ∧ (srcOf (fz x) = none ∨ d = .lst xs) ∧ QI xs (srcOf (fz x)) z1) = rdf z1 x fun d => seqK d fun xs => (srcOf (fz x) = none ∨ d = .lst xs) ∧ QI xs (srcOf (fz x)) z1 := fun x z1 => by
    unfold rdf seqK; cases rd z1 (fz x) <;> simp [← opK_ex]
  show a z (fun x z1 => ∃ d xs, rd z1 (fz x) = some d ∧ seqD d = some xs ∧ (srcOf (fz x) = none ∨ d = .lst xs) ∧ QI xs (srcOf (fz x)) z1) R = _
  congr 1
  funext x z1
  exact e x z1
@[simp ↓] theorem x_src_d (x : D) : srcOf (.d x) = none := rfl
@[simp ↓] theorem x_src_s (i : Nat) : srcOf (.slot i) = some (.slot i) := rfl
@[simp ↓] theorem x_src_c (i : Nat) : srcOf (.cel i) = some (.cel i) := rfl
@[simp ↓] theorem x_iR1 (as : WAs) : iR1 as z QI R = as z (fun ws z1 => opK (oneI ws) fun j => -(2 ^ 62) ≤ j ∧ j < 2 ^ 62 ∧ QI (rngD 0 j.toNat) none z1) R := by
  have e : ∀ (ws : List W) (k : Int → Prop), (∃ j : Int, ws = [.d (.int j)] ∧ k j) = opK (oneI ws) k := fun ws k => by
    unfold oneI; split <;> simp_all
  show as z (fun ws z1 => ∃ j : Int, ws = [.d (.int j)] ∧ -(2 ^ 62) ≤ j ∧ j < 2 ^ 62 ∧ QI (rngD 0 j.toNat) none z1) R = _
  congr 1
  funext ws z1
  exact e ws _
@[simp ↓] theorem x_iR2 (as : WAs) : iR2 as z QI R = as z (fun ws z1 => opK (twoI ws) fun p => (-(2 ^ 62) ≤ p.1 ∧ p.1 < 2 ^ 62 ∧ -(2 ^ 62) ≤ p.2 ∧ p.2 < 2 ^ 62) ∧ QI (rngD p.1 (p.2 - p.1).toNat) none z1) R := by
  have e : ∀ (ws : List W) (k : Int → Int → Prop), (∃ i j : Int, ws = [.d (.int i), .d (.int j)] ∧ k i j) = opK (twoI ws) fun p => k p.1 p.2 := fun ws k => by
    unfold twoI; split <;> simp_all [and_assoc]
  show as z (fun ws z1 => ∃ i j : Int, ws = [.d (.int i), .d (.int j)] ∧ (-(2 ^ 62) ≤ i ∧ i < 2 ^ 62 ∧ -(2 ^ 62) ≤ j ∧ j < 2 ^ 62) ∧ QI (rngD i (j - i).toNat) none z1) R = _
  congr 1
  funext ws z1
  exact e ws fun i j => (-(2 ^ 62) ≤ i ∧ i < 2 ^ 62 ∧ -(2 ^ 62) ≤ j ∧ j < 2 ^ 62) ∧ QI (rngD i (j - i).toNat) none z1
@[simp ↓] theorem x_for (wi : WI) (g : WG) (b : WS) : wFor wi g b z D0 R = wi z (fun xs src z1 => src = none ∧ fLoop g b D0 R xs z1) R := rfl
@[simp ↓] theorem x_comp (vs : List Nat) (wi : WI) (g : WG) (t : WT) (el : WE) (Q : W → Z → Prop) : wComp vs wi g t el z Q R = wi z (fun xs src z1 => cLoop vs (srcP xs src) g t el (fun acc z2 => Q (.new (.lst acc)) (backS z1 z2 vs)) xs [] (wipeZ z1 vs)) R := rfl
@[simp ↓] theorem x_yes (Q : Bool → Z → Prop) : wYes z Q R = Q true z := rfl
end
@[simp ↓] theorem x_isi_int_int : isiB "int" "int" = true := by decide
@[simp ↓] theorem x_isi_int_bool : isiB "int" "bool" = false := by decide
@[simp ↓] theorem x_isi_int_str : isiB "int" "str" = false := by decide
@[simp ↓] theorem x_isi_int_tuple : isiB "int" "tuple" = false := by decide
@[simp ↓] theorem x_isi_int_list : isiB "int" "list" = false := by decide
@[simp ↓] theorem x_isi_bool_int : isiB "bool" "int" = true := by decide
@[simp ↓] theorem x_isi_bool_bool : isiB "bool" "bool" = true := by decide
@[simp ↓] theorem x_isi_bool_str : isiB "bool" "str" = false := by decide
@[simp ↓] theorem x_isi_bool_tuple : isiB "bool" "tuple" = false := by decide
@[simp ↓] theorem x_isi_bool_list : isiB "bool" "list" = false := by decide
@[simp ↓] theorem x_isi_str_int : isiB "str" "int" = false := by decide
@[simp ↓] theorem x_isi_str_bool : isiB "str" "bool" = false := by decide
@[simp ↓] theorem x_isi_str_str : isiB "str" "str" = true := by decide
@[simp ↓] theorem x_isi_str_tuple : isiB "str" "tuple" = false := by decide
@[simp ↓] theorem x_isi_str_list : isiB "str" "list" = false := by decide
@[simp ↓] theorem x_isi_tuple_int : isiB "tuple" "int" = false := by decide
@[simp ↓] theorem x_isi_tuple_bool : isiB "tuple" "bool" = false := by decide
@[simp ↓] theorem x_isi_tuple_str : isiB "tuple" "str" = false := by decide
@[simp ↓] theorem x_isi_tuple_tuple : isiB "tuple" "tuple" = true := by decide
@[simp ↓] theorem x_isi_tuple_list : isiB "tuple" "list" = false := by decide
@[simp ↓] theorem x_isi_list_int : isiB "list" "int" = false := by decide
@[simp ↓] theorem x_isi_list_bool : isiB "list" "bool" = false := by decide
@[simp ↓] theorem x_isi_list_str : isiB "list" "str" = false := by decide
@[simp ↓] theorem x_isi_list_tuple : isiB "list" "tuple" = false := by decide
@[simp ↓] theorem x_isi_list_list : isiB "list" "list" = true := by decide
@[simp ↓] theorem x_isi_NoneType_int : isiB "NoneType" "int" = false := by decide
@[simp ↓] theorem x_isi_NoneType_bool : isiB "NoneType" "bool" = false := by decide
@[simp ↓] theorem x_isi_NoneType_str : isiB "NoneType" "str" = false := by decide
@[simp ↓] theorem x_isi_NoneType_tuple : isiB "NoneType" "tuple" = false := by decide
@[simp ↓] theorem x_isi_NoneType_list : isiB "NoneType" "list" = false := by decide
@[simp ↓] theorem x_isi_dict_int : isiB "dict" "int" = false := by decide
@[simp ↓] theorem x_isi_dict_bool : isiB "dict" "bool" = false := by decide
@[simp ↓] theorem x_isi_dict_str : isiB "dict" "str" = false := by decide
@[simp ↓] theorem x_isi_dict_tuple : isiB "dict" "tuple" = false := by decide
@[simp ↓] theorem x_isi_dict_list : isiB "dict" "list" = false := by decide
section
variable {a0 a1 a2 a3 a4 a5 a6 a7 a8 a9 a10 a11 a12 a13 a14 a15 : SV} {b0 b1 b2 b3 b4 b5 b6 b7 b8 b9 y0 : SV} {l : List SV} {S : List OV} {Q : W → Z → Prop} {R : XR} {x : D} {j : Nat} {o : OV} {D0 : Ed} {QZ : Z → Prop} {k : D → Prop}
@[simp ↓] theorem v_d0 : wVar 0 ⟨.d x :: l, S⟩ Q R = Q (.d x) ⟨.d x :: l, S⟩ := rfl
@[simp ↓] theorem v_o0 : wVar 0 ⟨.own o :: l, S⟩ Q R = Q (.slot 0) ⟨.own o :: l, S⟩ := rfl
@[simp ↓] theorem v_c0 : wVar 0 ⟨.cel j :: l, S⟩ Q R = Q (.cel j) ⟨.cel j :: l, S⟩ := rfl
@[simp] theorem v_rd0 : rdf ⟨.own o :: l, S⟩ (.slot 0) k = opK o.dat k := rfl
@[simp ↓] theorem v_rl0 {xs : List D} : rdf ⟨.own (.lst xs) :: l, S⟩ (.slot 0) k = k (.lst xs) := rfl
@[simp ↓] theorem v_rk0 {xs : List (Key × D)} : rdf ⟨.own (.dic xs) :: l, S⟩ (.slot 0) k = k (.dct xs) := rfl
@[simp ↓] theorem v_sq0 : setQ 0 D0 (.d x) ⟨y0 :: l, S⟩ = D0.nx ⟨.d x :: l, S⟩ := rfl
@[simp ↓] theorem v_sn0 : setQ 0 D0 (fz (.new o)) ⟨y0 :: l, S⟩ = D0.nx ⟨.d o.frz :: l, S⟩ := rfl
@[simp ↓] theorem v_sf0 : setQ 0 D0 (fz (.d x)) ⟨y0 :: l, S⟩ = D0.nx ⟨.d x :: l, S⟩ := rfl
@[simp ↓] theorem v_sc0 : setQ 0 D0 (.cel j) ⟨y0 :: l, S⟩ = D0.nx ⟨.cel j :: l, S⟩ := rfl
@[simp ↓] theorem v_gN0 : gN 0 x ⟨y0 :: l, S⟩ QZ R = QZ ⟨.d x :: l, S⟩ := rfl
@[simp ↓] theorem v_wd0 : setW 0 (.d x) ⟨y0 :: l, S⟩ = ⟨.d x :: l, S⟩ := rfl
@[simp ↓] theorem v_wn0 : setW 0 (.new o) ⟨y0 :: l, S⟩ = ⟨.own o :: l, S⟩ := rfl
@[simp ↓] theorem v_tk0 : wTake 0 ⟨.own o :: l, S⟩ Q R = Q (.d o.frz) ⟨.d o.frz :: l, S⟩ := by simp [wTake]
@[simp ↓] theorem v_tl0 {xs : List D} : wTake 0 ⟨.own (.lst xs) :: l, S⟩ Q R = Q (.d (.lst xs)) ⟨.d (.lst xs) :: l, S⟩ := by simp [wTake]
@[simp ↓] theorem v_d1 : wVar 1 ⟨a0 :: .d x :: l, S⟩ Q R = Q (.d x) ⟨a0 :: .d x :: l, S⟩ := rfl
@[simp ↓] theorem v_o1 : wVar 1 ⟨a0 :: .own o :: l, S⟩ Q R = Q (.slot 1) ⟨a0 :: .own o :: l, S⟩ := rfl
@[simp ↓] theorem v_c1 : wVar 1 ⟨a0 :: .cel j :: l, S⟩ Q R = Q (.cel j) ⟨a0 :: .cel j :: l, S⟩ := rfl
@[simp] theorem v_rd1 : rdf ⟨a0 :: .own o :: l, S⟩ (.slot 1) k = opK o.dat k := rfl
@[simp ↓] theorem v_rl1 {xs : List D} : rdf ⟨a0 :: .own (.lst xs) :: l, S⟩ (.slot 1) k = k (.lst xs) := rfl
@[simp ↓] theorem v_rk1 {xs : List (Key × D)} : rdf ⟨a0 :: .own (.dic xs) :: l, S⟩ (.slot 1) k = k (.dct xs) := rfl
@[simp ↓] theorem v_sq1 : setQ 1 D0 (.d x) ⟨a0 :: y0 :: l, S⟩ = D0.nx ⟨a0 :: .d x :: l, S⟩ := rfl
@[simp ↓] theorem v_sn1 : setQ 1 D0 (fz (.new o)) ⟨a0 :: y0 :: l, S⟩ = D0.nx ⟨a0 :: .d o.frz :: l, S⟩ := rfl
@[simp ↓] theorem v_sf1 : setQ 1 D0 (fz (.d x)) ⟨a0 :: y0 :: l, S⟩ = D0.nx ⟨a0 :: .d x :: l, S⟩ := rfl
@[simp ↓] theorem v_sc1 : setQ 1 D0 (.cel j) ⟨a0 :: y0 :: l, S⟩ = D0.nx ⟨a0 :: .cel j :: l, S⟩ := rfl
@[simp ↓] theorem v_gN1 : gN 1 x ⟨a0 :: y0 :: l, S⟩ QZ R = QZ ⟨a0 :: .d x :: l, S⟩ := rfl
@[simp ↓] theorem v_wd1 : setW 1 (.d x) ⟨a0 :: y0 :: l, S⟩ = ⟨a0 :: .d x :: l, S⟩ := rfl
@[simp ↓] theorem v_wn1 : setW 1 (.new o) ⟨a0 :: y0 :: l, S⟩ = ⟨a0 :: .own o :: l, S⟩ := rfl
@[simp ↓] theorem v_tk1 : wTake 1 ⟨a0 :: .own o :: l, S⟩ Q R = Q (.d o.frz) ⟨a0 :: .d o.frz :: l, S⟩ := by simp [wTake]
@[simp ↓] theorem v_tl1 {xs : List D} : wTake 1 ⟨a0 :: .own (.lst xs) :: l, S⟩ Q R = Q (.d (.lst xs)) ⟨a0 :: .d (.lst xs) :: l, S⟩ := by simp [wTake]
@[simp ↓] theorem v_d2 : wVar 2 ⟨a0 :: a1 :: .d x :: l, S⟩ Q R = Q (.d x) ⟨a0 :: a1 :: .d x :: l, S⟩ := rfl
@[simp ↓] theorem v_o2 : wVar 2 ⟨a0 :: a1 :: .own o :: l, S⟩ Q R = Q (.slot 2) ⟨a0 :: a1 :: .own o :: l, S⟩ := rfl
@[simp ↓] theorem v_c2 : wVar 2 ⟨a0 :: a1 :: .cel j :: l, S⟩ Q R = Q (.cel j) ⟨a0 :: a1 :: .cel j :: l, S⟩ := rfl
@[simp] theorem v_rd2 : rdf ⟨a0 :: a1 :: .own o :: l, S⟩ (.slot 2) k = opK o.dat k := rfl
@[simp ↓] theorem v_rl2 {xs : List D} : rdf ⟨a0 :: a1 :: .own (.lst xs) :: l, S⟩ (.slot 2) k = k (.lst xs) := rfl
@[simp ↓] theorem v_rk2 {xs : List (Key × D)} : rdf ⟨a0 :: a1 :: .own (.dic xs) :: l, S⟩ (.slot 2) k = k (.dct xs) := rfl
@[simp ↓] theorem v_sq2 : setQ 2 D0 (.d x) ⟨a0 :: a1 :: y0 :: l, S⟩ = D0.nx ⟨a0 :: a1 :: .d x :: l, S⟩ := rfl
@[simp ↓] theorem v_sn2 : setQ 2 D0 (fz (.new o)) ⟨a0 :: a1 :: y0 :: l, S⟩ = D0.nx ⟨a0 :: a1 :: .d o.frz :: l, S⟩ := rfl
@[simp ↓] theorem v_sf2 : setQ 2 D0 (fz (.d x)) ⟨a0 :: a1 :: y0 :: l, S⟩ = D0.nx ⟨a0 :: a1 :: .d x :: l, S⟩ := rfl
@[simp ↓] theorem v_sc2 : setQ 2 D0 (.cel j) ⟨a0 :: a1 :: y0 :: l, S⟩ = D0.nx ⟨a0 :: a1 :: .cel j :: l, S⟩ := rfl
@[simp ↓] theorem v_gN2 : gN 2 x ⟨a0 :: a1 :: y0 :: l, S⟩ QZ R = QZ ⟨a0 :: a1 :: .d x :: l, S⟩ := rfl
@[simp ↓] theorem v_wd2 : setW 2 (.d x) ⟨a0 :: a1 :: y0 :: l, S⟩ = ⟨a0 :: a1 :: .d x :: l, S⟩ := rfl
@[simp ↓] theorem v_wn2 : setW 2 (.new o) ⟨a0 :: a1 :: y0 :: l, S⟩ = ⟨a0 :: a1 :: .own o :: l, S⟩ := rfl
@[simp ↓] theorem v_tk2 : wTake 2 ⟨a0 :: a1 :: .own o :: l, S⟩ Q R = Q (.d o.frz) ⟨a0 :: a1 :: .d o.frz :: l, S⟩ := by simp [wTake]
@[simp ↓] theorem v_tl2 {xs : List D} : wTake 2 ⟨a0 :: a1 :: .own (.lst xs) :: l, S⟩ Q R = Q (.d (.lst xs)) ⟨a0 :: a1 :: .d (.lst xs) :: l, S⟩ := by simp [wTake]
@[simp ↓] theorem v_d3 : wVar 3 ⟨a0 :: a1 :: a2 :: .d x :: l, S⟩ Q R = Q (.d x) ⟨a0 :: a1 :: a2 :: .d x :: l, S⟩ := rfl
@[simp ↓] theorem v_o3 : wVar 3 ⟨a0 :: a1 :: a2 :: .own o :: l, S⟩ Q R = Q (.slot 3) ⟨a0 :: a1 :: a2 :: .own o :: l, S⟩ := rfl
@[simp ↓] theorem v_c3 : wVar 3 ⟨a0 :: a1 :: a2 :: .cel j :: l, S⟩ Q R = Q (.cel j) ⟨a0 :: a1 :: a2 :: .cel j :: l, S⟩ := rfl
@[simp] theorem v_rd3 : rdf ⟨a0 :: a1 :: a2 :: .own o :: l, S⟩ (.slot 3) k = opK o.dat k := rfl
@[simp ↓] theorem v_rl3 {xs : List D} : rdf ⟨a0 :: a1 :: a2 :: .own (.lst xs) :: l, S⟩ (.slot 3) k = k (.lst xs) := rfl
@[simp ↓] theorem v_rk3 {xs : List (Key × D)} : rdf ⟨a0 :: a1 :: a2 :: .own (.dic xs) :: l, S⟩ (.slot 3) k = k (.dct xs) := rfl
@[simp ↓] theorem v_sq3 : setQ 3 D0 (.d x) ⟨a0 :: a1 :: a2 :: y0 :: l, S⟩ = D0.nx ⟨a0 :: a1 :: a2 :: .d x :: l, S⟩ := rfl
@[simp ↓] theorem v_sn3 : setQ 3 D0 (fz (.new o)) ⟨a0 :: a1 :: a2 :: y0 :: l, S⟩ = D0.nx ⟨a0 :: a1 :: a2 :: .d o.frz :: l, S⟩ := rfl
@[simp ↓] theorem v_sf3 : setQ 3 D0 (fz (.d x)) ⟨a0 :: a1 :: a2 :: y0 :: l, S⟩ = D0.nx ⟨a0 :: a1 :: a2 :: .d x :: l, S⟩ := rfl
@[simp ↓] theorem v_sc3 : setQ 3 D0 (.cel j) ⟨a0 :: a1 :: a2 :: y0 :: l, S⟩ = D0.nx ⟨a0 :: a1 :: a2 :: .cel j :: l, S⟩ := rfl
@[simp ↓] theorem v_gN3 : gN 3 x ⟨a0 :: a1 :: a2 :: y0 :: l, S⟩ QZ R = QZ ⟨a0 :: a1 :: a2 :: .d x :: l, S⟩ := rfl
@[simp ↓] theorem v_wd3 : setW 3 (.d x) ⟨a0 :: a1 :: a2 :: y0 :: l, S⟩ = ⟨a0 :: a1 :: a2 :: .d x :: l, S⟩ := rfl
@[simp ↓] theorem v_wn3 : setW 3 (.new o) ⟨a0 :: a1 :: a2 :: y0 :: l, S⟩ = ⟨a0 :: a1 :: a2 :: .own o :: l, S⟩ := rfl
@[simp ↓] theorem v_tk3 : wTake 3 ⟨a0 :: a1 :: a2 :: .own o :: l, S⟩ Q R = Q (.d o.frz) ⟨a0 :: a1 :: a2 :: .d o.frz :: l, S⟩ := by simp [wTake]
@[simp ↓] theorem v_tl3 {xs : List D} : wTake 3 ⟨a0 :: a1 :: a2 :: .own (.lst xs) :: l, S⟩ Q R = Q (.d (.lst xs)) ⟨a0 :: a1 :: a2 :: .d (.lst xs) :: l, S⟩ := by simp [wTake]
@[simp ↓] theorem v_d4 : wVar 4 ⟨a0 :: a1 :: a2 :: a3 :: .d x :: l, S⟩ Q R = Q (.d x) ⟨a0 :: a1 :: a2 :: a3 :: .d x :: l, S⟩ := rfl
@[simp ↓] theorem v_o4 : wVar 4 ⟨a0 :: a1 :: a2 :: a3 :: .own o :: l, S⟩ Q R = Q (.slot 4) ⟨a0 :: a1 :: a2 :: a3 :: .own o :: l, S⟩ := rfl
@[simp ↓] theorem v_c4 : wVar 4 ⟨a0 :: a1 :: a2 :: a3 :: .cel j :: l, S⟩ Q R = Q (.cel j) ⟨a0 :: a1 :: a2 :: a3 :: .cel j :: l, S⟩ := rfl
@[simp] theorem v_rd4 : rdf ⟨a0 :: a1 :: a2 :: a3 :: .own o :: l, S⟩ (.slot 4) k = opK o.dat k := rfl
@[simp ↓] theorem v_rl4 {xs : List D} : rdf ⟨a0 :: a1 :: a2 :: a3 :: .own (.lst xs) :: l, S⟩ (.slot 4) k = k (.lst xs) := rfl
@[simp ↓] theorem v_rk4 {xs : List (Key × D)} : rdf ⟨a0 :: a1 :: a2 :: a3 :: .own (.dic xs) :: l, S⟩ (.slot 4) k = k (.dct xs) := rfl
@[simp ↓] theorem v_sq4 : setQ 4 D0 (.d x) ⟨a0 :: a1 :: a2 :: a3 :: y0 :: l, S⟩ = D0.nx ⟨a0 :: a1 :: a2 :: a3 :: .d x :: l, S⟩ := rfl
@[simp ↓] theorem v_sn4 : setQ 4 D0 (fz (.new o)) ⟨a0 :: a1 :: a2 :: a3 :: y0 :: l, S⟩ = D0.nx ⟨a0 :: a1 :: a2 :: a3 :: .d o.frz :: l, S⟩ := rfl
@[simp ↓] theorem v_sf4 : setQ 4 D0 (fz (.d x)) ⟨a0 :: a1 :: a2 :: a3 :: y0 :: l, S⟩ = D0.nx ⟨a0 :: a1 :: a2 :: a3 :: .d x :: l, S⟩ := rfl
@[simp ↓] theorem v_sc4 : setQ 4 D0 (.cel j) ⟨a0 :: a1 :: a2 :: a3 :: y0 :: l, S⟩ = D0.nx ⟨a0 :: a1 :: a2 :: a3 :: .cel j :: l, S⟩ := rfl
@[simp ↓] theorem v_gN4 : gN 4 x ⟨a0 :: a1 :: a2 :: a3 :: y0 :: l, S⟩ QZ R = QZ ⟨a0 :: a1 :: a2 :: a3 :: .d x :: l, S⟩ := rfl
@[simp ↓] theorem v_wd4 : setW 4 (.d x) ⟨a0 :: a1 :: a2 :: a3 :: y0 :: l, S⟩ = ⟨a0 :: a1 :: a2 :: a3 :: .d x :: l, S⟩ := rfl
@[simp ↓] theorem v_wn4 : setW 4 (.new o) ⟨a0 :: a1 :: a2 :: a3 :: y0 :: l, S⟩ = ⟨a0 :: a1 :: a2 :: a3 :: .own o :: l, S⟩ := rfl
@[simp ↓] theorem v_tk4 : wTake 4 ⟨a0 :: a1 :: a2 :: a3 :: .own o :: l, S⟩ Q R = Q (.d o.frz) ⟨a0 :: a1 :: a2 :: a3 :: .d o.frz :: l, S⟩ := by simp [wTake]
@[simp ↓] theorem v_tl4 {xs : List D} : wTake 4 ⟨a0 :: a1 :: a2 :: a3 :: .own (.lst xs) :: l, S⟩ Q R = Q (.d (.lst xs)) ⟨a0 :: a1 :: a2 :: a3 :: .d (.lst xs) :: l, S⟩ := by simp [wTake]
@[simp ↓] theorem v_d5 : wVar 5 ⟨a0 :: a1 :: a2 :: a3 :: a4 :: .d x :: l, S⟩ Q R = Q (.d x) ⟨a0 :: a1 :: a2 :: a3 :: a4 :: .d x :: l, S⟩ := rfl
@[simp ↓] theorem v_o5 : wVar 5 ⟨a0 :: a1 :: a2 :: a3 :: a4 :: .own o :: l, S⟩ Q R = Q (.slot 5) ⟨a0 :: a1 :: a2 :: a3 :: a4 :: .own o :: l, S⟩ := rfl
@[simp ↓] theorem v_c5 : wVar 5 ⟨a0 :: a1 :: a2 :: a3 :: a4 :: .cel j :: l, S⟩ Q R = Q (.cel j) ⟨a0 :: a1 :: a2 :: a3 :: a4 :: .cel j :: l, S⟩ := rfl
@[simp] theorem v_rd5 : rdf ⟨a0 :: a1 :: a2 :: a3 :: a4 :: .own o :: l, S⟩ (.slot 5) k = opK o.dat k := rfl
@[simp ↓] theorem v_rl5 {xs : List D} : rdf ⟨a0 :: a1 :: a2 :: a3 :: a4 :: .own (.lst xs) :: l, S⟩ (.slot 5) k = k (.lst xs) := rfl
@[simp ↓] theorem v_rk5 {xs : List (Key × D)} : rdf ⟨a0 :: a1 :: a2 :: a3 :: a4 :: .own (.dic xs) :: l, S⟩ (.slot 5) k = k (.dct xs) := rfl
@[simp ↓] theorem v_sq5 : setQ 5 D0 (.d x) ⟨a0 :: a1 :: a2 :: a3 :: a4 :: y0 :: l, S⟩ = D0.nx ⟨a0 :: a1 :: a2 :: a3 :: a4 :: .d x :: l, S⟩ := rfl
@[simp ↓] theorem v_sn5 : setQ 5 D0 (fz (.new o)) ⟨a0 :: a1 :: a2 :: a3 :: a4 :: y0 :: l, S⟩ = D0.nx ⟨a0 :: a1 :: a2 :: a3 :: a4 :: .d o.frz :: l, S⟩ := rfl
@[simp ↓] theorem v_sf5 : setQ 5 D0 (fz (.d x)) ⟨a0 :: a1 :: a2 :: a3 :: a4 :: y0 :: l, S⟩ = D0.nx ⟨a0 :: a1 :: a2 :: a3 :: a4 :: .d x :: l, S⟩ := rfl
@[simp ↓] theorem v_sc5 : setQ 5 D0 (.cel j) ⟨a0 :: a1 :: a2 :: a3 :: a4 :: y0 :: l, S⟩ = D0.nx ⟨a0 :: a1 :: a2 :: a3 :: a4 :: .cel j :: l, S⟩ := rfl
@[simp ↓] theorem v_gN5 : gN 5 x ⟨a0 :: a1 :: a2 :: a3 :: a4 :: y0 :: l, S⟩ QZ R = QZ ⟨a0 :: a1 :: a2 :: a3 :: a4 :: .d x :: l, S⟩ := rfl
@[simp ↓] theorem v_wd5 : setW 5 (.d x) ⟨a0 :: a1 :: a2 :: a3 :: a4 :: y0 :: l, S⟩ = ⟨a0 :: a1 :: a2 :: a3 :: a4 :: .d x :: l, S⟩ := rfl
@[simp ↓] theorem v_wn5 : setW 5 (.new o) ⟨a0 :: a1 :: a2 :: a3 :: a4 :: y0 :: l, S⟩ = ⟨a0 :: a1 :: a2 :: a3 :: a4 :: .own o :: l, S⟩ := rfl
@[simp ↓] theorem v_tk5 : wTake 5 ⟨a0 :: a1 :: a2 :: a3 :: a4 :: .own o :: l, S⟩ Q R = Q (.d o.frz) ⟨a0 :: a1 :: a2 :: a3 :: a4 :: .d o.frz :: l, S⟩ := by simp [wTake]
@[simp ↓] theorem v_tl5 {xs : List D} : wTake 5 ⟨a0 :: a1 :: a2 :: a3 :: a4 :: .own (.lst xs) :: l, S⟩ Q R = Q (.d (.lst xs)) ⟨a0 :: a1 :: a2 :: a3 :: a4 :: .d (.lst xs) :: l, S⟩ := by simp [wTake]
@[simp ↓] theorem v_d6 : wVar 6 ⟨a0 :: a1 :: a2 :: a3 :: a4 :: a5 :: .d x :: l, S⟩ Q R = Q (.d x) ⟨a0 :: a1 :: a2 :: a3 :: a4 :: a5 :: .d x :: l, S⟩ := rfl
@[simp ↓] theorem v_o6 : wVar 6 ⟨a0 :: a1 :: a2 :: a3 :: a4 :: a5 :: .own o :: l, S⟩ Q R = Q (.slot 6) ⟨a0 :: a1 :: a2 :: a3 :: a4 :: a5 :: .own o :: l, S⟩ := rfl
@[simp ↓] theorem v_c6 : wVar 6 ⟨a0 :: a1 :: a2 :: a3 :: a4 :: a5 :: .cel j :: l, S⟩ Q R = Q (.cel j) ⟨a0 :: a1 :: a2 :: a3 :: a4 :: a5 :: .cel j :: l, S⟩ := rfl
@[simp] theorem v_rd6 : rdf ⟨a0 :: a1 :: a2 :: a3 :: a4 :: a5 :: .own o :: l, S⟩ (.slot 6) k = opK o.dat k := rfl
@[simp ↓] theorem v_rl6 {xs : List D} : rdf ⟨a0 :: a1 :: a2 :: a3 :: a4 :: a5 :: .own (.lst xs) :: l, S⟩ (.slot 6) k = k (.lst xs) := rfl
@[simp ↓] theorem v_rk6 {xs : List (Key × D)} : rdf ⟨a0 :: a1 :: a2 :: a3 :: a4 :: a5 :: .own (.dic xs) :: l, S⟩ (.slot 6) k = k (.dct xs) := rfl
@[simp ↓] theorem v_sq6 : setQ 6 D0 (.d x) ⟨a0 :: a1 :: a2 :: a3 :: a4 :: a5 :: y0 :: l, S⟩ = D0.nx ⟨a0 :: a1 :: a2 :: a3 :: a4 :: a5 :: .d x :: l, S⟩ := rfl
@[simp ↓] theorem v_sn6 : setQ 6 D0 (fz (.new o)) ⟨a0 :: a1 :: a2 :: a3 :: a4 :: a5 :: y0 :: l, S⟩ = D0.nx ⟨a0 :: a1 :: a2 :: a3 :: a4 :: a5 :: .d o.frz :: l, S⟩ := rfl
@[simp ↓] theorem v_sf6 : setQ 6 D0 (fz (.d x)) ⟨a0 :: a1 :: a2 :: a3 :: a4 :: a5 :: y0 :: l, S⟩ = D0.nx ⟨a0 :: a1 :: a2 :: a3 :: a4 :: a5 :: .d x :: l, S⟩ := rfl
@[simp ↓] theorem v_sc6 : setQ 6 D0 (.cel j) ⟨a0 :: a1 :: a2 :: a3 :: a4 :: a5 :: y0 :: l, S⟩ = D0.nx ⟨a0 :: a1 :: a2 :: a3 :: a4 :: a5 :: .cel j :: l, S⟩ := rfl
@[simp ↓] theorem v_gN6 : gN 6 x ⟨a0 :: a1 :: a2 :: a3 :: a4 :: a5 :: y0 :: l, S⟩ QZ R = QZ ⟨a0 :: a1 :: a2 :: a3 :: a4 :: a5 :: .d x :: l, S⟩ := rfl
@[simp ↓] theorem v_wd6 : setW 6 (.d x) ⟨a0 :: a1 :: a2 :: a3 :: a4 :: a5 :: y0 :: l, S⟩ = ⟨a0 :: a1 :: a2 :: a3 :: a4 :: a5 :: .d x :: l, S⟩ := rfl
@[simp ↓] theorem v_wn6 : setW 6 (.new o) ⟨a0 :: a1 :: a2 :: a3 :: a4 :: a5 :: y0 :: l, S⟩ = ⟨a0 :: a1 :: a2 :: a3 :: a4 :: a5 :: .own o :: l, S⟩ := rfl
@[simp ↓] theorem v_tk6 : wTake 6 ⟨a0 :: a1 :: a2 :: a3 :: a4 :: a5 :: .own o :: l, S⟩ Q R = Q (.d o.frz) ⟨a0 :: a1 :: a2 :: a3 :: a4 :: a5 :: .d o.frz :: l, S⟩ := by simp [wTake]
@[simp ↓] theorem v_tl6 {xs : List D} : wTake 6 ⟨a0 :: a1 :: a2 :: a3 :: a4 :: a5 :: .own (.lst xs) :: l, S⟩ Q R = Q (.d (.lst xs)) ⟨a0 :: a1 :: a2 :: a3 :: a4 :: a5 :: .d (.lst xs) :: l, S⟩ := by simp [wTake]
@[simp ↓] theorem v_d7 : wVar 7 ⟨a0 :: a1 :: a2 :: a3 :: a4 :: a5 :: a6 :: .d x :: l, S⟩ Q R = Q (.d x) ⟨a0 :: a1 :: a2 :: a3 :: a4 :: a5 :: a6 :: .d x :: l, S⟩ := rfl
@[simp ↓] theorem v_o7 : wVar 7 ⟨a0 :: a1 :: a2 :: a3 :: a4 :: a5 :: a6 :: .own o :: l, S⟩ Q R = Q (.slot 7) ⟨a0 :: a1 :: a2 :: a3 :: a4 :: a5 :: a6 :: .own o :: l, S⟩ := rfl
@[simp ↓] theorem v_c7 : wVar 7 ⟨a0 :: a1 :: a2 :: a3 :: a4 :: a5 :: a6 :: .cel j :: l, S⟩ Q R = Q (.cel j) ⟨a0 :: a1 :: a2 :: a3 :: a4 :: a5 :: a6 :: .cel j :: l, S⟩ := rfl
@[simp] theorem v_rd7 : rdf ⟨a0 :: a1 :: a2 :: a3 :: a4 :: a5 :: a6 :: .own o :: l, S⟩ (.slot 7) k = opK o.dat k := rfl
@[simp ↓] theorem v_rl7 {xs : List D} : rdf ⟨a0 :: a1 :: a2 :: a3 :: a4 :: a5 :: a6 :: .own (.lst xs) :: l, S⟩ (.slot 7) k = k (.lst xs) := rfl
@[simp ↓] theorem v_rk7 {xs : List (Key × D)} : rdf ⟨a0 :: a1 :: a2 :: a3 :: a4 :: a5 :: a6 :: .own (.dic xs) :: l, S⟩ (.slot 7) k = k (.dct xs) := rfl
@[simp ↓] theorem v_sq7 : setQ 7 D0 (.d x) ⟨a0 :: a1 :: a2 :: a3 :: a4 :: a5 :: a6 :: y0 :: l, S⟩ = D0.nx ⟨a0 :: a1 :: a2 :: a3 :: a4 :: a5 :: a6 :: .d x :: l, S⟩ := rfl
@[simp ↓] theorem v_sn7 : setQ 7 D0 (fz (.new o)) ⟨a0 :: a1 :: a2 :: a3 :: a4 :: a5 :: a6 :: y0 :: l, S⟩ = D0.nx ⟨a0 :: a1 :: a2 :: a3 :: a4 :: a5 :: a6 :: .d o.frz :: l, S⟩ := rfl
@[simp ↓] theorem v_sf7 : setQ 7 D0 (fz (.d x)) ⟨a0 :: a1 :: a2 :: a3 :: a4 :: a5 :: a6 :: y0 :: l, S⟩ = D0.nx ⟨a0 :: a1 :: a2 :: a3 :: a4 :: a5 :: a6 :: .d x :: l, S⟩ := rfl
@[simp ↓] theorem v_sc7 : setQ 7 D0 (.cel j) ⟨a0 :: a1 :: a2 :: a3 :: a4 :: a5 :: a6 :: y0 :: l, S⟩ = D0.nx ⟨a0 :: a1 :: a2 :: a3 :: a4 :: a5 :: a6 :: .cel j :: l, S⟩ := rfl
@[simp ↓] theorem v_gN7 : gN 7 x ⟨a0 :: a1 :: a2 :: a3 :: a4 :: a5 :: a6 :: y0 :: l, S⟩ QZ R = QZ ⟨a0 :: a1 :: a2 :: a3 :: a4 :: a5 :: a6 :: .d x :: l, S⟩ := rfl
@[simp ↓] theorem v_wd7 : setW 7 (.d x) ⟨a0 :: a1 :: a2 :: a3 :: a4 :: a5 :: a6 :: y0 :: l, S⟩ = ⟨a0 :: a1 :: a2 :: a3 :: a4 :: a5 :: a6 :: .d x :: l, S⟩ := rfl
@[simp ↓] theorem v_wn7 : setW 7 (.new o) ⟨a0 :: a1 :: a2 :: a3 :: a4 :: a5 :: a6 :: y0 :: l, S⟩ = ⟨a0 :: a1 :: a2 :: a3 :: a4 :: a5 :: a6 :: .own o :: l, S⟩ := rfl
@[simp ↓] theorem v_tk7 : wTake 7 ⟨a0 :: a1 :: a2 :: a3 :: a4 :: a5 :: a6 :: .own o :: l, S⟩ Q R = Q (.d o.frz) ⟨a0 :: a1 :: a2 :: a3 :: a4 :: a5 :: a6 :: .d o.frz :: l, S⟩ := by simp [wTake]
@[simp ↓] theorem v_tl7 {xs : List D} : wTake 7 ⟨a0 :: a1 :: a2 :: a3 :: a4 :: a5 :: a6 :: .own (.lst xs) :: l, S⟩ Q R = Q (.d (.lst xs)) ⟨a0 :: a1 :: a2 :: a3 :: a4 :: a5 :: a6 :: .d (.lst xs) :: l, S⟩ := by simp [wTake]
@[simp ↓] theorem v_d8 : wVar 8 ⟨a0 :: a1 :: a2 :: a3 :: a4 :: a5 :: a6 :: a7 :: .d x :: l, S⟩ Q R = Q (.d x) ⟨a0 :: a1 :: a2 :: a3 :: a4 :: a5 :: a6 :: a7 :: .d x :: l, S⟩ := rfl
@[simp ↓] theorem v_o8 : wVar 8 ⟨a0 :: a1 :: a2 :: a3 :: a4 :: a5 :: a6 :: a7 :: .own o :: l, S⟩ Q R = Q (.slot 8) ⟨a0 :: a1 :: a2 :: a3 :: a4 :: a5 :: a6 :: a7 :: .own o :: l, S⟩ := rfl
@[simp ↓] theorem v_c8 : wVar 8 ⟨a0 :: a1 :: a2 :: a3 :: a4 :: a5 :: a6 :: a7 :: .cel j :: l, S⟩ Q R = Q (.cel j) ⟨a0 :: a1 :: a2 :: a3 :: a4 :: a5 :: a6 :: a7 :: .cel j :: l, S⟩ := rfl
@[simp] theorem v_rd8 : rdf ⟨a0 :: a1 :: a2 :: a3 :: a4 :: a5 :: a6 :: a7 :: .own o :: l, S⟩ (.slot 8) k = opK o.dat k := rfl
@[simp ↓] theorem v_rl8 {xs : List D} : rdf ⟨a0 :: a1 :: a2 :: a3 :: a4 :: a5 :: a6 :: a7 :: .own (.lst xs) :: l, S⟩ (.slot 8) k = k (.lst xs) := rfl
@[simp ↓] theorem v_rk8 {xs : List (Key × D)} : rdf ⟨a0 :: a1 :: a2 :: a3 :: a4 :: a5 :: a6 :: a7 :: .own (.dic xs) :: l, S⟩ (.slot 8) k = k (.dct xs) := rfl
@[simp ↓] theorem v_sq8 : setQ 8 D0 (.d x) ⟨a0 :: a1 :: a2 :: a3 :: a4 :: a5 :: a6 :: a7 :: y0 :: l, S⟩ = D0.nx ⟨a0 :: a1 :: a2 :: a3 :: a4 :: a5 :: a6 :: a7 :: .d x :: l, S⟩ := rfl
@[simp ↓] theorem v_sn8 : setQ 8 D0 (fz (.new o)) ⟨a0 :: a1 :: a2 :: a3 :: a4 :: a5 :: a6 :: a7 :: y0 :: l, S⟩ = D0.nx ⟨a0 :: a1 :: a2 :: a3 :: a4 :: a5 :: a6 :: a7 :: .d o.frz :: l, S⟩ := rfl
@[simp ↓] theorem v_sf8 : setQ 8 D0 (fz (.d x)) ⟨a0 :: a1 :: a2 :: a3 :: a4 :: a5 :: a6 :: a7 :: y0 :: l, S⟩ = D0.nx ⟨a0 :: a1 :: a2 :: a3 :: a4 :: a5 :: a6 :: a7 :: .d x :: l, S⟩ := rfl
@[simp ↓] theorem v_sc8 : setQ 8 D0 (.cel j) ⟨a0 :: a1 :: a2 :: a3 :: a4 :: a5 :: a6 :: a7 :: y0 :: l, S⟩ = D0.nx ⟨a0 :: a1 :: a2 :: a3 :: a4 :: a5 :: a6 :: a7 :: .cel j :: l, S⟩ := rfl
@[simp ↓] theorem v_gN8 : gN 8 x ⟨a0 :: a1 :: a2 :: a3 :: a4 :: a5 :: a6 :: a7 :: y0 :: l, S⟩ QZ R = QZ ⟨a0 :: a1 :: a2 :: a3 :: a4 :: a5 :: a6 :: a7 :: .d x :: l, S⟩ := rfl
@[simp ↓] theorem v_wd8 : setW 8 (.d x) ⟨a0 :: a1 :: a2 :: a3 :: a4 :: a5 :: a6 :: a7 :: y0 :: l, S⟩ = ⟨a0 :: a1 :: a2 :: a3 :: a4 :: a5 :: a6 :: a7 :: .d x :: l, S⟩ := rfl
@[simp ↓] theorem v_wn8 : setW 8 (.new o) ⟨a0 :: a1 :: a2 :: a3 :: a4 :: a5 :: a6 :: a7 :: y0 :: l, S⟩ = ⟨a0 :: a1 :: a2 :: a3 :: a4 :: a5 :: a6 :: a7 :: .own o :: l, S⟩ := rfl
@[simp ↓] theorem v_tk8 : wTake 8 ⟨a0 :: a1 :: a2 :: a3 :: a4 :: a5 :: a6 :: a7 :: .own o :: l, S⟩ Q R = Q (.d o.frz) ⟨a0 :: a1 :: a2 :: a3 :: a4 :: a5 :: a6 :: a7 :: .d o.frz :: l, S⟩ := by simp [wTake]
@[simp ↓] theorem v_tl8 {xs : List D} : wTake 8 ⟨a0 :: a1 :: a2 :: a3 :: a4 :: a5 :: a6 :: a7 :: .own (.lst xs) :: l, S⟩ Q R = Q (.d (.lst xs)) ⟨a0 :: a1 :: a2 :: a3 :: a4 :: a5 :: a6 :: a7 :: .d (.lst xs) :: l, S⟩ := by simp [wTake]
@[simp ↓] theorem v_d9 : wVar 9 ⟨a0 :: a1 :: a2 :: a3 :: a4 :: a5 :: a6 :: a7 :: a8 :: .d x :: l, S⟩ Q R = Q (.d x) ⟨a0 :: a1 :: a2 :: a3 :: a4 :: a5 :: a6 :: a7 :: a8 :: .d x :: l, S⟩ := rfl
@[simp ↓] theorem v_o9 : wVar 9 ⟨a0 :: a1 :: a2 :: a3 :: a4 :: a5 :: a6 :: a7 :: a8 :: .own o :: l, S⟩ Q R = Q (.slot 9) ⟨a0 :: a1 :: a2 :: a3 :: a4 :: a5 :: a6 :: a7 :: a8 :: .own o :: l, S⟩ := rfl
@[simp ↓] theorem v_c9 : wVar 9 ⟨a0 :: a1 :: a2 :: a3 :: a4 :: a5 :: a6 :: a7 :: a8 :: .cel j :: l, S⟩ Q R = Q (.cel j) ⟨a0 :: a1 :: a2 :: a3 :: a4 :: a5 :: a6 :: a7 :: a8 :: .cel j :: l, S⟩ := rfl
@[simp] theorem v_rd9 : rdf ⟨a0 :: a1 :: a2 :: a3 :: a4 :: a5 :: a6 :: a7 :: a8 :: .own o :: l, S⟩ (.slot 9) k = opK o.dat k := rfl
@[simp ↓] theorem v_rl9 {xs : List D} : rdf ⟨a0 :: a1 :: a2 :: a3 :: a4 :: a5 :: a6 :: a7 :: a8 :: .own (.lst xs) :: l, S⟩ (.slot 9) k = k (.lst xs) := rfl
@[simp ↓] theorem v_rk9 {xs : List (Key × D)} : rdf ⟨a0 :: a1 :: a2 :: a3 :: a4 :: a5 :: a6 :: a7 :: a8 :: .own (.dic xs) :: l, S⟩ (.slot 9) k = k (.dct xs) := rfl
@[simp ↓] theorem v_sq9 : setQ 9 D0 (.d x) ⟨a0 :: a1 :: a2 :: a3 :: a4 :: a5 :: a6 :: a7 :: a8 :: y0 :: l, S⟩ = D0.nx ⟨a0 :: a1 :: a2 :: a3 :: a4 :: a5 :: a6 :: a7 :: a8 :: .d x :: l, S⟩ := rfl
@[simp ↓] theorem v_sn9 : setQ 9 D0 (fz (.new o)) ⟨a0 :: a1 :: a2 :: a3 :: a4 :: a5 :: a6 :: a7 :: a8 :: y0 :: l, S⟩ = D0.nx ⟨a0 :: a1 :: a2 :: a3 :: a4 :: a5 :: a6 :: a7 :: a8 :: .d o.frz :: l, S⟩ := rfl
@[simp ↓] theorem v_sf9 : setQ 9 D0 (fz (.d x)) ⟨a0 :: a1 :: a2 :: a3 :: a4 :: a5 :: a6 :: a7 :: a8 :: y0 :: l, S⟩ = D0.nx ⟨a0 :: a1 :: a2 :: a3 :: a4 :: a5 :: a6 :: a7 :: a8 :: .d x :: l, S⟩ := rfl
@[simp ↓] theorem v_sc9 : setQ 9 D0 (.cel j) ⟨a0 :: a1 :: a2 :: a3 :: a4 :: a5 :: a6 :: a7 :: a8 :: y0 :: l, S⟩ = D0.nx ⟨a0 :: a1 :: a2 :: a3 :: a4 :: a5 :: a6 :: a7 :: a8 :: .cel j :: l, S⟩ := rfl
@[simp ↓] theorem v_gN9 : gN 9 x ⟨a0 :: a1 :: a2 :: a3 :: a4 :: a5 :: a6 :: a7 :: a8 :: y0 :: l, S⟩ QZ R = QZ ⟨a0 :: a1 :: a2 :: a3 :: a4 :: a5 :: a6 :: a7 :: a8 :: .d x :: l, S⟩ := rfl
@[simp ↓] theorem v_wd9 : setW 9 (.d x) ⟨a0 :: a1 :: a2 :: a3 :: a4 :: a5 :: a6 :: a7 :: a8 :: y0 :: l, S⟩ = ⟨a0 :: a1 :: a2 :: a3 :: a4 :: a5 :: a6 :: a7 :: a8 :: .d x :: l, S⟩ := rfl
@[simp ↓] theorem v_wn9 : setW 9 (.new o) ⟨a0 :: a1 :: a2 :: a3 :: a4 :: a5 :: a6 :: a7 :: a8 :: y0 :: l, S⟩ = ⟨a0 :: a1 :: a2 :: a3 :: a4 :: a5 :: a6 :: a7 :: a8 :: .own o :: l, S⟩ := rfl
@[simp ↓] theorem v_tk9 : wTake 9 ⟨a0 :: a1 :: a2 :: a3 :: a4 :: a5 :: a6 :: a7 :: a8 :: .own o :: l, S⟩ Q R = Q (.d o.frz) ⟨a0 :: a1 :: a2 :: a3 :: a4 :: a5 :: a6 :: a7 :: a8 :: .d o.frz :: l, S⟩ := by simp [wTake]
@[simp ↓] theorem v_tl9 {xs : List D} : wTake 9 ⟨a0 :: a1 :: a2 :: a3 :: a4 :: a5 :: a6 :: a7 :: a8 :: .own (.lst xs) :: l, S⟩ Q R = Q (.d (.lst xs)) ⟨a0 :: a1 :: a2 :: a3 :: a4 :: a5 :: a6 :: a7 :: a8 :: .d (.lst xs) :: l, S⟩ := by simp [wTake]
@[simp ↓] theorem v_d10 : wVar 10 ⟨a0 :: a1 :: a2 :: a3 :: a4 :: a5 :: a6 :: a7 :: a8 :: a9 :: .d x :: l, S⟩ Q R = Q (.d x) ⟨a0 :: a1 :: a2 :: a3 :: a4 :: a5 :: a6 :: a7 :: a8 :: a9 :: .d x :: l, S⟩ := rfl
@[simp ↓] theorem v_o10 : wVar 10 ⟨a0 :: a1 :: a2 :: a3 :: a4 :: a5 :: a6 :: a7 :: a8 :: a9 :: .own o :: l, S⟩ Q R = Q (.slot 10) ⟨a0 :: a1 :: a2 :: a3 :: a4 :: a5 :: a6 :: a7 :: a8 :: a9 :: .own o :: l, S⟩ := rfl
@[simp ↓] theorem v_c10 : wVar 10 ⟨a0 :: a1 :: a2 :: a3 :: a4 :: a5 :: a6 :: a7 :: a8 :: a9 :: .cel j :: l, S⟩ Q R = Q (.cel j) ⟨a0 :: a1 :: a2 :: a3 :: a4 :: a5 :: a6 :: a7 :: a8 :: a9 :: .cel j :: l, S⟩ := rfl
@[simp] theorem v_rd10 : rdf ⟨a0 :: a1 :: a2 :: a3 :: a4 :: a5 :: a6 :: a7 :: a8 :: a9 :: .own o :: l, S⟩ (.slot 10) k = opK o.dat k := rfl
@[simp ↓] theorem v_rl10 {xs : List D} : rdf ⟨a0 :: a1 :: a2 :: a3 :: a4 :: a5 :: a6 :: a7 :: a8 :: a9 :: .own (.lst xs) :: l, S⟩ (.slot 10) k = k (.lst xs) := rfl
@[simp ↓] theorem v_rk10 {xs : List (Key × D)} : rdf ⟨a0 :: a1 :: a2 :: a3 :: a4 :: a5 :: a6 :: a7 :: a8 :: a9 :: .own (.dic xs) :: l, S⟩ (.slot 10) k = k (.dct xs) := rfl
@[simp ↓] theorem v_sq10 : setQ 10 D0 (.d x) ⟨a0 :: a1 :: a2 :: a3 :: a4 :: a5 :: a6 :: a7 :: a8 :: a9 :: y0 :: l, S⟩ = D0.nx ⟨a0 :: a1 :: a2 :: a3 :: a4 :: a5 :: a6 :: a7 :: a8 :: a9 :: .d x :: l, S⟩ := rfl
@[simp ↓] theorem v_sn10 : setQ 10 D0 (fz (.new o)) ⟨a0 :: a1 :: a2 :: a3 :: a4 :: a5 :: a6 :: a7 :: a8 :: a9 :: y0 :: l, S⟩ = D0.nx ⟨a0 :: a1 :: a2 :: a3 :: a4 :: a5 :: a6 :: a7 :: a8 :: a9 :: .d o.frz :: l, S⟩ := rfl
@[simp ↓] theorem v_sf10 : setQ 10 D0 (fz (.d x)) ⟨a0 :: a1 :: a2 :: a3 :: a4 :: a5 :: a6 :: a7 :: a8 :: a9 :: y0 :: l, S⟩ = D0.nx ⟨a0 :: a1 :: a2 :: a3 :: a4 :: a5 :: a6 :: a7 :: a8 :: a9 :: .d x :: l, S⟩ := rfl
@[simp ↓] theorem v_sc10 : setQ 10 D0 (.cel j) ⟨a0 :: a1 :: a2 :: a3 :: a4 :: a5 :: a6 :: a7 :: a8 :: a9 :: y0 :: l, S⟩ = D0.nx ⟨a0 :: a1 :: a2 :: a3 :: a4 :: a5 :: a6 :: a7 :: a8 :: a9 :: .cel j :: l, S⟩ := rfl
@[simp ↓] theorem v_gN10 : gN 10 x ⟨a0 :: a1 :: a2 :: a3 :: a4 :: a5 :: a6 :: a7 :: a8 :: a9 :: y0 :: l, S⟩ QZ R = QZ ⟨a0 :: a1 :: a2 :: a3 :: a4 :: a5 :: a6 :: a7 :: a8 :: a9 :: .d x :: l, S⟩ := rfl
@[simp ↓] theorem v_wd10 : setW 10 (.d x) ⟨a0 :: a1 :: a2 :: a3 :: a4 :: a5 :: a6 :: a7 :: a8 :: a9 :: y0 :: l, S⟩ = ⟨a0 :: a1 :: a2 :: a3 :: a4 :: a5 :: a6 :: a7 :: a8 :: a9 :: .d x :: l, S⟩ := rfl
@[simp ↓] theorem v_wn10 : setW 10 (.new o) ⟨a0 :: a1 :: a2 :: a3 :: a4 :: a5 :: a6 :: a7 :: a8 :: a9 :: y0 :: l, S⟩ = ⟨a0 :: a1 :: a2 :: a3 :: a4 :: a5 :: a6 :: a7 :: a8 :: a9 :: .own o :: l, S⟩ := rfl
@[simp ↓] theorem v_tk10 : wTake 10 ⟨a0 :: a1 :: a2 :: a3 :: a4 :: a5 :: a6 :: a7 :: a8 :: a9 :: .own o :: l, S⟩ Q R = Q (.d o.frz) ⟨a0 :: a1 :: a2 :: a3 :: a4 :: a5 :: a6 :: a7 :: a8 :: a9 :: .d o.frz :: l, S⟩ := by simp [wTake]
@[simp ↓] theorem v_tl10 {xs : List D} : wTake 10 ⟨a0 :: a1 :: a2 :: a3 :: a4 :: a5 :: a6 :: a7 :: a8 :: a9 :: .own (.lst xs) :: l, S⟩ Q R = Q (.d (.lst xs)) ⟨a0 :: a1 :: a2 :: a3 :: a4 :: a5 :: a6 :: a7 :: a8 :: a9 :: .d (.lst xs) :: l, S⟩ := by simp [wTake]
@[simp ↓] theorem v_d11 : wVar 11 ⟨a0 :: a1 :: a2 :: a3 :: a4 :: a5 :: a6 :: a7 :: a8 :: a9 :: a10 :: .d x :: l, S⟩ Q R = Q (.d x) ⟨a0 :: a1 :: a2 :: a3 :: a4 :: a5 :: a6 :: a7 :: a8 :: a9 :: a10 :: .d x :: l, S⟩ := rfl
@[simp ↓] theorem v_o11 : wVar 11 ⟨a0 :: a1 :: a2 :: a3 :: a4 :: a5 :: a6 :: a7 :: a8 :: a9 :: a10 :: .own o :: l, S⟩ Q R = Q (.slot 11) ⟨a0 :: a1 :: a2 :: a3 :: a4 :: a5 :: a6 :: a7 :: a8 :: a9 :: a10 :: .own o :: l, S⟩ := rfl
@[simp ↓] theorem v_c11 : wVar 11 ⟨a0 :: a1 :: a2 :: a3 :: a4 :: a5 :: a6 :: a7 :: a8 :: a9 :: a10 :: .cel j :: l, S⟩ Q R = Q (.cel j) ⟨a0 :: a1 :: a2 :: a3 :: a4 :: a5 :: a6 :: a7 :: a8 :: a9 :: a10 :: .cel j :: l, S⟩ := rfl
@[simp] theorem v_rd11 : rdf ⟨a0 :: a1 :: a2 :: a3 :: a4 :: a5 :: a6 :: a7 :: a8 :: a9 :: a10 :: .own o :: l, S⟩ (.slot 11) k = opK o.dat k := rfl
@[simp ↓] theorem v_rl11 {xs : List D} : rdf ⟨a0 :: a1 :: a2 :: a3 :: a4 :: a5 :: a6 :: a7 :: a8 :: a9 :: a10 :: .own (.lst xs) :: l, S⟩ (.slot 11) k = k (.lst xs) := rfl
@[simp ↓] theorem v_rk11 {xs : List (Key × D)} : rdf ⟨a0 :: a1 :: a2 :: a3 :: a4 :: a5 :: a6 :: a7 :: a8 :: a9 :: a10 :: .own (.dic xs) :: l, S⟩ (.slot 11) k = k (.dct xs) := rfl
@[simp ↓] theorem v_sq11 : setQ 11 D0 (.d x) ⟨a0 :: a1 :: a2 :: a3 :: a4 :: a5 :: a6 :: a7 :: a8 :: a9 :: a10 :: y0 :: l, S⟩ = D0.nx ⟨a0 :: a1 :: a2 :: a3 :: a4 :: a5 :: a6 :: a7 :: a8 :: a9 :: a10 :: .d x :: l, S⟩ := rfl
@[simp ↓] theorem v_sn11 : setQ 11 D0 (fz (.new o)) ⟨a0 :: a1 :: a2 :: a3 :: a4 :: a5 :: a6 :: a7 :: a8 :: a9 :: a10 :: y0 :: l, S⟩ = D0.nx ⟨a0 :: a1 :: a2 :: a3 :: a4 :: a5 :: a6 :: a7 :: a8 :: a9 :: a10 :: .d o.frz :: l, S⟩ := rfl
@[simp ↓] theorem v_sf11 : setQ 11 D0 (fz (.d x)) ⟨a0 :: a1 :: a2 :: a3 :: a4 :: a5 :: a6 :: a7 :: a8 :: a9 :: a10 :: y0 :: l, S⟩ = D0.nx ⟨a0 :: a1 :: a2 :: a3 :: a4 :: a5 :: a6 :: a7 :: a8 :: a9 :: a10 :: .d x :: l, S⟩ := rfl
@[simp ↓] theorem v_sc11 : setQ 11 D0 (.cel j) ⟨a0 :: a1 :: a2 :: a3 :: a4 :: a5 :: a6 :: a7 :: a8 :: a9 :: a10 :: y0 :: l, S⟩ = D0.nx ⟨a0 :: a1 :: a2 :: a3 :: a4 :: a5 :: a6 :: a7 :: a8 :: a9 :: a10 :: .cel j :: l, S⟩ := rfl
@[simp ↓] theorem v_gN11 : gN 11 x ⟨a0 :: a1 :: a2 :: a3 :: a4 :: a5 :: a6 :: a7 :: a8 :: a9 :: a10 :: y0 :: l, S⟩ QZ R = QZ ⟨a0 :: a1 :: a2 :: a3 :: a4 :: a5 :: a6 :: a7 :: a8 :: a9 :: a10 :: .d x :: l, S⟩ := rfl
@[simp ↓] theorem v_wd11 : setW 11 (.d x) ⟨a0 :: a1 :: a2 :: a3 :: a4 :: a5 :: a6 :: a7 :: a8 :: a9 :: a10 :: y0 :: l, S⟩ = ⟨a0 :: a1 :: a2 :: a3 :: a4 :: a5 :: a6 :: a7 :: a8 :: a9 :: a10 :: .d x :: l, S⟩ := rfl
@[simp ↓] theorem v_wn11 : setW 11 (.new o) ⟨a0 :: a1 :: a2 :: a3 :: a4 :: a5 :: a6 :: a7 :: a8 :: a9 :: a10 :: y0 :: l, S⟩ = ⟨a0 :: a1 :: a2 :: a3 :: a4 :: a5 :: a6 :: a7 :: a8 :: a9 :: a10 :: .own o :: l, S⟩ := rfl
@[simp ↓] theorem v_tk11 : wTake 11 ⟨a0 :: a1 :: a2 :: a3 :: a4 :: a5 :: a6 :: a7 :: a8 :: a9 :: a10 :: .own o :: l, S⟩ Q R = Q (.d o.frz) ⟨a0 :: a1 :: a2 :: a3 :: a4 :: a5 :: a6 :: a7 :: a8 :: a9 :: a10 :: .d o.frz :: l, S⟩ := by simp [wTake]
@[simp ↓] theorem v_tl11 {xs : List D} : wTake 11 ⟨a0 :: a1 :: a2 :: a3 :: a4 :: a5 :: a6 :: a7 :: a8 :: a9 :: a10 :: .own (.lst xs) :: l, S⟩ Q R = Q (.d (.lst xs)) ⟨a0 :: a1 :: a2 :: a3 :: a4 :: a5 :: a6 :: a7 :: a8 :: a9 :: a10 :: .d (.lst xs) :: l, S⟩ := by simp [wTake]
@[simp ↓] theorem v_d12 : wVar 12 ⟨a0 :: a1 :: a2 :: a3 :: a4 :: a5 :: a6 :: a7 :: a8 :: a9 :: a10 :: a11 :: .d x :: l, S⟩ Q R = Q (.d x) ⟨a0 :: a1 :: a2 :: a3 :: a4 :: a5 :: a6 :: a7 :: a8 :: a9 :: a10 :: a11 :: .d x :: l, S⟩ := rfl
@[simp ↓] theorem v_o12 : wVar 12 ⟨a0 :: a1 :: a2 :: a3 :: a4 :: a5 :: a6 :: a7 :: a8 :: a9 :: a10 :: a11 :: .own o :: l, S⟩ Q R = Q (.slot 12) ⟨a0 :: a1 :: a2 :: a3 :: a4 :: a5 :: a6 :: a7 :: a8 :: a9 :: a10 :: a11 :: .own o :: l, S⟩ := rfl
@[simp ↓] theorem v_c12 : wVar 12 ⟨a0 :: a1 :: a2 :: a3 :: a4 :: a5 :: a6 :: a7 :: a8 :: a9 :: a10 :: a11 :: .cel j :: l, S⟩ Q R = Q (.cel j) ⟨a0 :: a1 :: a2 :: a3 :: a4 :: a5 :: a6 :: a7 :: a8 :: a9 :: a10 :: a11 :: .cel j :: l, S⟩ := rfl
@[simp] theorem v_rd12 : rdf ⟨a0 :: a1 :: a2 :: a3 :: a4 :: a5 :: a6 :: a7 :: a8 :: a9 :: a10 :: a11 :: .own o :: l, S⟩ (.slot 12) k = opK o.dat k := rfl
@[simp ↓] theorem v_rl12 {xs : List D} : rdf ⟨a0 :: a1 :: a2 :: a3 :: a4 :: a5 :: a6 :: a7 :: a8 :: a9 :: a10 :: a11 :: .own (.lst xs) :: l, S⟩ (.slot 12) k = k (.lst xs) := rfl
@[simp ↓] theorem v_rk12 {xs : List (Key × D)} : rdf ⟨a0 :: a1 :: a2 :: a3 :: a4 :: a5 :: a6 :: a7 :: a8 :: a9 :: a10 :: a11 :: .own (.dic xs) :: l, S⟩ (.slot 12) k = k (.dct xs) := rfl
@[simp ↓] theorem v_sq12 : setQ 12 D0 (.d x) ⟨a0 :: a1 :: a2 :: a3 :: a4 :: a5 :: a6 :: a7 :: a8 :: a9 :: a10 :: a11 :: y0 :: l, S⟩ = D0.nx ⟨a0 :: a1 :: a2 :: a3 :: a4 :: a5 :: a6 :: a7 :: a8 :: a9 :: a10 :: a11 :: .d x :: l, S⟩ := rfl
@[simp ↓] theorem v_sn12 : setQ 12 D0 (fz (.new o)) ⟨a0 :: a1 :: a2 :: a3 :: a4 :: a5 :: a6 :: a7 :: a8 :: a9 :: a10 :: a11 :: y0 :: l, S⟩ = D0.nx ⟨a0 :: a1 :: a2 :: a3 :: a4 :: a5 :: a6 :: a7 :: a8 :: a9 :: a10 :: a11 :: .d o.frz :: l, S⟩ := rfl
@[simp ↓] theorem v_sf12 : setQ 12 D0 (fz (.d x)) ⟨a0 :: a1 :: a2 :: a3 :: a4 :: a5 :: a6 :: a7 :: a8 :: a9 :: a10 :: a11 :: y0 :: l, S⟩ = D0.nx ⟨a0 :: a1 :: a2 :: a3 :: a4 :: a5 :: a6 :: a7 :: a8 :: a9 :: a10 :: a11 :: .d x :: l, S⟩ := rfl
@[simp ↓] theorem v_sc12 : setQ 12 D0 (.cel j) ⟨a0 :: a1 :: a2 :: a3 :: a4 :: a5 :: a6 :: a7 :: a8 :: a9 :: a10 :: a11 :: y0 :: l, S⟩ = D0.nx ⟨a0 :: a1 :: a2 :: a3 :: a4 :: a5 :: a6 :: a7 :: a8 :: a9 :: a10 :: a11 :: .cel j :: l, S⟩ := rfl
@[simp ↓] theorem v_gN12 : gN 12 x ⟨a0 :: a1 :: a2 :: a3 :: a4 :: a5 :: a6 :: a7 :: a8 :: a9 :: a10 :: a11 :: y0 :: l, S⟩ QZ R = QZ ⟨a0 :: a1 :: a2 :: a3 :: a4 :: a5 :: a6 :: a7 :: a8 :: a9 :: a10 :: a11 :: .d x :: l, S⟩ := rfl
@[simp ↓] theorem v_wd12 : setW 12 (.d x) ⟨a0 :: a1 :: a2 :: a3 :: a4 :: a5 :: a6 :: a7 :: a8 :: a9 :: a10 :: a11 :: y0 :: l, S⟩ = ⟨a0 :: a1 :: a2 :: a3 :: a4 :: a5 :: a6 :: a7 :: a8 :: a9 :: a10 :: a11 :: .d x :: l, S⟩ := rfl
@[simp ↓] theorem v_wn12 : setW 12 (.new o) ⟨a0 :: a1 :: a2 :: a3 :: a4 :: a5 :: a6 :: a7 :: a8 :: a9 :: a10 :: a11 :: y0 :: l, S⟩ = ⟨a0 :: a1 :: a2 :: a3 :: a4 :: a5 :: a6 :: a7 :: a8 :: a9 :: a10 :: a11 :: .own o :: l, S⟩ := rfl
@[simp ↓] theorem v_tk12 : wTake 12 ⟨a0 :: a1 :: a2 :: a3 :: a4 :: a5 :: a6 :: a7 :: a8 :: a9 :: a10 :: a11 :: .own o :: l, S⟩ Q R = Q (.d o.frz) ⟨a0 :: a1 :: a2 :: a3 :: a4 :: a5 :: a6 :: a7 :: a8 :: a9 :: a10 :: a11 :: .d o.frz :: l, S⟩ := by simp [wTake]
@[simp ↓] theorem v_tl12 {xs : List D} : wTake 12 ⟨a0 :: a1 :: a2 :: a3 :: a4 :: a5 :: a6 :: a7 :: a8 :: a9 :: a10 :: a11 :: .own (.lst xs) :: l, S⟩ Q R = Q (.d (.lst xs)) ⟨a0 :: a1 :: a2 :: a3 :: a4 :: a5 :: a6 :: a7 :: a8 :: a9 :: a10 :: a11 :: .d (.lst xs) :: l, S⟩ := by simp [wTake]
@[simp ↓] theorem v_d13 : wVar 13 ⟨a0 :: a1 :: a2 :: a3 :: a4 :: a5 :: a6 :: a7 :: a8 :: a9 :: a10 :: a11 :: a12 :: .d x :: l, S⟩ Q R = Q (.d x) ⟨a0 :: a1 :: a2 :: a3 :: a4 :: a5 :: a6 :: a7 :: a8 :: a9 :: a10 :: a11 :: a12 :: .d x :: l, S⟩ := rfl
@[simp ↓] theorem v_o13 : wVar 13 ⟨a0 :: a1 :: a2 :: a3 :: a4 :: a5 :: a6 :: a7 :: a8 :: a9 :: a10 :: a11 :: a12 :: .own o :: l, S⟩ Q R = Q (.slot 13) ⟨a0 :: a1 :: a2 :: a3 :: a4 :: a5 :: a6 :: a7 :: a8 :: a9 :: a10 :: a11 :: a12 :: .own o :: l, S⟩ := rfl
@[simp ↓] theorem v_c13 : wVar 13 ⟨a0 :: a1 :: a2 :: a3 :: a4 :: a5 :: a6 :: a7 :: a8 :: a9 :: a10 :: a11 :: a12 :: .cel j :: l, S⟩ Q R = Q (.cel j) ⟨a0 :: a1 :: a2 :: a3 :: a4 :: a5 :: a6 :: a7 :: a8 :: a9 :: a10 :: a11 :: a12 :: .cel j :: l, S⟩ := rfl
@[simp] theorem v_rd13 : rdf ⟨a0 :: a1 :: a2 :: a3 :: a4 :: a5 :: a6 :: a7 :: a8 :: a9 :: a10 :: a11 :: a12 :: .own o :: l, S⟩ (.slot 13) k = opK o.dat k := rfl
@[simp ↓] theorem v_rl13 {xs : List D} : rdf ⟨a0 :: a1 :: a2 :: a3 :: a4 :: a5 :: a6 :: a7 :: a8 :: a9 :: a10 :: a11 :: a12 :: .own (.lst xs) :: l, S⟩ (.slot 13) k = k (.lst xs) := rfl
@[simp ↓] theorem v_rk13 {xs : List (Key × D)} : rdf ⟨a0 :: a1 :: a2 :: a3 :: a4 :: a5 :: a6 :: a7 :: a8 :: a9 :: a10 :: a11 :: a12 :: .own (.dic xs) :: l, S⟩ (.slot 13) k = k (.dct xs) := rfl
@[simp ↓] theorem v_sq13 : setQ 13 D0 (.d x) ⟨a0 :: a1 :: a2 :: a3 :: a4 :: a5 :: a6 :: a7 :: a8 :: a9 :: a10 :: a11 :: a12 :: y0 :: l, S⟩ = D0.nx ⟨a0 :: a1 :: a2 :: a3 :: a4 :: a5 :: a6 :: a7 :: a8 :: a9 :: a10 :: a11 :: a12 :: .d x :: l, S⟩ := rfl
@[simp ↓] theorem v_sn13 : setQ 13 D0 (fz (.new o)) ⟨a0 :: a1 :: a2 :: a3 :: a4 :: a5 :: a6 :: a7 :: a8 :: a9 :: a10 :: a11 :: a12 :: y0 :: l, S⟩ = D0.nx ⟨a0 :: a1 :: a2 :: a3 :: a4 :: a5 :: a6 :: a7 :: a8 :: a9 :: a10 :: a11 :: a12 :: .d o.frz :: l, S⟩ := rfl
@[simp ↓] theorem v_sf13 : setQ 13 D0 (fz (.d x)) ⟨a0 :: a1 :: a2 :: a3 :: a4 :: a5 :: a6 :: a7 :: a8 :: a9 :: a10 :: a11 :: a12 :: y0 :: l, S⟩ = D0.nx ⟨a0 :: a1 :: a2 :: a3 :: a4 :: a5 :: a6 :: a7 :: a8 :: a9 :: a10 :: a11 :: a12 :: .d x :: l, S⟩ := rfl
@[simp ↓] theorem v_sc13 : setQ 13 D0 (.cel j) ⟨a0 :: a1 :: a2 :: a3 :: a4 :: a5 :: a6 :: a7 :: a8 :: a9 :: a10 :: a11 :: a12 :: y0 :: l, S⟩ = D0.nx ⟨a0 :: a1 :: a2 :: a3 :: a4 :: a5 :: a6 :: a7 :: a8 :: a9 :: a10 :: a11 :: a12 :: .cel j :: l, S⟩ := rfl
@[simp ↓] theorem v_gN13 : gN 13 x ⟨a0 :: a1 :: a2 :: a3 :: a4 :: a5 :: a6 :: a7 :: a8 :: a9 :: a10 :: a11 :: a12 :: y0 :: l, S⟩ QZ R = QZ ⟨a0 :: a1 :: a2 :: a3 :: a4 :: a5 :: a6 :: a7 :: a8 :: a9 :: a10 :: a11 :: a12 :: .d x :: l, S⟩ := rfl
@[simp ↓] theorem v_wd13 : setW 13 (.d x) ⟨a0 :: a1 :: a2 :: a3 :: a4 :: a5 :: a6 :: a7 :: a8 :: a9 :: a10 :: a11 :: a12 :: y0 :: l, S⟩ = ⟨a0 :: a1 :: a2 :: a3 :: a4 :: a5 :: a6 :: a7 :: a8 :: a9 :: a10 :: a11 :: a12 :: .d x :: l, S⟩ := rfl
@[simp ↓] theorem v_wn13 : setW 13 (.new o) ⟨a0 :: a1 :: a2 :: a3 :: a4 :: a5 :: a6 :: a7 :: a8 :: a9 :: a10 :: a11 :: a12 :: y0 :: l, S⟩ = ⟨a0 :: a1 :: a2 :: a3 :: a4 :: a5 :: a6 :: a7 :: a8 :: a9 :: a10 :: a11 :: a12 :: .own o :: l, S⟩ := rfl
@[simp ↓] theorem v_tk13 : wTake 13 ⟨a0 :: a1 :: a2 :: a3 :: a4 :: a5 :: a6 :: a7 :: a8 :: a9 :: a10 :: a11 :: a12 :: .own o :: l, S⟩ Q R = Q (.d o.frz) ⟨a0 :: a1 :: a2 :: a3 :: a4 :: a5 :: a6 :: a7 :: a8 :: a9 :: a10 :: a11 :: a12 :: .d o.frz :: l, S⟩ := by simp [wTake]
@[simp ↓] theorem v_tl13 {xs : List D} : wTake 13 ⟨a0 :: a1 :: a2 :: a3 :: a4 :: a5 :: a6 :: a7 :: a8 :: a9 :: a10 :: a11 :: a12 :: .own (.lst xs) :: l, S⟩ Q R = Q (.d (.lst xs)) ⟨a0 :: a1 :: a2 :: a3 :: a4 :: a5 :: a6 :: a7 :: a8 :: a9 :: a10 :: a11 :: a12 :: .d (.lst xs) :: l, S⟩ := by simp [wTake]
@[simp ↓] theorem v_d14 : wVar 14 ⟨a0 :: a1 :: a2 :: a3 :: a4 :: a5 :: a6 :: a7 :: a8 :: a9 :: a10 :: a11 :: a12 :: a13 :: .d x :: l, S⟩ Q R = Q (.d x) ⟨a0 :: a1 :: a2 :: a3 :: a4 :: a5 :: a6 :: a7 :: a8 :: a9 :: a10 :: a11 :: a12 :: a13 :: .d x :: l, S⟩ := rfl
@[simp ↓] theorem v_o14 : wVar 14 ⟨a0 :: a1 :: a2 :: a3 :: a4 :: a5 :: a6 :: a7 :: a8 :: a9 :: a10 :: a11 :: a12 :: a13 :: .own o :: l, S⟩ Q R = Q (.slot 14) ⟨a0 :: a1 :: a2 :: a3 :: a4 :: a5 :: a6 :: a7 :: a8 :: a9 :: a10 :: a11 :: a12 :: a13 :: .own o :: l, S⟩ := rfl
@[simp ↓] theorem v_c14 : wVar 14 ⟨a0 :: a1 :: a2 :: a3 :: a4 :: a5 :: a6 :: a7 :: a8 :: a9 :: a10 :: a11 :: a12 :: a13 :: .cel j :: l, S⟩ Q R = Q (.cel j) ⟨a0 :: a1 :: a2 :: a3 :: a4 :: a5 :: a6 :: a7 :: a8 :: a9 :: a10 :: a11 :: a12 :: a13 :: .cel j :: l, S⟩ := rfl
@[simp] theorem v_rd14 : rdf ⟨a0 :: a1 :: a2 :: a3 :: a4 :: a5 :: a6 :: a7 :: a8 :: a9 :: a10 :: a11 :: a12 :: a13 :: .own o :: l, S⟩ (.slot 14) k = opK o.dat k := rfl
@[simp ↓] theorem v_rl14 {xs : List D} : rdf ⟨a0 :: a1 :: a2 :: a3 :: a4 :: a5 :: a6 :: a7 :: a8 :: a9 :: a10 :: a11 :: a12 :: a13 :: .own (.lst xs) :: l, S⟩ (.slot 14) k = k (.lst xs) := rfl
@[simp ↓] theorem v_rk14 {xs : List (Key × D)} : rdf ⟨a0 :: a1 :: a2 :: a3 :: a4 :: a5 :: a6 :: a7 :: a8 :: a9 :: a10 :: a11 :: a12 :: a13 :: .own (.dic xs) :: l, S⟩ (.slot 14) k = k (.dct xs) := rfl
@[simp ↓] theorem v_sq14 : setQ 14 D0 (.d x) ⟨a0 :: a1 :: a2 :: a3 :: a4 :: a5 :: a6 :: a7 :: a8 :: a9 :: a10 :: a11 :: a12 :: a13 :: y0 :: l, S⟩ = D0.nx ⟨a0 :: a1 :: a2 :: a3 :: a4 :: a5 :: a6 :: a7 :: a8 :: a9 :: a10 :: a11 :: a12 :: a13 :: .d x :: l, S⟩ := rfl
@[simp ↓] theorem v_sn14 : setQ 14 D0 (fz (.new o)) ⟨a0 :: a1 :: a2 :: a3 :: a4 :: a5 :: a6 :: a7 :: a8 :: a9 :: a10 :: a11 :: a12 :: a13 :: y0 :: l, S⟩ = D0.nx ⟨a0 :: a1 :: a2 :: a3 :: a4 :: a5 :: a6 :: a7 :: a8 :: a9 :: a10 :: a11 :: a12 :: a13 :: .d o.frz :: l, S⟩ := rfl
@[simp ↓] theorem v_sf14 : setQ 14 D0 (fz (.d x)) ⟨a0 :: a1 :: a2 :: a3 :: a4 :: a5 :: a6 :: a7 :: a8 :: a9 :: a10 :: a11 :: a12 :: a13 :: y0 :: l, S⟩ = D0.nx ⟨a0 :: a1 :: a2 :: a3 :: a4 :: a5 :: a6 :: a7 :: a8 :: a9 :: a10 :: a11 :: a12 :: a13 :: .d x :: l, S⟩ := rfl
@[simp ↓] theorem v_sc14 : setQ 14 D0 (.cel j) ⟨a0 :: a1 :: a2 :: a3 :: a4 :: a5 :: a6 :: a7 :: a8 :: a9 :: a10 :: a11 :: a12 :: a13 :: y0 :: l, S⟩ = D0.nx ⟨a0 :: a1 :: a2 :: a3 :: a4 :: a5 :: a6 :: a7 :: a8 :: a9 :: a10 :: a11 :: a12 :: a13 :: .cel j :: l, S⟩ := rfl
@[simp ↓] theorem v_gN14 : gN 14 x ⟨a0 :: a1 :: a2 :: a3 :: a4 :: a5 :: a6 :: a7 :: a8 :: a9 :: a10 :: a11 :: a12 :: a13 :: y0 :: l, S⟩ QZ R = QZ ⟨a0 :: a1 :: a2 :: a3 :: a4 :: a5 :: a6 :: a7 :: a8 :: a9 :: a10 :: a11 :: a12 :: a13 :: .d x :: l, S⟩ := rfl
@[simp ↓] theorem v_wd14 : setW 14 (.d x) ⟨a0 :: a1 :: a2 :: a3 :: a4 :: a5 :: a6 :: a7 :: a8 :: a9 :: a10 :: a11 :: a12 :: a13 :: y0 :: l, S⟩ = ⟨a0 :: a1 :: a2 :: a3 :: a4 :: a5 :: a6 :: a7 :: a8 :: a9 :: a10 :: a11 :: a12 :: a13 :: .d x :: l, S⟩ := rfl
@[simp ↓] theorem v_wn14 : setW 14 (.new o) ⟨a0 :: a1 :: a2 :: a3 :: a4 :: a5 :: a6 :: a7 :: a8 :: a9 :: a10 :: a11 :: a12 :: a13 :: y0 :: l, S⟩ = ⟨a0 :: a1 :: a2 :: a3 :: a4 :: a5 :: a6 :: a7 :: a8 :: a9 :: a10 :: a11 :: a12 :: a13 :: .own o :: l, S⟩ := rfl
@[simp ↓] theorem v_tk14 : wTake 14 ⟨a0 :: a1 :: a2 :: a3 :: a4 :: a5 :: a6 :: a7 :: a8 :: a9 :: a10 :: a11 :: a12 :: a13 :: .own o :: l, S⟩ Q R = Q (.d o.frz) ⟨a0 :: a1 :: a2 :: a3 :: a4 :: a5 :: a6 :: a7 :: a8 :: a9 :: a10 :: a11 :: a12 :: a13 :: .d o.frz :: l, S⟩ := by simp [wTake]
@[simp ↓] theorem v_tl14 {xs : List D} : wTake 14 ⟨a0 :: a1 :: a2 :: a3 :: a4 :: a5 :: a6 :: a7 :: a8 :: a9 :: a10 :: a11 :: a12 :: a13 :: .own (.lst xs) :: l, S⟩ Q R = Q (.d (.lst xs)) ⟨a0 :: a1 :: a2 :: a3 :: a4 :: a5 :: a6 :: a7 :: a8 :: a9 :: a10 :: a11 :: a12 :: a13 :: .d (.lst xs) :: l, S⟩ := by simp [wTake]
@[simp ↓] theorem v_d15 : wVar 15 ⟨a0 :: a1 :: a2 :: a3 :: a4 :: a5 :: a6 :: a7 :: a8 :: a9 :: a10 :: a11 :: a12 :: a13 :: a14 :: .d x :: l, S⟩ Q R = Q (.d x) ⟨a0 :: a1 :: a2 :: a3 :: a4 :: a5 :: a6 :: a7 :: a8 :: a9 :: a10 :: a11 :: a12 :: a13 :: a14 :: .d x :: l, S⟩ := rfl
@[simp ↓] theorem v_o15 : wVar 15 ⟨a0 :: a1 :: a2 :: a3 :: a4 :: a5 :: a6 :: a7 :: a8 :: a9 :: a10 :: a11 :: a12 :: a13 :: a14 :: .own o :: l, S⟩ Q R = Q (.slot 15) ⟨a0 :: a1 :: a2 :: a3 :: a4 :: a5 :: a6 :: a7 :: a8 :: a9 :: a10 :: a11 :: a12 :: a13 :: a14 :: .own o :: l, S⟩ := rfl
@[simp ↓] theorem v_c15 : wVar 15 ⟨a0 :: a1 :: a2 :: a3 :: a4 :: a5 :: a6 :: a7 :: a8 :: a9 :: a10 :: a11 :: a12 :: a13 :: a14 :: .cel j :: l, S⟩ Q R = Q (.cel j) ⟨a0 :: a1 :: a2 :: a3 :: a4 :: a5 :: a6 :: a7 :: a8 :: a9 :: a10 :: a11 :: a12 :: a13 :: a14 :: .cel j :: l, S⟩ := rfl
@[simp] theorem v_rd15 : rdf ⟨a0 :: a1 :: a2 :: a3 :: a4 :: a5 :: a6 :: a7 :: a8 :: a9 :: a10 :: a11 :: a12 :: a13 :: a14 :: .own o :: l, S⟩ (.slot 15) k = opK o.dat k := rfl
@[simp ↓] theorem v_rl15 {xs : List D} : rdf ⟨a0 :: a1 :: a2 :: a3 :: a4 :: a5 :: a6 :: a7 :: a8 :: a9 :: a10 :: a11 :: a12 :: a13 :: a14 :: .own (.lst xs) :: l, S⟩ (.slot 15) k = k (.lst xs) := rfl
@[simp ↓] theorem v_rk15 {xs : List (Key × D)} : rdf ⟨a0 :: a1 :: a2 :: a3 :: a4 :: a5 :: a6 :: a7 :: a8 :: a9 :: a10 :: a11 :: a12 :: a13 :: a14 :: .own (.dic xs) :: l, S⟩ (.slot 15) k = k (.dct xs) := rfl
@[simp ↓] theorem v_sq15 : setQ 15 D0 (.d x) ⟨a0 :: a1 :: a2 :: a3 :: a4 :: a5 :: a6 :: a7 :: a8 :: a9 :: a10 :: a11 :: a12 :: a13 :: a14 :: y0 :: l, S⟩ = D0.nx ⟨a0 :: a1 :: a2 :: a3 :: a4 :: a5 :: a6 :: a7 :: a8 :: a9 :: a10 :: a11 :: a12 :: a13 :: a14 :: .d x :: l, S⟩ := rfl
@[simp ↓] theorem v_sn15 : setQ 15 D0 (fz (.new o)) ⟨a0 :: a1 :: a2 :: a3 :: a4 :: a5 :: a6 :: a7 :: a8 :: a9 :: a10 :: a11 :: a12 :: a13 :: a14 :: y0 :: l, S⟩ = D0.nx ⟨a0 :: a1 :: a2 :: a3 :: a4 :: a5 :: a6 :: a7 :: a8 :: a9 :: a10 :: a11 :: a12 :: a13 :: a14 :: .d o.frz :: l, S⟩ := rfl
@[simp ↓] theorem v_sf15 : setQ 15 D0 (fz (.d x)) ⟨a0 :: a1 :: a2 :: a3 :: a4 :: a5 :: a6 :: a7 :: a8 :: a9 :: a10 :: a11 :: a12 :: a13 :: a14 :: y0 :: l, S⟩ = D0.nx ⟨a0 :: a1 :: a2 :: a3 :: a4 :: a5 :: a6 :: a7 :: a8 :: a9 :: a10 :: a11 :: a12 :: a13 :: a14 :: .d x :: l, S⟩ := rfl
@[simp ↓] theorem v_sc15 : setQ 15 D0 (.cel j) ⟨a0 :: a1 :: a2 :: a3 :: a4 :: a5 :: a6 :: a7 :: a8 :: a9 :: a10 :: a11 :: a12 :: a13 :: a14 :: y0 :: l, S⟩ = D0.nx ⟨a0 :: a1 :: a2 :: a3 :: a4 :: a5 :: a6 :: a7 :: a8 :: a9 :: a10 :: a11 :: a12 :: a13 :: a14 :: .cel j :: l, S⟩ := rfl
@[simp ↓] theorem v_gN15 : gN 15 x ⟨a0 :: a1 :: a2 :: a3 :: a4 :: a5 :: a6 :: a7 :: a8 :: a9 :: a10 :: a11 :: a12 :: a13 :: a14 :: y0 :: l, S⟩ QZ R = QZ ⟨a0 :: a1 :: a2 :: a3 :: a4 :: a5 :: a6 :: a7 :: a8 :: a9 :: a10 :: a11 :: a12 :: a13 :: a14 :: .d x :: l, S⟩ := rfl
@[simp ↓] theorem v_wd15 : setW 15 (.d x) ⟨a0 :: a1 :: a2 :: a3 :: a4 :: a5 :: a6 :: a7 :: a8 :: a9 :: a10 :: a11 :: a12 :: a13 :: a14 :: y0 :: l, S⟩ = ⟨a0 :: a1 :: a2 :: a3 :: a4 :: a5 :: a6 :: a7 :: a8 :: a9 :: a10 :: a11 :: a12 :: a13 :: a14 :: .d x :: l, S⟩ := rfl
@[simp ↓] theorem v_wn15 : setW 15 (.new o) ⟨a0 :: a1 :: a2 :: a3 :: a4 :: a5 :: a6 :: a7 :: a8 :: a9 :: a10 :: a11 :: a12 :: a13 :: a14 :: y0 :: l, S⟩ = ⟨a0 :: a1 :: a2 :: a3 :: a4 :: a5 :: a6 :: a7 :: a8 :: a9 :: a10 :: a11 :: a12 :: a13 :: a14 :: .own o :: l, S⟩ := rfl
@[simp ↓] theorem v_tk15 : wTake 15 ⟨a0 :: a1 :: a2 :: a3 :: a4 :: a5 :: a6 :: a7 :: a8 :: a9 :: a10 :: a11 :: a12 :: a13 :: a14 :: .own o :: l, S⟩ Q R = Q (.d o.frz) ⟨a0 :: a1 :: a2 :: a3 :: a4 :: a5 :: a6 :: a7 :: a8 :: a9 :: a10 :: a11 :: a12 :: a13 :: a14 :: .d o.frz :: l, S⟩ := by simp [wTake]
@[simp ↓] theorem v_tl15 {xs : List D} : wTake 15 ⟨a0 :: a1 :: a2 :: a3 :: a4 :: a5 :: a6 :: a7 :: a8 :: a9 :: a10 :: a11 :: a12 :: a13 :: a14 :: .own (.lst xs) :: l, S⟩ Q R = Q (.d (.lst xs)) ⟨a0 :: a1 :: a2 :: a3 :: a4 :: a5 :: a6 :: a7 :: a8 :: a9 :: a10 :: a11 :: a12 :: a13 :: a14 :: .d (.lst xs) :: l, S⟩ := by simp [wTake]
end
section
variable {a0 a1 a2 a3 a4 a5 a6 a7 : D} {l : List D} {kk : W → Prop} {c : D}
@[simp ↓] theorem i_t0 : fIx (.tup (c :: l)) (.int 0) kk = kk (.d c) := by
  have e : atI (c :: l) (0 : Int) = some c := atI_n (c :: l) 0
  rw [x_ix_t, e]; rfl
@[simp ↓] theorem i_l0 : fIx (.lst (c :: l)) (.int 0) kk = kk (.d c) := by
  have e : atI (c :: l) (0 : Int) = some c := atI_n (c :: l) 0
  rw [x_ix_l, e]; rfl
@[simp ↓] theorem i_t1 : fIx (.tup (a0 :: c :: l)) (.int 1) kk = kk (.d c) := by
  have e : atI (a0 :: c :: l) (1 : Int) = some c := atI_n (a0 :: c :: l) 1
  rw [x_ix_t, e]; rfl
@[simp ↓] theorem i_l1 : fIx (.lst (a0 :: c :: l)) (.int 1) kk = kk (.d c) := by
  have e : atI (a0 :: c :: l) (1 : Int) = some c := atI_n (a0 :: c :: l) 1
  rw [x_ix_l, e]; rfl
@[simp ↓] theorem i_t2 : fIx (.tup (a0 :: a1 :: c :: l)) (.int 2) kk = kk (.d c) := by
  have e : atI (a0 :: a1 :: c :: l) (2 : Int) = some c := atI_n (a0 :: a1 :: c :: l) 2
  rw [x_ix_t, e]; rfl
@[simp ↓] theorem i_l2 : fIx (.lst (a0 :: a1 :: c :: l)) (.int 2) kk = kk (.d c) := by
  have e : atI (a0 :: a1 :: c :: l) (2 : Int) = some c := atI_n (a0 :: a1 :: c :: l) 2
  rw [x_ix_l, e]; rfl
@[simp ↓] theorem i_t3 : fIx (.tup (a0 :: a1 :: a2 :: c :: l)) (.int 3) kk = kk (.d c) := by
  have e : atI (a0 :: a1 :: a2 :: c :: l) (3 : Int) = some c := atI_n (a0 :: a1 :: a2 :: c :: l) 3
  rw [x_ix_t, e]; rfl
@[simp ↓] theorem i_l3 : fIx (.lst (a0 :: a1 :: a2 :: c :: l)) (.int 3) kk = kk (.d c) := by
  have e : atI (a0 :: a1 :: a2 :: c :: l) (3 : Int) = some c := atI_n (a0 :: a1 :: a2 :: c :: l) 3
  rw [x_ix_l, e]; rfl
@[simp ↓] theorem i_t4 : fIx (.tup (a0 :: a1 :: a2 :: a3 :: c :: l)) (.int 4) kk = kk (.d c) := by
  have e : atI (a0 :: a1 :: a2 :: a3 :: c :: l) (4 : Int) = some c := atI_n (a0 :: a1 :: a2 :: a3 :: c :: l) 4
  rw [x_ix_t, e]; rfl
@[simp ↓] theorem i_l4 : fIx (.lst (a0 :: a1 :: a2 :: a3 :: c :: l)) (.int 4) kk = kk (.d c) := by
  have e : atI (a0 :: a1 :: a2 :: a3 :: c :: l) (4 : Int) = some c := atI_n (a0 :: a1 :: a2 :: a3 :: c :: l) 4
  rw [x_ix_l, e]; rfl
@[simp ↓] theorem i_t5 : fIx (.tup (a0 :: a1 :: a2 :: a3 :: a4 :: c :: l)) (.int 5) kk = kk (.d c) := by
  have e : atI (a0 :: a1 :: a2 :: a3 :: a4 :: c :: l) (5 : Int) = some c := atI_n (a0 :: a1 :: a2 :: a3 :: a4 :: c :: l) 5
  rw [x_ix_t, e]; rfl
@[simp ↓] theorem i_l5 : fIx (.lst (a0 :: a1 :: a2 :: a3 :: a4 :: c :: l)) (.int 5) kk = kk (.d c) := by
  have e : atI (a0 :: a1 :: a2 :: a3 :: a4 :: c :: l) (5 : Int) = some c := atI_n (a0 :: a1 :: a2 :: a3 :: a4 :: c :: l) 5
  rw [x_ix_l, e]; rfl
@[simp ↓] theorem i_t6 : fIx (.tup (a0 :: a1 :: a2 :: a3 :: a4 :: a5 :: c :: l)) (.int 6) kk = kk (.d c) := by
  have e : atI (a0 :: a1 :: a2 :: a3 :: a4 :: a5 :: c :: l) (6 : Int) = some c := atI_n (a0 :: a1 :: a2 :: a3 :: a4 :: a5 :: c :: l) 6
  rw [x_ix_t, e]; rfl
@[simp ↓] theorem i_l6 : fIx (.lst (a0 :: a1 :: a2 :: a3 :: a4 :: a5 :: c :: l)) (.int 6) kk = kk (.d c) := by
  have e : atI (a0 :: a1 :: a2 :: a3 :: a4 :: a5 :: c :: l) (6 : Int) = some c := atI_n (a0 :: a1 :: a2 :: a3 :: a4 :: a5 :: c :: l) 6
  rw [x_ix_l, e]; rfl
@[simp ↓] theorem i_t7 : fIx (.tup (a0 :: a1 :: a2 :: a3 :: a4 :: a5 :: a6 :: c :: l)) (.int 7) kk = kk (.d c) := by
  have e : atI (a0 :: a1 :: a2 :: a3 :: a4 :: a5 :: a6 :: c :: l) (7 : Int) = some c := atI_n (a0 :: a1 :: a2 :: a3 :: a4 :: a5 :: a6 :: c :: l) 7
  rw [x_ix_t, e]; rfl
@[simp ↓] theorem i_l7 : fIx (.lst (a0 :: a1 :: a2 :: a3 :: a4 :: a5 :: a6 :: c :: l)) (.int 7) kk = kk (.d c) := by
  have e : atI (a0 :: a1 :: a2 :: a3 :: a4 :: a5 :: a6 :: c :: l) (7 : Int) = some c := atI_n (a0 :: a1 :: a2 :: a3 :: a4 :: a5 :: a6 :: c :: l) 7
  rw [x_ix_l, e]; rfl
end
@[simp] theorem x_wipe_n (z : Z) : wipeZ z [] = z := rfl
@[simp] theorem x_wipe_c (z : Z) (v : Nat) (vs : List Nat) : wipeZ z (v :: vs) = ⟨(wipeZ z vs).σ.set v .none, (wipeZ z vs).S⟩ := rfl
@[simp] theorem x_back_n (z1 z2 : Z) : backS z1 z2 [] = z2 := rfl
@[simp] theorem x_back_c (z1 z2 : Z) (v : Nat) (vs : List Nat) : backS z1 z2 (v :: vs) = ⟨(backS z1 z2 vs).σ.set v (match z1.σ[v]? with
      | some (.d x) => .d x
      | some (.cel j) => .cel j
      | _ => .none), (backS z1 z2 vs).S⟩ := rfl
end Eng

end
section
set_option Elab.async false
set_option linter.all false
set_option maxRecDepth 100000
/-! Eng21: equality of plain data; membership. -/
namespace Eng
open PySem PySem.Spec PyProof.Rows L2
mutual
def D.okk : D → Bool
  | .non => true
  | .bl _ => true
  | .int _ => true
  | .str s => PyData.strOk s
  | .tup xs => D.okL xs
  | .lst xs => D.okL xs
  | .scr _ => false
  | .dct _ => false
  | .ob _ _ => false
def D.okL : List D → Bool
  | [] => true
  | x :: xs => D.okk x && D.okL xs
end
mutual
def D.dp : D → Nat
  | .tup xs => D.dpL xs + 1
  | .lst xs => D.dpL xs + 1
  | _ => 0
def D.dpL : List D → Nat
  | [] => 0
  | x :: xs => max (D.dp x) (D.dpL xs)
end
mutual
def D.eqB : D → D → Bool
  | .non, .non => true
  | .bl a, .bl b => a == b
  | .bl a, .int j => (if a then 1 else 0) == j
  | .int i, .bl b => i == (if b then 1 else 0)
  | .int i, .int j => i == j
  | .str x, .str y => x == y
  | .lst xs, .lst ys => D.eqL xs ys
  | .tup xs, .tup ys => D.eqL xs ys
  | _, _ => false
def D.eqL : List D → List D → Bool
  | [], [] => true
  | x :: xs, y :: ys => D.eqB x y && D.eqL xs ys
  | [], _ :: _ => false
  | _ :: _, [] => false
end
mutual
theorem D.py_ok : ∀ d : D, d.okk = true → ∃ x, d.py = some x ∧ x.canLay0 = true ∧ x.depth = d.dp
  | .non, _ => ⟨_, rfl, rfl, rfl⟩
  | .bl _, _ => ⟨_, rfl, rfl, rfl⟩
  | .int _, _ => ⟨_, rfl, rfl, rfl⟩
  | .str s, h => ⟨_, rfl, h, rfl⟩
  | .tup xs, h => by
    obtain ⟨ys, e1, e2, e3⟩ := D.pys_ok xs h
    exact ⟨.tuple ys, by simp [D.py, e1], by simpa [PyData.canLay0] using e2, by simp [PyData.depth, D.dp, e3]⟩
  | .lst xs, h => by
    obtain ⟨ys, e1, e2, e3⟩ := D.pys_ok xs h
    exact ⟨.list ys, by simp [D.py, e1], by simpa [PyData.canLay0] using e2, by simp [PyData.depth, D.dp, e3]⟩
  | .scr _, h => by cases h
  | .dct _, h => by cases h
  | .ob _ _, h => by cases h
theorem D.pys_ok : ∀ ds : List D, D.okL ds = true → ∃ xs, D.pys ds = some xs ∧ PyData.canLayAll0 xs = true ∧ PyData.depthAll xs = D.dpL ds
  | [], _ => ⟨[], rfl, rfl, rfl⟩
  | d :: ds, h => by
    have h' : d.okk = true ∧ D.okL ds = true := by simpa [D.okL] using h
    obtain ⟨x, e1, e2, e3⟩ := D.py_ok d h'.1
    obtain ⟨xs, f1, f2, f3⟩ := D.pys_ok ds h'.2
    exact ⟨x :: xs, by simp [D.pys, e1, f1], by simp [PyData.canLayAll0, e2, f2], by simp [PyData.depthAll, D.dpL, e3, f3]⟩
end
mutual
theorem D.eqv_ok : ∀ (d e : D) (x y : PyData), d.py = some x → e.py = some y → PyData.eqv x y = D.eqB d e
  | .non, e, x, y, hx, hy => by cases hx; cases e <;> first | (cases hy <;> rfl) | (obtain ⟨ys, _, rfl⟩ := Option.map_eq_some_iff.mp hy; rfl)
  | .bl _, e, x, y, hx, hy => by cases hx; cases e <;> first | (cases hy <;> rfl) | (obtain ⟨ys, _, rfl⟩ := Option.map_eq_some_iff.mp hy; rfl)
  | .int _, e, x, y, hx, hy => by cases hx; cases e <;> first | (cases hy <;> rfl) | (obtain ⟨ys, _, rfl⟩ := Option.map_eq_some_iff.mp hy; rfl)
  | .str s, e, x, y, hx, hy => by cases hx; cases e <;> first | (cases hy <;> rfl) | (obtain ⟨ys, _, rfl⟩ := Option.map_eq_some_iff.mp hy; rfl)
  | .tup xs, e, x, y, hx, hy => by
    obtain ⟨us, hu, rfl⟩ := Option.map_eq_some_iff.mp hx
    cases e with
    | tup ys =>
      obtain ⟨vs, hv, rfl⟩ := Option.map_eq_some_iff.mp hy
      exact D.eqvs_ok xs ys us vs hu hv
    | lst ys => obtain ⟨vs, hv, rfl⟩ := Option.map_eq_some_iff.mp hy; rfl
    | _ => cases hy <;> rfl
  | .lst xs, e, x, y, hx, hy => by
    obtain ⟨us, hu, rfl⟩ := Option.map_eq_some_iff.mp hx
    cases e with
    | lst ys =>
      obtain ⟨vs, hv, rfl⟩ := Option.map_eq_some_iff.mp hy
      exact D.eqvs_ok xs ys us vs hu hv
    | tup ys => obtain ⟨vs, hv, rfl⟩ := Option.map_eq_some_iff.mp hy; rfl
    | _ => cases hy <;> rfl
  | .scr _, e, x, y, hx, hy => by cases hx
  | .dct _, e, x, y, hx, hy => by cases hx
  | .ob _ _, e, x, y, hx, hy => by cases hx
theorem D.eqvs_ok : ∀ (ds es : List D) (xs ys : List PyData), D.pys ds = some xs → D.pys es = some ys → PyData.eqvAll xs ys = D.eqL ds es
  | [], [], xs, ys, hx, hy => by cases hx; cases hy; rfl
  | [], e :: es, xs, ys, hx, hy => by
    cases hx
    simp only [D.pys] at hy
    split at hy
    · cases hy; rfl
    · cases hy
  | d :: ds, [], xs, ys, hx, hy => by
    cases hy
    simp only [D.pys] at hx
    split at hx
    · cases hx; rfl
    · cases hx
  | d :: ds, e :: es, xs, ys, hx, hy => by
    simp only [D.pys] at hx hy
    split at hx
    · rename_i a as h1 h2
      cases hx
      split at hy
      · rename_i b bs h3 h4
        cases hy
        simp only [PyData.eqvAll, D.eqL, D.eqv_ok d e a b h1 h3, D.eqvs_ok ds es as bs h2 h4]
      · cases hy
    · cases hx
end
def D.eqOk (d e : D) : Bool := D.okk d && D.okk e && decide (D.dp d ≤ 64) && decide (D.dp e ≤ 64)
theorem x_eq (neg : Bool) (d e : D) (kk : W → Prop) (h : D.eqOk d e = true) : fEq neg d e kk = kk (.d (.bl (if neg then !D.eqB d e else D.eqB d e))) := by
  have h' : ((d.okk = true ∧ e.okk = true) ∧ d.dp ≤ 64) ∧ e.dp ≤ 64 := by simpa [D.eqOk] using h
  obtain ⟨⟨⟨h1, h2⟩, h3⟩, h4⟩ := h'
  obtain ⟨x, a1, a2, a3⟩ := D.py_ok d h1
  obtain ⟨y, b1, b2, b3⟩ := D.py_ok e h2
  have e1 := D.eqv_ok d e x y a1 b1
  have s1 : SeqAt.shaped x = true := by simp [SeqAt.shaped, a2, a3, h3]
  have s2 : SeqAt.shaped y = true := by simp [SeqAt.shaped, b2, b3, h4]
  apply propext
  constructor
  · rintro ⟨x', y', c1, c2, _, _, c3⟩
    rw [a1] at c1; rw [b1] at c2
    cases c1; cases c2
    rw [e1] at c3; exact c3
  · intro c
    exact ⟨x, y, a1, b1, s1, s2, by rw [e1]; exact c⟩
@[simp] theorem okL_ints (xs : List Int) : D.okL (xs.map D.int) = true := by
  induction xs with
  | nil => rfl
  | cons x xs ih => simp [D.okL, D.okk, ih]
@[simp] theorem dpL_ints (xs : List Int) : D.dpL (xs.map D.int) = 0 := by
  induction xs with
  | nil => rfl
  | cons x xs ih => simp [D.dpL, D.dp, ih]
@[simp] theorem okL_tups (xs : List (List Int)) : D.okL (xs.map tupI) = true := by
  induction xs with
  | nil => rfl
  | cons x xs ih => simp [D.okL, D.okk, tupI, ih]
theorem dpL_tups (xs : List (List Int)) : D.dpL (xs.map tupI) ≤ 1 := by
  induction xs with
  | nil => simp [D.dpL]
  | cons x xs ih => simp [D.dpL, D.dp, tupI, ih]
@[simp] theorem dpL_tups' (xs : List (List Int)) : D.dpL (xs.map tupI) ≤ 63 := Nat.le_trans (dpL_tups xs) (by omega)
@[simp] theorem eqL_ints (xs ys : List Int) : D.eqL (xs.map D.int) (ys.map D.int) = decide (xs = ys) := by
  induction xs generalizing ys with
  | nil => cases ys <;> simp [D.eqL]
  | cons x xs ih => cases ys with
    | nil => simp [D.eqL]
    | cons y ys =>
      simp only [List.map_cons, D.eqL, D.eqB, ih]
      by_cases h : x = y <;> simp [h]
@[simp] theorem eqL_nil_r (xs : List D) : D.eqL xs [] = xs.isEmpty := by cases xs <;> rfl
@[simp] theorem eqL_nil_l (xs : List D) : D.eqL [] xs = xs.isEmpty := by cases xs <;> rfl
@[simp ↓] theorem x_eq_ii (neg : Bool) (i j : Int) (kk : W → Prop) : fEq neg (.int i) (.int j) kk = kk (.d (.bl (if neg then !decide (i = j) else decide (i = j)))) := by
  rw [x_eq _ _ _ _ rfl]
  have e : (i == j) = decide (i = j) := by by_cases h : i = j <;> simp [h]
  simp only [D.eqB, e]
@[simp ↓] theorem x_eq_nt (neg : Bool) (xs : List Int) (kk : W → Prop) : fEq neg .non (.tup (xs.map D.int)) kk = kk (.d (.bl neg)) := by
  rw [x_eq _ _ _ _ (by simp [D.eqOk, D.okk, D.dp])]
  cases neg <;> simp [D.eqB]
@[simp ↓] theorem x_eq_li0 (neg : Bool) (xs : List Int) (kk : W → Prop) : fEq neg (.lst (xs.map D.int)) (.lst []) kk = kk (.d (.bl (if neg then !xs.isEmpty else xs.isEmpty))) := by
  rw [x_eq _ _ _ _ (by simp [D.eqOk, D.okk, D.dp, D.okL, D.dpL])]
  simp [D.eqB]
@[simp ↓] theorem x_eq_lt0 (neg : Bool) (xs : List (List Int)) (kk : W → Prop) : fEq neg (.lst (xs.map tupI)) (.lst []) kk = kk (.d (.bl (if neg then !xs.isEmpty else xs.isEmpty))) := by
  rw [x_eq _ _ _ _ (by simp [D.eqOk, D.okk, D.dp, D.okL, D.dpL])]
  simp [D.eqB]
theorem flat_ints (xs : List Int) : (xs.map D.int).mapM flatD = some (xs.map V.int) := by
  induction xs with
  | nil => rfl
  | cons x xs ih => simp [List.mapM_cons, flatD, ih]
theorem inV_ints (n : Int) (xs : List Int) : inV (.int n) (xs.map V.int) = decide (n ∈ xs) := by
  unfold inV
  induction xs with
  | nil => simp
  | cons x xs ih =>
    rw [List.map_cons, List.any_cons, ih]
    have e : eqV (.int x) (.int n) = decide (n = x) := by
      show decide (x = n) = _
      simp [eq_comm]
    rw [e]
    by_cases h : n = x <;> simp [h]
theorem x_in_i (neg : Bool) (n : Int) (d : D) (xs : List Int) (kk : W → Prop) (hd : seqD d = some (xs.map D.int)) : fIn neg (.int n) d kk = kk (.d (.bl (if neg then !decide (n ∈ xs) else decide (n ∈ xs)))) := by
  have f : (xs.map V.int).all flatV = true := by simp [flatV]
  apply propext
  constructor
  · rintro ⟨x, ys, vs, h1, h2, h3, h4, h5, h6⟩
    cases h1
    rw [hd] at h2; cases h2
    rw [flat_ints] at h3; cases h3
    rw [inV_ints] at h6; exact h6
  · intro h
    exact ⟨.int n, _, _, rfl, hd, flat_ints xs, rfl, f, by rw [inV_ints]; exact h⟩
@[simp ↓] theorem x_in_pm (neg : Bool) (n : Int) (kk : W → Prop) : fIn neg (.int n) (.tup [.int 1, .int (-1)]) kk = kk (.d (.bl (if neg then !decide (n = 1 ∨ n = -1) else decide (n = 1 ∨ n = -1)))) := by
  rw [x_in_i neg n _ [1, -1] kk rfl]
  simp
@[simp ↓] theorem x_in_2 (neg : Bool) (n i j : Int) (kk : W → Prop) : fIn neg (.int n) (.tup [.int i, .int j]) kk = kk (.d (.bl (if neg then !decide (n = i ∨ n = j) else decide (n = i ∨ n = j)))) := by
  rw [x_in_i neg n _ [i, j] kk rfl]
  simp
end Eng

end
section
set_option Elab.async false
set_option linter.all false
set_option maxRecDepth 100000
/-! Eng22: loops over data. -/
namespace Eng
open PySem PySem.Spec PyProof.Rows L2
section
variable {vs : List Nat} {P : Z → Prop} {g : WG} {t : WT} {el : WE} {Q : List D → Z → Prop} {z : Z} {α : Type}
/-- a comprehension whose turns leave the rest as it is -/
theorem cLoop_pure (enc : α → D) (f : α → D) (c : α → Bool) (hP : P z) : ∀ (xs : List α) (acc : List D),
    (∀ a ∈ xs, ∀ (KT : W → Z → Prop) (KF : Z → Prop), (c a = true → ∀ z4, wipeZ z4 vs = z → KT (.d (f a)) z4) → (c a = false → ∀ z3, wipeZ z3 vs = z → KF z3) →
      g (enc a) z (fun z2 => t z2 (fun k z3 => if k = true then wFr el z3 KT noX else KF z3) noX) noX) →
    acc.length + xs.length ≤ sizeLine → Q (acc ++ (xs.filter c).map f) z → cLoop vs P g t el Q (xs.map enc) acc z
  | [], acc, _, _, h => ⟨hP, by simpa using h⟩
  | a :: xs, acc, hs, hl, h => by
    refine ⟨hP, hs a List.mem_cons_self _ _ (fun hc z4 e => ?_) (fun hc z3 e => ?_)⟩
    · rw [e]
      refine ⟨_, rfl, by rw [List.length_cons] at hl; omega, ?_⟩
      refine cLoop_pure enc f c hP xs _ (fun b hb => hs b (List.mem_cons_of_mem _ hb)) (by rw [List.length_append, List.length_cons, List.length_nil]; rw [List.length_cons] at hl; omega) ?_
      rw [List.filter_cons_of_pos hc, List.map_cons] at h
      rw [List.append_assoc]
      exact h
    · rw [e]
      refine cLoop_pure enc f c hP xs acc (fun b hb => hs b (List.mem_cons_of_mem _ hb)) (by rw [List.length_cons] at hl; omega) ?_
      rw [List.filter_cons_of_neg (by rw [hc]; simp)] at h
      exact h
theorem cLoop_map (enc : α → D) (f : α → D) (hP : P z) (xs : List α)
    (hs : ∀ a ∈ xs, ∀ (KT : W → Z → Prop), (∀ z4, wipeZ z4 vs = z → KT (.d (f a)) z4) → g (enc a) z (fun z2 => wFr el z2 KT noX) noX)
    (hl : xs.length ≤ sizeLine) (h : Q (xs.map f) z) : cLoop vs P g wYes el Q (xs.map enc) [] z :=
  cLoop_pure enc f (fun _ => true) hP xs [] (fun a ha KT KF h1 h2 => by
    have q := hs a ha KT (h1 rfl)
    simpa [wYes] using q) (by simpa using hl) (by rw [List.nil_append, List.filter_eq_self.mpr fun _ _ => rfl]; exact h)
/-- .. whose state moves: I, of what was made and what is left -/
theorem cLoop_inv (I : List D → List D → Z → Prop) (hend : ∀ acc z, I acc [] z → P z ∧ Q acc z) (hstep : ∀ acc x xs z, I acc (x :: xs) z → P z ∧ ∀ (KT : W → Z → Prop) (KF : Z → Prop),
      (∀ d z4, acc.length < sizeLine ∧ I (acc ++ [d]) xs (wipeZ z4 vs) → KT (.d d) z4) → (∀ z3, I acc xs (wipeZ z3 vs) → KF z3) → g x z (fun z2 => t z2 (fun k z3 => if k = true then wFr el z3 KT noX else KF z3) noX) noX) :
    ∀ (xs acc : List D) (z : Z), I acc xs z → cLoop vs P g t el Q xs acc z
  | [], acc, z, h => hend acc z h
  | x :: xs, acc, z, h => by
    obtain ⟨h1, h2⟩ := hstep acc x xs z h
    exact ⟨h1, h2 _ _ (fun d z4 q => ⟨d, rfl, q.1, cLoop_inv I hend hstep xs _ _ q.2⟩) fun z3 q => cLoop_inv I hend hstep xs _ _ q⟩
end
section
variable {g : WG} {b : WS} {Dd : Ed} {R : XR}
theorem fLoop_inv (I : List D → Z → Prop) (hend : ∀ z, I [] z → Dd.nx z) (hstep : ∀ x xs z, I (x :: xs) z → ∀ K : Z → Prop, (∀ z', I xs z' → K z') → g x z (fun z2 => b z2 { nx := K, ct := K, bk := Dd.nx, rt := Dd.rt } R) R) :
    ∀ (xs : List D) (z : Z), I xs z → fLoop g b Dd R xs z
  | [], z, h => hend z h
  | x :: xs, z, h => hstep x xs z h _ fun z' q => fLoop_inv I hend hstep xs z' q
/-- over encoded items -/
theorem fLoop_enc {α : Type} (enc : α → D) (I : List α → Z → Prop) (hend : ∀ z, I [] z → Dd.nx z) (hstep : ∀ x xs z, I (x :: xs) z → ∀ K : Z → Prop, (∀ z', I xs z' → K z') → g (enc x) z (fun z2 => b z2 { nx := K, ct := K, bk := Dd.nx, rt := Dd.rt } R) R) :
    ∀ (xs : List α) (z : Z), I xs z → fLoop g b Dd R (xs.map enc) z
  | [], z, h => hend z h
  | x :: xs, z, h => hstep x xs z h _ fun z' q => fLoop_enc enc I hend hstep xs z' q
end
@[simp ↓] theorem x_sum (ns : List Int) (kk : W → Prop) : fSum [.lst (ns.map D.int)] kk = kk (.d (.int ns.sum)) := by
  apply propext
  constructor
  · rintro ⟨ms, h1, h2⟩
    have : ms = ns := by
      have h3 : ns.map D.int = ms.map D.int := by simpa using h1
      exact (List.map_inj_right (fun a b h => by injection h)).mp h3.symm
    rw [this] at h2; exact h2
  · intro h; exact ⟨ns, rfl, h⟩
theorem sum_filter {α : Type} (c : α → Bool) (f : α → Int) (xs : List α) : ((xs.filter c).map f).sum = (xs.map fun a => if c a then f a else 0).sum := by
  induction xs with
  | nil => rfl
  | cons x xs ih =>
    by_cases h : c x = true
    · rw [List.filter_cons_of_pos h, List.map_cons, List.map_cons, List.sum_cons, List.sum_cons, ih, if_pos h]
    · rw [List.filter_cons_of_neg h, List.map_cons, List.sum_cons, ih, if_neg h, Int.zero_add]
theorem x_sum' (ns : List Int) (ds : List D) (kk : W → Prop) (e : ds = ns.map D.int) (h : kk (.d (.int ns.sum))) : fSum [.lst ds] kk := by
  subst e; exact ⟨ns, rfl, h⟩
theorem x_all (ns : List Bool) (kk : W → Prop) (h : kk (.d (.bl (ns.all id)))) : fAll [.lst (ns.map D.bl)] kk := ⟨ns, rfl, h⟩
theorem cut_to {α : Type} (xs : List α) (n : Nat) : cutD xs none (some (n : Int)) = xs.take n := by
  unfold cutD
  rw [HT.sIx_none, HT.sIx_nat, List.drop_zero, Nat.sub_zero]
  by_cases h : n ≤ xs.length
  · rw [Nat.min_eq_left h]
  · rw [Nat.min_eq_right (by omega), List.take_length, List.take_of_length_le (by omega)]
theorem cut_from {α : Type} (xs : List α) (n : Nat) : cutD xs (some (n : Int)) none = xs.drop n := by
  unfold cutD
  rw [HT.sIx_none, HT.sIx_nat]
  by_cases h : n ≤ xs.length
  · rw [Nat.min_eq_left h, List.take_of_length_le (by rw [List.length_drop]; omega)]
  · rw [Nat.min_eq_right (by omega), List.drop_length, List.drop_of_length_le (by omega)]; simp
end Eng

end
section
set_option Elab.async false
set_option linter.all false
set_option maxRecDepth 100000
/-! Eng23: sum(lists, []). -/
namespace Eng
open PySem PySem.Spec PyProof PyProof.Rows L2
theorem ent_sum : entryFor table "sum" = some Builtin.sum := by
  unfold entryFor
  rw [table_eq_tree]
  rfl
theorem ent_sumLoop : entryFor table "sum.loop" = some Builtin.«sum.loop» := by
  unfold entryFor
  rw [table_eq_tree]
  rfl
theorem ent_listAdd : entryFor table "list.__add__" = some Builtin.«list.__add__» := by
  unfold entryFor
  rw [table_eq_tree]
  rfl
theorem get_size (h : Heap) : h.get? h.objs.size = none := by
  unfold Heap.get?
  simp
theorem upd_size (h : Heap) (a : Addr) (f : Obj → Obj) : (h.update a f).objs.size = h.objs.size := by
  unfold Heap.update
  split <;> simp
theorem push_size (h : Heap) (o : Obj) : (h.push o).objs.size = h.objs.size + 1 := by
  unfold Heap.push
  simp
section
variable {prog : Program} {w : World} {A : Around} {E : Value → Shared → Prop} {s : Shared}
theorem add_raw {l b : Addr} {xs ys : Array Value} {Q : Value → Shared → Prop} (hl : PlainL s.heap l xs) (hb : PlainL s.heap b ys) (hz : xs.size + ys.size ≤ sizeLine)
    (h : Q (.ref s.heap.objs.size) { s with heap := s.heap.push { cls := .type "list", data := .seq (xs ++ ys) } }) : wpAny (model prog w) A (binaryOp .Add (.ref l) (.ref b)) Q E s := by
  obtain ⟨o, n, e1, e2, e3, e4⟩ := hl
  obtain ⟨o', n', f1, f2, f3, f4⟩ := hb
  refine concat_meets (T := "list") ⟨o, e1, e2⟩ ⟨o', f1, f2⟩ noFill_list_add seq_list_add PySem.F.slot_list_add ent_listAdd (by rfl) (list_addW l b xs ys n n' o.dict o'.dict o.slots o'.slots hz) ⟨?_, ?_, h⟩
  · rw [e1]; cases o; simp at e2 e4; simp [e2, e4]
  · rw [f1]; cases o'; simp at f2 f4; simp [f2, f4]
theorem PlainL.pushed {h : Heap} {a : Addr} {xs : Array Value} (hl : PlainL h a xs) (o : Obj) : PlainL (h.push o) a xs := by
  obtain ⟨u, n, e1, e2⟩ := hl
  exact ⟨u, n, Heap.get?_push_of_some _ e1, e2⟩
theorem PlainL.keep {h h' : Heap} {a : Addr} {xs : Array Value} (hl : PlainL h a xs) (k : ∀ u, h.get? a = some u → h'.get? a = some u) : PlainL h' a xs := by
  obtain ⟨u, n, e1, e2⟩ := hl
  exact ⟨u, n, k u e1, e2⟩
theorem PlainL.isL {h : Heap} {a : Addr} {xs : Array Value} (hl : PlainL h a xs) : h.IsList a xs := by
  obtain ⟨u, n, e1, e2, e3, e4⟩ := hl
  exact ⟨u, e1, e2, n, e4⟩
def SqO (h : Heap) (a : Addr) (xs : Array Value) : Prop := ∃ n, h.get? a = some { cls := .type "list", data := .seq xs n }
theorem SqO.pl {h : Heap} {a : Addr} {xs : Array Value} (q : SqO h a xs) : PlainL h a xs := by
  obtain ⟨n, e⟩ := q
  exact ⟨_, n, e, rfl, rfl, rfl⟩
theorem SqO.keep {h h' : Heap} {a : Addr} {xs : Array Value} (hl : SqO h a xs) (k : ∀ u, h.get? a = some u → h'.get? a = some u) : SqO h' a xs := by
  obtain ⟨n, e1⟩ := hl
  exact ⟨n, k _ e1⟩
def sumArgs (I S : Addr) : Args := { pos := [.ref I, .ref S, rawInt 2, rawInt 0] }
theorem sumL_loop (l I S : Addr) (ps : List Addr) (yss : List (List Value)) (h0 : Heap) (hl : PlainL h0 l (ps.map Value.ref).toArray) (hlen : ps.length = yss.length)
    (hit : ∀ (i : Nat) p ys, ps[i]? = some p → yss[i]? = some ys → PlainL h0 p ys.toArray) (hS : h0.get? S = none) (hI : h0.get? I = none) (hIS : I ≠ S) (hSz : h0.objs.size ≤ S) :
    ∀ (k j : Nat), j + k = ps.length → ∀ (A : Around) (s : Shared) (t : Addr) (acc : List Value) (c : Nat) (R : Result → Shared → Prop), A.handled = none → (∀ b u, h0.get? b = some u → s.heap.get? b = some u) →
      s.heap.IsListIter I l j → s.heap.get? S = some { cls := .type "list", data := .seq #[.ref t] c } → SqO s.heap t acc.toArray → t ≠ S → t ≠ I → acc.length + (yss.drop j).flatten.length ≤ sizeLine → h0.objs.size ≤ s.heap.objs.size →
      (∀ (h' : Heap) (p : Addr), (∀ b u, h0.get? b = some u → h'.get? b = some u) → SqO h' p (acc ++ (yss.drop j).flatten).toArray → (p = t ∧ k = 0 ∨ h0.objs.size ≤ p) → R (.ok (.ret (.ref p))) { s with heap := h' }) →
      codeAny (model prog w) A (.builtin "sum.loop" (sumArgs I S)) R s := by
  intro k
  induction k with
  | zero =>
    intro j hj A s t acc c R hh keep hi hs ht htS htI hz hsz post
    have hj' : j = ps.length := by omega
    refine codeAny_builtin ent_sumLoop ?_
    unfold Builtin.«sum.loop» sumArgs rawInt
    refine wpAny_bind (wpAny_seqItems hs rfl ?_)
    have hl' := PlainL.keep hl (fun u e => keep l u e)
    refine wpAny_bind (wpAny_tryCatch (wpAny_pyNext_list_end hh hi (PlainL.isL hl') (by simp [hj']) fun h1 eb => ?_))
    refine wpAny_pure ?_
    refine post h1 t (fun b u e => eb b u (fun q => ?_) (keep b u e)) ?_ (.inl ⟨rfl, rfl⟩)
    · rw [q, hI] at e; cases e
    · have e : (yss.drop j).flatten = [] := by rw [hj', hlen, List.drop_length]; rfl
      rw [e, List.append_nil]
      exact SqO.keep ht fun u e => eb t u htI e
  | succ k ih =>
    intro j hj A s t acc c R hh keep hi hs ht htS htI hz hsz post
    have hjl : j < ps.length := by omega
    obtain ⟨p, hp⟩ : ∃ p, ps[j]? = some p := ⟨ps[j], List.getElem?_eq_getElem hjl⟩
    obtain ⟨ys, hy⟩ : ∃ ys, yss[j]? = some ys := ⟨yss[j]'(by omega), List.getElem?_eq_getElem (by omega)⟩
    have hdrop : yss.drop j = ys :: yss.drop (j + 1) := by
      rw [List.drop_eq_getElem_cons (by omega : j < yss.length)]
      congr 1
      have := List.getElem?_eq_getElem (l := yss) (i := j) (by omega)
      rw [hy] at this
      exact (Option.some.inj this).symm
    have hfl : (yss.drop j).flatten = ys ++ (yss.drop (j + 1)).flatten := by rw [hdrop]; rfl
    rw [hfl, List.length_append] at hz
    refine codeAny_builtin ent_sumLoop ?_
    unfold Builtin.«sum.loop» sumArgs rawInt
    refine wpAny_bind (wpAny_seqItems hs rfl ?_)
    have hl' := PlainL.keep hl (fun u e => keep l u e)
    refine wpAny_bind (wpAny_tryCatch (wpAny_pyNext_list_item hi (PlainL.isL hl') (x := .ref p) (by simp [hp]) fun h1 hi1 sb => ?_))
    have k1 : ∀ b u, b ≠ I → s.heap.get? b = some u → h1.get? b = some u := fun b u q e => by rw [sb.2 b q]; exact e
    have hne : ∀ b u, h0.get? b = some u → b ≠ I ∧ b ≠ S := fun b u e => ⟨fun q => (by rw [q, hI] at e; cases e), fun q => (by rw [q, hS] at e; cases e)⟩
    have hpl := hit j p ys hp hy
    have hpl1 : PlainL h1 p ys.toArray := PlainL.keep hpl fun u e => k1 p u (hne p u e).1 (keep p u e)
    have htl1 : PlainL h1 t acc.toArray := PlainL.keep (SqO.pl ht) fun u e => k1 t u htI e
    refine wpAny_bind (wpAny_attempt (wpAny_holding (add_raw (s := { s with heap := h1 }) htl1 hpl1 (by simp; omega) ?_)))
    have hs1 : (h1.push { cls := Value.type "list", data := Data.seq (acc.toArray ++ ys.toArray) }).get? S = some { cls := .type "list", data := .seq #[.ref t] c } := Heap.get?_push_of_some _ (k1 S _ (Ne.symm hIS) hs)
    refine wpAny_bind (wpAny_updateSeq hs1 rfl ?_)
    refine wpAny_bind (wpAny_letGo ?_)
    have hs2 := Heap.get?_update_self (Obj.mapSeq fun _ => #[Value.ref h1.objs.size]) hs1 rfl
    refine wpAny_bind (wpAny_updateSeq hs2 rfl ?_)
    have hs3 := Heap.get?_update_self (Obj.mapSeq fun _ => #[Value.ref h1.objs.size]) hs2 rfl
    refine wpAny_pure ⟨plainId_quiet (by decide +kernel) _, ?_⟩
    have nn : ∀ a u, h1.get? a = some u → a ≠ h1.objs.size := by
      intro a u e q
      rw [q, get_size] at e
      cases e
    have sI1 : ∃ u, h1.get? I = some u := by obtain ⟨u, e, _⟩ := hi1; exact ⟨u, e⟩
    obtain ⟨uI, eI⟩ := sI1
    have nS := nn S _ (k1 S _ (Ne.symm hIS) hs)
    have nI := nn I _ eI
    have up : ∀ b u, b ≠ S → (h1.push { cls := Value.type "list", data := Data.seq (acc.toArray ++ ys.toArray) }).get? b = some u → (((h1.push { cls := Value.type "list", data := Data.seq (acc.toArray ++ ys.toArray) }).update S (Obj.mapSeq fun _ => #[Value.ref h1.objs.size])).update S (Obj.mapSeq fun _ => #[Value.ref h1.objs.size])).get? b = some u := by
      intro b u q e
      rw [Heap.get?_update_other _ _ (Ne.symm q), Heap.get?_update_other _ _ (Ne.symm q)]
      exact e
    have hnew := Heap.get?_push_size h1 (o := { cls := Value.type "list", data := Data.seq (acc.toArray ++ ys.toArray) }) rfl
    refine ih (j + 1) (by omega) A { s with heap := (((h1.push { cls := Value.type "list", data := Data.seq (acc.toArray ++ ys.toArray) }).update S (Obj.mapSeq fun _ => #[Value.ref h1.objs.size])).update S (Obj.mapSeq fun _ => #[Value.ref h1.objs.size])) } h1.objs.size (acc ++ ys) _ R hh (fun b u e => up b u (hne b u e).2 (Heap.get?_push_of_some _ (k1 b u (hne b u e).1 (keep b u e)))) ?_ hs3 ?_ (Ne.symm nS) (Ne.symm nI) (by rw [List.length_append]; omega) (by show h0.objs.size ≤ Array.size _; rw [upd_size, upd_size, push_size, sb.1]; omega) ?_
    · obtain ⟨u, e, r⟩ := hi1
      exact ⟨u, up I u hIS (Heap.get?_push_of_some _ e), r⟩
    · refine ⟨0, up _ _ (Ne.symm nS) ?_⟩
      rw [hnew]
      simp
    · intro h' p' q1 q2 q3
      refine post h' p' q1 ?_ (.inr ?_)
      · rw [hfl, ← List.append_assoc]; exact q2
      · rcases q3 with q3 | q3
        · rw [q3.1, sb.1]
          exact hsz
        · exact q3
end
end Eng

end
section
set_option Elab.async false
set_option linter.all false
set_option maxRecDepth 100000
/-! Eng24: sum(lists, []): the call and its reading. -/
namespace Eng
open PySem PySem.Spec PyProof PyProof.Rows L2
section
variable {prog : Program} {w : World} {A : Around} {E : Value → Shared → Prop} {s : Shared}
theorem get_ge (h : Heap) (a : Addr) (q : h.objs.size ≤ a) : h.get? a = none := by
  unfold Heap.get?
  rw [Array.getElem?_eq_none q]
theorem bind_sum (e : Addr) : Builtin.Builtins.bindParams "sum" ["start"] 0 { pos := [Value.ref e], kw := [] } = pure [some (.ref e)] := by rfl
theorem sub_list_str : isSubtype (.type "list") (.type "str") = pure false := by rfl
theorem sub_list_bytes : isSubtype (.type "list") (.type "bytes") = pure false := by rfl
theorem sub_list_ba : isSubtype (.type "list") (.type "bytearray") = pure false := by rfl
theorem sumL_raw {l e : Addr} {ps : List Addr} {yss : List (List Value)} {Q : Value → Shared → Prop} (hh : A.handled = none) (hl : PlainL s.heap l (ps.map Value.ref).toArray) (he : SqO s.heap e #[]) (hlen : ps.length = yss.length)
    (hit : ∀ (i : Nat) p ys, ps[i]? = some p → yss[i]? = some ys → PlainL s.heap p ys.toArray) (hz : yss.flatten.length ≤ sizeLine)
    (h : ∀ (h' : Heap) (p : Addr), (∀ b u, s.heap.get? b = some u → h'.get? b = some u) → SqO h' p yss.flatten.toArray → (p = e ∧ ps = [] ∨ s.heap.objs.size ≤ p) → Q (.ref p) { s with heap := h' }) :
    wpAny (model prog w) A (call (.builtin "sum") [.ref l, .ref e]) Q E s := by
  refine call_function_tree (by decide +kernel) (by decide +kernel) ent_sum (by rfl) ?_
  unfold Builtin.sum
  refine wpAny_bind (wpAny_of_eq (bind_sum e) ?_)
  have heL : ∀ s' : Shared, (∀ b u, s.heap.get? b = some u → s'.heap.get? b = some u) → s'.TypeIs (.ref e) "list" := by
    intro s' k
    obtain ⟨n, e1⟩ := he
    exact ⟨_, k e _ e1, rfl⟩
  refine wpAny_bind (wpAny_pyIter_list (PlainL.isL hl) ?_)
  have k1 : ∀ b u, s.heap.get? b = some u → (s.heap.push { cls := Value.type "list_iterator", data := Data.fields #[Value.ref l, Value.int 0 0] }).get? b = some u := fun b u q => Heap.get?_push_of_some _ q
  refine wpAny_bind (wpAny_pure ?_)
  refine wpAny_bind ?_
  simp only [List.forIn_cons, List.forIn_nil]
  refine wpAny_bind (wpAny_bind (wpAny_isInstance (T := "list") (b := false) (heL _ k1) sub_list_str ?_))
  refine wpAny_pure ?_
  refine wpAny_bind (wpAny_bind (wpAny_isInstance (T := "list") (b := false) (heL _ k1) sub_list_bytes ?_))
  refine wpAny_pure ?_
  refine wpAny_bind (wpAny_bind (wpAny_isInstance (T := "list") (b := false) (heL _ k1) sub_list_ba ?_))
  refine wpAny_pure ?_
  refine wpAny_pure ?_
  refine wpAny_bind (wpAny_newList ?_ (by simp [sizeLine_eq]))
  refine wpAny_pure ⟨plainId_quiet (by decide +kernel) _, ?_⟩
  have eN : ∀ a : Addr, a < s.heap.objs.size → a ≠ s.heap.objs.size ∧ a ≠ (s.heap.push { cls := Value.type "list_iterator", data := Data.fields #[Value.ref l, Value.int 0 0] }).objs.size := by
    intro a q
    rw [push_size]
    exact ⟨Nat.ne_of_lt q, Nat.ne_of_lt (Nat.lt_succ_of_lt q)⟩
  have elt : e < s.heap.objs.size := by
    obtain ⟨n, e1⟩ := he
    rcases Nat.lt_or_ge e s.heap.objs.size with q | q
    · exact q
    · rw [get_ge _ _ q] at e1; cases e1
  refine sumL_loop l s.heap.objs.size (s.heap.push { cls := Value.type "list_iterator", data := Data.fields #[Value.ref l, Value.int 0 0] }).objs.size ps yss s.heap hl hlen hit (get_ge _ _ (by rw [push_size]; exact Nat.le_succ _)) (get_size _) (by rw [push_size]; exact Nat.ne_of_lt (Nat.lt_succ_self _)) (by rw [push_size]; exact Nat.le_succ _)
    ps.length 0 (by omega) A { s with heap := (s.heap.push { cls := Value.type "list_iterator", data := Data.fields #[Value.ref l, Value.int 0 0] }).push { cls := Value.type "list", data := Data.seq #[Value.ref e] } } e [] 0 _ hh (fun b u q => Heap.get?_push_of_some _ (k1 b u q)) ?_ (Heap.get?_push_size _ rfl) ?_ (eN e elt).2 (eN e elt).1 (by simpa using hz) (by show _ ≤ Array.size _; rw [push_size, push_size]; omega) ?_
  · exact ⟨_, Heap.get?_push_of_some _ (Heap.get?_push_size _ rfl), rfl, rfl⟩
  · exact SqO.keep he fun u q => Heap.get?_push_of_some _ (k1 e u q)
  · intro h' p q1 q2 q3
    refine h h' p q1 (by simpa using q2) ?_
    rcases q3 with ⟨a, b⟩ | q3
    · exact .inl ⟨a, List.length_eq_zero_iff.mp b⟩
    · exact .inr q3
end
/-- sum(xss, []), a list of lists -/
def rSumL : List V → Hp → VK → Prop := fun vs H Q => ∃ (a e : Addr) (ps : List Addr) (yss : List (List V)), vs = [V.ref a, V.ref e] ∧ H a = some (.lst (ps.map V.ref)) ∧ H e = some (.lst []) ∧ ps.length = yss.length ∧
  (∀ (i : Nat) p ys, ps[i]? = some p → yss[i]? = some ys → H p = some (.lst ys)) ∧ yss.flatten.length ≤ sizeLine ∧ (ps = [] → Q (.ref e) H) ∧ ∀ p, H p = none → Q (.ref p) (upd H p (.lst yss.flatten))
theorem refs_vals : ∀ {ps : List Addr} {us : List Value}, Vals (ps.map V.ref) us → us = ps.map Value.ref
  | [], _, .nil => rfl
  | p :: ps, _, .cons r rr => by
    have e : _ = Value.ref p := r
    rw [e, refs_vals rr]; rfl
theorem lists_raw {X : Cx} {pins : List (Addr × Obj)} {σ : L2.St} {H : Hp} {s : Shared} (I : Inv X pins σ H s) : ∀ (ps : List Addr) (yss : List (List V)), ps.length = yss.length → (∀ (i : Nat) p ys, ps[i]? = some p → yss[i]? = some ys → H p = some (.lst ys)) →
    ∃ uss : List (List Value), uss.length = yss.length ∧ Vals yss.flatten uss.flatten ∧ ∀ (i : Nat) p us, ps[i]? = some p → uss[i]? = some us → PlainL s.heap p us.toArray
  | [], [], _, _ => ⟨[], rfl, .nil, fun i p us e => by simp at e⟩
  | [], _ :: _, h, _ => by simp at h
  | _ :: _, [], h, _ => by simp at h
  | p :: ps, ys :: yss, h, hit => by
    obtain ⟨us, h1, h2, _⟩ := I.list (SqL.of (hit 0 p ys rfl rfl))
    obtain ⟨uss, g1, g2, g3⟩ := lists_raw I ps yss (by simpa using h) fun i p' ys' a b => hit (i + 1) p' ys' (by simpa using a) (by simpa using b)
    refine ⟨us :: uss, by simp [g1], ?_, fun i p' us' a b => ?_⟩
    · rw [List.flatten_cons, List.flatten_cons]; exact Vals.append h1 g2
    · cases i with
      | zero => simp at a b; rw [← a, ← b]; exact h2
      | succ i => exact g3 i p' us' (by simpa using a) (by simpa using b)
theorem cr_sumL {X : Cx} (hc : X.calm = true) : CallR X (.builtin "sum") rSumL := by
  intro pins s σ H vs us Q I r h
  obtain ⟨a, e, ps, yss, rfl, ha, he, hlen, hit, hz, q0, q⟩ := h
  cases r with
  | cons ra r =>
    cases r with
    | cons re r =>
      cases r
      obtain rfl := ra
      obtain rfl := re
      obtain ⟨its, rv, hl, hz1⟩ := I.list (SqL.of ha)
      have := refs_vals rv
      subst this
      obtain ⟨_, eits, en, erv, hel⟩ := I.hok _ _ he
      cases erv
      obtain ⟨uss, hu1, hu2, hu3⟩ := lists_raw I ps yss hlen hit
      refine sumL_raw (I.ok.hd hc) hl ⟨en, hel⟩ (by omega) hu3 (by rw [← hu2.length]; exact hz) fun h' p k1 k2 k3 => ?_
      have I2 : Inv X pins σ H { s with heap := h' } := I.kept k1
      rcases k3 with ⟨rfl, rfl⟩ | k3
      · exact ⟨.ref _, H, I2, rfl, q0 rfl⟩
      · have hp : H p = none := I.hok.fresh k3
        obtain ⟨n, e1⟩ := k2
        have I3 := I.laid (a := p) (o := .lst yss.flatten) (h' := h') (t' := s.toks) k1 k3 ⟨hz, uss.flatten, n, hu2, e1⟩
        exact ⟨.ref p, _, I3, rfl, q p hp⟩
end Eng
namespace Eng
open PySem PySem.Spec PyProof PyProof.Rows L2
section
variable {Γ : Gm}
def fSumL : FN := fun ds k => ∃ xss : List (List D), ds = [.lst (xss.map D.lst), .lst []] ∧ xss.flatten.length ≤ sizeLine ∧ k (.d (.lst xss.flatten))
theorem repL_lists {K : PySem.W.Frag} {cA : Str → Addr} {B : Addr → Prop} {H : Hp} : ∀ (xss : List (List D)) (us : List V), RepL K cA B H (xss.map D.lst) us →
    ∃ (ps : List Addr) (yss : List (List V)), us = ps.map V.ref ∧ ps.length = yss.length ∧ (∀ (i : Nat) p ys, ps[i]? = some p → yss[i]? = some ys → H p = some (.lst ys)) ∧ RepL K cA B H xss.flatten yss.flatten ∧ yss.length = xss.length
  | [], _, .nil => ⟨[], [], rfl, rfl, fun i p ys e => by simp at e, .nil, rfl⟩
  | x :: xss, _, .cons r rr => by
    cases r with
    | @lst a _ vs nb hh rl =>
    obtain ⟨ps, yss, rfl, h1, h2, h3, h4⟩ := repL_lists xss _ rr
    refine ⟨a :: ps, vs :: yss, rfl, by simp [h1], fun i p ys e1 e2 => ?_, ?_, by simp [h4]⟩
    · cases i with
      | zero => simp at e1 e2; rw [← e1, ← e2]; exact hh
      | succ i => exact h2 i p ys (by simpa using e1) (by simpa using e2)
    · rw [List.flatten_cons, List.flatten_cons]
      exact rl.append h3
variable {sc : Scope} {st : Names'}
/-- sum(a, []), a a list of lists -/
def wSumL (a : WE) : WE := fun z Q R => wFr a z (fun x z1 => ∃ xss : List (List D), rd z1 x = some (.lst (xss.map D.lst)) ∧ xss.flatten.length ≤ sizeLine ∧ Q (.d (.lst xss.flatten)) z1) R
theorem se_sumL {a : Expr} {wa : WE} {p0 p1 pos : Pos} (hg : glB sc "sum" = true) (hm : Γ.mg "sum" = none) (ha : SE Γ sc st a wa)
    (he : ∀ env, starEach [a, .List [] p1] env = (false, eval a env) :: starEach [.List [] p1] env) : SE Γ sc st (.Call (.Name "sum" p0) [a, .List [] p1] [] pos) (wSumL wa) := by
  obtain ⟨ta, pa, sa⟩ := ha.f
  refine ⟨_, fun X C => pe_callB (cr_sumL C.calm) (gl_of C hg).1 (by rw [C.mg]; exact hm) boot_sum (pa_cons (pa X C) (pa_cons (pe_lst pa_nil) pa_nil) (he _)) (by decide +kernel) (gl_of C hg).2 (he _) rfl, fun O L m z σ H Q Qd R cl S hw hx k => ?_⟩
  refine sa O L m z σ H _ _ R cl S hw hx fun L1 z1 H1 x v s1 c1 n1 S1 r1 q => ?_
  obtain ⟨xss, e1, hz, q⟩ := q
  have rT := S1.rdT r1 e1
  obtain ⟨b, us, rfl, hh, rl⟩ := rT.lst
  obtain ⟨ps, yss, rfl, h1, h2, h3, h4⟩ := repL_lists xss us rl
  refine ⟨by simp [sizeLine_eq], fun p hp => ?_⟩
  have hne : ∀ c u, H1 c = some u → c ≠ p := fun c u e q => by rw [q, hp] at e; cases e
  have nb : ¬ Bd O L1 p := fun q => q.elim (fun q => absurd hp (S1.st.out p q).1) (fun q => absurd (Sim.unl S1.st hp) q)
  have S2 := S1.new (.lst []) hp
  refine ⟨b, p, ps, yss, rfl, by rw [upd_ne (hne b _ hh)]; exact hh, upd_same, h1, fun i c ys e2 e3 => by rw [upd_ne (hne c _ (h2 i c ys e2 e3))]; exact h2 i c ys e2 e3, by rw [← h3.length]; exact hz, fun e0 => ?_, fun p' hp' => ?_⟩
  · have hx0 : xss = [] := List.length_eq_zero_iff.mp (by rw [← h4, ← h1, e0]; rfl)
    subst hx0
    exact k L1 z1 _ (.d (.lst [])) _ (s1.trans (stp_new hp)) S2 (wrD c1 (.lst nb upd_same .nil)) q
  · have nb' : ¬ Bd O L1 p' := fun q => q.elim (fun q => absurd hp' (S2.st.out p' q).1) (fun q => absurd (Sim.unl S2.st hp') q)
    exact k L1 z1 _ (.d (.lst _)) _ ((s1.trans (stp_new hp)).trans (stp_new hp')) (S2.new _ hp') (wrD c1 (.lst nb' upd_same (h3.mono (Stp.m ((stp_new hp).trans (stp_new hp')))))) q
end
@[simp ↓] theorem x_sumLw (a : WE) (z : Z) (Q : W → Z → Prop) (R : XR) : wSumL a z Q R = wFr a z (fun x z1 => ∃ xss : List (List D), rd z1 x = some (.lst (xss.map D.lst)) ∧ xss.flatten.length ≤ sizeLine ∧ Q (.d (.lst xss.flatten)) z1) R := rfl
end Eng

end
section
set_option Elab.async false
set_option linter.all false
set_option maxRecDepth 100000
/-! Eng25: name = [..], the name told to a comprehension, too. -/
namespace Eng
open PySem PySem.Spec PyProof.Rows L2
section
variable {Γ : Gm} {sc : Scope} {st : Names'} {a : Expr} {wa : WE} {pos : Pos}
theorem sw_cell {X : Cx} {y : Str} {py : Pos} {el : Expr} {gens : List Comprehension} {scope : Scope} {p : Pos} {l : Nat} (C : Ctx Γ sc st X) (h : sc.names.lookup y = some .cell) : swapsWith (.ListComp el gens scope p) (some (.Name y py)) l X.env = pure false := by
  have e : X.env.kindOf y = some .cell := by
    unfold Env.kindOf
    rw [C.scp]; exact h
  unfold swapsWith
  have k : (NameKind.cell == NameKind.local) = false := by rfl
  simp [e, k]
theorem ss_setE {i : Nat} {x : Str} {pos' : Pos} (hN : Γ.N[i]? = some x) (hs : stoB st x = true) (ha : SE Γ sc st a wa) (hsw : ∀ X, Ctx Γ sc st X → swapsWith a (some (.Name x pos')) pos.line X.env = pure false) : SS Γ sc st (.Assign [.Name x pos'] a pos) (wSet i wa) := by
  obtain ⟨ta, pa, sa⟩ := ha.f
  refine ⟨_, fun X C => ps_set C.ndX (C.ix hN) (C.fn x (sto_of hs)).1 (pa X C) (hsw X C) (C.fn x (sto_of hs)).2, fun O L m z σ H D Dd R cl S hw hx k => ?_⟩
  refine sa O L m z σ H _ _ R cl S hw hx fun L1 z1 H1 x v s1 c1 n1 S1 r1 q => ?_
  cases x with
  | d d => exact k.nx L1 m _ _ H1 s1 pre_refl c1 (S1.setD i r1.2) q
  | cel j => exact k.nx L1 m _ _ H1 s1 pre_refl c1 (S1.setC i r1.2) q
  | slot j => exact q.elim
  | new o => exact q.elim
theorem ss_setOE {i : Nat} {x : Str} {pos' : Pos} (hN : Γ.N[i]? = some x) (hs : stoB st x = true) (ha : SE Γ sc st a wa) (hsw : ∀ X, Ctx Γ sc st X → swapsWith a (some (.Name x pos')) pos.line X.env = pure false) : SS Γ sc st (.Assign [.Name x pos'] a pos) (wSetO i wa) := by
  obtain ⟨ta, pa, sa⟩ := ha.ex
  refine ⟨_, fun X C => ps_set C.ndX (C.ix hN) (C.fn x (sto_of hs)).1 (pa X C) (hsw X C) (C.fn x (sto_of hs)).2, fun O L m z σ H D Dd R cl S hw hx k => ?_⟩
  refine sa O L m z σ H _ _ R cl S hw hx fun L1 z1 H1 x v s1 S1 r1 q => ?_
  cases x with
  | d d => exact q.elim
  | cel j => exact q.elim
  | slot j => exact q.elim
  | new o => exact k.nx (toSlot i L1) m _ _ H1 (s1.trans stp_toSlot) pre_refl toSlot_cl (S1.setO i r1) q
end
end Eng

end
section
set_option Elab.async false
set_option linter.all false
set_option maxRecDepth 100000
/-! S1: what the defs are worth (the program's). -/
namespace Eng
open PySem PySem.Spec PyProof.Rows L2
structure Fact where
  b : Int
  m : Int
  t : Int
  w : Int
  r : Int
  s : Int
deriving DecidableEq
def Fact.l (F : Fact) : List Int := [F.b, F.m, F.t, F.w, F.r, F.s]
def encF (F : Fact) : D := .tup [.int F.b, .int F.m, .int F.t, .int F.w, .int F.r, .int F.s]
def encO : Option Fact → D
  | none => .non
  | some F => encF F
structure Pc where
  b : Int
  m : Int
  t : Int
  w : Int
deriving DecidableEq
def Pc.l (p : Pc) : List Int := [p.b, p.m, p.t, p.w]
def encP (p : Pc) : D := .tup [.int p.b, .int p.m, .int p.t, .int p.w]
def Way (w : Int) : Prop := w = 1 ∨ w = -1
def encLay (T : Int) (ps : List Pc) : D := .ob "Lay" [("total", .int T), ("rows", .lst (ps.map encP))]
def encS (l : Int × Int) : D := .tup [.int l.1, .int l.2]
def encR (r : Str × List Int) : D := .tup (.str r.1 :: r.2.map D.int)
def encRow (x : Fact × (Str × List Int)) : D := .tup [encF x.1, encR x.2]
/-! the functions -/
def cutF (F : Fact) (b m : Int) : Option Fact := if b - F.b < 0 ∨ F.m < b - F.b + m then none else some ⟨b, m, F.t + (if F.w = -1 then F.m - (b - F.b) - m else b - F.b), F.w, F.r, F.s⟩
def thenF (F G : Fact) : Option Fact := match cutF G F.t F.m with
  | some g => some ⟨F.b, F.m, g.t, F.w * g.w, F.r + g.r, F.s + g.s⟩
  | none => none
def absI (i : Int) : Int := if i < 0 then -i else i
def againF (F : Fact) (n : Int) : Option Fact :=
  if F.w = -1 ∨ F.m - (n - 1) * absI (F.t - F.b) < 1 then none
  else
    let l := F.m - (n - 1) * absI (F.t - F.b)
    let b := if F.t - F.b < 0 then F.b + (F.m - l) else F.b
    some ⟨b, l, b + n * (F.t - F.b), 1, n * F.r, n * F.s⟩
def besideF (F G : Fact) : Option Fact :=
  if G.b ≠ F.b + F.m ∨ ¬ (G.w = F.w ∧ G.r = F.r ∧ G.s = F.s) then none
  else if F.w = 1 ∧ G.t ≠ F.t + F.m ∨ F.w = -1 ∧ G.t + G.m ≠ F.t then none
  else some ⟨F.b, F.m + G.m, (if G.t < F.t then G.t else F.t), F.w, F.r, F.s⟩
def ovlo (b : Int) (l : Int × Int) : Int := if b < l.1 then l.1 else b
def ovhi (b m : Int) (l : Int × Int) : Int := if l.1 + l.2 < b + m then l.1 + l.2 else b + m
def ovl (b m : Int) (l : Int × Int) : Int := if ovlo b l < ovhi b m l then ovhi b m l - ovlo b l else 0
def spotsF (lot : List (Int × Int)) (b m : Int) : Int := (lot.map (ovl b m)).sum
def findP (ps : List Pc) (x : Int) : Option Pc := ps.find? fun p => decide (p.b ≤ x) && decide (x < p.b + p.m)
def pieceF (ps : List Pc) (lot : List (Int × Int)) (b m : Int) : Option Fact :=
  if spotsF lot b m ≠ 0 ∧ spotsF lot b m ≠ m then none
  else match findP ps b with
    | some p => cutF ⟨p.b, p.m, p.t, p.w, 1, if 0 < spotsF lot b m then 1 else 0⟩ b m
    | none => none
def isPart (T b m : Int) : Bool := decide (0 ≤ b) && (decide (1 ≤ m) && decide (b + m ≤ T))
def isFactF (T : Int) (F : Fact) : Bool := isPart T F.b F.m && (isPart T F.t F.m && (decide (F.w = 1 ∨ F.w = -1) && (decide (1 ≤ F.r) && decide (0 ≤ F.s))))
def numF (r : Str × List Int) : Int :=
  if r.1 = "piece" then (if r.2.length = 0 then 0 else -1) else if r.1 = "part" then (if r.2.length = 1 then 1 else -1) else if r.1 = "then" then (if r.2.length = 2 then 2 else -1)
  else if r.1 = "again" then (if r.2.length = 2 then 1 else -1) else if r.1 = "beside" then (if r.2.length = 2 then 2 else -1) else -1
def isRuleF (r : Str × List Int) (n : Int) : Bool :=
  if numF r < 0 then false else ((r.2.take (numF r).toNat).all fun k => decide (0 ≤ k) && decide (k < n)) && (decide (r.1 ≠ "again") || decide (2 ≤ r.2.getD 1 0))
def ledF (ps : List Pc) (lot : List (Int × Int)) (fs : List Fact) (b m : Int) (r : Str × List Int) : Option Fact :=
  if r.1 = "piece" then pieceF ps lot b m
  else match fs[(r.2.getD 0 0).toNat]? with
    | none => none
    | some F => if r.1 = "part" then cutF F b m else if r.1 = "again" then againF F (r.2.getD 1 0) else match fs[(r.2.getD 1 0).toNat]? with
      | none => none
      | some G => if r.1 = "then" then thenF F G else besideF F G
def rowOk (T : Int) (ps : List Pc) (lot : List (Int × Int)) (fs : List Fact) (x : Fact × (Str × List Int)) : Bool :=
  isFactF T x.1 && (isRuleF x.2 fs.length && decide (ledF ps lot fs x.1.b x.1.m x.2 = some x.1))
def showsG (T : Int) (ps : List Pc) (lot : List (Int × Int)) : List Fact → List (Fact × (Str × List Int)) → Bool
  | _, [] => true
  | fs, x :: xs => rowOk T ps lot fs x && showsG T ps lot (fs ++ [x.1]) xs
def Tl (a : Int) : List (Int × Int) → Int → Prop
  | [], e => a = e
  | x :: xs, e => x.1 = a ∧ 1 ≤ x.2 ∧ Tl (a + x.2) xs e
def joinB (e p : Pc) : Bool := decide (e.w = p.w) && (decide (p.w = 1 ∧ p.t = e.t + e.m) || decide (p.w = -1 ∧ p.t + p.m = e.t))
def joinP (e p : Pc) : Pc := ⟨e.b, e.m + p.m, (if p.t < e.t then p.t else e.t), p.w⟩
def mstep (acc : List Pc) (p : Pc) : List Pc := match acc.getLast? with
  | some e => if joinB e p then acc.dropLast ++ [joinP e p] else acc ++ [p]
  | none => acc ++ [p]
def mergeF (ps : List Pc) : List Pc := ps.foldl mstep []
/-- tiles on both sides -/
structure Valid (ps : List Pc) (T : Int) : Prop where
  way : ∀ p ∈ ps, Way p.w
  dom : Tl 0 (ps.map fun p => (p.b, p.m)) T
  img : ∃ ys : List (Int × Int), ys.Perm (ps.map fun p => (p.t, p.m)) ∧ Tl 0 ys T
/-! the promises -/
/-- any thing a whole number from a lowest one on -/
def isNumD (d : D) (lo : Int) : Bool := match d with
  | .int n => decide (lo ≤ n)
  | _ => false
/-- any two things a stretch -/
def isPartD (T : Int) (b m : D) : Bool := match b, m with
  | .int b, .int m => isPart T b m
  | _, _ => false
def sp_is_number : DSpec := fun ws S Q _ => ∃ (d : D) (lo : Int), ws = [.d d, .d (.int lo)] ∧ (tyD d).isSome = true ∧ Q (.d (.bl (isNumD d lo))) S
def sp_is_part : DSpec := fun ws S Q _ => ∃ (t : Int) (b m : D), ws = [.d (.int t), .d b, .d m] ∧ (tyD b).isSome = true ∧ (tyD m).isSome = true ∧ Q (.d (.bl (isPartD t b m))) S
def sp_is_whole : DSpec := fun ws S Q _ => ∃ n lo hi : Int, ws = [.d (.int n), .d (.int lo), .d (.int hi)] ∧ Q (.d (.bl (decide (lo ≤ n) && decide (n ≤ hi)))) S
def sd_is_whole : DSpec := fun ws => sp_is_whole (ws ++ dflI [-1000000000000000000, 1000000000000000000])
def sp_is_way : DSpec := fun ws S Q _ => ∃ n : Int, ws = [.d (.int n)] ∧ Q (.d (.bl (decide (n = 1 ∨ n = -1)))) S
def sp_is_fact : DSpec := fun ws S Q _ => ∃ (T : Int) (F : Fact), ws = [.d (.int T), .d (encF F)] ∧ Q (.d (.bl (isFactF T F))) S
def sp_cut_fact : DSpec := fun ws S Q _ => ∃ (F : Fact) (b m : Int), ws = [.d (encF F), .d (.int b), .d (.int m)] ∧ Q (.d (encO (cutF F b m))) S
def sp_then_fact : DSpec := fun ws S Q _ => ∃ (F G : Fact), ws = [.d (encF F), .d (encF G)] ∧ Way F.w ∧ Way G.w ∧ Q (.d (encO (thenF F G))) S
/-- numbers that may be multiplied -/
def Sm (i : Int) : Prop := i.natAbs < 2 ^ 10000
def SmF (F : Fact) : Prop := Sm F.b ∧ Sm F.m ∧ Sm F.t ∧ Way F.w ∧ Sm F.r ∧ Sm F.s
def sp_again_fact : DSpec := fun ws S Q _ => ∃ (F : Fact) (n : Int), ws = [.d (encF F), .d (.int n)] ∧ SmF F ∧ Sm n ∧ Q (.d (encO (againF F n))) S
def sp_beside_fact : DSpec := fun ws S Q _ => ∃ (F G : Fact), ws = [.d (encF F), .d (encF G)] ∧ Way F.w ∧ Q (.d (encO (besideF F G))) S
def sp_spots_in : DSpec := fun ws S Q _ => ∃ (lot : List (Int × Int)) (b m : Int), ws = [.d (.lst (lot.map encS)), .d (.int b), .d (.int m)] ∧ lot.length < 1000000 ∧ Q (.d (.int (spotsF lot b m))) S
def sp_piece_fact : DSpec := fun ws S Q _ => ∃ (T : Int) (ps : List Pc) (lot : List (Int × Int)) (b m : Int), ws = [.d (encLay T ps), .d (.lst (lot.map encS)), .d (.int b), .d (.int m)] ∧ lot.length < 1000000 ∧ Q (.d (encO (pieceF ps lot b m))) S
def sp_numbers_of : DSpec := fun ws S Q _ => ∃ r : Str × List Int, ws = [.d (encR r)] ∧ PyData.strOk r.1 = true ∧ Q (.d (.int (numF r))) S
def sp_is_rule : DSpec := fun ws S Q _ => ∃ (r : Str × List Int) (n : Int), ws = [.d (encR r), .d (.int n)] ∧ PyData.strOk r.1 = true ∧ Q (.d (.bl (isRuleF r n))) S
def sp_led_fact : DSpec := fun ws S Q _ => ∃ (T : Int) (ps : List Pc) (lot : List (Int × Int)) (fs : List Fact) (j : Nat) (b m : Int) (r : Str × List Int), ws = [.d (encLay T ps), .d (.lst (lot.map encS)), .cel j, .d (.tup [.int b, .int m]), .d (encR r)] ∧
  S[j]? = some (.lst (fs.map encF)) ∧ lot.length < 1000000 ∧ (∀ F ∈ fs, SmF F) ∧ (∀ k ∈ r.2, Sm k) ∧ PyData.strOk r.1 = true ∧ isRuleF r fs.length = true ∧ Q (.d (encO (ledF ps lot fs b m r))) S
def SmR (x : Fact × (Str × List Int)) : Prop := Sm x.1.b ∧ Sm x.1.m ∧ Sm x.1.t ∧ Sm x.1.w ∧ Sm x.1.r ∧ Sm x.1.s ∧ (∀ k ∈ x.2.2, Sm k) ∧ PyData.strOk x.2.1 = true
def sp_shows : DSpec := fun ws S Q _ => ∃ (T : Int) (ps : List Pc) (lot : List (Int × Int)) (rows : List (Fact × (Str × List Int))), ws = [.d (encLay T ps), .d (.lst (lot.map encS)), .d (.lst (rows.map encRow))] ∧ lot.length < 1000000 ∧ rows.length < 1000000 ∧
  (∀ x ∈ rows, SmR x) ∧ Q (.d (.bl (showsG T ps lot [] rows))) S
def sp_Lay_spots : DSpec := fun ws S Q _ => ∃ (T : Int) (ps : List Pc), ws = [.d (encLay T ps)] ∧ Q (.d (.int T)) S
def sp_Lay_pieces : DSpec := fun ws S Q _ => ∃ (T : Int) (ps : List Pc), ws = [.d (encLay T ps)] ∧ Q (.d (.lst (ps.map encP))) S
def sp_is_piece : DSpec := fun ws S Q _ => ∃ (p : Pc) (T : Int), ws = [.d (encP p), .d (.int T)] ∧ Q (.d (.bl (decide (p.w = 1 ∨ p.w = -1) && (decide (1 ≤ p.m ∧ p.m ≤ T) && (decide (0 ≤ p.b ∧ p.b ≤ T - p.m) && decide (0 ≤ p.t ∧ p.t ≤ T - p.m)))))) S
def sp_fills : DSpec := fun ws S Q _ => ∃ (xs ys : List (Int × Int)) (T : Int), ws = [.d (.lst (xs.map encS)), .d (.int T)] ∧ xs.length < 1000000 ∧ ys.Perm xs ∧ Tl 0 ys T ∧ Q (.d (.bl true)) S
def sp_need_lay : DSpec := fun ws S Q _ => ∃ (ps vs : List Pc) (T : Int), ws = [.d (.int T), .d (.lst (ps.map encP))] ∧ ps.length < 1000000 ∧ vs.Perm ps ∧ Valid vs T ∧ T ≤ 2000000000000000000 ∧ Q (.d .non) S
def sp_in_one_form : DSpec := fun ws S Q _ => ∃ (ps ys : List Pc), ws = [.d (.lst (ps.map encP))] ∧ ps.length < 1000000 ∧ ys.Perm ps ∧ ys.Pairwise (fun p q => p.b < q.b) ∧ (∀ p ∈ ys, Way p.w) ∧ Q (.d (.lst ((mergeF ys).map encP))) S
def sp_Lay_init : DSpec := fun ws S Q _ => ∃ (S0 : List OV) (T : Int) (ps vs : List Pc), ws = [.cel S0.length, .d (.int T), .d (.lst (ps.map encP))] ∧ S = S0 ++ [.ins "Lay" []] ∧ ps.length < 1000000 ∧ vs.Perm ps ∧ Valid vs T ∧ T ≤ 2000000000000000000 ∧
  Q (.d .non) (S0 ++ [.ins "Lay" [("total", .d (.int T)), ("rows", .d (.lst ((mergeF vs).map encP)))]])
end Eng

end
section
set_option Elab.async false
set_option linter.all false
set_option maxRecDepth 100000
namespace Eng
open PySem PySem.Spec PyProof.Rows L2
def w_is_whole : WS := (wSeq (wRt (wAnd (wIsi ["int"] (wVar 0)) (wAnd (wNot (wIsi ["bool"] (wVar 0))) (wChain pLe pLe (wVar 1) (wVar 0) (wVar 2)))))
  wNx)
def N_is_whole : List Str := ["thing", "low", "high"]
def w_is_way : WS := (wSeq (wRt (wAnd (wCall sd_is_whole (wCons (wVar 0) wNil)) (wOp2 (fIn false) (wVar 0) (wTup (wCons (wC (.int 1)) (wCons (wOp1 fNeg (wC (.int 1))) wNil))))))
  wNx)
def N_is_way : List Str := ["thing"]
def w_is_piece : WS := (wSeq (wIfS (wTOr (wTNot (wAsT (wIsi ["tuple"] (wVar 0)))) (wTOr (wAsT (wOp2 (fEq true) (wCallB fLen (wCons (wVar 0) wNil)) (wC (.int 4)))) (wTNot (wAsT (wCall sp_is_way (wCons (wOp2 fIx (wVar 0) (wC (.int 3))) wNil))))))
  (wSeq (wRt (wC (.bl false)))
  wNx)
  wNx)
  (wSeq (wAsg (wVar 0) (gT 4 (gCons (gN 2) (gCons (gN 3) (gCons (gN 4) (gCons (gN 5) gNil))))))
  (wSeq (wIfS (wTOr (wTNot (wAsT (wCallK sp_is_whole (wCons (wVar 3) wNil) (wCons (wC (.int 1)) (wCons (wVar 1) wNil))))) (wTNot (wAsT (wCallK sp_is_whole (wCons (wVar 2) wNil) (wCons (wC (.int 0)) (wCons (wOp2 fSub (wVar 1) (wVar 3)) wNil))))))
  (wSeq (wRt (wC (.bl false)))
  wNx)
  wNx)
  (wSeq (wRt (wCallK sp_is_whole (wCons (wVar 4) wNil) (wCons (wC (.int 0)) (wCons (wOp2 fSub (wVar 1) (wVar 3)) wNil))))
  wNx))))
def N_is_piece : List Str := ["thing", "total", "begin", "many", "to", "way"]
def w_fills : WS := (wSeq (wSet 2 (wC (.int 0)))
  (wSeq (wFor (iData (wCallB fSortN (wCons (wVar 0) wNil))) (gT 2 (gCons (gN 3) (gCons (gN 4) gNil)))
  (wSeq (wIfS (wAsT (wOp2 (fEq true) (wVar 3) (wVar 2)))
  (wSeq (wRt (wC (.bl false)))
  wNx)
  wNx)
  (wSeq (wAug 2 fAddI (wVar 4))
  wNx)))
  (wSeq (wRt (wOp2 (fEq false) (wVar 2) (wVar 1)))
  wNx)))
def N_fills : List Str := ["stretches", "total", "at", "begin", "many"]
def w_need_lay : WS := (wSeq (wIfS (wTNot (wAsT (wCallK sp_is_whole (wCons (wVar 0) wNil) (wCons (wC (.int 0)) (wCons (wC (.int 2000000000000000000)) wNil)))))
  (wSeq wNever
  wNx)
  wNx)
  (wSeq (wIfS (wTOr (wTNot (wAsT (wIsi ["list", "tuple"] (wVar 1)))) (wTNot (wAsT (wCallB fAll (wCons (wComp [3] (iData (wVar 1)) (gN 3) wYes (wCall sp_is_piece (wCons (wVar 3) (wCons (wVar 0) wNil)))) wNil)))))
  (wSeq wNever
  wNx)
  wNx)
  (wSeq (wSet 2 (wComp [4, 5, 6, 7] (iData (wVar 1)) (gT 4 (gCons (gN 4) (gCons (gN 5) (gCons (gN 6) (gCons (gN 7) gNil))))) wYes (wTup (wCons (wVar 6) (wCons (wVar 5) wNil)))))
  (wSeq (wIfS (wTOr (wTNot (wAsT (wCall sp_fills (wCons (wComp [3] (iData (wVar 1)) (gN 3) wYes (wSl (wVar 3) none (some (wC (.int 2))))) (wCons (wVar 0) wNil))))) (wTNot (wAsT (wCall sp_fills (wCons (wVar 2) (wCons (wVar 0) wNil))))))
  (wSeq wNever
  wNx)
  wNx)
  wNx))))
def N_need_lay : List Str := ["total", "pieces", "goals", "piece", "begin", "many", "to", "way"]
def w_in_one_form : WS := (wSeq (wSetO 1 (wLst wNil))
  (wSeq (wFor (iData (wCallB fSortN (wCons (wVar 0) wNil))) (gN 2)
  (wSeq (wIfS (wTAnd (wAsT (wOp2 (fEq true) (wVar 1) (wLst wNil))) (wAsT (wOp2 (fEq false) (wOp2 fIx (wOp2 fIx (wVar 1) (wOp1 fNeg (wC (.int 1)))) (wC (.int 3))) (wOp2 fIx (wVar 2) (wC (.int 3))))))
  (wSeq (wAsg (wOp2 fIx (wVar 1) (wOp1 fNeg (wC (.int 1)))) (gT 4 (gCons (gN 3) (gCons (gN 4) (gCons (gN 5) (gCons (gN 6) gNil))))))
  (wSeq (wIfS (wTOr (wTAnd (wAsT (wOp2 (fEq false) (wOp2 fIx (wVar 2) (wC (.int 2))) (wOp2 fAdd (wVar 5) (wVar 4)))) (wAsT (wOp2 (fEq false) (wVar 6) (wC (.int 1))))) (wTAnd (wAsT (wOp2 (fEq false) (wOp2 fAdd (wOp2 fIx (wVar 2) (wC (.int 2))) (wOp2 fIx (wVar 2) (wC (.int 1)))) (wVar 5))) (wAsT (wOp2 (fEq false) (wVar 6) (wOp1 fNeg (wC (.int 1)))))))
  (wSeq (wAsg (wTup (wCons (wVar 3) (wCons (wOp2 fAdd (wVar 4) (wOp2 fIx (wVar 2) (wC (.int 1)))) (wCons (wCallB fMin2 (wCons (wVar 5) (wCons (wOp2 fIx (wVar 2) (wC (.int 2))) wNil))) (wCons (wVar 6) wNil))))) (gIx (wVar 1) (wOp1 fNeg (wC (.int 1)))))
  (wSeq wCt
  wNx))
  wNx)
  wNx))
  wNx)
  (wSeq (wEx (wMut fAppend (wVar 1) (wCons (wVar 2) wNil)))
  wNx)))
  (wSeq (wRt (wTake 1))
  wNx)))
def N_in_one_form : List Str := ["pieces", "found", "piece", "begin", "many", "to", "way"]
def w_Lay_init : WS := (wSeq (wEx (wCall sp_need_lay (wCons (wVar 1) (wCons (wVar 2) wNil))))
  (wSeq (wFldS "Lay" "total" (wVar 0) (wVar 1))
  (wSeq (wFldS "Lay" "rows" (wVar 0) (wCall sp_in_one_form (wCons (wVar 2) wNil)))
  wNx)))
def N_Lay_init : List Str := ["self", "total", "pieces"]
def w_is_number : WS := (wSeq (wRt (wAnd (wIsi ["int"] (wVar 0)) (wAnd (wNot (wIsi ["bool"] (wVar 0))) (wOp2 (fCmp pGe) (wVar 0) (wVar 1)))))
  wNx)
def N_is_number : List Str := ["thing", "low"]
def w_is_part : WS := (wSeq (wRt (wAnd (wCall sp_is_number (wCons (wVar 1) (wCons (wC (.int 0)) wNil))) (wAnd (wCall sp_is_number (wCons (wVar 2) (wCons (wC (.int 1)) wNil))) (wOp2 (fCmp pLe) (wOp2 fAdd (wVar 1) (wVar 2)) (wVar 0)))))
  wNx)
def N_is_part : List Str := ["total", "begin", "many"]
def w_is_fact : WS := (wSeq (wIfS (wTOr (wTNot (wAsT (wIsi ["tuple"] (wVar 1)))) (wTOr (wAsT (wOp2 (fEq true) (wCallB fLen (wCons (wVar 1) wNil)) (wC (.int 6)))) (wTNot (wAsT (wCall sp_is_part (wCons (wVar 0) (wCons (wOp2 fIx (wVar 1) (wC (.int 0))) (wCons (wOp2 fIx (wVar 1) (wC (.int 1))) wNil))))))))
  (wSeq (wRt (wC (.bl false)))
  wNx)
  wNx)
  (wSeq (wIfS (wTOr (wTNot (wAsT (wCall sp_is_part (wCons (wVar 0) (wCons (wOp2 fIx (wVar 1) (wC (.int 2))) (wCons (wOp2 fIx (wVar 1) (wC (.int 1))) wNil)))))) (wTNot (wAsT (wCall sp_is_way (wCons (wOp2 fIx (wVar 1) (wC (.int 3))) wNil)))))
  (wSeq (wRt (wC (.bl false)))
  wNx)
  wNx)
  (wSeq (wRt (wAnd (wCall sp_is_number (wCons (wOp2 fIx (wVar 1) (wC (.int 4))) (wCons (wC (.int 1)) wNil))) (wCall sp_is_number (wCons (wOp2 fIx (wVar 1) (wC (.int 5))) (wCons (wC (.int 0)) wNil)))))
  wNx)))
def N_is_fact : List Str := ["total", "thing"]
def w_Lay_spots : WS := (wSeq (wRt (wFld "Lay" "total" (wVar 0)))
  wNx)
def N_Lay_spots : List Str := ["self"]
def w_numbers_of : WS := (wSeq (wIfS (wTOr (wTNot (wAsT (wIsi ["tuple"] (wVar 0)))) (wTOr (wAsT (wOp2 (fEq false) (wVar 0) (wTup wNil))) (wTNot (wAsT (wIsi ["str"] (wOp2 fIx (wVar 0) (wC (.int 0))))))))
  (wSeq (wRt (wOp1 fNeg (wC (.int 1))))
  wNx)
  wNx)
  (wSeq (wSet 1 (wDisp [((wC (.str "piece")), (wTup (wCons (wC (.int 1)) (wCons (wC (.int 0)) wNil)))), ((wC (.str "part")), (wTup (wCons (wC (.int 2)) (wCons (wC (.int 1)) wNil)))), ((wC (.str "then")), (wTup (wCons (wC (.int 3)) (wCons (wC (.int 2)) wNil)))), ((wC (.str "again")), (wTup (wCons (wC (.int 3)) (wCons (wC (.int 1)) wNil)))), ((wC (.str "beside")), (wTup (wCons (wC (.int 3)) (wCons (wC (.int 2)) wNil))))]))
  (wSeq (wIfS (wTOr (wAsT (wOp2 (fDIn true) (wOp2 fIx (wVar 0) (wC (.int 0))) (wVar 1))) (wAsT (wOp2 (fEq true) (wCallB fLen (wCons (wVar 0) wNil)) (wOp2 fIx (wOp2 fDGet (wVar 1) (wOp2 fIx (wVar 0) (wC (.int 0)))) (wC (.int 0))))))
  (wSeq (wRt (wOp1 fNeg (wC (.int 1))))
  wNx)
  wNx)
  (wSeq (wRt (wOp2 fIx (wOp2 fDGet (wVar 1) (wOp2 fIx (wVar 0) (wC (.int 0)))) (wC (.int 1))))
  wNx))))
def N_numbers_of : List Str := ["rule", "forms"]
def w_is_rule : WS := (wSeq (wSet 2 (wCall sp_numbers_of (wCons (wVar 0) wNil)))
  (wSeq (wIfS (wTOr (wAsT (wOp2 (fCmp pLt) (wVar 2) (wC (.int 0)))) (wTNot (wAsT (wCallB fAll (wCons (wComp [3] (iData (wSl (wVar 0) (some (wC (.int 1))) (some (wOp2 fAdd (wC (.int 1)) (wVar 2))))) (gN 3) wYes (wAnd (wCall sp_is_number (wCons (wVar 3) (wCons (wC (.int 0)) wNil))) (wOp2 (fCmp pLt) (wVar 3) (wVar 1)))) wNil)))))
  (wSeq (wRt (wC (.bl false)))
  wNx)
  wNx)
  (wSeq (wRt (wOr (wOp2 (fEq true) (wOp2 fIx (wVar 0) (wC (.int 0))) (wC (.str "again"))) (wCall sp_is_number (wCons (wOp2 fIx (wVar 0) (wC (.int 2))) (wCons (wC (.int 2)) wNil)))))
  wNx)))
def N_is_rule : List Str := ["thing", "many", "named", "number"]
def w_spots_in : WS := (wSeq (wSet 3 (wComp [4, 5] (iData (wVar 0)) (gT 2 (gCons (gN 4) (gCons (gN 5) gNil))) wYes (wTup (wCons (wCallB fMax2 (wCons (wVar 1) (wCons (wVar 4) wNil))) (wCons (wCallB fMin2 (wCons (wOp2 fAdd (wVar 1) (wVar 2)) (wCons (wOp2 fAdd (wVar 4) (wVar 5)) wNil))) wNil)))))
  (wSeq (wRt (wCallB fSum (wCons (wComp [6, 7] (iData (wVar 3)) (gT 2 (gCons (gN 6) (gCons (gN 7) gNil))) (wAsT (wOp2 (fCmp pLt) (wVar 6) (wVar 7))) (wOp2 fSub (wVar 7) (wVar 6))) wNil)))
  wNx))
def N_spots_in : List Str := ["lot", "begin", "many", "ends", "start", "size", "low", "high"]
def w_Lay_pieces : WS := (wSeq (wRt (wCallB fListOf (wCons (wFld "Lay" "rows" (wVar 0)) wNil)))
  wNx)
def N_Lay_pieces : List Str := ["self"]
def w_cut_fact : WS := (wSeq (wAsg (wVar 0) (gT 6 (gCons (gN 3) (gCons (gN 4) (gCons (gN 5) (gCons (gN 6) (gCons (gN 7) (gCons (gN 8) gNil))))))))
  (wSeq (wSet 9 (wOp2 fSub (wVar 1) (wVar 3)))
  (wSeq (wIfS (wTOr (wAsT (wOp2 (fCmp pLt) (wVar 9) (wC (.int 0)))) (wAsT (wOp2 (fCmp pGt) (wOp2 fAdd (wVar 9) (wVar 2)) (wVar 4))))
  (wSeq (wRt (wC .non))
  wNx)
  wNx)
  (wSeq (wIfS (wAsT (wOp2 (fEq false) (wVar 6) (wOp1 fNeg (wC (.int 1)))))
  (wSeq (wSet 9 (wOp2 fSub (wOp2 fSub (wVar 4) (wVar 9)) (wVar 2)))
  wNx)
  wNx)
  (wSeq (wRt (wTup (wCons (wVar 1) (wCons (wVar 2) (wCons (wOp2 fAdd (wVar 5) (wVar 9)) (wCons (wVar 6) (wCons (wVar 7) (wCons (wVar 8) wNil))))))))
  wNx)))))
def N_cut_fact : List Str := ["fact", "begin", "many", "start", "whole", "to", "way", "rounds", "seen", "skipped"]
def w_piece_fact : WS := (wSeq (wSet 4 (wCall sp_spots_in (wCons (wVar 1) (wCons (wVar 2) (wCons (wVar 3) wNil)))))
  (wSeq (wIfS (wAsT (wOp2 (fIn true) (wVar 4) (wTup (wCons (wC (.int 0)) (wCons (wVar 3) wNil)))))
  (wSeq (wRt (wC .non))
  wNx)
  wNx)
  (wSeq (wFor (iData (wMeth "Lay" "pieces" sp_Lay_pieces (wVar 0) wNil)) (gT 4 (gCons (gN 5) (gCons (gN 6) (gCons (gN 7) (gCons (gN 8) gNil)))))
  (wSeq (wIfS (wChainT pLe pLt (wVar 5) (wVar 2) (wOp2 fAdd (wVar 5) (wVar 6)))
  (wSeq (wRt (wCall sp_cut_fact (wCons (wTup (wCons (wVar 5) (wCons (wVar 6) (wCons (wVar 7) (wCons (wVar 8) (wCons (wC (.int 1)) (wCons (wCallB fInt1 (wCons (wOp2 (fCmp pGt) (wVar 4) (wC (.int 0))) wNil)) wNil))))))) (wCons (wVar 2) (wCons (wVar 3) wNil)))))
  wNx)
  wNx)
  wNx))
  (wSeq (wRt (wC .non))
  wNx))))
def N_piece_fact : List Str := ["lay", "lot", "begin", "many", "inside", "start", "size", "to", "way"]
def w_again_fact : WS := (wSeq (wAsg (wVar 0) (gT 6 (gCons (gN 2) (gCons (gN 3) (gCons (gN 4) (gCons (gN 5) (gCons (gN 6) (gCons (gN 7) gNil))))))))
  (wSeq (wSet 8 (wOp2 fSub (wVar 4) (wVar 2)))
  (wSeq (wSet 9 (wOp2 fSub (wVar 3) (wOp2 fMul (wOp2 fSub (wVar 1) (wC (.int 1))) (wCallB fAbs (wCons (wVar 8) wNil)))))
  (wSeq (wIfS (wTOr (wAsT (wOp2 (fEq false) (wVar 5) (wOp1 fNeg (wC (.int 1))))) (wAsT (wOp2 (fCmp pLt) (wVar 9) (wC (.int 1)))))
  (wSeq (wRt (wC .non))
  wNx)
  wNx)
  (wSeq (wIfS (wAsT (wOp2 (fCmp pLt) (wVar 8) (wC (.int 0))))
  (wSeq (wAug 2 fAddI (wOp2 fSub (wVar 3) (wVar 9)))
  wNx)
  wNx)
  (wSeq (wRt (wTup (wCons (wVar 2) (wCons (wVar 9) (wCons (wOp2 fAdd (wVar 2) (wOp2 fMul (wVar 1) (wVar 8))) (wCons (wC (.int 1)) (wCons (wOp2 fMul (wVar 1) (wVar 6)) (wCons (wOp2 fMul (wVar 1) (wVar 7)) wNil))))))))
  wNx))))))
def N_again_fact : List Str := ["fact", "times", "begin", "many", "to", "way", "rounds", "seen", "shift", "left"]
def w_then_fact : WS := (wSeq (wAsg (wVar 0) (gT 6 (gCons (gN 2) (gCons (gN 3) (gCons (gN 4) (gCons (gN 5) (gCons (gN 6) (gCons (gN 7) gNil))))))))
  (wSeq (wSet 8 (wCall sp_cut_fact (wCons (wVar 1) (wCons (wVar 4) (wCons (wVar 3) wNil)))))
  (wSeq (wIfS (wAsT (wOp2 (fIsN false) (wVar 8) (wC .non)))
  (wSeq (wRt (wC .non))
  wNx)
  wNx)
  (wSeq (wRt (wTup (wCons (wVar 2) (wCons (wVar 3) (wCons (wOp2 fIx (wVar 8) (wC (.int 2))) (wCons (wOp2 fMul (wVar 5) (wOp2 fIx (wVar 8) (wC (.int 3)))) (wCons (wOp2 fAdd (wVar 6) (wOp2 fIx (wVar 8) (wC (.int 4)))) (wCons (wOp2 fAdd (wVar 7) (wOp2 fIx (wVar 8) (wC (.int 5)))) wNil))))))))
  wNx))))
def N_then_fact : List Str := ["one", "other", "begin", "many", "to", "way", "rounds", "seen", "further"]
def w_beside_fact : WS := (wSeq (wAsg (wVar 0) (gT 6 (gCons (gN 2) (gCons (gN 3) (gCons (gN 4) (gCons (gN 5) (gCons (gN 6) (gCons (gN 7) gNil))))))))
  (wSeq (wSet 8 (wCallB fMin2 (wCons (wVar 4) (wCons (wOp2 fIx (wVar 1) (wC (.int 2))) wNil))))
  (wSeq (wIfS (wTOr (wAsT (wOp2 (fEq true) (wOp2 fIx (wVar 1) (wC (.int 0))) (wOp2 fAdd (wVar 2) (wVar 3)))) (wAsT (wOp2 (fEq true) (wSl (wVar 1) (some (wC (.int 3))) none) (wSl (wVar 0) (some (wC (.int 3))) none))))
  (wSeq (wRt (wC .non))
  wNx)
  wNx)
  (wSeq (wIfS (wTOr (wTAnd (wAsT (wOp2 (fEq false) (wVar 5) (wC (.int 1)))) (wAsT (wOp2 (fEq true) (wOp2 fIx (wVar 1) (wC (.int 2))) (wOp2 fAdd (wVar 4) (wVar 3))))) (wTAnd (wAsT (wOp2 (fEq false) (wVar 5) (wOp1 fNeg (wC (.int 1))))) (wAsT (wOp2 (fEq true) (wOp2 fAdd (wOp2 fIx (wVar 1) (wC (.int 2))) (wOp2 fIx (wVar 1) (wC (.int 1)))) (wVar 4)))))
  (wSeq (wRt (wC .non))
  wNx)
  wNx)
  (wSeq (wRt (wTup (wCons (wVar 2) (wCons (wOp2 fAdd (wVar 3) (wOp2 fIx (wVar 1) (wC (.int 1)))) (wCons (wVar 8) (wCons (wVar 5) (wCons (wVar 6) (wCons (wVar 7) wNil))))))))
  wNx)))))
def N_beside_fact : List Str := ["one", "other", "begin", "many", "to", "way", "rounds", "seen", "low"]
def w_led_fact : WS := (wSeq (wAsg (wVar 4) (gStar 1 (gCons (gN 5) (gCons (gN 6) gNil))))
  (wSeq (wIfS (wAsT (wOp2 (fEq false) (wVar 5) (wC (.str "piece"))))
  (wSeq (wRt (wCall sp_piece_fact (wCons (wVar 0) (wCons (wVar 1) (wCons (wOp2 fIx (wVar 3) (wC (.int 0))) (wCons (wOp2 fIx (wVar 3) (wC (.int 1))) wNil))))))
  wNx)
  wNx)
  (wSeq (wSet 7 (wOp2 fIx (wVar 2) (wOp2 fIx (wVar 6) (wC (.int 0)))))
  (wSeq (wIfS (wAsT (wOp2 (fEq false) (wVar 5) (wC (.str "part"))))
  (wSeq (wRt (wCall sp_cut_fact (wCons (wVar 7) (wCons (wOp2 fIx (wVar 3) (wC (.int 0))) (wCons (wOp2 fIx (wVar 3) (wC (.int 1))) wNil)))))
  wNx)
  wNx)
  (wSeq (wIfS (wAsT (wOp2 (fEq false) (wVar 5) (wC (.str "again"))))
  (wSeq (wRt (wCall sp_again_fact (wCons (wVar 7) (wCons (wOp2 fIx (wVar 6) (wC (.int 1))) wNil))))
  wNx)
  wNx)
  (wSeq (wSet 8 (wOp2 fIx (wVar 2) (wOp2 fIx (wVar 6) (wC (.int 1)))))
  (wSeq (wRt (wIf (wAsT (wOp2 (fEq false) (wVar 5) (wC (.str "then")))) (wCall sp_then_fact (wCons (wVar 7) (wCons (wVar 8) wNil))) (wCall sp_beside_fact (wCons (wVar 7) (wCons (wVar 8) wNil)))))
  wNx)))))))
def N_led_fact : List Str := ["lay", "lot", "facts", "stretch", "rule", "word", "numbers", "first", "second"]
def w_shows : WS := (wSeq (wIfS (wTNot (wAsT (wIsi ["list", "tuple"] (wVar 2))))
  (wSeq (wRt (wC (.bl false)))
  wNx)
  wNx)
  (wSeq (wSetO 3 (wLst wNil))
  (wPush 3 (wSeq (wFor (iData (wVar 2)) (gN 4)
  (wSeq (wIfS (wTOr (wTNot (wAsT (wIsi ["tuple"] (wVar 4)))) (wTOr (wAsT (wOp2 (fEq true) (wCallB fLen (wCons (wVar 4) wNil)) (wC (.int 2)))) (wTNot (wAsT (wCall sp_is_fact (wCons (wMeth "Lay" "spots" sp_Lay_spots (wVar 0) wNil) (wCons (wOp2 fIx (wVar 4) (wC (.int 0))) wNil)))))))
  (wSeq (wRt (wC (.bl false)))
  wNx)
  wNx)
  (wSeq (wIfS (wTOr (wTNot (wAsT (wCall sp_is_rule (wCons (wOp2 fIx (wVar 4) (wC (.int 1))) (wCons (wCallB fLen (wCons (wVar 3) wNil)) wNil))))) (wAsT (wOp2 (fEq true) (wCall sp_led_fact (wCons (wVar 0) (wCons (wVar 1) (wCons (wVar 3) (wCons (wSl (wOp2 fIx (wVar 4) (wC (.int 0))) none (some (wC (.int 2)))) (wCons (wOp2 fIx (wVar 4) (wC (.int 1))) wNil)))))) (wOp2 fIx (wVar 4) (wC (.int 0))))))
  (wSeq (wRt (wC (.bl false)))
  wNx)
  wNx)
  (wSeq (wEx (wMut fAppend (wVar 3) (wCons (wOp2 fIx (wVar 4) (wC (.int 0))) wNil)))
  wNx))))
  (wSeq (wRt (wC (.bl true)))
  wNx)))))
def N_shows : List Str := ["lay", "lot", "rows", "facts", "row"]
end Eng

end
section
set_option Elab.async false
set_option linter.all false
set_option maxRecDepth 100000
/-! L1: the program's defs keep them. -/
namespace Eng
open PySem PySem.Spec PyProof.Rows L2
@[simp] theorem x_size2 : (2 : Nat) ≤ sizeLine := by rw [sizeLine_eq]; omega
@[simp] theorem x_size3 : (3 : Nat) ≤ sizeLine := by rw [sizeLine_eq]; omega
@[simp] theorem x_size4 : (4 : Nat) ≤ sizeLine := by rw [sizeLine_eq]; omega
@[simp] theorem x_size6 : (6 : Nat) ≤ sizeLine := by rw [sizeLine_eq]; omega
variable {S : List OV} {Q : W → List OV → Prop} {R : Exn → List OV → Prop}
theorem sl_is_number : ∀ ws S Qd Rd, sp_is_number ws S Qd Rd → w_is_number (z0 N_is_number ws S) (ed0 S.length Qd) (fun x z => Rd x (z.S.take S.length)) := by
  rintro _ S Q R ⟨d, lo, rfl, hd, h⟩
  cases d with
  | ob _ _ => cases hd
  | int n =>
    simp [w_is_number, N_is_number]
    exact h
  | bl b =>
    simp [w_is_number, N_is_number]
    exact h
  | dct kvs =>
    simp [w_is_number, N_is_number, tyK, tyD, opK, isiB]
    exact h
  | scr kvs =>
    simp [w_is_number, N_is_number, tyK, tyD, opK, isiB]
    exact h
  | _ =>
    simp [w_is_number, N_is_number]
    exact h
theorem c_is_numberD {d : D} {lo : Int} (hd : (tyD d).isSome = true) (h : Q (.d (.bl (isNumD d lo))) S) : sp_is_number [.d d, .d (.int lo)] S Q R := ⟨d, lo, rfl, hd, h⟩
@[simp ↓] theorem c_is_number (n lo : Int) : sp_is_number [.d (.int n), .d (.int lo)] S Q R = Q (.d (.bl (decide (lo ≤ n)))) S := by
  apply propext
  constructor
  · rintro ⟨d, lo', e, _, h⟩
    cases e
    exact h
  · intro h
    exact ⟨_, _, rfl, rfl, h⟩
theorem sl_is_part : ∀ ws S Qd Rd, sp_is_part ws S Qd Rd → w_is_part (z0 N_is_part ws S) (ed0 S.length Qd) (fun x z => Rd x (z.S.take S.length)) := by
  rintro _ S Q R ⟨t, b, m, rfl, hb, hm, h⟩
  simp [w_is_part, N_is_part]
  refine c_is_numberD hb ?_
  simp
  by_cases h1 : isNumD b 0 = true
  · simp only [h1, if_true]
    refine c_is_numberD hm ?_
    simp
    by_cases h2 : isNumD m 1 = true
    · simp only [h2, if_true]
      cases b with
      | int b =>
        cases m with
        | int m =>
          have h1' : 0 ≤ b := of_decide_eq_true h1
          have h2' : 1 ≤ m := of_decide_eq_true h2
          simp [isPartD, isPart, h1', h2'] at h ⊢
          exact h
        | _ => cases h2
      | _ => cases h1
    · have h2' : isNumD m 1 = false := by simpa using h2
      have e : isPartD t b m = false := by
        cases b with
        | int b =>
          cases m with
          | int m =>
            have h3 : ¬ 1 ≤ m := of_decide_eq_false h2'
            simp [isPartD, isPart, h3]
          | _ => rfl
        | _ => rfl
      rw [e] at h
      simp [h2']
      exact h
  · have h1' : isNumD b 0 = false := by simpa using h1
    have e : isPartD t b m = false := by
      cases b with
      | int b =>
        cases m with
        | int m =>
          have h3 : ¬ 0 ≤ b := of_decide_eq_false h1'
          simp [isPartD, isPart, h3]
        | _ => rfl
      | _ => rfl
    rw [e] at h
    simp [h1']
    exact h
theorem c_is_partD {t : Int} {b m : D} (hb : (tyD b).isSome = true) (hm : (tyD m).isSome = true) (h : Q (.d (.bl (isPartD t b m))) S) : sp_is_part [.d (.int t), .d b, .d m] S Q R := ⟨t, b, m, rfl, hb, hm, h⟩
@[simp ↓] theorem c_is_part (t b m : Int) : sp_is_part [.d (.int t), .d (.int b), .d (.int m)] S Q R = Q (.d (.bl (isPart t b m))) S := by
  apply propext
  constructor
  · rintro ⟨t', b', m', e, _, _, h⟩
    cases e
    exact h
  · intro h
    exact ⟨_, _, _, rfl, rfl, rfl, h⟩
theorem sl_is_whole : ∀ ws S Qd Rd, sp_is_whole ws S Qd Rd → w_is_whole (z0 N_is_whole ws S) (ed0 S.length Qd) (fun x z => Rd x (z.S.take S.length)) := by
  rintro _ S Q R ⟨n, lo, hi, rfl, h⟩
  simp [w_is_whole, N_is_whole]
  by_cases h1 : lo ≤ n <;> simp [h1] at h ⊢ <;> exact h
@[simp ↓] theorem c_is_whole (n lo hi : Int) : sp_is_whole [.d (.int n), .d (.int lo), .d (.int hi)] S Q R = Q (.d (.bl (decide (lo ≤ n) && decide (n ≤ hi)))) S := by
  simp [sp_is_whole, and_assoc]
@[simp ↓] theorem c_is_whole1 (n : Int) : sd_is_whole [.d (.int n)] S Q R = Q (.d (.bl (decide (-1000000000000000000 ≤ n) && decide (n ≤ 1000000000000000000)))) S := by
  simp [sd_is_whole, dflI]
theorem sl_is_way : ∀ ws S Qd Rd, sp_is_way ws S Qd Rd → w_is_way (z0 N_is_way ws S) (ed0 S.length Qd) (fun x z => Rd x (z.S.take S.length)) := by
  rintro _ S Q R ⟨n, rfl, h⟩
  simp [w_is_way, N_is_way]
  by_cases h1 : n = 1
  · subst h1; simpa using h
  · by_cases h2 : n = -1
    · subst h2; simpa using h
    · simp [h1, h2] at h ⊢
      exact h
@[simp ↓] theorem c_is_way (n : Int) : sp_is_way [.d (.int n)] S Q R = Q (.d (.bl (decide (n = 1 ∨ n = -1)))) S := by
  simp [sp_is_way, and_assoc]
@[simp] theorem frz_encF (F : Fact) : rdAll ⟨[], []⟩ [.d (encF F)] = some [encF F] := rfl
theorem sl_is_fact : ∀ ws S Qd Rd, sp_is_fact ws S Qd Rd → w_is_fact (z0 N_is_fact ws S) (ed0 S.length Qd) (fun x z => Rd x (z.S.take S.length)) := by
  rintro _ S Q R ⟨T, F, rfl, h⟩
  simp [w_is_fact, N_is_fact, encF, isFactF] at h ⊢
  by_cases h1 : isPart T F.b F.m = true <;> simp [h1] at h ⊢
  · by_cases h2 : isPart T F.t F.m = true <;> simp [h2] at h ⊢
    · by_cases h3 : F.w = 1
      · simp [h3] at h ⊢
        by_cases h4 : 1 ≤ F.r <;> simp [h4] at h ⊢ <;> exact h
      · by_cases h5 : F.w = -1
        · simp [h5] at h ⊢
          by_cases h4 : 1 ≤ F.r <;> simp [h4] at h ⊢ <;> exact h
        · simp [h3, h5] at h ⊢; exact h
    · exact h
  · exact h
theorem encF_inj {F G : Fact} (h : encF F = encF G) : F = G := by
  cases F; cases G
  simp [encF] at h
  simp [h]
theorem c_is_fact {T : Int} {F : Fact} (h : Q (.d (.bl (isFactF T F))) S) : sp_is_fact [.d (.int T), .d (encF F)] S Q R := ⟨T, F, rfl, h⟩
theorem sl_cut_fact : ∀ ws S Qd Rd, sp_cut_fact ws S Qd Rd → w_cut_fact (z0 N_cut_fact ws S) (ed0 S.length Qd) (fun x z => Rd x (z.S.take S.length)) := by
  rintro _ S Q R ⟨F, b, m, rfl, h⟩
  unfold w_cut_fact
  refine seqI fun K hK => ?_
  simp [N_cut_fact, encF]
  apply hK
  refine seqI fun K1 hK1 => ?_
  simp
  apply hK1
  refine seqI fun K2 hK2 => ?_
  simp
  unfold cutF at h
  by_cases h1 : b - F.b < 0
  · simpa [h1, encO] using h
  · by_cases h2 : F.m < b - F.b + m
    · simpa [h1, h2, encO] using h
    · simp only [h1, h2, if_false, false_or] at h ⊢
      apply hK2
      refine seqI fun K3 hK3 => ?_
      by_cases h3 : F.w = -1
      · simp [h3, encO, encF] at h ⊢
        apply hK3
        simp
        exact h
      · simp [h3, encO, encF] at h ⊢
        apply hK3
        simp
        exact h
theorem c_cut_fact {F : Fact} {b m : Int} (h : Q (.d (encO (cutF F b m))) S) : sp_cut_fact [.d (encF F), .d (.int b), .d (.int m)] S Q R := ⟨F, b, m, rfl, h⟩
theorem cmul_way {w v : Int} (h : Way w) (g : Way v) : CMulW' w v := by
  rcases h with rfl | rfl <;> rcases g with rfl | rfl <;> exact ⟨by decide, by decide⟩
end Eng

end
section
set_option Elab.async false
set_option linter.all false
set_option maxRecDepth 100000
set_option exponentiation.threshold 30000
/-! L1b: more of the program's defs. -/
namespace Eng
open PySem PySem.Spec PyProof.Rows L2
variable {S : List OV} {Q : W → List OV → Prop} {R : Exn → List OV → Prop}
theorem tup_encF (F : Fact) : encF F = .tup [.int F.b, .int F.m, .int F.t, .int F.w, .int F.r, .int F.s] := rfl
theorem sl_then_fact : ∀ ws S Qd Rd, sp_then_fact ws S Qd Rd → w_then_fact (z0 N_then_fact ws S) (ed0 S.length Qd) (fun x z => Rd x (z.S.take S.length)) := by
  rintro _ S Q R ⟨F, G, rfl, hF, hG, h⟩
  unfold w_then_fact
  rw [tup_encF F]
  refine seqI fun K hK => ?_
  simp [N_then_fact]
  apply hK
  refine seqI fun K1 hK1 => ?_
  simp
  apply c_cut_fact
  simp
  apply hK1
  unfold thenF at h
  cases e : cutF G F.t F.m with
  | none =>
    rw [e] at h
    simpa [encO] using h
  | some g =>
    rw [e] at h
    have gw : g.w = G.w := by
      unfold cutF at e
      split at e
      · cases e
      · cases e; rfl
    refine seqI fun K2 hK2 => ?_
    simp [encO, tup_encF g]
    apply hK2
    simp [encO, encF] at h ⊢
    refine ⟨cmul_way hF (gw ▸ hG), ?_⟩
    exact h
theorem c_then_fact {F G : Fact} (h1 : Way F.w) (h2 : Way G.w) (h : Q (.d (encO (thenF F G))) S) : sp_then_fact [.d (encF F), .d (encF G)] S Q R := ⟨F, G, rfl, h1, h2, h⟩
theorem cmul_sm {w v : Int} (h : w.natAbs < 2 ^ 20000) (g : v.natAbs < 2 ^ 20000) : CMulW' w v := ⟨h, g⟩
theorem two_pow_big : (2 : Nat) ^ 20000 = 2 ^ 10000 * 2 ^ 10000 := by rw [← Nat.pow_add]
theorem two_pow_pos : 4 ≤ (2 : Nat) ^ 10000 := by
  have : (2 : Nat) ^ 2 ≤ 2 ^ 10000 := Nat.pow_le_pow_right (by omega) (by omega)
  omega
theorem big_of {w : Int} (h : w.natAbs < 2 * 2 ^ 10000) : w.natAbs < 2 ^ 20000 := by
  have h2 := two_pow_pos
  rw [two_pow_big]
  have : 2 * 2 ^ 10000 ≤ 2 ^ 10000 * 2 ^ 10000 := Nat.mul_le_mul_right _ (by omega)
  omega
theorem sm_big {w : Int} (h : Sm w) : w.natAbs < 2 ^ 20000 := big_of (by unfold Sm at h; omega)
theorem sm_sub {w v : Int} (h : Sm w) (g : Sm v) : (w - v).natAbs < 2 ^ 20000 := big_of (by unfold Sm at h g; omega)
theorem sm_sub1 {w : Int} (h : Sm w) : (w - 1).natAbs < 2 ^ 20000 := big_of (by have := two_pow_pos; unfold Sm at h; omega)
theorem sm_abs {w v : Int} (h : Sm w) (g : Sm v) : (if w - v < 0 then -(w - v) else w - v).natAbs < 2 ^ 20000 := by
  have := sm_sub h g
  split
  · rw [Int.natAbs_neg]; exact this
  · exact this
theorem sl_again_fact : ∀ ws S Qd Rd, sp_again_fact ws S Qd Rd → w_again_fact (z0 N_again_fact ws S) (ed0 S.length Qd) (fun x z => Rd x (z.S.take S.length)) := by
  rintro _ S Q R ⟨F, n, rfl, ⟨s1, s2, s3, s4, s5, s6⟩, sn, h⟩
  unfold w_again_fact
  rw [tup_encF F]
  refine seqI fun K hK => ?_
  simp [N_again_fact]
  apply hK
  refine seqI fun K1 hK1 => ?_
  simp
  apply hK1
  refine seqI fun K2 hK2 => ?_
  simp
  refine ⟨cmul_sm (sm_sub1 sn) (sm_abs s3 s1), hK2 _ ?_⟩
  refine seqI fun K3 hK3 => ?_
  unfold againF absI at h
  by_cases h1 : F.w = -1
  · simp [h1, encO] at h ⊢; exact h
  by_cases h2 : F.m - (n - 1) * (if F.t - F.b < 0 then -(F.t - F.b) else F.t - F.b) < 1
  · simp only [h1, h2, false_or, if_true, encO] at h
    simp [h1, h2]; exact h
  simp only [h1, h2, or_self, if_false, encO, encF] at h
  simp [h1, h2]
  apply hK3
  refine seqI fun K4 hK4 => ?_
  by_cases h3 : F.t - F.b < 0
  · simp only [h3, if_true] at h
    simp [h3]
    apply hK4
    simp
    exact ⟨cmul_sm (sm_big sn) (sm_sub s3 s1), cmul_sm (sm_big sn) (sm_big s5), cmul_sm (sm_big sn) (sm_big s6), h⟩
  · simp only [h3, if_false] at h
    simp [h3]
    apply hK4
    simp
    exact ⟨cmul_sm (sm_big sn) (sm_sub s3 s1), cmul_sm (sm_big sn) (sm_big s5), cmul_sm (sm_big sn) (sm_big s6), h⟩
theorem cut6 (a b c d e f : D) : cutD [a, b, c, d, e, f] (some 3) none = [d, e, f] := rfl
theorem eq3 (neg : Bool) (a b c d e f : Int) (kk : W → Prop) : fEq neg (.tup [.int a, .int b, .int c]) (.tup [.int d, .int e, .int f]) kk = kk (.d (.bl (if neg then !decide (a = d ∧ b = e ∧ c = f) else decide (a = d ∧ b = e ∧ c = f)))) := by
  rw [x_eq _ _ _ _ rfl]
  have e0 : D.eqB (.tup [.int a, .int b, .int c]) (.tup [.int d, .int e, .int f]) = decide (a = d ∧ b = e ∧ c = f) := by
    simp only [D.eqB, D.eqL]
    by_cases h1 : a = d <;> by_cases h2 : b = e <;> by_cases h3 : c = f <;> simp [h1, h2, h3]
  rw [e0]
theorem sl_beside_fact : ∀ ws S Qd Rd, sp_beside_fact ws S Qd Rd → w_beside_fact (z0 N_beside_fact ws S) (ed0 S.length Qd) (fun x z => Rd x (z.S.take S.length)) := by
  rintro _ S Q R ⟨F, G, rfl, hF, h⟩
  unfold w_beside_fact
  rw [tup_encF F, tup_encF G]
  refine seqI fun K hK => ?_
  simp [N_beside_fact]
  apply hK
  refine seqI fun K1 hK1 => ?_
  simp
  apply hK1
  refine seqI fun K2 hK2 => ?_
  simp
  unfold besideF at h
  by_cases h1 : G.b = F.b + F.m
  · by_cases h2 : G.w = F.w ∧ G.r = F.r ∧ G.s = F.s
    · simp only [h1, h2, ne_eq, not_true, false_or, if_false, and_self, not_true_eq_false] at h
      simp only [h1, if_true, cut6, eq3, h2, and_self, decide_true, Bool.not_true, x_fz_d, x_asB]
      simp
      apply hK2
      refine seqI fun K3 hK3 => ?_
      rcases hF with hw | hw
      · by_cases h4 : G.t = F.t + F.m
        · simp [hw, h4] at h ⊢
          apply hK3
          simp
          simpa [encO, encF, hw, h4] using h
        · simp [hw, h4] at h ⊢
          simpa [encO] using h
      · by_cases h4 : G.t + G.m = F.t
        · simp [hw, h4] at h ⊢
          apply hK3
          simp
          simpa [encO, encF, hw] using h
        · simp [hw, h4] at h ⊢
          simpa [encO] using h
    · simp only [h1, h2, ne_eq, not_true, false_or, if_true, not_false_eq_true] at h
      simp only [h1, if_true, cut6, eq3, h2, x_fz_d, x_asB]
      simpa [encO] using h
  · simp only [h1, ne_eq, not_false_eq_true, true_or, if_true] at h
    simpa [h1, encO] using h
end Eng

end
section
set_option Elab.async false
set_option linter.all false
set_option maxRecDepth 100000
/-! L1c -/
namespace Eng
open PySem PySem.Spec PyProof.Rows L2
variable {S : List OV} {Q : W → List OV → Prop} {R : Exn → List OV → Prop}
theorem c_beside_fact {F G : Fact} (h1 : Way F.w) (h : Q (.d (encO (besideF F G))) S) : sp_beside_fact [.d (encF F), .d (encF G)] S Q R := ⟨F, G, rfl, h1, h⟩
theorem c_again_fact {F : Fact} {n : Int} (h1 : SmF F) (h2 : Sm n) (h : Q (.d (encO (againF F n))) S) : sp_again_fact [.d (encF F), .d (.int n)] S Q R := ⟨F, n, rfl, h1, h2, h⟩
theorem small_size {n : Nat} (h : n < 1000000) : 0 + n ≤ sizeLine := by rw [sizeLine_eq]; omega
theorem small_size' {n : Nat} (h : n < 1000000) : n ≤ sizeLine := by rw [sizeLine_eq]; omega
theorem sl_spots_in : ∀ ws S Qd Rd, sp_spots_in ws S Qd Rd → w_spots_in (z0 N_spots_in ws S) (ed0 S.length Qd) (fun x z => Rd x (z.S.take S.length)) := by
  rintro _ S Q R ⟨lot, b, m, rfl, hl, h⟩
  unfold w_spots_in
  refine seqI fun K hK => ?_
  simp [N_spots_in]
  refine cLoop_map encS (fun l => .tup [.int (ovlo b l), .int (ovhi b m l)]) trivial lot (fun l hm KT h1 => ?_) (small_size' hl) ?_
  · simp [encS]
    exact h1 _ rfl
  · simp
    apply hK
    refine seqI fun K1 hK1 => ?_
    simp
    refine cLoop_pure (fun l : Int × Int => D.tup [.int (ovlo b l), .int (ovhi b m l)]) (fun l => .int (ovhi b m l - ovlo b l)) (fun l => decide (ovlo b l < ovhi b m l)) ?_ lot [] (fun l hm KT KF h1 h2 => ?_) (small_size hl) ?_
    · trivial
    · simp
      by_cases hc : ovlo b l < ovhi b m l
      · simp [hc]
        exact h1 (decide_eq_true hc) _ rfl
      · simp [hc]
        exact h2 (decide_eq_false hc) _ rfl
    · simp
      refine x_sum' ((lot.filter fun l => decide (ovlo b l < ovhi b m l)).map fun l => ovhi b m l - ovlo b l) _ _ (by simp) ?_
      rw [sum_filter]
      simp
      exact h
theorem c_spots_in {lot : List (Int × Int)} {b m : Int} (hl : lot.length < 1000000) (h : Q (.d (.int (spotsF lot b m))) S) : sp_spots_in [.d (.lst (lot.map encS)), .d (.int b), .d (.int m)] S Q R := ⟨lot, b, m, rfl, hl, h⟩
theorem sl_Lay_spots : ∀ ws S Qd Rd, sp_Lay_spots ws S Qd Rd → w_Lay_spots (z0 N_Lay_spots ws S) (ed0 S.length Qd) (fun x z => Rd x (z.S.take S.length)) := by
  rintro _ S Q R ⟨T, ps, rfl, h⟩
  simp [w_Lay_spots, N_Lay_spots, encLay, fldD]
  exact h
theorem sl_Lay_pieces : ∀ ws S Qd Rd, sp_Lay_pieces ws S Qd Rd → w_Lay_pieces (z0 N_Lay_pieces ws S) (ed0 S.length Qd) (fun x z => Rd x (z.S.take S.length)) := by
  rintro _ S Q R ⟨T, ps, rfl, h⟩
  simp [w_Lay_pieces, N_Lay_pieces, encLay, fldD]
  exact ⟨.lst (ps.map encP), rfl, h⟩
theorem c_Lay_spots {T : Int} {ps : List Pc} (h : Q (.d (.int T)) S) : sp_Lay_spots [.d (encLay T ps)] S Q R := ⟨T, ps, rfl, h⟩
theorem c_Lay_pieces {T : Int} {ps : List Pc} (h : Q (.d (.lst (ps.map encP))) S) : sp_Lay_pieces [.d (encLay T ps)] S Q R := ⟨T, ps, rfl, h⟩
@[simp ↓] theorem cls_lay (z : Z) (T : Int) (ps : List Pc) : clsOf z (.d (encLay T ps)) = some "Lay" := rfl
@[simp ↓] theorem flds_lay (z : Z) (T : Int) (ps : List Pc) : fldsOf z (.d (encLay T ps)) = [("total" : Str), ("rows" : Str)] := rfl
theorem tup_encP (p : Pc) : encP p = .tup [.int p.b, .int p.m, .int p.t, .int p.w] := rfl
theorem sl_piece_fact : ∀ ws S Qd Rd, sp_piece_fact ws S Qd Rd → w_piece_fact (z0 N_piece_fact ws S) (ed0 S.length Qd) (fun x z => Rd x (z.S.take S.length)) := by
  rintro _ S Q R ⟨T, ps, lot, b, m, rfl, hl, h⟩
  unfold w_piece_fact
  refine seqI fun K hK => ?_
  simp [N_piece_fact]
  apply c_spots_in hl
  simp
  apply hK
  refine seqI fun K1 hK1 => ?_
  unfold pieceF at h
  by_cases h1 : spotsF lot b m = 0 ∨ spotsF lot b m = m
  · have h1' : ¬ (spotsF lot b m ≠ 0 ∧ spotsF lot b m ≠ m) := by omega
    rw [if_neg h1'] at h
    have e : decide (spotsF lot b m = 0 ∨ spotsF lot b m = m) = true := decide_eq_true h1
    simp [e]
    apply hK1
    refine seqI fun K2 hK2 => ?_
    simp
    refine ⟨by decide, ?_⟩
    apply c_Lay_pieces
    simp
    refine fLoop_enc encP (fun rest z => (∃ a1 a2 a3 a4, z = ⟨[SV.d (encLay T ps), SV.d (D.lst (List.map encS lot)), SV.d (D.int b), SV.d (D.int m), SV.d (D.int (spotsF lot b m)), a1, a2, a3, a4], S⟩) ∧
      (match findP rest b with
      | some p => Q (.d (encO (cutF ⟨p.b, p.m, p.t, p.w, 1, if 0 < spotsF lot b m then 1 else 0⟩ b m))) S
      | none => Q (.d .non) S)) ?_ ?_ ps _ ⟨⟨_, _, _, _, rfl⟩, ?_⟩
    · rintro z ⟨⟨a1, a2, a3, a4, rfl⟩, hz⟩
      apply hK2
      simp
      exact hz
    · rintro p rest z ⟨⟨a1, a2, a3, a4, rfl⟩, hz⟩ K3 hK3
      rw [tup_encP]
      simp
      unfold findP at hz
      by_cases h2 : p.b ≤ b
      · by_cases h3 : b < p.b + p.m
        · simp only [List.find?_cons, h2, h3, decide_true, Bool.and_true] at hz
          simp [h2, h3]
          apply c_cut_fact (F := ⟨p.b, p.m, p.t, p.w, 1, if 0 < spotsF lot b m then 1 else 0⟩)
          simp
          exact hz
        · simp only [List.find?_cons, h2, h3, decide_true, decide_false, Bool.and_false] at hz
          simp [h2, h3]
          exact hK3 _ ⟨⟨_, _, _, _, rfl⟩, hz⟩
      · simp only [List.find?_cons, h2, decide_false, Bool.false_and] at hz
        simp [h2]
        exact hK3 _ ⟨⟨_, _, _, _, rfl⟩, hz⟩
    · cases e2 : findP ps b with
      | none => rw [e2] at h; exact h
      | some p => rw [e2] at h; exact h
  · have h1' : spotsF lot b m ≠ 0 ∧ spotsF lot b m ≠ m := by omega
    rw [if_pos h1'] at h
    simp [h1'.1, h1'.2]
    exact h
end Eng

end
section
set_option Elab.async false
set_option linter.all false
set_option maxRecDepth 100000
/-! L1d -/
namespace Eng
open PySem PySem.Spec PyProof.Rows L2
variable {S : List OV} {Q : W → List OV → Prop} {R : Exn → List OV → Prop}
@[simp ↓] theorem x_din (neg : Bool) (s : Str) (kvs : List (Key × D)) (kk : W → Prop) : fDIn neg (.str s) (.dct kvs) kk = kk (.d (.bl (if neg then !(atK kvs (.inr s)).isSome else (atK kvs (.inr s)).isSome))) := by
  apply propext
  constructor
  · rintro ⟨k, y, h1, h2, h3⟩
    cases h1; cases h2; exact h3
  · intro h; exact ⟨_, _, rfl, rfl, h⟩
@[simp ↓] theorem x_dget (s : Str) (kvs : List (Key × D)) (kk : W → Prop) : fDGet (.dct kvs) (.str s) kk = opK (atK kvs (.inr s)) fun y => kk (.d y) := by
  rw [← opK_ex]
  apply propext
  constructor
  · rintro ⟨k, y, z, h1, h2, h3, h4⟩
    cases h1; cases h2; exact ⟨_, h3, h4⟩
  · rintro ⟨y, h1, h2⟩; exact ⟨_, _, _, rfl, rfl, h1, h2⟩
theorem eq_rule0 (w : Str) (ns : List Int) (kk : W → Prop) (hw : PyData.strOk w = true) : fEq false (.tup (.str w :: ns.map D.int)) (.tup []) kk = kk (.d (.bl false)) := by
  rw [x_eq _ _ _ _ (by simp [D.eqOk, D.okk, D.okL, hw, D.dp, D.dpL])]
  rfl
def formsL : List (Key × D) := [(.inr "piece", .tup [.int 1, .int 0]), (.inr "part", .tup [.int 2, .int 1]), (.inr "then", .tup [.int 3, .int 2]), (.inr "again", .tup [.int 3, .int 1]), (.inr "beside", .tup [.int 3, .int 2])]
theorem forms_eq : mergeD [(.inr "piece", .tup [.int 1, .int 0]), (.inr "part", .tup [.int 2, .int 1]), (.inr "then", .tup [.int 3, .int 2]), (.inr "again", .tup [.int 3, .int 1]), (.inr "beside", .tup [.int 3, .int 2])] = formsL := rfl
theorem forms_at (w : Str) : atK formsL (.inr w) = if w = "piece" then some (.tup [.int 1, .int 0]) else if w = "part" then some (.tup [.int 2, .int 1]) else if w = "then" then some (.tup [.int 3, .int 2]) else if w = "again" then some (.tup [.int 3, .int 1]) else if w = "beside" then some (.tup [.int 3, .int 2]) else none := by
  have e : ∀ (z : Str), (Sum.inr z = (Sum.inr w : Key)) ↔ w = z := fun z => ⟨fun h => by injection h with h; exact h.symm, fun h => by rw [h]⟩
  by_cases h1 : w = "piece"
  · subst h1; rfl
  by_cases h2 : w = "part"
  · subst h2; rfl
  by_cases h3 : w = "then"
  · subst h3; rfl
  by_cases h4 : w = "again"
  · subst h4; rfl
  by_cases h5 : w = "beside"
  · subst h5; rfl
  unfold atK formsL
  simp only [List.find?_cons, e]
  simp [h1, h2, h3, h4, h5]
theorem numF_piece (ns : List Int) : numF ("piece", ns) = if ns.length = 0 then 0 else -1 := rfl
theorem numF_part (ns : List Int) : numF ("part", ns) = if ns.length = 1 then 1 else -1 := rfl
theorem numF_then (ns : List Int) : numF ("then", ns) = if ns.length = 2 then 2 else -1 := rfl
theorem numF_again (ns : List Int) : numF ("again", ns) = if ns.length = 2 then 1 else -1 := rfl
theorem numF_beside (ns : List Int) : numF ("beside", ns) = if ns.length = 2 then 2 else -1 := rfl
theorem numF_no {w : Str} (ns : List Int) (h1 : w ≠ "piece") (h2 : w ≠ "part") (h3 : w ≠ "then") (h4 : w ≠ "again") (h5 : w ≠ "beside") : numF (w, ns) = -1 := by
  unfold numF
  simp [h1, h2, h3, h4, h5]
def frm (w : Str) : Option (Int × Int) := if w = "piece" then some (1, 0) else if w = "part" then some (2, 1) else if w = "then" then some (3, 2) else if w = "again" then some (3, 1) else if w = "beside" then some (3, 2) else none
theorem forms_at' (w : Str) : atK formsL (.inr w) = (frm w).map fun p => .tup [.int p.1, .int p.2] := by
  rw [forms_at]
  unfold frm
  split; · rfl
  split; · rfl
  split; · rfl
  split; · rfl
  split <;> rfl
theorem numF_frm (w : Str) (ns : List Int) : numF (w, ns) = match frm w with
    | some p => if ((ns.length : Int) + 1) = p.1 then p.2 else -1
    | none => -1 := by
  have l0 : ((ns.length : Int) + 1 = 1) ↔ ns.length = 0 := by omega
  have l1 : ((ns.length : Int) + 1 = 2) ↔ ns.length = 1 := by omega
  have l2 : ((ns.length : Int) + 1 = 3) ↔ ns.length = 2 := by omega
  by_cases h1 : w = "piece"
  · subst h1; rw [numF_piece]; show _ = if ((ns.length : Int) + 1) = 1 then 0 else -1; simp only [l0]
  by_cases h2 : w = "part"
  · subst h2; rw [numF_part]; show _ = if ((ns.length : Int) + 1) = 2 then 1 else -1; simp only [l1]
  by_cases h3 : w = "then"
  · subst h3; rw [numF_then]; show _ = if ((ns.length : Int) + 1) = 3 then 2 else -1; simp only [l2]
  by_cases h4 : w = "again"
  · subst h4; rw [numF_again]; show _ = if ((ns.length : Int) + 1) = 3 then 1 else -1; simp only [l2]
  by_cases h5 : w = "beside"
  · subst h5; rw [numF_beside]; show _ = if ((ns.length : Int) + 1) = 3 then 2 else -1; simp only [l2]
  rw [numF_no ns h1 h2 h3 h4 h5]
  unfold frm
  simp [h1, h2, h3, h4, h5]
theorem sl_numbers_of : ∀ ws S Qd Rd, sp_numbers_of ws S Qd Rd → w_numbers_of (z0 N_numbers_of ws S) (ed0 S.length Qd) (fun x z => Rd x (z.S.take S.length)) := by
  rintro _ S Q R ⟨⟨w, ns⟩, rfl, hw, h⟩
  unfold w_numbers_of
  refine seqI fun K hK => ?_
  simp [N_numbers_of, encR]
  rw [eq_rule0 _ _ _ hw]
  simp
  apply hK
  refine seqI fun K1 hK1 => ?_
  simp [keyD]
  rw [forms_eq]
  apply hK1
  refine seqI fun K2 hK2 => ?_
  simp
  rw [forms_at']
  rw [numF_frm] at h
  cases e : frm w with
  | none =>
    rw [e] at h
    simp
    exact h
  | some p =>
    rw [e] at h
    simp [forms_at', e]
    by_cases h1 : (ns.length : Int) + 1 = p.1
    · simp [h1] at h ⊢
      apply hK2
      simp [forms_at', e]
      exact h
    · simp [h1] at h ⊢
      exact h
theorem c_numbers_of {r : Str × List Int} (hw : PyData.strOk r.1 = true) (h : Q (.d (.int (numF r))) S) : sp_numbers_of [.d (encR r)] S Q R := ⟨r, rfl, hw, h⟩
end Eng

end
section
set_option Elab.async false
set_option linter.all false
set_option maxRecDepth 100000
/-! L1e -/
namespace Eng
open PySem PySem.Spec PyProof.Rows L2
variable {S : List OV} {Q : W → List OV → Prop} {R : Exn → List OV → Prop}
theorem cut_mid {α : Type} (xs : List α) (a b : Nat) (h : a ≤ b) : cutD xs (some (a : Int)) (some (b : Int)) = (xs.drop a).take (b - a) := by
  unfold cutD
  rw [HT.sIx_nat, HT.sIx_nat]
  by_cases h1 : b ≤ xs.length
  · rw [Nat.min_eq_left h1, Nat.min_eq_left (by omega)]
  · rw [Nat.min_eq_right (by omega)]
    by_cases h2 : a ≤ xs.length
    · rw [Nat.min_eq_left h2, List.take_of_length_le (by rw [List.length_drop]; omega), List.take_of_length_le (by rw [List.length_drop]; omega)]
    · rw [Nat.min_eq_right (by omega), List.drop_length, List.drop_of_length_le (by omega)]; simp
theorem eq_str (neg : Bool) (w z : Str) (kk : W → Prop) (hw : PyData.strOk w = true) (hz : PyData.strOk z = true) : fEq neg (.str w) (.str z) kk = kk (.d (.bl (if neg then !decide (w = z) else decide (w = z)))) := by
  rw [x_eq _ _ _ _ (by simp [D.eqOk, D.okk, hw, hz, D.dp])]
  have e : D.eqB (.str w) (.str z) = decide (w = z) := by
    show (w == z) = _
    by_cases h : w = z
    · subst h; simp
    · simp [h]
  rw [e]
theorem x_all' (ns : List Bool) (ds : List D) (kk : W → Prop) (e : ds = ns.map D.bl) (h : kk (.d (.bl (ns.all id)))) : fAll [.lst ds] kk := by
  subst e; exact ⟨ns, rfl, h⟩
theorem sl_is_rule : ∀ ws S Qd Rd, sp_is_rule ws S Qd Rd → w_is_rule (z0 N_is_rule ws S) (ed0 S.length Qd) (fun x z => Rd x (z.S.take S.length)) := by
  rintro _ S Q R ⟨⟨w, ns⟩, n, rfl, hw, h⟩
  unfold w_is_rule
  refine seqI fun K hK => ?_
  simp [N_is_rule]
  apply c_numbers_of hw
  simp
  apply hK
  refine seqI fun K1 hK1 => ?_
  unfold isRuleF at h
  by_cases h1 : numF (w, ns) < 0
  · simp [h1] at h ⊢
    exact h
  · simp only [h1, if_false] at h
    simp [h1, encR]
    have h0 : 0 ≤ numF (w, ns) := by omega
    obtain ⟨m, hm⟩ : ∃ m : Nat, numF (w, ns) = m := ⟨(numF (w, ns)).toNat, by omega⟩
    have hle : m ≤ ns.length ∧ m ≤ 2 := by
      have hm' := hm
      simp only [numF] at hm'
      repeat' split at hm'
      all_goals omega
    have ec : cutD (D.str w :: ns.map D.int) (some 1) (some (1 + numF (w, ns))) = (ns.take m).map D.int := by
      have := cut_mid (D.str w :: ns.map D.int) 1 (1 + m) (by omega)
      rw [hm]
      have e2 : (1 : Int) + (m : Int) = ((1 + m : Nat) : Int) := by omega
      rw [e2]
      refine this.trans ?_
      simp [List.map_take]
    rw [ec]
    refine cLoop_map D.int (fun k => .bl (decide (0 ≤ k) && decide (k < n))) trivial (ns.take m) (fun k hk KT h1 => ?_) (by rw [List.length_take, sizeLine_eq]; omega) ?_
    · simp
      by_cases h2 : 0 ≤ k
      · simp [h2]
        have q := h1 ⟨[SV.d (D.tup (D.str w :: List.map D.int ns)), SV.d (D.int n), SV.d (D.int (numF (w, ns))), SV.d (.int k)], S⟩ rfl
        simpa [h2] using q
      · simp [h2]
        have q := h1 ⟨[SV.d (D.tup (D.str w :: List.map D.int ns)), SV.d (D.int n), SV.d (D.int (numF (w, ns))), SV.d (.int k)], S⟩ rfl
        simpa [h2] using q
    · refine x_all' ((ns.take m).map fun k => decide (0 ≤ k) && decide (k < n)) _ _ (by rw [List.map_map]; rfl) ?_
      simp only [x_fz_d, x_asB]
      have ea : ((List.map (fun k => decide (0 ≤ k) && decide (k < n)) (List.take m ns)).all id) = ((ns.take (numF (w, ns)).toNat).all fun k => decide (0 ≤ k) && decide (k < n)) := by
        rw [hm, List.all_map]; rfl
      rw [ea]
      by_cases h2 : ((ns.take (numF (w, ns)).toNat).all fun k => decide (0 ≤ k) && decide (k < n)) = true
      · rw [if_pos h2]
        have h2' : ((List.take (numF (w, ns)).toNat (w, ns).snd).all fun k => decide (0 ≤ k) && decide (k < n)) = true := h2
        rw [h2', Bool.true_and] at h
        apply hK1
        simp
        rw [eq_str _ _ _ _ hw (by decide +kernel)]
        by_cases h3 : w = "again"
        · subst h3
          have hl : ns.length = 2 := by
            have hm' := hm
            rw [numF_again] at hm'
            split at hm' <;> omega
          obtain ⟨a, b, rfl⟩ : ∃ a b, ns = [a, b] := by
            match ns, hl with
            | [a, b], _ => exact ⟨a, b, rfl⟩
          simp at h ⊢
          exact h
        · simp [h3] at h ⊢
          exact h
      · have h2' : ¬ ((List.take (numF (w, ns)).toNat (w, ns).snd).all fun k => decide (0 ≤ k) && decide (k < n)) = true := h2
        rw [if_neg h2]
        rw [Bool.not_eq_true] at h2'
        rw [h2', Bool.false_and] at h
        simp
        exact h
theorem c_is_rule {r : Str × List Int} {n : Int} (hw : PyData.strOk r.1 = true) (h : Q (.d (.bl (isRuleF r n))) S) : sp_is_rule [.d (encR r), .d (.int n)] S Q R := ⟨r, n, rfl, hw, h⟩
theorem sl_is_piece : ∀ ws S Qd Rd, sp_is_piece ws S Qd Rd → w_is_piece (z0 N_is_piece ws S) (ed0 S.length Qd) (fun x z => Rd x (z.S.take S.length)) := by
  rintro _ S Q R ⟨p, T, rfl, h⟩
  unfold w_is_piece
  rw [tup_encP]
  refine seqI fun K hK => ?_
  simp [N_is_piece]
  by_cases h1 : p.w = 1 ∨ p.w = -1
  · have e1 : (decide (p.w = 1) || decide (p.w = -1)) = true := by simpa using h1
    simp only [decide_eq_true h1, Bool.true_and] at h
    rw [if_pos h1]
    apply hK
    refine seqI fun K1 hK1 => ?_
    simp
    apply hK1
    refine seqI fun K2 hK2 => ?_
    simp
    by_cases h2 : 1 ≤ p.m ∧ p.m ≤ T
    · simp only [decide_eq_true h2, Bool.true_and] at h
      by_cases h3 : 0 ≤ p.b ∧ p.b ≤ T - p.m
      · simp only [decide_eq_true h3, Bool.true_and] at h
        simp [h2.1, h2.2, h3.1, h3.2]
        apply hK2
        simp
        simpa using h
      · simp only [decide_eq_false h3, Bool.false_and] at h
        have h3' : ¬ (0 ≤ p.b ∧ p.b ≤ T - p.m) := h3
        simp [h2.1, h2.2, h3']
        exact h
    · simp only [decide_eq_false h2, Bool.false_and] at h
      simp [h2]
      exact h
  · simp only [decide_eq_false h1, Bool.false_and] at h
    rw [if_neg h1]
    exact h
theorem c_is_piece {p : Pc} {T : Int} (h : Q (.d (.bl (decide (p.w = 1 ∨ p.w = -1) && (decide (1 ≤ p.m ∧ p.m ≤ T) && (decide (0 ≤ p.b ∧ p.b ≤ T - p.m) && decide (0 ≤ p.t ∧ p.t ≤ T - p.m)))))) S) : sp_is_piece [.d (encP p), .d (.int T)] S Q R := ⟨p, T, rfl, h⟩
end Eng

end
section
set_option Elab.async false
set_option linter.all false
set_option maxRecDepth 100000
/-! L1f: led_fact, shows -/
namespace Eng
open PySem PySem.Spec PyProof.Rows L2
variable {S : List OV} {Q : W → List OV → Prop} {R : Exn → List OV → Prop}
theorem c_piece_fact {T : Int} {ps : List Pc} {lot : List (Int × Int)} {b m : Int} (hl : lot.length < 1000000) (h : Q (.d (encO (pieceF ps lot b m))) S) : sp_piece_fact [.d (encLay T ps), .d (.lst (lot.map encS)), .d (.int b), .d (.int m)] S Q R := ⟨T, ps, lot, b, m, rfl, hl, h⟩
theorem ix_facts (fs : List Fact) (k : Int) (h0 : 0 ≤ k) (h1 : k < fs.length) : ∃ F, fs[k.toNat]? = some F ∧ F ∈ fs ∧ atI (fs.map encF) k = some (encF F) := by
  have hlt : k.toNat < fs.length := by omega
  refine ⟨fs[k.toNat], List.getElem?_eq_getElem hlt, List.getElem_mem hlt, ?_⟩
  have e : atI (fs.map encF) k = some (encF fs[k.toNat]) := by
    have := atI_n (fs.map encF) k.toNat
    rw [show ((k.toNat : Nat) : Int) = k from Int.toNat_of_nonneg h0] at this
    rw [this, List.getElem?_map, List.getElem?_eq_getElem hlt]
    rfl
  exact e
theorem isRule_len {w : Str} {ns : List Int} {n : Int} (h : isRuleF (w, ns) n = true) : (∀ k ∈ ns.take (numF (w, ns)).toNat, 0 ≤ k ∧ k < n) ∧ 0 ≤ numF (w, ns) := by
  unfold isRuleF at h
  split at h
  · cases h
  · rename_i h1
    have h2 := (Bool.and_eq_true_iff.mp h).1
    refine ⟨fun k hk => ?_, by omega⟩
    have := List.all_eq_true.mp h2 k hk
    simpa using this
theorem sl_led_fact : ∀ ws S Qd Rd, sp_led_fact ws S Qd Rd → w_led_fact (z0 N_led_fact ws S) (ed0 S.length Qd) (fun x z => Rd x (z.S.take S.length)) := by
  rintro _ S Q R ⟨T, ps, lot, fs, j, b, m, ⟨w, ns⟩, rfl, hj, hl, hs, hk, hw, hr, h⟩
  have hw' : PyData.strOk w = true := hw
  obtain ⟨hr1, hr2⟩ := isRule_len hr
  unfold w_led_fact
  refine seqI fun K hK => ?_
  have hn16 : ns.length ≤ 16000 := by
    have hm' := hr2
    simp only [numF] at hm'
    repeat' split at hm'
    all_goals omega
  simp [N_led_fact, encR]
  refine ⟨by omega, ?_⟩
  apply hK
  refine seqI fun K1 hK1 => ?_
  simp
  rw [eq_str _ _ _ _ hw' (by decide +kernel)]
  simp
  unfold ledF at h
  by_cases h1 : w = "piece"
  · subst h1
    simp at h ⊢
    apply c_piece_fact hl
    simp
    exact h
  simp only [h1, if_false] at h ⊢
  apply hK1
  have wd : ∀ z : Str, PyData.strOk z = true → ∀ (neg : Bool) (kk : W → Prop), fEq neg (.str w) (.str z) kk = kk (.d (.bl (if neg then !decide (w = z) else decide (w = z)))) := fun z hz neg kk => eq_str neg w z kk hw' hz
  have e0 : ∀ k : Int, k ∈ ns.take (numF (w, ns)).toNat → ∃ F, fs[k.toNat]? = some F ∧ F ∈ fs ∧ atI (fs.map encF) k = some (encF F) := fun k hk' => ix_facts fs k (hr1 k hk').1 (hr1 k hk').2
  refine seqI fun K2 hK2 => ?_
  by_cases h2 : w = "part"
  · subst h2
    obtain ⟨k, rfl⟩ : ∃ k, ns = [k] := by
      rw [numF_part] at hr2
      match ns, hr2 with
      | [], h => simp at h
      | [k], _ => exact ⟨k, rfl⟩
      | _ :: _ :: _, h => simp at h
    obtain ⟨F, f1, f2, f3⟩ := e0 k (by simp [numF_part])
    simp [hj, f3, f1] at h ⊢
    apply hK2
    refine seqI fun K3 hK3 => ?_
    simp [wd _ (show PyData.strOk "part" = true by decide +kernel)]
    apply c_cut_fact
    simp
    exact h
  by_cases h3 : w = "again"
  · subst h3
    obtain ⟨k, n, rfl⟩ : ∃ k n, ns = [k, n] := by
      rw [numF_again] at hr2
      match ns, hr2 with
      | [], h => simp at h
      | [k], h => simp at h
      | [k, n], _ => exact ⟨k, n, rfl⟩
      | _ :: _ :: _ :: _, h => simp at h
    obtain ⟨F, f1, f2, f3⟩ := e0 k (by simp [numF_again])
    simp [hj, f3, f1] at h ⊢
    apply hK2
    refine seqI fun K3 hK3 => ?_
    simp [wd _ (show PyData.strOk "part" = true by decide +kernel)]
    apply hK3
    refine seqI fun K4 hK4 => ?_
    simp [wd _ (show PyData.strOk "again" = true by decide +kernel)]
    apply c_again_fact (hs F f2) (hk n (by simp))
    simp
    exact h
  simp only [h2, h3, if_false] at h
  have two : ∃ i k, ns = [i, k] ∧ i ∈ ns.take (numF (w, ns)).toNat ∧ k ∈ ns.take (numF (w, ns)).toNat ∧ (w = "then" ∨ w = "beside") := by
    have hm := hr2
    simp only [numF, h1, h2, h3, if_false] at hm
    by_cases h4 : w = "then"
    · subst h4
      match ns, hm with
      | [], h => simp at h
      | [k], h => simp at h
      | [k, n], _ => exact ⟨k, n, rfl, by simp [numF_then], by simp [numF_then], .inl rfl⟩
      | _ :: _ :: _ :: _, h => simp at h
    · by_cases h5 : w = "beside"
      · subst h5
        match ns, hm with
        | [], h => simp at h
        | [k], h => simp at h
        | [k, n], _ => exact ⟨k, n, rfl, by simp [numF_beside], by simp [numF_beside], .inr rfl⟩
        | _ :: _ :: _ :: _, h => simp at h
      · simp [h4, h5] at hm
  obtain ⟨i, k, rfl, hi, hk', hw2⟩ := two
  obtain ⟨F, f1, f2, f3⟩ := e0 i hi
  obtain ⟨G, g1, g2, g3⟩ := e0 k hk'
  simp [hj, f3, f1, g1] at h ⊢
  apply hK2
  refine seqI fun K3 hK3 => ?_
  simp [wd _ (show PyData.strOk "part" = true by decide +kernel), h2]
  apply hK3
  refine seqI fun K4 hK4 => ?_
  simp [wd _ (show PyData.strOk "again" = true by decide +kernel), h3]
  apply hK4
  refine seqI fun K5 hK5 => ?_
  simp [hj, g3]
  apply hK5
  refine seqI fun K6 hK6 => ?_
  simp [wd _ (show PyData.strOk "then" = true by decide +kernel)]
  obtain ⟨_, _, _, wF, _⟩ := hs F f2
  obtain ⟨_, _, _, wG, _⟩ := hs G g2
  by_cases h4 : w = "then"
  · simp [h4] at h ⊢
    apply c_then_fact wF wG
    simp
    exact h
  · simp [h4] at h ⊢
    apply c_beside_fact wF
    simp
    exact h
end Eng

end
section
set_option Elab.async false
set_option linter.all false
set_option maxRecDepth 100000
/-! L1g: shows -/
namespace Eng
open PySem PySem.Spec PyProof.Rows L2
variable {S : List OV} {Q : W → List OV → Prop} {R : Exn → List OV → Prop}
theorem eq_encO (neg : Bool) (o : Option Fact) (F : Fact) (kk : W → Prop) : fEq neg (encO o) (encF F) kk = kk (.d (.bl (if neg then !decide (o = some F) else decide (o = some F)))) := by
  cases o with
  | none =>
    rw [x_eq _ _ _ _ rfl]
    have e : D.eqB (encO none) (encF F) = decide ((none : Option Fact) = some F) := by simp [encO, encF, D.eqB]
    rw [e]
  | some G =>
    rw [x_eq _ _ _ _ rfl]
    have e : D.eqB (encO (some G)) (encF F) = decide (some G = some F) := by
      have h : (some G = some F) ↔ (G.b = F.b ∧ G.m = F.m ∧ G.t = F.t ∧ G.w = F.w ∧ G.r = F.r ∧ G.s = F.s) := by
        cases G; cases F; simp
      simp only [encO, encF, D.eqB, D.eqL, h]
      by_cases h1 : G.b = F.b <;> by_cases h2 : G.m = F.m <;> by_cases h3 : G.t = F.t <;> by_cases h4 : G.w = F.w <;> by_cases h5 : G.r = F.r <;> by_cases h6 : G.s = F.s <;> simp [h1, h2, h3, h4, h5, h6]
    rw [e]
theorem c_led_fact {T : Int} {ps : List Pc} {lot : List (Int × Int)} {fs : List Fact} {j : Nat} {b m : Int} {r : Str × List Int} (hj : S[j]? = some (.lst (fs.map encF))) (hl : lot.length < 1000000) (h1 : ∀ F ∈ fs, SmF F) (h2 : ∀ k ∈ r.2, Sm k) (h3 : PyData.strOk r.1 = true) (h4 : isRuleF r fs.length = true)
    (h : Q (.d (encO (ledF ps lot fs b m r))) S) : sp_led_fact [.d (encLay T ps), .d (.lst (lot.map encS)), .cel j, .d (.tup [.int b, .int m]), .d (encR r)] S Q R := ⟨T, ps, lot, fs, j, b, m, r, rfl, hj, hl, h1, h2, h3, h4, h⟩
theorem cut2 (a b c d e f : D) : cutD [a, b, c, d, e, f] none (some 2) = [a, b] := rfl
@[simp ↓] theorem x_append (xs : List D) (d : D) (k : D → List D → Prop) : fAppend xs [d] k = (xs.length < sizeLine ∧ k .non (xs ++ [d])) := by
  unfold fAppend; simp
theorem sl_shows : ∀ ws S Qd Rd, sp_shows ws S Qd Rd → w_shows (z0 N_shows ws S) (ed0 S.length Qd) (fun x z => Rd x (z.S.take S.length)) := by
  rintro _ S Q R ⟨T, ps, lot, rows, rfl, hl, hr, hs, h⟩
  unfold w_shows
  refine seqI fun K hK => ?_
  simp [N_shows]
  apply hK
  refine seqI fun K1 hK1 => ?_
  simp
  apply hK1
  simp
  refine fLoop_enc encRow (fun rest z => ∃ fs a, z = ⟨[SV.d (encLay T ps), SV.d (D.lst (List.map encS lot)), SV.d (D.lst (List.map encRow rows)), SV.cel S.length, a], S ++ [.lst (fs.map encF)]⟩ ∧ (∀ F ∈ fs, SmF F) ∧ fs.length + rest.length < 1000000 ∧ (∀ x ∈ rest, SmR x) ∧
      Q (.d (.bl (showsG T ps lot fs rest))) S) ?_ ?_ rows _ ⟨[], _, rfl, by simp, by simpa using hr, hs, h⟩
  · rintro z ⟨fs, a, rfl, _, _, _, hz⟩
    simp
    exact hz
  · rintro ⟨F, r⟩ rest z ⟨fs, a, rfl, h1, h2, h3, hz⟩ K3 hK3
    obtain ⟨m1, m2, m3, m4, m5, m6, m7, m8⟩ := h3 (F, r) List.mem_cons_self
    simp only [showsG] at hz
    simp only [encRow, v_gN4]
    refine seqI fun K4 hK4 => ?_
    simp
    refine ⟨by decide, ?_⟩
    apply c_Lay_spots
    simp
    apply c_is_fact
    simp
    unfold rowOk at hz
    by_cases q1 : isFactF T F = true
    · simp only [q1, Bool.true_and] at hz
      simp [q1]
      apply hK4
      refine seqI fun K5 hK5 => ?_
      simp
      apply c_is_rule m8
      simp only [x_fz_d, x_asB]
      by_cases q2 : isRuleF r fs.length = true
      · simp only [q2, Bool.true_and] at hz
        rw [if_pos q2]
        simp only [tup_encF F, x_sl_t, cut2]
        simp
        refine c_led_fact (by simp) hl h1 m7 m8 q2 ?_
        simp
        have ew : F.w = 1 ∨ F.w = -1 := by
          unfold isFactF at q1
          simp at q1
          exact q1.2.2.1
        rw [← tup_encF F, eq_encO]
        by_cases q3 : ledF ps lot fs F.b F.m r = some F
        · simp only [q3, decide_true, Bool.true_and] at hz
          simp [q3]
          apply hK5
          refine seqI fun K6 hK6 => ?_
          simp
          refine ⟨by rw [sizeLine_eq]; simp at h2; omega, ?_⟩
          apply hK6
          simp
          apply hK3
          refine ⟨fs ++ [F], SV.d (D.tup [encF F, encR r]), by simp [tup_encF], ?_, ?_, fun x hx => h3 x (List.mem_cons_of_mem _ hx), hz⟩
          · intro G hG
            rcases List.mem_append.mp hG with q | q
            · exact h1 G q
            · rw [List.mem_singleton] at q
              subst q
              exact ⟨m1, m2, m3, ew, m5, m6⟩
          · rw [List.length_append, List.length_singleton]
            rw [List.length_cons] at h2
            omega
        · simp only [q3, decide_false, Bool.false_and] at hz
          simp [q3]
          exact hz
      · rw [Bool.not_eq_true] at q2
        simp only [q2, Bool.false_and] at hz
        rw [q2]
        simp
        exact hz
    · rw [Bool.not_eq_true] at q1
      simp only [q1, Bool.false_and] at hz
      simp [q1]
      exact hz
end Eng

end
section
set_option Elab.async false
set_option linter.all false
set_option maxRecDepth 100000
/-! L1h: fills, need_lay, in_one_form, Lay -/
namespace Eng
open PySem PySem.Spec PyProof.Rows L2
variable {S : List OV} {Q : W → List OV → Prop} {R : Exn → List OV → Prop}
theorem pw_head {α : Type} {h : α → Int} : ∀ {ws : List α}, ws.Pairwise (fun x y => h x < h y) → ∀ a ∈ ws, ∀ b ∈ ws, h a = h b → a = b
  | [], _, a, ha, _, _, _ => by cases ha
  | w :: ws, p, a, ha, b, hb, e => by
    obtain ⟨p1, p2⟩ := List.pairwise_cons.mp p
    rcases List.mem_cons.mp ha with ha | ha <;> rcases List.mem_cons.mp hb with hb | hb
    · rw [ha, hb]
    · have := p1 b hb; rw [ha] at e; omega
    · have := p1 a ha; rw [hb] at e; omega
    · exact pw_head p2 a ha b hb e
theorem lexI_head {x y : Int} {xs ys : List Int} (h : x < y) : lexI (y :: ys) (x :: xs) = false := by
  show (if y = x then HT.lexLt ys xs else decide (y < x)) = false
  rw [if_neg (by omega)]
  exact decide_eq_false (by omega)
theorem lexI_heads {x y : Int} {xs ys : List Int} (h1 : lexI (y :: ys) (x :: xs) = false) (h2 : lexI (x :: xs) (y :: ys) = false) : x = y := by
  have h1' : (if y = x then HT.lexLt ys xs else decide (y < x)) = false := h1
  have h2' : (if x = y then HT.lexLt xs ys else decide (x < y)) = false := h2
  by_cases e : x = y
  · exact e
  · rw [if_neg (fun q => e q.symm)] at h1'
    rw [if_neg e] at h2'
    have a := of_decide_eq_false h1'
    have b := of_decide_eq_false h2'
    omega
theorem sort_uniq {α : Type} {f : α → List Int} {h : α → Int} (hf : ∀ a, ∃ t, f a = h a :: t) {ws : List α} (hw : ws.Pairwise fun x y => h x < h y) {rs : List (List Int)} (hp : rs.Perm (ws.map f)) (hs : rs.Pairwise fun x y => lexI y x = false) : rs = ws.map f := by
  refine List.Perm.eq_of_pairwise (le := fun x y => lexI y x = false) ?_ hs ?_ hp
  · intro a b ha hb h1 h2
    obtain ⟨u, hu, rfl⟩ := List.mem_map.mp (hp.mem_iff.mp ha)
    obtain ⟨v, hv, rfl⟩ := List.mem_map.mp hb
    obtain ⟨t, et⟩ := hf u
    obtain ⟨t', et'⟩ := hf v
    rw [et, et'] at h1 h2
    have := lexI_heads h1 h2
    rw [pw_head hw u hu v hv this]
  · rw [List.pairwise_map]
    refine hw.imp fun {a b} hab => ?_
    obtain ⟨t, et⟩ := hf a
    obtain ⟨t', et'⟩ := hf b
    rw [et, et']
    exact lexI_head hab
theorem tl_ge : ∀ {ys : List (Int × Int)} {a e : Int}, Tl a ys e → ∀ y ∈ ys, a ≤ y.1
  | [], _, _, _, y, hy => by cases hy
  | x :: ys, a, e, h, y, hy => by
    obtain ⟨h1, h2, h3⟩ := h
    rcases List.mem_cons.mp hy with q | q
    · rw [q]; omega
    · have := tl_ge h3 y q; omega
theorem tl_pw : ∀ {ys : List (Int × Int)} {a e : Int}, Tl a ys e → ys.Pairwise fun x y => x.1 < y.1
  | [], _, _, _ => .nil
  | x :: ys, a, e, h => by
    obtain ⟨h1, h2, h3⟩ := h
    refine List.pairwise_cons.mpr ⟨fun y hy => ?_, tl_pw h3⟩
    have := tl_ge h3 y hy
    omega
theorem encS_tup (xs : List (Int × Int)) : xs.map encS = (xs.map fun l => [l.1, l.2]).map tupI := by
  rw [List.map_map]; rfl
theorem encP_tup (xs : List Pc) : xs.map encP = (xs.map Pc.l).map tupI := by
  rw [List.map_map]; rfl
theorem sl_fills : ∀ ws S Qd Rd, sp_fills ws S Qd Rd → w_fills (z0 N_fills ws S) (ed0 S.length Qd) (fun x z => Rd x (z.S.take S.length)) := by
  rintro _ S Q R ⟨xs, ys, T, rfl, hl, hp, ht, h⟩
  unfold w_fills
  refine seqI fun K hK => ?_
  simp [N_fills]
  apply hK
  refine seqI fun K1 hK1 => ?_
  simp
  refine ⟨xs.map fun l => [l.1, l.2], 2, by rw [← encS_tup], by omega, (fun ns hns => by obtain ⟨l, _, rfl⟩ := List.mem_map.mp hns; rfl), fun rs h1 h2 => ?_⟩
  have e := sort_uniq (f := fun l : Int × Int => [l.1, l.2]) (h := fun l => l.1) (fun a => ⟨_, rfl⟩) (tl_pw ht) (h1.trans (hp.symm.map _)) h2
  subst e
  simp
  rw [← List.map_map, ← encS_tup]
  refine fLoop_enc encS (fun rest z => ∃ a b c, z = ⟨[SV.d (D.lst (xs.map encS)), SV.d (D.int T), SV.d (.int a), b, c], S⟩ ∧ Tl a rest T) ?_ ?_ ys _ ⟨0, _, _, rfl, ht⟩
  · rintro z ⟨a, b, c, rfl, hz⟩
    apply hK1
    have e : a = T := hz
    subst e
    simp
    exact h
  · rintro x rest z ⟨a, b, c, rfl, h1, h2, h3⟩ K3 hK3
    simp [encS, h1]
    exact hK3 _ ⟨_, _, _, rfl, h3⟩
theorem c_fills {xs ys : List (Int × Int)} {T : Int} (hl : xs.length < 1000000) (hp : ys.Perm xs) (ht : Tl 0 ys T) (h : Q (.d (.bl true)) S) : sp_fills [.d (.lst (xs.map encS)), .d (.int T)] S Q R := ⟨xs, ys, T, rfl, hl, hp, ht, h⟩
theorem tl_mem : ∀ {ys : List (Int × Int)} {a e : Int}, Tl a ys e → a ≤ e ∧ ∀ y ∈ ys, a ≤ y.1 ∧ 1 ≤ y.2 ∧ y.1 + y.2 ≤ e
  | [], a, e, h => ⟨by have : a = e := h; omega, (fun y hy => by cases hy)⟩
  | x :: ys, a, e, h => by
    obtain ⟨h1, h2, h3⟩ := h
    obtain ⟨i1, i2⟩ := tl_mem h3
    refine ⟨by omega, fun y hy => ?_⟩
    rcases List.mem_cons.mp hy with q | q
    · rw [q]; omega
    · have := i2 y q; omega
theorem Valid.pc {ps : List Pc} {T : Int} (v : Valid ps T) : 0 ≤ T ∧ ∀ p ∈ ps, Way p.w ∧ 0 ≤ p.b ∧ 1 ≤ p.m ∧ p.b + p.m ≤ T ∧ 0 ≤ p.t ∧ p.t + p.m ≤ T := by
  obtain ⟨ys, hp, ht⟩ := v.img
  refine ⟨(tl_mem v.dom).1, fun p h => ?_⟩
  have h1 := (tl_mem v.dom).2 (p.b, p.m) (List.mem_map.mpr ⟨p, h, rfl⟩)
  have h2 := (tl_mem ht).2 (p.t, p.m) (hp.mem_iff.mpr (List.mem_map.mpr ⟨p, h, rfl⟩))
  exact ⟨v.way p h, h1.1, h1.2.1, h1.2.2, h2.1, h2.2.2⟩
theorem sl_need_lay : ∀ ws S Qd Rd, sp_need_lay ws S Qd Rd → w_need_lay (z0 N_need_lay ws S) (ed0 S.length Qd) (fun x z => Rd x (z.S.take S.length)) := by
  rintro _ S Q R ⟨ps, vs, T, rfl, hl, hvp, hv, hT, h⟩
  obtain ⟨v0, v1'⟩ := hv.pc
  have v1 := fun p hp => v1' p (hvp.mem_iff.mpr hp)
  unfold w_need_lay
  refine seqI fun K hK => ?_
  simp [N_need_lay, v0, hT]
  apply hK
  refine seqI fun K1 hK1 => ?_
  simp
  refine cLoop_map encP (fun p => .bl true) trivial ps (fun p hm KT h1 => ?_) (small_size' hl) ?_
  · simp
    apply c_is_piece
    obtain ⟨a1, a2, a3, a4, a5, a6⟩ := v1 p hm
    have e : (decide (p.w = 1 ∨ p.w = -1) && (decide (1 ≤ p.m ∧ p.m ≤ T) && (decide (0 ≤ p.b ∧ p.b ≤ T - p.m) && decide (0 ≤ p.t ∧ p.t ≤ T - p.m)))) = true := by
      rw [decide_eq_true (show p.w = 1 ∨ p.w = -1 from a1), decide_eq_true (show 1 ≤ p.m ∧ p.m ≤ T by omega), decide_eq_true (show 0 ≤ p.b ∧ p.b ≤ T - p.m by omega), decide_eq_true (show 0 ≤ p.t ∧ p.t ≤ T - p.m by omega)]
      rfl
    rw [e]
    exact h1 _ rfl
  · refine x_all' (ps.map fun _ => true) _ _ (by rw [List.map_map]; rfl) ?_
    have e : (ps.map fun _ => true).all id = true := by simp
    rw [e]
    simp
    apply hK1
    refine seqI fun K2 hK2 => ?_
    simp
    refine cLoop_map encP (fun p => encS (p.t, p.m)) trivial ps (fun p hm KT h1 => ?_) (small_size' hl) ?_
    · simp [tup_encP]
      exact h1 _ rfl
    · simp
      apply hK2
      refine seqI fun K3 hK3 => ?_
      simp
      refine cLoop_map encP (fun p => encS (p.b, p.m)) trivial ps (fun p hm KT h1 => ?_) (small_size' hl) ?_
      · simp [tup_encP]
        exact h1 _ rfl
      · simp
        have e1 : ps.map (fun p => encS (p.b, p.m)) = (ps.map fun p => (p.b, p.m)).map encS := by rw [List.map_map]; rfl
        have e2 : ps.map (fun p => encS (p.t, p.m)) = (ps.map fun p => (p.t, p.m)).map encS := by rw [List.map_map]; rfl
        obtain ⟨ys, hp, ht⟩ := hv.img
        rw [e1, e2]
        refine c_fills (by rw [List.length_map]; exact hl) (hvp.map _) hv.dom ?_
        simp
        rw [← List.map_map]
        refine c_fills (by rw [List.length_map]; exact hl) (hp.trans (hvp.map _)) ht ?_
        simp
        apply hK3
        simp
        exact h
theorem c_need_lay {ps vs : List Pc} {T : Int} (hl : ps.length < 1000000) (hp : vs.Perm ps) (hv : Valid vs T) (hT : T ≤ 2000000000000000000) (h : Q (.d .non) S) : sp_need_lay [.d (.int T), .d (.lst (ps.map encP))] S Q R := ⟨ps, vs, T, rfl, hl, hp, hv, hT, h⟩
end Eng

end
section
set_option Elab.async false
set_option linter.all false
set_option maxRecDepth 100000
/-! L1i: in_one_form, Lay -/
namespace Eng
open PySem PySem.Spec PyProof.Rows L2
variable {S : List OV} {Q : W → List OV → Prop} {R : Exn → List OV → Prop}
theorem eq_lp0 (neg : Bool) (acc : List Pc) (kk : W → Prop) : fEq neg (.lst (acc.map encP)) (.lst []) kk = kk (.d (.bl (if neg then !acc.isEmpty else acc.isEmpty))) := by
  rw [encP_tup, x_eq_lt0]
  simp
theorem eq_lp1 (neg : Bool) (acc : List Pc) (a b c d : Int) (kk : W → Prop) : fEq neg (.lst (acc.map encP ++ [.tup [.int a, .int b, .int c, .int d]])) (.lst []) kk = kk (.d (.bl neg)) := by
  have := eq_lp0 neg (acc ++ [⟨a, b, c, d⟩]) kk
  rw [List.map_append] at this
  refine this.trans ?_
  have e : (acc ++ [(⟨a, b, c, d⟩ : Pc)]).isEmpty = false := by
    cases acc <;> rfl
  rw [e]
  cases neg <;> rfl
theorem ix_last (xs : List D) (t : D) (kk : W → Prop) : fIx (.lst (xs ++ [t])) (.int (-1)) kk = kk (.d t) := by
  rw [x_ix_l, atI_last]; rfl
theorem eq_l00 (neg : Bool) (kk : W → Prop) : fEq neg (.lst []) (.lst []) kk = kk (.d (.bl (!neg))) := by
  rw [x_eq _ _ _ _ rfl]
  cases neg <;> rfl
theorem ixN_last {n : Nat} : ixN (n + 1) (-1) = some n := by
  unfold ixN
  have h : -((n + 1 : Nat) : Int) ≤ -1 := by omega
  simp
  omega
theorem sl_in_one_form : ∀ ws S Qd Rd, sp_in_one_form ws S Qd Rd → w_in_one_form (z0 N_in_one_form ws S) (ed0 S.length Qd) (fun x z => Rd x (z.S.take S.length)) := by
  rintro _ S Q R ⟨ps, ys, rfl, hl, hp, hpw, hw, h⟩
  unfold w_in_one_form
  refine seqI fun K hK => ?_
  simp [N_in_one_form]
  apply hK
  refine seqI fun K1 hK1 => ?_
  simp
  refine ⟨ps.map Pc.l, 4, by rw [← encP_tup], by omega, (fun ns hns => by obtain ⟨l, _, rfl⟩ := List.mem_map.mp hns; rfl), fun rs h1 h2 => ?_⟩
  have e := sort_uniq (f := Pc.l) (h := fun l => l.b) (fun a => ⟨_, rfl⟩) hpw (h1.trans (hp.symm.map _)) h2
  subst e
  simp
  rw [← List.map_map, ← encP_tup]
  have hl' : ys.length < 1000000 := by rw [hp.length_eq]; exact hl
  refine fLoop_enc encP (fun rest z => ∃ acc a b c d f, z = ⟨[SV.d (D.lst (ps.map encP)), SV.own (.lst (acc.map encP)), a, b, c, d, f], S⟩ ∧ rest.foldl mstep acc = mergeF ys ∧ (∀ p ∈ rest, Way p.w) ∧ acc.length + rest.length < 1000000) ?_ ?_ ys _ ⟨[], _, _, _, _, _, rfl, rfl, hw, by simpa using hl'⟩
  · rintro z ⟨acc, a, b, c, d, f, rfl, h1, _, _⟩
    apply hK1
    simp
    have e : acc = mergeF ys := h1
    rw [e]
    exact h
  · rintro p rest z ⟨acc, a, b, c, d, f, rfl, h1, h2, h3⟩ K3 hK3
    simp only [v_gN2]
    refine seqI fun K4 hK4 => ?_
    simp only [List.foldl_cons] at h1
    rw [List.length_cons] at h3
    rcases List.eq_nil_or_concat acc with e | ⟨acc', e, rfl⟩
    · subst e
      simp only [List.map_nil]
      simp [↓eq_l00]
      apply hK4
      simp
      refine ⟨by rw [sizeLine_eq]; omega, ?_⟩
      apply hK3
      refine ⟨[p], _, _, _, _, _, rfl, h1, fun q hq => h2 q (List.mem_cons_of_mem _ hq), ?_⟩
      simp at h3 ⊢
      omega
    · rw [List.concat_eq_append] at *
      have hlen : acc'.length + 1 ≤ 1000000 := by rw [List.length_append] at h3; simp at h3; omega
      have hms : mstep (acc' ++ [e]) p = if joinB e p then acc' ++ [joinP e p] else acc' ++ [e] ++ [p] := by
        unfold mstep
        simp
      have app : joinB e p = false → ∀ (v : Int) (x y u w : SV), v = e.w → K4 ⟨[SV.d (D.lst (ps.map encP)), SV.own (.lst (acc'.map encP ++ [.tup [.int e.b, .int e.m, .int e.t, .int v]])), SV.d (D.tup [.int p.b, .int p.m, .int p.t, .int p.w]), x, y, u, w], S⟩ := by
        rintro hj v x y u w rfl
        apply hK4
        simp
        refine ⟨by rw [sizeLine_eq]; omega, ?_⟩
        apply hK3
        rw [hms, hj] at h1
        refine ⟨acc' ++ [e] ++ [p], SV.d (encP p), x, y, u, w, by simp [tup_encP], h1, fun q hq => h2 q (List.mem_cons_of_mem _ hq), ?_⟩
        simp at h3 ⊢
        omega
      have hpw' := h2 p List.mem_cons_self
      simp only [List.map_append, List.map_cons, List.map_nil, tup_encP]
      by_cases hwy : e.w = p.w
      · simp [↓eq_lp1, ↓ix_last, -x_seq, hwy]
        refine seqI fun K5 hK5 => ?_
        simp [↓ix_last, -x_seq]
        apply hK5
        refine seqI fun K6 hK6 => ?_
        simp [-x_seq]
        have jn : joinB e p = true → ∀ z, z = (⟨[SV.d (D.lst (List.map encP ps)), SV.own (OV.lst (List.map encP acc' ++ [D.tup [D.int e.b, D.int e.m, D.int e.t, D.int p.w]])),
              SV.d (D.tup [D.int p.b, D.int p.m, D.int p.t, D.int p.w]), SV.d (D.int e.b), SV.d (D.int e.m), SV.d (D.int e.t), SV.d (D.int p.w)], S⟩ : Z) →
            wSeq (wAsg (wTup (wCons (wVar 3) (wCons (wOp2 fAdd (wVar 4) (wOp2 fIx (wVar 2) (wC (D.int 1)))) (wCons (wCallB fMin2 (wCons (wVar 5) (wCons (wOp2 fIx (wVar 2) (wC (D.int 2))) wNil))) (wCons (wVar 6) wNil)))))
              (gIx (wVar 1) (wOp1 fNeg (wC (D.int 1))))) (wSeq wCt wNx) z { nx := K6, rt := (ed0 S.length Q).rt, bk := K1, ct := K3 } fun x z => R x (List.take S.length z.S) := by
          rintro hj z rfl
          refine seqI fun K7 hK7 => ?_
          simp
          refine ⟨acc'.length, ixN_last, ?_⟩
          apply hK7
          simp
          apply hK3
          rw [hms, hj] at h1
          refine ⟨acc' ++ [joinP e p], SV.d (encP p), SV.d (.int e.b), SV.d (.int e.m), SV.d (.int e.t), SV.d (.int p.w), by simp [tup_encP, joinP], h1, fun q hq => h2 q (List.mem_cons_of_mem _ hq), ?_⟩
          simp at h3 ⊢
          omega
        have hK6' : joinB e p = false → K6 ⟨[SV.d (D.lst (List.map encP ps)), SV.own (OV.lst (List.map encP acc' ++ [D.tup [D.int e.b, D.int e.m, D.int e.t, D.int p.w]])),
              SV.d (D.tup [D.int p.b, D.int p.m, D.int p.t, D.int p.w]), SV.d (D.int e.b), SV.d (D.int e.m), SV.d (D.int e.t), SV.d (D.int p.w)], S⟩ := by
          intro hj
          apply hK6
          simp
          exact app hj _ _ _ _ _ hwy.symm
        have hjb : joinB e p = (decide (p.w = 1 ∧ p.t = e.t + e.m) || decide (p.w = -1 ∧ p.t + p.m = e.t)) := by
          unfold joinB
          rw [decide_eq_true hwy, Bool.true_and]
        by_cases q1 : p.t = e.t + e.m
        · rw [if_pos q1]
          by_cases q2 : p.w = 1
          · rw [if_pos q2]
            exact jn (by rw [hjb]; simp [q1, q2]) _ rfl
          · rw [if_neg q2]
            by_cases q3 : p.t + p.m = e.t
            · rw [if_pos q3]
              by_cases q4 : p.w = -1
              · rw [if_pos q4]
                exact jn (by rw [hjb]; simp [q3, q4]) _ rfl
              · rw [if_neg q4]
                exact hK6' (by rw [hjb]; simp [q2, q4])
            · rw [if_neg q3]
              exact hK6' (by rw [hjb]; simp [q2, q3])
        · rw [if_neg q1]
          by_cases q3 : p.t + p.m = e.t
          · rw [if_pos q3]
            by_cases q4 : p.w = -1
            · rw [if_pos q4]
              exact jn (by rw [hjb]; simp [q3, q4]) _ rfl
            · rw [if_neg q4]
              exact hK6' (by rw [hjb]; simp [q1, q4])
          · rw [if_neg q3]
            exact hK6' (by rw [hjb]; simp [q1, q3])
      · simp [↓eq_lp1, ↓ix_last, -x_seq, hwy]
        exact app (by unfold joinB; simp [hwy]) _ _ _ _ _ rfl
theorem c_in_one_form {ps ys : List Pc} (h1 : ps.length < 1000000) (h2 : ys.Perm ps) (h3 : ys.Pairwise fun p q => p.b < q.b) (h4 : ∀ p ∈ ys, Way p.w) (h : Q (.d (.lst ((mergeF ys).map encP))) S) : sp_in_one_form [.d (.lst (ps.map encP))] S Q R := ⟨ps, ys, rfl, h1, h2, h3, h4, h⟩
end Eng

end
section
set_option Elab.async false
set_option linter.all false
set_option maxRecDepth 100000
/-! L1j: Lay -/
namespace Eng
open PySem PySem.Spec PyProof.Rows L2
variable {S : List OV} {Q : W → List OV → Prop} {R : Exn → List OV → Prop}
theorem tl_pw' {ps : List Pc} {a T : Int} (h : Tl a (ps.map fun p => (p.b, p.m)) T) : ps.Pairwise fun p q => p.b < q.b := by
  have := tl_pw h
  rw [List.pairwise_map] at this
  exact this
theorem sl_Lay_init : ∀ ws S Qd Rd, sp_Lay_init ws S Qd Rd → w_Lay_init (z0 N_Lay_init ws S) (ed0 S.length Qd) (fun x z => Rd x (z.S.take S.length)) := by
  rintro _ _ Q R ⟨S0, T, ps, vs, rfl, rfl, hl, hvp, hv, hT, h⟩
  unfold w_Lay_init
  refine seqI fun K hK => ?_
  simp [N_Lay_init]
  apply c_need_lay hl hvp hv hT
  apply hK
  refine seqI fun K1 hK1 => ?_
  simp
  apply hK1
  refine seqI fun K2 hK2 => ?_
  simp
  refine c_in_one_form hl hvp (tl_pw' hv.dom) hv.way ?_
  refine ⟨.lst ((mergeF vs).map encP), rfl, [(("total" : Str), OV.d (.int T))], by simp; rfl, by simp, ?_⟩
  apply hK2
  simp
  rw [show putO "rows" (OV.d (D.lst ((mergeF vs).map encP))) [(("total" : Str), OV.d (.int T))] = [(("total" : Str), OV.d (.int T)), (("rows" : Str), OV.d (.lst ((mergeF vs).map encP)))] from rfl]
  rw [List.take_of_length_le (by simp)]
  exact h
theorem c_Lay_initP {S0 : List OV} {T : Int} {ps vs : List Pc} (hl : ps.length < 1000000) (hvp : vs.Perm ps) (hv : Valid vs T) (hT : T ≤ 2000000000000000000) (h : Q (.d .non) (S0 ++ [.ins "Lay" [("total", .d (.int T)), ("rows", .d (.lst ((mergeF vs).map encP)))]])) :
    sp_Lay_init [.cel S0.length, .d (.int T), .d (.lst (ps.map encP))] (S0 ++ [.ins "Lay" []]) Q R := ⟨S0, T, ps, vs, rfl, rfl, hl, hvp, hv, hT, h⟩
theorem c_Lay_init {S0 : List OV} {T : Int} {ps : List Pc} (hl : ps.length < 1000000) (hv : Valid ps T) (hT : T ≤ 2000000000000000000) (h : Q (.d .non) (S0 ++ [.ins "Lay" [("total", .d (.int T)), ("rows", .d (.lst ((mergeF ps).map encP)))]])) :
    sp_Lay_init [.cel S0.length, .d (.int T), .d (.lst (ps.map encP))] (S0 ++ [.ins "Lay" []]) Q R := ⟨S0, T, ps, ps, rfl, rfl, hl, List.Perm.refl _, hv, hT, h⟩
end Eng

end
section
set_option Elab.async false
set_option linter.all false
set_option maxRecDepth 100000
/-! S2: what the law's own defs are worth. -/
namespace Eng
open PySem PySem.Spec PyProof.Rows L2
structure Pen where
  cells : List Int
  turn : Nat
  left : Nat
def penO (p : Pen) : OV := .dic [(.inr "cells", .lst (p.cells.map D.int)), (.inr "turn", .int p.turn), (.inr "left", .int p.left)]
/-- few turns so far -/
def Few (p : Pen) (n : Nat) : Prop := p.turn + n < 2 ^ 64
def goesF (ps : List Pc) (x : Int) : Option (Int × Int) := match findP ps x with
  | some p => some (if p.w = 1 then (p.t + x - p.b, 1) else (p.t + p.m - 1 - x + p.b, -1))
  | none => none
def encG : Option (Int × Int) → D
  | some g => .tup [.int g.1, .int g.2]
  | none => .non
def inB (lot : List (Int × Int)) (x : Int) : Bool := lot.any fun l => decide (l.1 ≤ x ∧ x < l.1 + l.2)
/-- each dot in at most one -/
def Disj (lot : List (Int × Int)) : Prop := lot.Pairwise fun k l => k.1 + k.2 ≤ l.1
def sp__law_pen : DSpec := fun ws S Q _ => ∃ ns : List Int, ws = [.d (.scr ns)] ∧ Q (.new (penO ⟨ns.take 63, 0, 0⟩)) S
def sp__law_draw : DSpec := fun ws S Q _ => ∃ (p : Pen) (r : List OV) (n : Int), ws = [.cel 0, .d (.int n)] ∧ S = penO p :: r ∧ 1 ≤ n ∧ n < 2 ^ 64 ∧ Few p 1 ∧
  ∀ (d : Int) (p' : Pen), 0 ≤ d → d < n → p'.turn ≤ p.turn + 1 → Q (.d (.int d)) (penO p' :: r)
def sp__law_pick : DSpec := fun ws S Q _ => ∃ (p : Pen) (r : List OV) (xs : List D), ws = [.cel 0, .d (.lst xs)] ∧ S = penO p :: r ∧ xs ≠ [] ∧ xs.length < 1000000 ∧ Few p 1 ∧
  ∀ (x : D) (p' : Pen), x ∈ xs → p'.turn ≤ p.turn + 1 → Q (.d x) (penO p' :: r)
def sp__law_great : DSpec := fun ws S Q _ => ∃ (p : Pen) (r : List OV) (n : Nat), ws = [.cel 0, .d (.int n)] ∧ S = penO p :: r ∧ n ≤ 100 ∧ Few p 100 ∧
  ∀ (v : Int) (p' : Pen), 0 ≤ v → v < 10 ^ n → p'.turn ≤ p.turn + 100 → Q (.d (.int v)) (penO p' :: r)
def sp__law_turned_about : DSpec := fun ws S Q _ => ∃ (p : Pen) (r : List OV) (xs : List Int), ws = [.cel 0, .d (.lst (xs.map D.int))] ∧ S = penO p :: r ∧ xs.length ≤ 1000 ∧ Few p 1000 ∧
  ∀ (ys : List Int) (p' : Pen), ys.Perm xs → p'.turn ≤ p.turn + 1000 → Q (.d (.lst (ys.map D.int))) (penO p' :: r)
def sp__law_pieces : DSpec := fun ws S Q _ => ∃ (p : Pen) (r : List OV) (ns : List Int), ws = [.cel 0, .d (.lst (ns.map D.int))] ∧ S = penO p :: r ∧ ns.length ≤ 200 ∧ (∀ n ∈ ns, 1 ≤ n) ∧ Few p 2000 ∧
  ∀ (ps : List Pc) (p' : Pen), Valid ps ns.sum → ps.length = ns.length → p'.turn ≤ p.turn + 2000 → Q (.d (.lst (ps.map encP))) (penO p' :: r)
def sp__law_small : DSpec := fun ws S Q _ => ∃ (p : Pen) (r : List OV) (n : Int), ws = [.cel 0, .d (.int n)] ∧ S = penO p :: r ∧ 1 ≤ n ∧ n ≤ 1000 ∧ Few p 5000 ∧
  ∀ (ps : List Pc) (T : Int) (p' : Pen), Valid ps T → 1 ≤ T → T ≤ n → ps.length ≤ 20 → p'.turn ≤ p.turn + 5000 → Q (.d (.lst (ps.map encP))) (penO p' :: r)
def sp__law_total : DSpec := fun ws S Q _ => ∃ ps : List Pc, ws = [.d (.lst (ps.map encP))] ∧ ps.length < 1000000 ∧ Q (.d (.int (ps.map Pc.m).sum)) S
def sp__law_one_form : DSpec := fun ws S Q _ => ∃ (ps ys : List Pc), ws = [.d (.lst (ps.map encP))] ∧ ps.length < 1000000 ∧ ys.Perm ps ∧ ys.Pairwise (fun p q => p.b < q.b) ∧ (∀ p ∈ ys, Way p.w) ∧ Q (.d (.lst ((mergeF ys).map encP))) S
def sp__law_below : DSpec := fun ws S Q _ => ∃ (p : Pen) (r : List OV) (n : Int), ws = [.cel 0, .d (.int n)] ∧ S = penO p :: r ∧ 1 ≤ n ∧ n < 10 ^ 60 ∧ Few p 200 ∧
  ∀ (v : Int) (p' : Pen), 0 ≤ v → v < n → p'.turn ≤ p.turn + 200 → Q (.d (.int v)) (penO p' :: r)
def sp__law_lot : DSpec := fun ws S Q _ => ∃ (p : Pen) (r : List OV) (T n : Int), ws = [.cel 0, .d (.int T), .d (.int n)] ∧ S = penO p :: r ∧ 0 ≤ T ∧ T < 10 ^ 50 ∧ 1 ≤ n ∧ n ≤ 10 ∧ Few p 10000 ∧
  ∀ (lot : List (Int × Int)) (p' : Pen), Disj lot → (∀ l ∈ lot, 0 ≤ l.1 ∧ 1 ≤ l.2 ∧ l.1 + l.2 ≤ T) → lot.length ≤ 10 → p'.turn ≤ p.turn + 10000 → Q (.d (.lst (lot.map encS))) (penO p' :: r)
def sp__law_in : DSpec := fun ws S Q _ => ∃ (lot : List (Int × Int)) (x : Int), ws = [.d (.lst (lot.map encS)), .d (.int x)] ∧ lot.length < 1000000 ∧ Q (.d (.bl (inB lot x))) S
def sp__law_goes : DSpec := fun ws S Q _ => ∃ (ps : List Pc) (x : Int), ws = [.d (.lst (ps.map encP)), .d (.int x)] ∧ Q (.d (encG (goesF ps x))) S
def sp__law_inside : DSpec := fun ws S Q _ => ∃ (lot : List (Int × Int)) (b m : Int), ws = [.d (.lst (lot.map encS)), .d (.int b), .d (.int m)] ∧ lot.length < 1000000 ∧ Q (.d (.int (spotsF lot b m))) S
def sp__law_cut : DSpec := fun ws S Q _ => ∃ (F : Fact) (b m : Int), ws = [.d (encF F), .d (.int b), .d (.int m)] ∧ Way F.w ∧ Q (.d (encO (cutF F b m))) S
def sp__law_then : DSpec := fun ws S Q _ => ∃ (F G : Fact), ws = [.d (encF F), .d (encF G)] ∧ Way F.w ∧ Way G.w ∧ Q (.d (encO (thenF F G))) S
def sp__law_beside : DSpec := fun ws S Q _ => ∃ (F G : Fact), ws = [.d (encF F), .d (encF G)] ∧ Way F.w ∧ 0 ≤ F.m ∧ 0 ≤ G.m ∧ Q (.d (encO (besideF F G))) S
def sp__law_piece : DSpec := fun ws S Q _ => ∃ (ps : List Pc) (T : Int) (lot : List (Int × Int)) (b m : Int), ws = [.d (.lst (ps.map encP)), .d (.lst (lot.map encS)), .d (.int b), .d (.int m)] ∧ lot.length < 1000000 ∧ ps.length < 1000000 ∧ Valid ps T ∧ 1 ≤ m ∧ Q (.d (encO (pieceF ps lot b m))) S
end Eng

end
section
set_option Elab.async false
set_option linter.all false
set_option maxRecDepth 100000
namespace Eng
open PySem PySem.Spec PyProof.Rows L2
def w__law_pen : WS := (wSeq (wRtO (wDisp [((wC (.str "cells")), (wCallB fListOf (wCons (wSl (wVar 0) none (some (wC (.int 63)))) wNil))), ((wC (.str "turn")), (wC (.int 0))), ((wC (.str "left")), (wC (.int 0)))]))
  wNx)
def N__law_pen : List Str := ["script"]
def w__law_one_form : WS := (wSeq (wSetO 1 (wLst wNil))
  (wSeq (wFor (iData (wCallB fSortN (wCons (wVar 0) wNil))) (gT 4 (gCons (gN 2) (gCons (gN 3) (gCons (gN 4) (gCons (gN 5) gNil)))))
  (wSeq (wIfS (wTAnd (wAsT (wOp2 (fEq true) (wVar 1) (wLst wNil))) (wAsT (wOp2 (fEq false) (wOp2 fIx (wOp2 fIx (wVar 1) (wOp1 fNeg (wC (.int 1)))) (wC (.int 3))) (wVar 5))))
  (wSeq (wSet 6 (wOp2 fIx (wVar 1) (wOp1 fNeg (wC (.int 1)))))
  (wSeq (wSet 7 (wIf (wAsT (wOp2 (fEq false) (wVar 5) (wC (.int 1)))) (wOp2 (fEq false) (wOp2 fAdd (wOp2 fIx (wVar 6) (wC (.int 2))) (wOp2 fIx (wVar 6) (wC (.int 1)))) (wVar 4)) (wOp2 (fEq false) (wOp2 fAdd (wVar 4) (wVar 3)) (wOp2 fIx (wVar 6) (wC (.int 2))))))
  (wSeq (wIfS (wAsT (wVar 7))
  (wSeq (wAsg (wTup (wCons (wOp2 fIx (wVar 6) (wC (.int 0))) (wCons (wOp2 fAdd (wOp2 fIx (wVar 6) (wC (.int 1))) (wVar 3)) (wCons (wCallB fMin2 (wCons (wOp2 fIx (wVar 6) (wC (.int 2))) (wCons (wVar 4) wNil))) (wCons (wVar 5) wNil))))) (gIx (wVar 1) (wOp1 fNeg (wC (.int 1)))))
  (wSeq wCt
  wNx))
  wNx)
  wNx)))
  wNx)
  (wSeq (wEx (wMut fAppend (wVar 1) (wCons (wTup (wCons (wVar 2) (wCons (wVar 3) (wCons (wVar 4) (wCons (wVar 5) wNil))))) wNil)))
  wNx)))
  (wSeq (wRt (wTake 1))
  wNx)))
def N__law_one_form : List Str := ["pieces", "found", "start", "many", "to", "way", "elder", "on"]
def w__law_draw : WS := (wSeq (wIfS (wAsT (wOp2 (fCmp pGt) (wOp2 fDGet (wVar 0) (wC (.str "left"))) (wC (.int 0))))
  (wSeq (wSet 2 (wOp2 fMod (wOp2 fDGet (wVar 0) (wC (.str "left"))) (wVar 1)))
  (wSeq (wDPut (wVar 0) (wC (.str "left")) (wOp2 fDiv (wOp2 fDGet (wVar 0) (wC (.str "left"))) (wVar 1)))
  (wSeq (wRt (wVar 2))
  wNx)))
  wNx)
  (wSeq (wSet 3 (wOp2 fDGet (wVar 0) (wC (.str "turn"))))
  (wSeq (wDPut (wVar 0) (wC (.str "turn")) (wOp2 fAdd (wVar 3) (wC (.int 1))))
  (wSeq (wSet 4 (wOp2 fAdd (wOp2 fMul (wC (.int 31)) (wVar 3)) (wC (.int 11))))
  (wSeq (wIfS (wAsT (wOp2 (fEq true) (wOp2 fDGet (wVar 0) (wC (.str "cells"))) (wLst wNil)))
  (wSeq (wSet 4 (wOp2 fIx (wOp2 fDGet (wVar 0) (wC (.str "cells"))) (wOp2 fMod (wVar 3) (wCallB fLen (wCons (wOp2 fDGet (wVar 0) (wC (.str "cells"))) wNil)))))
  wNx)
  wNx)
  (wSeq (wIfS (wTAnd (wAsT (wOp2 (fCmp pLt) (wVar 3) (wCallB fLen (wCons (wOp2 fDGet (wVar 0) (wC (.str "cells"))) wNil)))) (wAsT (wOp2 (fCmp pGe) (wCallB fAbs (wCons (wVar 4) wNil)) (wOp2 fPow (wC (.int 10)) (wC (.int 18))))))
  (wSeq (wDPut (wVar 0) (wC (.str "left")) (wOp2 fDiv (wOp2 fSub (wCallB fAbs (wCons (wVar 4) wNil)) (wOp2 fPow (wC (.int 10)) (wC (.int 18)))) (wVar 1)))
  (wSeq (wRt (wOp2 fMod (wOp2 fSub (wCallB fAbs (wCons (wVar 4) wNil)) (wOp2 fPow (wC (.int 10)) (wC (.int 18)))) (wVar 1)))
  wNx))
  wNx)
  (wSeq (wSet 5 (wLst (wCons (wC (.int 2147483647)) (wCons (wC (.int 2147483629)) (wCons (wC (.int 2147483587)) (wCons (wC (.int 2147483579)) (wCons (wC (.int 2147483563)) wNil)))))))
  (wSeq (wSet 6 (wOp2 fIx (wVar 5) (wOp2 fMod (wVar 3) (wC (.int 5)))))
  (wSeq (wSet 7 (wOp2 fMod (wOp2 fAdd (wOp2 fAdd (wOp2 fMul (wOp2 fMod (wVar 4) (wVar 6)) (wC (.int 48271))) (wOp2 fMul (wOp2 fMul (wC (.int 39373)) (wVar 3)) (wVar 3))) (wC (.int 29))) (wVar 6)))
  (wSeq (wSet 7 (wOp2 fMod (wOp2 fMul (wVar 7) (wOp2 fAdd (wVar 7) (wC (.int 69621)))) (wOp2 fIx (wVar 5) (wOp2 fMod (wOp2 fAdd (wVar 3) (wC (.int 2))) (wC (.int 5))))))
  (wSeq (wRt (wOp2 fMod (wOp2 fDiv (wOp2 fMod (wOp2 fMul (wVar 7) (wVar 7)) (wC (.int 2147483549))) (wC (.int 64))) (wVar 1)))
  wNx)))))))))))
def N__law_draw : List Str := ["pen", "many", "digit", "turn", "cell", "primes", "prime", "drawn"]
def w__law_turned_about : WS := (wSeq (wSetO 2 (wCallB fListOf (wCons (wVar 1) wNil)))
  (wSeq (wRt (wComp [3] (iR1 (wCons (wCallB fLen (wCons (wVar 2) wNil)) wNil)) (gN 3) wYes (wMut fPop (wVar 2) (wCons (wCall sp__law_draw (wCons (wVar 0) (wCons (wCallB fLen (wCons (wVar 2) wNil)) wNil))) wNil))))
  wNx))
def N__law_turned_about : List Str := ["pen", "some", "left", "k"]
def w__law_pick : WS := (wSeq (wRt (wOp2 fIx (wVar 1) (wCall sp__law_draw (wCons (wVar 0) (wCons (wCallB fLen (wCons (wVar 1) wNil)) wNil)))))
  wNx)
def N__law_pick : List Str := ["pen", "some"]
def w__law_pieces : WS := (wSeq (wPar3 2 3 4 (wCons (wCall sp__law_turned_about (wCons (wVar 0) (wCons (wOp1 fLRg (wCallB fLen (wCons (wVar 1) wNil))) wNil))) (wConsO wDNew (wCons (wC (.int 0)) wNil))))
  (wSeq (wFor (iData (wVar 2)) (gN 5)
  (wSeq (wDPut (wVar 3) (wVar 5) (wVar 4))
  (wSeq (wSet 4 (wOp2 fAdd (wVar 4) (wOp2 fIx (wVar 1) (wVar 5))))
  wNx)))
  (wSeq (wPar2 6 4 (wConsO (wLst wNil) (wCons (wC (.int 0)) wNil)))
  (wSeq (wFor (iR1 (wCons (wCallB fLen (wCons (wVar 1) wNil)) wNil)) (gN 5)
  (wSeq (wEx (wMut fAppend (wVar 6) (wCons (wTup (wCons (wVar 4) (wCons (wOp2 fIx (wVar 1) (wVar 5)) (wCons (wOp2 fDGet (wVar 3) (wVar 5)) (wCons (wCall sp__law_pick (wCons (wVar 0) (wCons (wLst (wCons (wC (.int 1)) (wCons (wC (.int 1)) (wCons (wOp1 fNeg (wC (.int 1))) wNil)))) wNil))) wNil))))) wNil)))
  (wSeq (wSet 4 (wOp2 fAdd (wVar 4) (wOp2 fIx (wVar 1) (wVar 5))))
  wNx)))
  (wSeq (wRt (wTake 6))
  wNx)))))
def N__law_pieces : List Str := ["pen", "lengths", "order", "starts", "at", "k", "found"]
def w__law_small : WS := (wSeq (wPar3 2 3 4 (wConsO (wLst (wCons (wCallB fMin2 (wCons (wVar 1) (wCons (wOp2 fAdd (wC (.int 1)) (wCall sp__law_draw (wCons (wVar 0) (wCons (wOp2 fAdd (wC (.int 1)) (wCall sp__law_draw (wCons (wVar 0) (wCons (wC (.int 9)) wNil)))) wNil)))) wNil))) wNil)) (wCons (wCall sp__law_draw (wCons (wVar 0) (wCons (wC (.int 6)) wNil))) (wCons (wC (.int 5)) wNil))))
  (wSeq (wIfS (wAsT (wOp2 (fEq false) (wCall sp__law_draw (wCons (wVar 0) (wCons (wC (.int 5)) wNil))) (wC (.int 0))))
  (wSeq (wPar3 2 3 4 (wConsO (wLst (wCons (wC (.int 1)) wNil)) (wCons (wC (.int 13)) (wCons (wOp2 fAdd (wC (.int 1)) (wCall sp__law_draw (wCons (wVar 0) (wCons (wC (.int 2)) wNil)))) wNil))))
  wNx)
  wNx)
  (wSeq (wFor (iR1 (wCons (wVar 3) wNil)) (gN 5)
  (wSeq (wSet 6 (wOp2 fAdd (wC (.int 1)) (wCall sp__law_draw (wCons (wVar 0) (wCons (wVar 4) wNil)))))
  (wSeq (wIfS (wAsT (wOp2 (fCmp pLe) (wOp2 fAdd (wCallB fSum (wCons (wVar 2) wNil)) (wVar 6)) (wVar 1)))
  (wSeq (wEx (wMut fAppend (wVar 2) (wCons (wVar 6) wNil)))
  wNx)
  wNx)
  wNx)))
  (wSeq (wRt (wCall sp__law_pieces (wCons (wVar 0) (wCons (wTake 2) wNil))))
  wNx))))
def N__law_small : List Str := ["pen", "most", "lengths", "many", "wide", "k", "more"]
def w__law_total : WS := (wSeq (wRt (wCallB fSum (wCons (wComp [1] (iData (wVar 0)) (gN 1) wYes (wOp2 fIx (wVar 1) (wC (.int 1)))) wNil)))
  wNx)
def N__law_total : List Str := ["pieces", "piece"]
def w__law_great : WS := (wSeq (wSet 2 (wC (.int 0)))
  (wSeq (wFor (iR1 (wCons (wVar 1) wNil)) (gN 3)
  (wSeq (wSet 2 (wOp2 fAdd (wOp2 fMul (wC (.int 10)) (wVar 2)) (wCall sp__law_draw (wCons (wVar 0) (wCons (wC (.int 10)) wNil)))))
  wNx))
  (wSeq (wRt (wVar 2))
  wNx)))
def N__law_great : List Str := ["pen", "figures", "found", "k"]
def w__law_below : WS := (wSeq (wSet 2 (wCall sp__law_draw (wCons (wVar 0) (wCons (wC (.int 8)) wNil))))
  (wSeq (wIfS (wAsT (wOp2 (fEq false) (wVar 2) (wC (.int 0))))
  (wSeq (wRt (wCallB fMin2 (wCons (wCall sp__law_draw (wCons (wVar 0) (wCons (wC (.int 9)) wNil))) (wCons (wOp2 fSub (wVar 1) (wC (.int 1))) wNil))))
  wNx)
  wNx)
  (wSeq (wIfS (wAsT (wOp2 (fEq false) (wVar 2) (wC (.int 1))))
  (wSeq (wRt (wCallB fMax2 (wCons (wC (.int 0)) (wCons (wOp2 fSub (wOp2 fSub (wVar 1) (wC (.int 1))) (wCall sp__law_draw (wCons (wVar 0) (wCons (wC (.int 9)) wNil)))) wNil))))
  wNx)
  wNx)
  (wSeq (wRt (wOp2 fMod (wCall sp__law_great (wCons (wVar 0) (wCons (wCallB fLen (wCons (wCallB fStrI (wCons (wVar 1) wNil)) wNil)) wNil))) (wVar 1)))
  wNx))))
def N__law_below : List Str := ["pen", "bound", "kind"]
def w__law_lot : WS := (wSeq (wIfS (wAsT (wOp2 (fEq false) (wCall sp__law_draw (wCons (wVar 0) (wCons (wC (.int 12)) wNil))) (wC (.int 0))))
  (wSeq (wRt (wIf (wTAnd (wAsT (wOp2 (fCmp pGt) (wVar 1) (wC (.int 0)))) (wAsT (wOp2 (fEq false) (wCall sp__law_draw (wCons (wVar 0) (wCons (wC (.int 2)) wNil))) (wC (.int 0))))) (wLst (wCons (wTup (wCons (wC (.int 0)) (wCons (wVar 1) wNil))) wNil)) (wLst wNil)))
  wNx)
  wNx)
  (wSeq (wSet 3 (wCallB fSortI (wCons (wComp [5] (iR1 (wCons (wOp2 fMul (wC (.int 2)) (wVar 2)) wNil)) (gN 5) wYes (wCall sp__law_below (wCons (wVar 0) (wCons (wOp2 fAdd (wVar 1) (wC (.int 1))) wNil)))) wNil)))
  (wSeq (wSetO 4 (wLst wNil))
  (wSeq (wFor (iR1 (wCons (wVar 2) wNil)) (gN 5)
  (wSeq (wIfS (wAsT (wOp2 (fCmp pLt) (wOp2 fIx (wVar 3) (wOp2 fMul (wC (.int 2)) (wVar 5))) (wOp2 fIx (wVar 3) (wOp2 fAdd (wOp2 fMul (wC (.int 2)) (wVar 5)) (wC (.int 1))))))
  (wSeq (wEx (wMut fAppend (wVar 4) (wCons (wTup (wCons (wOp2 fIx (wVar 3) (wOp2 fMul (wC (.int 2)) (wVar 5))) (wCons (wOp2 fSub (wOp2 fIx (wVar 3) (wOp2 fAdd (wOp2 fMul (wC (.int 2)) (wVar 5)) (wC (.int 1)))) (wOp2 fIx (wVar 3) (wOp2 fMul (wC (.int 2)) (wVar 5)))) wNil))) wNil)))
  wNx)
  wNx)
  wNx))
  (wSeq (wRt (wTake 4))
  wNx)))))
def N__law_lot : List Str := ["pen", "total", "most", "ends", "found", "k"]
def w__law_in : WS := (wSeq (wRt (wOp2 (fEq true) (wComp [2, 3] (iData (wVar 0)) (gT 2 (gCons (gN 2) (gCons (gN 3) gNil))) (wChainT pLe pLt (wVar 2) (wVar 1) (wOp2 fAdd (wVar 2) (wVar 3))) (wVar 2)) (wLst wNil)))
  wNx)
def N__law_in : List Str := ["lot", "dot", "begin", "many"]
def w__law_goes : WS := (wSeq (wFor (iData (wVar 0)) (gT 4 (gCons (gN 2) (gCons (gN 3) (gCons (gN 4) (gCons (gN 5) gNil)))))
  (wSeq (wIfS (wChainT pLe pLt (wVar 2) (wVar 1) (wOp2 fAdd (wVar 2) (wVar 3)))
  (wSeq (wRt (wIf (wAsT (wOp2 (fEq false) (wVar 5) (wC (.int 1)))) (wTup (wCons (wOp2 fSub (wOp2 fAdd (wVar 4) (wVar 1)) (wVar 2)) (wCons (wC (.int 1)) wNil))) (wTup (wCons (wOp2 fAdd (wOp2 fSub (wOp2 fSub (wOp2 fAdd (wVar 4) (wVar 3)) (wC (.int 1))) (wVar 1)) (wVar 2)) (wCons (wOp1 fNeg (wC (.int 1))) wNil)))))
  wNx)
  wNx)
  wNx))
  (wSeq (wRt (wC .non))
  wNx))
def N__law_goes : List Str := ["pieces", "dot", "start", "many", "to", "way"]
def w__law_inside : WS := (wSeq (wRt (wCallB fSum (wCons (wComp [3] (iData (wVar 0)) (gN 3) wYes (wCallB fMax2 (wCons (wC (.int 0)) (wCons (wOp2 fSub (wCallB fMin2 (wCons (wOp2 fAdd (wVar 1) (wVar 2)) (wCons (wOp2 fAdd (wOp2 fIx (wVar 3) (wC (.int 0))) (wOp2 fIx (wVar 3) (wC (.int 1)))) wNil))) (wCallB fMax2 (wCons (wVar 1) (wCons (wOp2 fIx (wVar 3) (wC (.int 0))) wNil)))) wNil)))) wNil)))
  wNx)
def N__law_inside : List Str := ["lot", "begin", "many", "one"]
def w__law_cut : WS := (wSeq (wSet 3 (wOp2 fSub (wVar 1) (wOp2 fIx (wVar 0) (wC (.int 0)))))
  (wSeq (wSet 4 (wOp2 fSub (wOp2 fSub (wOp2 fIx (wVar 0) (wC (.int 1))) (wVar 3)) (wVar 2)))
  (wSeq (wIfS (wTOr (wAsT (wOp2 (fCmp pLt) (wVar 3) (wC (.int 0)))) (wAsT (wOp2 (fCmp pLt) (wVar 4) (wC (.int 0)))))
  (wSeq (wRt (wC .non))
  wNx)
  wNx)
  (wSeq (wRt (wOp2 fAdd (wTup (wCons (wVar 1) (wCons (wVar 2) (wCons (wOp2 fAdd (wOp2 fIx (wVar 0) (wC (.int 2))) (wIf (wAsT (wOp2 (fEq false) (wOp2 fIx (wVar 0) (wC (.int 3))) (wC (.int 1)))) (wVar 3) (wVar 4))) wNil)))) (wSl (wVar 0) (some (wC (.int 3))) none)))
  wNx))))
def N__law_cut : List Str := ["fact", "begin", "many", "ahead", "later"]
def w__law_piece : WS := (wSeq (wSet 4 (wCall sp__law_inside (wCons (wVar 1) (wCons (wVar 2) (wCons (wVar 3) wNil)))))
  (wSeq (wSet 5 (wComp [6] (iData (wVar 0)) (gN 6) (wTAnd (wAsT (wOp2 (fCmp pLe) (wOp2 fIx (wVar 6) (wC (.int 0))) (wVar 2))) (wAsT (wOp2 (fCmp pLe) (wOp2 fAdd (wVar 2) (wVar 3)) (wOp2 fAdd (wOp2 fIx (wVar 6) (wC (.int 0))) (wOp2 fIx (wVar 6) (wC (.int 1))))))) (wVar 6)))
  (wSeq (wIfS (wTOr (wAsT (wOp2 (fEq false) (wVar 5) (wLst wNil))) (wAsT (wOp2 (fIn true) (wVar 4) (wTup (wCons (wC (.int 0)) (wCons (wVar 3) wNil))))))
  (wSeq (wRt (wC .non))
  wNx)
  wNx)
  (wSeq (wRt (wCall sp__law_cut (wCons (wOp2 fAdd (wOp2 fIx (wVar 5) (wC (.int 0))) (wTup (wCons (wC (.int 1)) (wCons (wCallB fInt1 (wCons (wOp2 (fCmp pGt) (wVar 4) (wC (.int 0))) wNil)) wNil)))) (wCons (wVar 2) (wCons (wVar 3) wNil)))))
  wNx))))
def N__law_piece : List Str := ["pieces", "lot", "begin", "many", "inside", "some", "one"]
def w__law_then : WS := (wSeq (wSet 2 (wCall sp__law_cut (wCons (wVar 1) (wCons (wOp2 fIx (wVar 0) (wC (.int 2))) (wCons (wOp2 fIx (wVar 0) (wC (.int 1))) wNil)))))
  (wSeq (wIfS (wAsT (wOp2 (fIsN false) (wVar 2) (wC .non)))
  (wSeq (wRt (wC .non))
  wNx)
  wNx)
  (wSeq (wRt (wTup (wCons (wOp2 fIx (wVar 0) (wC (.int 0))) (wCons (wOp2 fIx (wVar 0) (wC (.int 1))) (wCons (wOp2 fIx (wVar 2) (wC (.int 2))) (wCons (wOp2 fMul (wOp2 fIx (wVar 0) (wC (.int 3))) (wOp2 fIx (wVar 2) (wC (.int 3)))) (wCons (wOp2 fAdd (wOp2 fIx (wVar 0) (wC (.int 4))) (wOp2 fIx (wVar 2) (wC (.int 4)))) (wCons (wOp2 fAdd (wOp2 fIx (wVar 0) (wC (.int 5))) (wOp2 fIx (wVar 2) (wC (.int 5)))) wNil))))))))
  wNx)))
def N__law_then : List Str := ["one", "other", "on"]
def w__law_beside : WS := (wSeq (wIfS (wTOr (wAsT (wOp2 (fEq true) (wOp2 fAdd (wOp2 fIx (wVar 0) (wC (.int 0))) (wOp2 fIx (wVar 0) (wC (.int 1)))) (wOp2 fIx (wVar 1) (wC (.int 0))))) (wAsT (wOp2 (fEq true) (wSl (wVar 0) (some (wC (.int 3))) none) (wSl (wVar 1) (some (wC (.int 3))) none))))
  (wSeq (wRt (wC .non))
  wNx)
  wNx)
  (wSeq (wAsg (wIf (wAsT (wOp2 (fEq false) (wOp2 fIx (wVar 0) (wC (.int 3))) (wC (.int 1)))) (wTup (wCons (wVar 0) (wCons (wVar 1) wNil))) (wTup (wCons (wVar 1) (wCons (wVar 0) wNil)))) (gT 2 (gCons (gN 2) (gCons (gN 3) gNil))))
  (wSeq (wRt (wIf (wAsT (wOp2 (fEq false) (wOp2 fAdd (wOp2 fIx (wVar 2) (wC (.int 2))) (wOp2 fIx (wVar 2) (wC (.int 1)))) (wOp2 fIx (wVar 3) (wC (.int 2))))) (wOp2 fAdd (wTup (wCons (wOp2 fIx (wVar 0) (wC (.int 0))) (wCons (wOp2 fAdd (wOp2 fIx (wVar 0) (wC (.int 1))) (wOp2 fIx (wVar 1) (wC (.int 1)))) (wCons (wOp2 fIx (wVar 2) (wC (.int 2))) wNil)))) (wSl (wVar 0) (some (wC (.int 3))) none)) (wC .non)))
  wNx)))
def N__law_beside : List Str := ["one", "other", "first", "second"]
end Eng

end
section
set_option Elab.async false
set_option linter.all false
set_option maxRecDepth 100000
/-! L2a: pen, draw and small ones -/
namespace Eng
open PySem PySem.Spec PyProof.Rows L2
variable {S : List OV} {Q : W → List OV → Prop} {R : Exn → List OV → Prop}
theorem sl__law_cut : ∀ ws S Qd Rd, sp__law_cut ws S Qd Rd → w__law_cut (z0 N__law_cut ws S) (ed0 S.length Qd) (fun x z => Rd x (z.S.take S.length)) := by
  rintro _ S Q R ⟨F, b, m, rfl, hF, h⟩
  unfold w__law_cut
  rw [tup_encF]
  refine seqI fun K hK => ?_
  simp [N__law_cut, -x_seq]
  apply hK
  refine seqI fun K1 hK1 => ?_
  simp [-x_seq]
  apply hK1
  refine seqI fun K2 hK2 => ?_
  simp
  unfold cutF at h
  have cut3 : cutD [D.int F.b, D.int F.m, D.int F.t, D.int F.w, D.int F.r, D.int F.s] (some 3) none = [D.int F.w, D.int F.r, D.int F.s] := rfl
  by_cases h1 : b - F.b < 0
  · simpa [h1, encO] using h
  · by_cases h2 : F.m < b - F.b + m
    · have h2' : F.m - (b - F.b) - m < 0 := by omega
      simp only [h1, h2, or_true, if_true] at h
      rw [if_neg h1, if_pos h2']
      exact h
    · have h2' : ¬ F.m - (b - F.b) - m < 0 := by omega
      simp only [h1, h2, or_self, if_false] at h
      rw [if_neg h1, if_neg h2']
      apply hK2
      rcases hF with hw | hw
      · simp [hw, cut3, encO, encF] at h ⊢
        rw [show cutD [D.int F.b, D.int F.m, D.int F.t, D.int 1, D.int F.r, D.int F.s] (some 3) none = [D.int 1, D.int F.r, D.int F.s] from rfl]
        simp
        exact h
      · simp [hw, cut3, encO, encF] at h ⊢
        rw [show cutD [D.int F.b, D.int F.m, D.int F.t, D.int (-1), D.int F.r, D.int F.s] (some 3) none = [D.int (-1), D.int F.r, D.int F.s] from rfl]
        simp
        exact h
theorem c__law_cut {F : Fact} {b m : Int} (hF : Way F.w) (h : Q (.d (encO (cutF F b m))) S) : sp__law_cut [.d (encF F), .d (.int b), .d (.int m)] S Q R := ⟨F, b, m, rfl, hF, h⟩
theorem cutF_w {F g : Fact} {b m : Int} (e : cutF F b m = some g) : g.w = F.w ∧ g.b = b ∧ g.m = m ∧ g.r = F.r ∧ g.s = F.s := by
  unfold cutF at e
  split at e
  · cases e
  · cases e; exact ⟨rfl, rfl, rfl, rfl, rfl⟩
theorem sl__law_then : ∀ ws S Qd Rd, sp__law_then ws S Qd Rd → w__law_then (z0 N__law_then ws S) (ed0 S.length Qd) (fun x z => Rd x (z.S.take S.length)) := by
  rintro _ S Q R ⟨F, G, rfl, hF, hG, h⟩
  unfold w__law_then
  rw [tup_encF F]
  refine seqI fun K hK => ?_
  simp [N__law_then, -x_seq]
  apply c__law_cut hG
  simp
  apply hK
  unfold thenF at h
  cases e : cutF G F.t F.m with
  | none =>
    rw [e] at h
    refine seqI fun K2 hK2 => ?_
    simp [encO]
    exact h
  | some g =>
    rw [e] at h
    have gw := (cutF_w e).1
    refine seqI fun K2 hK2 => ?_
    simp [encO, tup_encF g, -x_seq]
    apply hK2
    simp [encO, encF] at h ⊢
    refine ⟨cmul_way hF (gw ▸ hG), ?_⟩
    exact h
theorem sl__law_total : ∀ ws S Qd Rd, sp__law_total ws S Qd Rd → w__law_total (z0 N__law_total ws S) (ed0 S.length Qd) (fun x z => Rd x (z.S.take S.length)) := by
  rintro _ S Q R ⟨ps, rfl, hl, h⟩
  unfold w__law_total
  simp [N__law_total]
  refine cLoop_map encP (fun p => .int p.m) trivial ps (fun p hm KT h1 => ?_) (small_size' hl) ?_
  · simp [tup_encP]
    exact h1 _ rfl
  · refine x_sum' (ps.map Pc.m) _ _ (by rw [List.map_map]; rfl) ?_
    simp
    exact h
def penK (c : List Int) (t l : Int) : List (Key × D) := [(.inr "cells", .lst (c.map D.int)), (.inr "turn", .int t), (.inr "left", .int l)]
theorem penO_eq (p : Pen) : penO p = .dic (penK p.cells p.turn p.left) := rfl
theorem pen_merge (c : List Int) (t l : Int) : mergeD [(.inr "cells", .lst (c.map D.int)), (.inr "turn", .int t), (.inr "left", .int l)] = penK c t l := rfl
theorem pen_put_turn (c : List Int) (t l x : Int) : putKD (penK c t l) (.inr "turn") (.int x) = penK c x l := rfl
theorem pen_put_left (c : List Int) (t l x : Int) : putKD (penK c t l) (.inr "left") (.int x) = penK c t x := rfl
theorem pen_at_cells (c : List Int) (t l : Int) (kk : W → Prop) : fDGet (.dct (penK c t l)) (.str "cells") kk = kk (.d (.lst (c.map D.int))) := by
  rw [x_dget]; rfl
theorem pen_at_turn (c : List Int) (t l : Int) (kk : W → Prop) : fDGet (.dct (penK c t l)) (.str "turn") kk = kk (.d (.int t)) := by
  rw [x_dget]; rfl
theorem pen_at_left (c : List Int) (t l : Int) (kk : W → Prop) : fDGet (.dct (penK c t l)) (.str "left") kk = kk (.d (.int l)) := by
  rw [x_dget]; rfl
theorem pen_rd (σ : List SV) (c : List Int) (t l : Int) (r : List OV) (k : D → Prop) : rdf ⟨σ, .dic (penK c t l) :: r⟩ (.cel 0) k = k (.dct (penK c t l)) := rfl
theorem pen_len (c : List Int) (t l : Int) : (penK c t l).length = 3 := rfl
theorem sl__law_pen : ∀ ws S Qd Rd, sp__law_pen ws S Qd Rd → w__law_pen (z0 N__law_pen ws S) (ed0 S.length Qd) (fun x z => Rd x (z.S.take S.length)) := by
  rintro _ S Q R ⟨ns, rfl, h⟩
  unfold w__law_pen
  simp [N__law_pen, keyD]
  rw [pen_merge, show cutD ns none (some 63) = ns.take 63 from cut_to ns 63]
  exact h
theorem few_big {p : Pen} {n : Nat} (h : Few p n) : ((p.turn : Int)).natAbs < 2 ^ 64 := by
  unfold Few at h
  omega
theorem c64 {a b : Int} (h : a.natAbs < 2 ^ 200) (g : b.natAbs < 2 ^ 200) : CMulW' a b := by
  have e : (2 : Nat) ^ 200 ≤ 2 ^ 20000 := Nat.pow_le_pow_right (by omega) (by omega)
  exact ⟨Nat.lt_of_lt_of_le h e, Nat.lt_of_lt_of_le g e⟩
theorem primes_at (i : Int) (h0 : 0 ≤ i) (h1 : i < 5) : ∃ q : Int, atI [D.int 2147483647, D.int 2147483629, D.int 2147483587, D.int 2147483579, D.int 2147483563] i = some (.int q) ∧ 2147483563 ≤ q ∧ q ≤ 2147483647 := by
  have : i = 0 ∨ i = 1 ∨ i = 2 ∨ i = 3 ∨ i = 4 := by omega
  rcases this with rfl | rfl | rfl | rfl | rfl
  · exact ⟨_, rfl, by omega, by omega⟩
  · exact ⟨_, rfl, by omega, by omega⟩
  · exact ⟨_, rfl, by omega, by omega⟩
  · exact ⟨_, rfl, by omega, by omega⟩
  · exact ⟨_, rfl, by omega, by omega⟩
theorem cpow18 : CPow 10 18 := ⟨by decide, by decide, by decide⟩
theorem sl__law_draw : ∀ ws S Qd Rd, sp__law_draw ws S Qd Rd → w__law_draw (z0 N__law_draw ws S) (ed0 S.length Qd) (fun x z => Rd x (z.S.take S.length)) := by
  rintro _ _ Q R ⟨p, r, n, rfl, rfl, h1, h2, h3, h⟩
  have hn8 : n.natAbs < 2 ^ 8000 := by
    have : (2 : Nat) ^ 64 ≤ 2 ^ 8000 := Nat.pow_le_pow_right (by omega) (by omega)
    omega
  unfold w__law_draw
  refine seqI fun K hK => ?_
  rw [penO_eq]
  simp [N__law_draw, -x_seq, -x_dget, ↓pen_rd, ↓pen_at_left]
  by_cases q0 : 0 < p.left
  · rw [if_pos q0]
    refine seqI fun K1 hK1 => ?_
    simp [-x_seq, -x_dget, ↓pen_rd, ↓pen_at_left]
    refine ⟨by omega, ?_⟩
    apply hK1
    refine seqI fun K2 hK2 => ?_
    simp [-x_seq, -x_dget, ↓pen_rd, ↓pen_at_left, keyD, pen_len]
    rw [pen_put_left]
    refine ⟨⟨by omega, hn8⟩, by rw [sizeLine_eq]; omega, ?_⟩
    apply hK2
    simp
    have e := h ((p.left : Int) % n) ⟨p.cells, p.turn, ((p.left : Int) / n).toNat⟩ (Int.emod_nonneg _ (by omega)) (Int.emod_lt_of_pos _ (by omega)) (by simp)
    rw [penO_eq] at e
    have e2 : ((((p.left : Int) / n).toNat : Nat) : Int) = (p.left : Int) / n := Int.toNat_of_nonneg (Int.ediv_nonneg (by omega) (by omega))
    simp only [e2] at e
    exact e
  · rw [if_neg q0]
    apply hK
    refine seqI fun K1 hK1 => ?_
    simp [-x_seq, -x_dget, ↓pen_rd, ↓pen_at_turn]
    apply hK1
    refine seqI fun K2 hK2 => ?_
    simp [-x_seq, -x_dget, ↓pen_rd, ↓pen_at_turn, keyD, pen_len]
    rw [pen_put_turn]
    refine ⟨by rw [sizeLine_eq]; omega, ?_⟩
    apply hK2
    have ht := few_big h3
    have b64 : (2 : Nat) ^ 64 ≤ 2 ^ 200 := Nat.pow_le_pow_right (by omega) (by omega)
    refine seqI fun K3 hK3 => ?_
    simp [-x_seq]
    refine ⟨c64 (by omega) (by omega), ?_⟩
    apply hK3
    refine seqI fun K4 hK4 => ?_
    simp [-x_seq, -x_dget, ↓pen_rd, ↓pen_at_cells]
    have hcell : ∀ c : Int, K4 ⟨[SV.cel 0, SV.d (D.int n), SV.none, SV.d (D.int p.turn), SV.d (D.int c), SV.none, SV.none, SV.none], OV.dic (penK p.cells (p.turn + 1) p.left) :: r⟩ := by
      intro c
      apply hK4
      refine seqI fun K5 hK5 => ?_
      simp [-x_seq, -x_dget, ↓pen_rd, ↓pen_at_cells]
      have last : K5 ⟨[SV.cel 0, SV.d (D.int n), SV.none, SV.d (D.int p.turn), SV.d (D.int c), SV.none, SV.none, SV.none], OV.dic (penK p.cells (p.turn + 1) p.left) :: r⟩ := by
        apply hK5
        refine seqI fun K6 hK6 => ?_
        simp [-x_seq]
        refine ⟨by rw [sizeLine_eq]; omega, ?_⟩
        apply hK6
        refine seqI fun K7 hK7 => ?_
        obtain ⟨q, e1, q1, q2⟩ := primes_at ((p.turn : Int) % 5) (by omega) (by omega)
        obtain ⟨q', e2, q1', q2'⟩ := primes_at (((p.turn : Int) + 2) % 5) (by omega) (by omega)
        simp [-x_seq, e1]
        apply hK7
        refine seqI fun K8 hK8 => ?_
        simp [-x_seq]
        have r1 := Int.emod_nonneg c (show q ≠ 0 by omega)
        have r2 := Int.emod_lt_of_pos c (show 0 < q by omega)
        have hb : ∀ x : Int, x.natAbs < 2 ^ 100 → x.natAbs < 2 ^ 200 := fun x hx => Nat.lt_of_lt_of_le hx (Nat.pow_le_pow_right (by omega) (by omega))
        have ht2 : (39373 * (p.turn : Int)).natAbs < 2 ^ 100 := by omega
        refine ⟨by omega, c64 (hb _ (by omega)) (hb _ (by omega)), c64 (hb _ (by omega)) (hb _ (by omega)), c64 (hb _ ht2) (hb _ (by omega)), by omega, ?_⟩
        apply hK8
        refine seqI fun K9 hK9 => ?_
        generalize hx : (c % q * 48271 + 39373 * (p.turn : Int) * (p.turn : Int) + 29) = x
        have s1 := Int.emod_nonneg x (show q ≠ 0 by omega)
        have s2 := Int.emod_lt_of_pos x (show 0 < q by omega)
        simp [-x_seq, e2]
        refine ⟨c64 (hb _ (by omega)) (hb _ (by omega)), by omega, ?_⟩
        apply hK9
        generalize hy : (x % q * (x % q + 69621)) = y
        have t1 := Int.emod_nonneg y (show q' ≠ 0 by omega)
        have t2 := Int.emod_lt_of_pos y (show 0 < q' by omega)
        simp
        refine ⟨c64 (hb _ (by omega)) (hb _ (by omega)), by omega, ?_⟩
        have e := h (y % q' * (y % q') % 2147483549 / 64 % n) ⟨p.cells, p.turn + 1, p.left⟩ (Int.emod_nonneg _ (by omega)) (Int.emod_lt_of_pos _ (by omega)) (by simp)
        rw [penO_eq] at e
        refine ⟨by omega, ?_⟩
        exact e
      by_cases q1 : p.turn < p.cells.length
      · rw [if_pos q1]
        refine ⟨cpow18, ?_⟩
        by_cases q2 : 1000000000000000000 ≤ if c < 0 then -c else c
        · rw [if_pos q2]
          refine seqI fun K6 hK6 => ?_
          simp [-x_seq, -x_dget, ↓pen_rd, keyD, pen_len]
          rw [pen_put_left]
          refine ⟨cpow18, ⟨by omega, hn8⟩, by rw [sizeLine_eq]; omega, ?_⟩
          apply hK6
          simp
          refine ⟨cpow18, by omega, ?_⟩
          have hc0 : 0 ≤ (if c < 0 then -c else c) - 1000000000000000000 := by omega
          have e := h (((if c < 0 then -c else c) - 1000000000000000000) % n) ⟨p.cells, p.turn + 1, (((if c < 0 then -c else c) - 1000000000000000000) / n).toNat⟩ (Int.emod_nonneg _ (by omega)) (Int.emod_lt_of_pos _ (by omega)) (by simp)
          rw [penO_eq] at e
          have e2 : (((((if c < 0 then -c else c) - 1000000000000000000) / n).toNat : Nat) : Int) = ((if c < 0 then -c else c) - 1000000000000000000) / n := Int.toNat_of_nonneg (Int.ediv_nonneg (by omega) (by omega))
          simp only [e2] at e
          exact e
        · rw [if_neg q2]
          exact last
      · rw [if_neg q1]
        exact last
    by_cases q0' : p.cells = []
    · rw [if_pos q0']
      exact hcell _
    · rw [if_neg q0']
      refine seqI fun K5 hK5 => ?_
      simp [-x_seq, -x_dget, ↓pen_rd, ↓pen_at_cells]
      have hl : 0 < p.cells.length := List.length_pos_iff.mpr q0'
      have r1 := Int.emod_nonneg (p.turn : Int) (show (p.cells.length : Int) ≠ 0 by omega)
      have r2 := Int.emod_lt_of_pos (p.turn : Int) (show 0 < (p.cells.length : Int) by omega)
      refine ⟨hl, ?_⟩
      have hlt : ((p.turn : Int) % (p.cells.length : Int)).toNat < p.cells.length := by omega
      have e : atI (p.cells.map D.int) ((p.turn : Int) % (p.cells.length : Int)) = some (.int p.cells[((p.turn : Int) % (p.cells.length : Int)).toNat]) := by
        have := atI_n (p.cells.map D.int) ((p.turn : Int) % (p.cells.length : Int)).toNat
        rw [Int.toNat_of_nonneg r1] at this
        rw [this, List.getElem?_map, List.getElem?_eq_getElem hlt]
        rfl
      rw [e]
      simp only [x_opK_s]
      apply hK5
      simp only [x_nx]
      exact hcell _
theorem c__law_draw {p : Pen} {r : List OV} {n : Int} (h1 : 1 ≤ n) (h2 : n < 2 ^ 64) (h3 : Few p 1) (h : ∀ (d : Int) (p' : Pen), 0 ≤ d → d < n → p'.turn ≤ p.turn + 1 → Q (.d (.int d)) (penO p' :: r)) :
    sp__law_draw [.cel 0, .d (.int n)] (penO p :: r) Q R := ⟨p, r, n, rfl, rfl, h1, h2, h3, h⟩
end Eng

end
section
set_option Elab.async false
set_option linter.all false
set_option maxRecDepth 100000
/-! L2b -/
namespace Eng
open PySem PySem.Spec PyProof.Rows L2
variable {S : List OV} {Q : W → List OV → Prop} {R : Exn → List OV → Prop}
theorem at_in {α : Type} (xs : List α) (i : Int) (h0 : 0 ≤ i) (h1 : i < xs.length) : ∃ x, atI xs i = some x ∧ x ∈ xs ∧ xs[i.toNat]? = some x := by
  have hlt : i.toNat < xs.length := by omega
  refine ⟨xs[i.toNat], ?_, List.getElem_mem hlt, List.getElem?_eq_getElem hlt⟩
  have := atI_n xs i.toNat
  rw [Int.toNat_of_nonneg h0] at this
  rw [this, List.getElem?_eq_getElem hlt]
theorem sl__law_pick : ∀ ws S Qd Rd, sp__law_pick ws S Qd Rd → w__law_pick (z0 N__law_pick ws S) (ed0 S.length Qd) (fun x z => Rd x (z.S.take S.length)) := by
  rintro _ _ Q R ⟨p, r, xs, rfl, rfl, h1, h2, h3, h⟩
  unfold w__law_pick
  have hl := List.length_pos_iff.mpr h1
  simp [N__law_pick]
  refine c__law_draw (by omega) (by omega) h3 fun d p' d0 d1 ht => ?_
  obtain ⟨x, e, hx, _⟩ := at_in xs d d0 d1
  simp [e]
  have e2 : List.take (r.length + 1) (penO p' :: r) = penO p' :: r := List.take_of_length_le (by simp)
  exact h x p' hx ht
theorem c__law_pick {p : Pen} {r : List OV} {xs : List D} (h1 : xs ≠ []) (h2 : xs.length < 1000000) (h3 : Few p 1) (h : ∀ (x : D) (p' : Pen), x ∈ xs → p'.turn ≤ p.turn + 1 → Q (.d x) (penO p' :: r)) :
    sp__law_pick [.cel 0, .d (.lst xs)] (penO p :: r) Q R := ⟨p, r, xs, rfl, rfl, h1, h2, h3, h⟩
theorem filt_any {α β : Type} (c : α → Bool) (f : α → β) (xs : List α) : (!((xs.filter c).map f).isEmpty) = xs.any c := by
  induction xs with
  | nil => rfl
  | cons x xs ih =>
    by_cases q : c x = true
    · simp [List.filter_cons_of_pos q, q]
    · rw [List.filter_cons_of_neg q, List.any_cons, ih]
      rw [Bool.not_eq_true] at q
      rw [q, Bool.false_or]
theorem sl__law_in : ∀ ws S Qd Rd, sp__law_in ws S Qd Rd → w__law_in (z0 N__law_in ws S) (ed0 S.length Qd) (fun x z => Rd x (z.S.take S.length)) := by
  rintro _ S Q R ⟨lot, x, rfl, hl, h⟩
  unfold w__law_in
  simp [N__law_in]
  refine cLoop_pure encS (fun l => .int l.1) (fun l => decide (l.1 ≤ x ∧ x < l.1 + l.2)) trivial lot [] (fun l hm KT KF h1 h2 => ?_) (small_size hl) ?_
  · by_cases q1 : l.1 ≤ x
    · by_cases q2 : x < l.1 + l.2
      · simp [encS, q1, q2]
        exact h1 (decide_eq_true ⟨q1, q2⟩) _ rfl
      · simp [encS, q1, q2]
        exact h2 (decide_eq_false fun q => q2 q.2) _ rfl
    · simp [encS, q1]
      exact h2 (decide_eq_false fun q => q1 q.1) _ rfl
  · have e : ((lot.filter fun l => decide (l.1 ≤ x ∧ x < l.1 + l.2)).map fun l => D.int l.1) = ((lot.filter fun l => decide (l.1 ≤ x ∧ x < l.1 + l.2)).map fun l => l.1).map D.int := by rw [List.map_map]; rfl
    rw [List.nil_append, e]
    simp only [x_lst, x_nil, x_allK_n, x_rdf_nl, x_eq_li0]
    have e2 := filt_any (fun l : Int × Int => decide (l.1 ≤ x ∧ x < l.1 + l.2)) (fun l => l.1) lot
    simp only [if_true, e2]
    simp
    simpa [inB] using h
theorem c__law_in {lot : List (Int × Int)} {x : Int} (hl : lot.length < 1000000) (h : Q (.d (.bl (inB lot x))) S) : sp__law_in [.d (.lst (lot.map encS)), .d (.int x)] S Q R := ⟨lot, x, rfl, hl, h⟩
theorem sl__law_goes : ∀ ws S Qd Rd, sp__law_goes ws S Qd Rd → w__law_goes (z0 N__law_goes ws S) (ed0 S.length Qd) (fun x z => Rd x (z.S.take S.length)) := by
  rintro _ S Q R ⟨ps, x, rfl, h⟩
  unfold w__law_goes
  refine seqI fun K hK => ?_
  simp [N__law_goes, -x_seq]
  refine fLoop_enc encP (fun rest z => (∃ a1 a2 a3 a4, z = ⟨[SV.d (D.lst (List.map encP ps)), SV.d (D.int x), a1, a2, a3, a4], S⟩) ∧ Q (.d (encG (goesF rest x))) S) ?_ ?_ ps _ ⟨⟨_, _, _, _, rfl⟩, h⟩
  · rintro z ⟨⟨a1, a2, a3, a4, rfl⟩, hz⟩
    apply hK
    simp
    exact hz
  · rintro p rest z ⟨⟨a1, a2, a3, a4, rfl⟩, hz⟩ K3 hK3
    rw [tup_encP]
    unfold goesF findP at hz
    by_cases q1 : p.b ≤ x
    · by_cases q2 : x < p.b + p.m
      · simp only [List.find?_cons, q1, q2, decide_true, Bool.and_true] at hz
        by_cases q3 : p.w = 1
        · simp [q1, q2, q3, encG] at hz ⊢
          exact hz
        · simp [q1, q2, q3, encG] at hz ⊢
          exact hz
      · simp only [List.find?_cons, q1, q2, decide_true, decide_false, Bool.and_false] at hz
        simp [q1, q2]
        exact hK3 _ ⟨⟨_, _, _, _, rfl⟩, hz⟩
    · simp only [List.find?_cons, q1, decide_false, Bool.false_and] at hz
      simp [q1]
      exact hK3 _ ⟨⟨_, _, _, _, rfl⟩, hz⟩
theorem c__law_goes {ps : List Pc} {x : Int} (h : Q (.d (encG (goesF ps x))) S) : sp__law_goes [.d (.lst (ps.map encP)), .d (.int x)] S Q R := ⟨ps, x, rfl, h⟩
end Eng

end
section
set_option Elab.async false
set_option linter.all false
set_option maxRecDepth 100000
/-! L2c -/
namespace Eng
open PySem PySem.Spec PyProof.Rows L2
variable {S : List OV} {Q : W → List OV → Prop} {R : Exn → List OV → Prop}
theorem sl__law_inside : ∀ ws S Qd Rd, sp__law_inside ws S Qd Rd → w__law_inside (z0 N__law_inside ws S) (ed0 S.length Qd) (fun x z => Rd x (z.S.take S.length)) := by
  rintro _ S Q R ⟨lot, b, m, rfl, hl, h⟩
  unfold w__law_inside
  simp [N__law_inside]
  refine cLoop_map encS (fun l => .int (ovl b m l)) trivial lot (fun l hm KT h1 => ?_) (small_size' hl) ?_
  · have q := h1 ⟨[SV.d (D.lst (List.map encS lot)), SV.d (D.int b), SV.d (D.int m), SV.d (encS l)], S⟩ rfl
    simp [encS]
    exact q
  · refine x_sum' (lot.map (ovl b m)) _ _ (by rw [List.map_map]; rfl) ?_
    simp
    exact h
theorem c__law_inside {lot : List (Int × Int)} {b m : Int} (hl : lot.length < 1000000) (h : Q (.d (.int (spotsF lot b m))) S) : sp__law_inside [.d (.lst (lot.map encS)), .d (.int b), .d (.int m)] S Q R := ⟨lot, b, m, rfl, hl, h⟩
theorem c__law_then {F G : Fact} (h1 : Way F.w) (h2 : Way G.w) (h : Q (.d (encO (thenF F G))) S) : sp__law_then [.d (encF F), .d (encF G)] S Q R := ⟨F, G, rfl, h1, h2, h⟩
theorem sl__law_beside : ∀ ws S Qd Rd, sp__law_beside ws S Qd Rd → w__law_beside (z0 N__law_beside ws S) (ed0 S.length Qd) (fun x z => Rd x (z.S.take S.length)) := by
  rintro _ S Q R ⟨F, G, rfl, hF, m1, m2, h⟩
  unfold w__law_beside
  rw [tup_encF F, tup_encF G]
  refine seqI fun K hK => ?_
  simp [N__law_beside, -x_seq]
  unfold besideF at h
  by_cases h1 : G.b = F.b + F.m
  · by_cases h2 : G.w = F.w ∧ G.r = F.r ∧ G.s = F.s
    · simp only [h1, h2, ne_eq, not_true, false_or, if_false, and_self, not_true_eq_false] at h
      simp only [h1, if_true, cut6, eq3, h2, and_self, decide_true, Bool.not_true, x_fz_d, x_asB]
      simp [-x_seq]
      apply hK
      refine seqI fun K1 hK1 => ?_
      rcases hF with hw | hw
      · simp [-x_seq, hw]
        apply hK1
        by_cases h4 : G.t = F.t + F.m
        · have h4' : F.t + F.m = G.t := h4.symm
          simp [hw, h4] at h ⊢
          simp [show cutD [D.int F.b, D.int F.m, D.int F.t, D.int 1, D.int F.r, D.int F.s] (some 3) none = [D.int 1, D.int F.r, D.int F.s] from rfl]
          have e : ¬ F.t + F.m < F.t := by omega
          simpa [encO, encF, e, hw] using h
        · have h4' : ¬ F.t + F.m = G.t := fun q => h4 q.symm
          simp [hw, h4, h4'] at h ⊢
          simpa [encO] using h
      · simp [-x_seq, hw]
        apply hK1
        by_cases h4 : G.t + G.m = F.t
        · simp [hw, h4] at h ⊢
          simp [show cutD [D.int F.b, D.int F.m, D.int F.t, D.int (-1), D.int F.r, D.int F.s] (some 3) none = [D.int (-1), D.int F.r, D.int F.s] from rfl]
          by_cases e : G.t < F.t
          · simpa [encO, encF, e, hw] using h
          · have e2 : F.t = G.t := by omega
            simpa [encO, encF, e, hw, e2] using h
        · simp [hw, h4] at h ⊢
          simpa [encO] using h
    · simp only [h1, h2, ne_eq, not_true, false_or, if_true, not_false_eq_true] at h
      have h2' : ¬ (F.w = G.w ∧ F.r = G.r ∧ F.s = G.s) := fun q => h2 ⟨q.1.symm, q.2.1.symm, q.2.2.symm⟩
      simp only [h1, if_true, cut6, eq3, h2', x_fz_d, x_asB]
      simp
      exact h
  · simp only [h1, ne_eq, not_false_eq_true, true_or, if_true] at h
    have h1' : ¬ F.b + F.m = G.b := fun q => h1 q.symm
    simpa [h1', encO] using h
theorem c__law_beside {F G : Fact} (h1 : Way F.w) (h2 : 0 ≤ F.m) (h3 : 0 ≤ G.m) (h : Q (.d (encO (besideF F G))) S) : sp__law_beside [.d (encF F), .d (encF G)] S Q R := ⟨F, G, rfl, h1, h2, h3, h⟩
end Eng

end
section
set_option Elab.async false
set_option linter.all false
set_option maxRecDepth 100000
/-! L2d -/
namespace Eng
open PySem PySem.Spec PyProof.Rows L2
variable {S : List OV} {Q : W → List OV → Prop} {R : Exn → List OV → Prop}
def covB (b m : Int) (p : Pc) : Bool := decide (p.b ≤ b) && decide (b + m ≤ p.b + p.m)
theorem cov_none {b m : Int} (hm : 1 ≤ m) : ∀ {ps : List Pc} {a T : Int}, Tl a (ps.map fun p => (p.b, p.m)) T → b < a → ps.filter (covB b m) = []
  | [], _, _, _, _ => rfl
  | p :: ps, a, T, h, hb => by
    obtain ⟨h1, h2, h3⟩ := h
    have e : covB b m p = false := by
      unfold covB
      simp at h1
      rw [decide_eq_false (by omega)]
      rfl
    rw [List.filter_cons_of_neg (by rw [e]; simp)]
    simp at h2
    exact cov_none hm h3 (by simp; omega)
theorem cov_one {b m : Int} (hm : 1 ≤ m) : ∀ {ps : List Pc} {a T : Int}, Tl a (ps.map fun p => (p.b, p.m)) T → ps.filter (covB b m) = match findP ps b with
    | some p => if b + m ≤ p.b + p.m then [p] else []
    | none => []
  | [], _, _, _ => rfl
  | p :: ps, a, T, h => by
    obtain ⟨h1, h2, h3⟩ := h
    simp at h1 h2
    by_cases q1 : p.b ≤ b ∧ b < p.b + p.m
    · have ef : findP (p :: ps) b = some p := by
        unfold findP
        simp [List.find?_cons, q1.1, q1.2]
      rw [ef]
      have e0 := cov_none hm h3 (show b < a + p.m by omega)
      by_cases q2 : b + m ≤ p.b + p.m
      · rw [List.filter_cons_of_pos (by unfold covB; simp [q1.1, q2]), e0]
        simp [q2]
      · rw [List.filter_cons_of_neg (by unfold covB; simp [q2]), e0]
        simp [q2]
    · have ef : findP (p :: ps) b = findP ps b := by
        unfold findP
        rw [List.find?_cons]
        have : (decide (p.b ≤ b) && decide (b < p.b + p.m)) = false := by
          rw [← Bool.not_eq_true, Bool.and_eq_true, decide_eq_true_eq, decide_eq_true_eq]
          exact q1
        rw [this]
      rw [ef, List.filter_cons_of_neg (by unfold covB; simp; omega)]
      exact cov_one hm h3
theorem findP_mem {ps : List Pc} {b : Int} {p : Pc} (h : findP ps b = some p) : p ∈ ps ∧ p.b ≤ b ∧ b < p.b + p.m := by
  unfold findP at h
  have h1 := List.mem_of_find?_eq_some h
  have h2 := List.find?_some h
  simp at h2
  exact ⟨h1, h2⟩
theorem sl__law_piece : ∀ ws S Qd Rd, sp__law_piece ws S Qd Rd → w__law_piece (z0 N__law_piece ws S) (ed0 S.length Qd) (fun x z => Rd x (z.S.take S.length)) := by
  rintro _ S Q R ⟨ps, T, lot, b, m, rfl, hl, hl2, hv, hm, h⟩
  unfold w__law_piece
  refine seqI fun K hK => ?_
  simp [N__law_piece, -x_seq]
  refine c__law_inside hl ?_
  simp [-x_seq]
  apply hK
  refine seqI fun K1 hK1 => ?_
  simp [-x_seq]
  refine cLoop_pure encP encP (covB b m) trivial ps [] (fun p hp KT KF h1 h2 => ?_) (small_size hl2) ?_
  · rw [tup_encP]
    by_cases q1 : p.b ≤ b
    · by_cases q2 : b + m ≤ p.b + p.m
      · simp [q1, q2]
        exact h1 (by unfold covB; simp [q1, q2]) _ rfl
      · simp [q1, q2]
        exact h2 (by unfold covB; simp [q2]) _ rfl
    · simp [q1]
      exact h2 (by unfold covB; simp [q1]) _ rfl
  · rw [List.nil_append, cov_one hm hv.dom]
    simp [-x_seq]
    apply hK1
    refine seqI fun K2 hK2 => ?_
    unfold pieceF at h
    cases e : findP ps b with
    | none =>
      rw [e] at h
      have h' : Q (.d .non) S := by
        split at h <;> exact h
      simp [↓eq_l00]
      exact h'
    | some p =>
      rw [e] at h
      obtain ⟨_, p1, p2⟩ := findP_mem e
      by_cases q : b + m ≤ p.b + p.m
      · simp only [q, if_true, List.map_cons, List.map_nil]
        have ee : ∀ (neg : Bool) (kk : W → Prop), fEq neg (.lst [encP p]) (.lst []) kk = kk (.d (.bl neg)) := fun neg kk => (eq_lp0 neg [p] kk).trans (by cases neg <;> rfl)
        simp [-x_seq, ↓ee]
        by_cases r1 : spotsF lot b m ≠ 0 ∧ spotsF lot b m ≠ m
        · rw [if_pos r1] at h
          have r1' : ¬spotsF lot b m = 0 ∧ ¬spotsF lot b m = m := r1
          rw [if_pos r1']
          simp
          exact h
        · rw [if_neg r1] at h
          have r1' : ¬ (¬spotsF lot b m = 0 ∧ ¬spotsF lot b m = m) := r1
          rw [if_neg r1']
          apply hK2
          rw [tup_encP]
          simp
          refine c__law_cut (F := ⟨p.b, p.m, p.t, p.w, 1, if 0 < spotsF lot b m then 1 else 0⟩) (hv.way p (findP_mem e).1) ?_
          simp
          exact h
      · simp only [q, if_false, List.map_nil]
        have ec : cutF ⟨p.b, p.m, p.t, p.w, 1, if 0 < spotsF lot b m then 1 else 0⟩ b m = none := by
          unfold cutF
          rw [if_pos (.inr (by simp; omega))]
        have h' : Q (.d .non) S := by
          split at h
          · exact h
          · simp only [ec] at h; exact h
        simp [↓eq_l00]
        exact h'
theorem c__law_piece {ps : List Pc} {T : Int} {lot : List (Int × Int)} {b m : Int} (h1 : lot.length < 1000000) (h2 : ps.length < 1000000) (h3 : Valid ps T) (h4 : 1 ≤ m) (h : Q (.d (encO (pieceF ps lot b m))) S) :
    sp__law_piece [.d (.lst (ps.map encP)), .d (.lst (lot.map encS)), .d (.int b), .d (.int m)] S Q R := ⟨ps, T, lot, b, m, rfl, h1, h2, h3, h4, h⟩
end Eng

end
section
set_option Elab.async false
set_option linter.all false
set_option maxRecDepth 100000
/-! L2e -/
namespace Eng
open PySem PySem.Spec PyProof.Rows L2
variable {S : List OV} {Q : W → List OV → Prop} {R : Exn → List OV → Prop}
theorem ten_big {k : Nat} (h : k ≤ 100) : (10 : Nat) ^ k ≤ 2 ^ 400 := by
  have h1 : (10 : Nat) ^ k ≤ 10 ^ 100 := Nat.pow_le_pow_right (by omega) h
  have h2 : (10 : Nat) ^ 100 ≤ 16 ^ 100 := Nat.pow_le_pow_left (by omega) _
  have h3 : (16 : Nat) ^ 100 = 2 ^ 400 := by rw [show (16 : Nat) = 2 ^ 4 from rfl, ← Nat.pow_mul]
  omega
theorem c400 {a b : Int} (h : a.natAbs < 2 ^ 401) (g : b.natAbs < 2 ^ 401) : CMulW' a b := by
  have e : (2 : Nat) ^ 401 ≤ 2 ^ 20000 := Nat.pow_le_pow_right (by omega) (by omega)
  exact ⟨Nat.lt_of_lt_of_le h e, Nat.lt_of_lt_of_le g e⟩
theorem Few.mono {p p' : Pen} {n m : Nat} (h : Few p n) (ht : p'.turn ≤ p.turn + m) (hm : m ≤ n) : Few p' (n - m) := by
  unfold Few at *
  omega
theorem sl__law_great : ∀ ws S Qd Rd, sp__law_great ws S Qd Rd → w__law_great (z0 N__law_great ws S) (ed0 S.length Qd) (fun x z => Rd x (z.S.take S.length)) := by
  rintro _ _ Q R ⟨p, r, n, rfl, rfl, h1, h3, h⟩
  unfold w__law_great
  refine seqI fun K hK => ?_
  simp [N__law_great, -x_seq]
  apply hK
  refine seqI fun K1 hK1 => ?_
  simp [-x_seq]
  first | refine ⟨by omega, by omega, ?_⟩ | refine ⟨by omega, ?_⟩ | skip
  refine fLoop_inv (fun rest z => ∃ (v : Int) (p' : Pen) (a : SV), z = ⟨[SV.cel 0, SV.d (.int n), SV.d (.int v), a], penO p' :: r⟩ ∧ rest.length ≤ n ∧ 0 ≤ v ∧ v < 10 ^ (n - rest.length) ∧ p'.turn ≤ p.turn + (n - rest.length)) ?_ ?_ _ _ ⟨0, p, _, rfl, by simp [rngD], by omega, by simp [rngD], by omega⟩
  · rintro z ⟨v, p', a, rfl, _, v0, v1, ht⟩
    apply hK1
    simp
    exact h v p' v0 (by simpa using v1) (by simp at ht; omega)
  · rintro x rest z ⟨v, p', a, rfl, hl, v0, v1, ht⟩ K3 hK3
    rw [List.length_cons] at hl v1 ht
    have hb : v.natAbs < 2 ^ 401 := by
      have t := ten_big (show n - (rest.length + 1) ≤ 100 by omega)
      have e : ((10 : Int) ^ (n - (rest.length + 1))) = ((10 ^ (n - (rest.length + 1)) : Nat) : Int) := by simp
      rw [e] at v1
      have e2 : (2 : Nat) ^ 401 = 2 * 2 ^ 400 := by rw [← Nat.pow_succ']
      omega
    simp [-x_seq]
    refine seqI fun K4 hK4 => ?_
    simp
    refine ⟨c400 (by rw [show (2:Nat)^401 = 2^10 * 2^391 from by rw [← Nat.pow_add]]; have : 1 ≤ (2:Nat)^391 := Nat.one_le_two_pow; omega) hb, ?_⟩
    refine c__law_draw (by omega) (by omega) (by unfold Few at *; omega) fun d p'' d0 d1 ht2 => ?_
    simp
    apply hK4
    simp
    apply hK3
    refine ⟨10 * v + d, p'', _, rfl, by omega, by omega, ?_, by omega⟩
    have e : n - rest.length = n - (rest.length + 1) + 1 := by omega
    rw [e, Int.pow_succ]
    omega
theorem c__law_great {p : Pen} {r : List OV} {n : Nat} (h1 : n ≤ 100) (h3 : Few p 100) (h : ∀ (v : Int) (p' : Pen), 0 ≤ v → v < 10 ^ n → p'.turn ≤ p.turn + 100 → Q (.d (.int v)) (penO p' :: r)) :
    sp__law_great [.cel 0, .d (.int n)] (penO p :: r) Q R := ⟨p, r, n, rfl, rfl, h1, h3, h⟩
end Eng

end
section
set_option Elab.async false
set_option linter.all false
set_option maxRecDepth 100000
/-! L2f -/
namespace Eng
open PySem PySem.Spec PyProof.Rows L2
variable {S : List OV} {Q : W → List OV → Prop} {R : Exn → List OV → Prop}
theorem ixN_of {n : Nat} {i : Int} (h0 : 0 ≤ i) (h1 : i < n) : ixN n i = some i.toNat := by
  unfold ixN
  rw [if_pos h0, if_pos h1]
theorem x_pop (xs : List Int) (i : Int) (h0 : 0 ≤ i) (h1 : i < xs.length) (hz : i < 2 ^ 63) (k : D → List D → Prop) (y : Int) (hy : xs[i.toNat]? = some y) (h : k (.int y) ((xs.eraseIdx i.toNat).map D.int)) : fPop (xs.map D.int) [.int i] k := by
  refine ⟨i, i.toNat, .int y, rfl, by omega, hz, ?_, ?_, ?_⟩
  · rw [List.length_map]; exact ixN_of h0 h1
  · rw [List.getElem?_map, hy]; rfl
  · rw [map_erase]; exact h
theorem erase_perm {α : Type} : ∀ (xs : List α) (j : Nat) (y : α), xs[j]? = some y → xs.Perm (y :: xs.eraseIdx j)
  | [], j, y, h => by simp at h
  | x :: xs, 0, y, h => by simp at h; subst h; exact List.Perm.refl _
  | x :: xs, j + 1, y, h => by
    simp at h
    have := erase_perm xs j y (by simpa using h)
    simp only [List.eraseIdx_cons_succ]
    exact (this.cons x).trans (List.Perm.swap _ _ _)
theorem sl__law_turned_about : ∀ ws S Qd Rd, sp__law_turned_about ws S Qd Rd → w__law_turned_about (z0 N__law_turned_about ws S) (ed0 S.length Qd) (fun x z => Rd x (z.S.take S.length)) := by
  rintro _ _ Q R ⟨p, r, xs, rfl, rfl, h1, h3, h⟩
  unfold w__law_turned_about
  refine seqI fun K hK => ?_
  simp [N__law_turned_about, -x_seq]
  apply hK
  simp
  refine ⟨by omega, ?_⟩
  refine cLoop_inv (fun acc rest z => ∃ (ls ys : List Int) (p' : Pen), z = ⟨[SV.cel 0, SV.d (D.lst (List.map D.int xs)), SV.own (OV.lst (List.map D.int ls)), SV.none], penO p' :: r⟩ ∧ acc = ys.map D.int ∧ (ys ++ ls).Perm xs ∧ rest.length = ls.length ∧ p'.turn ≤ p.turn + ys.length) ?_ ?_ _ _ _ ⟨xs, [], p, rfl, rfl, List.Perm.refl _, by simp [rngD], by simp⟩
  · rintro acc z ⟨ls, ys, p', rfl, rfl, hp, hl, ht⟩
    have e : ls = [] := List.length_eq_zero_iff.mp hl.symm
    subst e
    rw [List.append_nil] at hp
    have := hp.length_eq
    refine ⟨trivial, ?_⟩
    simp
    exact h ys p' hp (by omega)
  · rintro acc x rest z ⟨ls, ys, p', rfl, rfl, hp, hl, ht⟩
    refine ⟨trivial, fun KT KF k1 k2 => ?_⟩
    have hlen := hp.length_eq
    rw [List.length_append] at hlen
    rw [List.length_cons] at hl
    simp
    refine c__law_draw (by omega) (by omega) (by unfold Few at *; omega) fun d p'' d0 d1 ht2 => ?_
    simp
    obtain ⟨y, _, _, hy⟩ := at_in ls d d0 d1
    refine x_pop ls d d0 d1 (by omega) _ y hy ?_
    apply k1
    refine ⟨by rw [List.length_map, sizeLine_eq]; omega, ls.eraseIdx d.toNat, ys ++ [y], p'', rfl, by simp, ?_, ?_, ?_⟩
    · rw [List.append_assoc]
      exact (List.Perm.append_left ys (erase_perm ls d.toNat y hy).symm).trans hp
    · rw [List.length_eraseIdx_of_lt (by omega)]
      omega
    · rw [List.length_append, List.length_singleton]
      omega
theorem c__law_turned_about {p : Pen} {r : List OV} {xs : List Int} (h1 : xs.length ≤ 1000) (h3 : Few p 1000) (h : ∀ (ys : List Int) (p' : Pen), ys.Perm xs → p'.turn ≤ p.turn + 1000 → Q (.d (.lst (ys.map D.int))) (penO p' :: r)) :
    sp__law_turned_about [.cel 0, .d (.lst (xs.map D.int))] (penO p :: r) Q R := ⟨p, r, xs, rfl, rfl, h1, h3, h⟩
end Eng

end
section
set_option Elab.async false
set_option linter.all false
set_option maxRecDepth 100000
/-! L2g: the law's one form -/
namespace Eng
open PySem PySem.Spec PyProof.Rows L2
variable {S : List OV} {Q : W → List OV → Prop} {R : Exn → List OV → Prop}
theorem sl__law_one_form : ∀ ws S Qd Rd, sp__law_one_form ws S Qd Rd → w__law_one_form (z0 N__law_one_form ws S) (ed0 S.length Qd) (fun x z => Rd x (z.S.take S.length)) := by
  rintro _ S Q R ⟨ps, ys, rfl, hl, hp, hpw, hw, h⟩
  unfold w__law_one_form
  refine seqI fun K hK => ?_
  simp [N__law_one_form, -x_seq]
  apply hK
  refine seqI fun K1 hK1 => ?_
  simp [-x_seq]
  refine ⟨ps.map Pc.l, 4, by rw [← encP_tup], by omega, (fun ns hns => by obtain ⟨l, _, rfl⟩ := List.mem_map.mp hns; rfl), fun rs h1 h2 => ?_⟩
  have e := sort_uniq (f := Pc.l) (h := fun l => l.b) (fun a => ⟨_, rfl⟩) hpw (h1.trans (hp.symm.map _)) h2
  subst e
  simp [-x_seq]
  rw [← List.map_map, ← encP_tup]
  have hl' : ys.length < 1000000 := by rw [hp.length_eq]; exact hl
  refine fLoop_enc encP (fun rest z => ∃ acc a b c d f g, z = ⟨[SV.d (D.lst (ps.map encP)), SV.own (.lst (acc.map encP)), a, b, c, d, f, g], S⟩ ∧ rest.foldl mstep acc = mergeF ys ∧ (∀ p ∈ rest, Way p.w) ∧ acc.length + rest.length < 1000000) ?_ ?_ ys _ ⟨[], _, _, _, _, _, _, rfl, rfl, hw, by simpa using hl'⟩
  · rintro z ⟨acc, a, b, c, d, f, g, rfl, h1, _, _⟩
    apply hK1
    simp
    have e : acc = mergeF ys := h1
    rw [e]
    exact h
  · rintro p rest z ⟨acc, a, b, c, d, f, g, rfl, h1, h2, h3⟩ K3 hK3
    rw [tup_encP]
    simp [-x_seq]
    refine seqI fun K4 hK4 => ?_
    simp only [List.foldl_cons] at h1
    rw [List.length_cons] at h3
    have hpw' := h2 p List.mem_cons_self
    have app : mstep acc p = acc ++ [p] → ∀ (u v : SV), K4 ⟨[SV.d (D.lst (ps.map encP)), SV.own (.lst (acc.map encP)), SV.d (.int p.b), SV.d (.int p.m), SV.d (.int p.t), SV.d (.int p.w), u, v], S⟩ := by
      intro hj u v
      apply hK4
      simp
      refine ⟨by rw [sizeLine_eq]; omega, ?_⟩
      apply hK3
      rw [hj] at h1
      refine ⟨acc ++ [p], SV.d (.int p.b), SV.d (.int p.m), SV.d (.int p.t), SV.d (.int p.w), u, v, by simp [tup_encP], h1, fun q hq => h2 q (List.mem_cons_of_mem _ hq), ?_⟩
      simp at h3 ⊢
      omega
    rcases List.eq_nil_or_concat acc with e | ⟨acc', e, ea⟩
    · subst e
      simp only [List.map_nil]
      simp [↓eq_l00, -x_seq]
      exact app rfl _ _
    · rw [List.concat_eq_append] at ea
      have hms : mstep acc p = if joinB e p then acc' ++ [joinP e p] else acc ++ [p] := by
        rw [ea]
        unfold mstep
        simp
      have em : acc.map encP = acc'.map encP ++ [D.tup [.int e.b, .int e.m, .int e.t, .int e.w]] := by
        rw [ea]; simp [tup_encP]
      have hlen : acc.length = acc'.length + 1 := by rw [ea]; simp
      rw [em] at app ⊢
      by_cases hwy : e.w = p.w
      · simp [↓eq_lp1, ↓ix_last, -x_seq, hwy]
        refine seqI fun K5 hK5 => ?_
        simp [↓ix_last, -x_seq]
        apply hK5
        refine seqI fun K6 hK6 => ?_
        have rest7 : ∀ on : Bool, joinB e p = on → K6 ⟨[SV.d (D.lst (List.map encP ps)), SV.own (OV.lst (List.map encP acc' ++ [D.tup [D.int e.b, D.int e.m, D.int e.t, D.int p.w]])),
              SV.d (D.int p.b), SV.d (D.int p.m), SV.d (D.int p.t), SV.d (D.int p.w), SV.d (D.tup [D.int e.b, D.int e.m, D.int e.t, D.int p.w]), SV.d (.bl on)], S⟩ := by
          intro on hj
          apply hK6
          refine seqI fun K7 hK7 => ?_
          cases on with
          | true =>
            simp [-x_seq]
            refine seqI fun K8 hK8 => ?_
            simp
            refine ⟨acc'.length, ixN_last, ?_⟩
            apply hK8
            simp
            apply hK3
            rw [hms, hj] at h1
            refine ⟨acc' ++ [joinP e p], SV.d (.int p.b), SV.d (.int p.m), SV.d (.int p.t), SV.d (.int p.w), SV.d (D.tup [D.int e.b, D.int e.m, D.int e.t, D.int p.w]), SV.d (.bl true), by simp [tup_encP, joinP], h1, fun q hq => h2 q (List.mem_cons_of_mem _ hq), ?_⟩
            simp at h3 ⊢
            omega
          | false =>
            simp [-x_seq]
            apply hK7
            simp
            rw [hwy] at app
            exact app (by rw [hms, hj]; rfl) _ _
        have hjb : joinB e p = (decide (p.w = 1 ∧ p.t = e.t + e.m) || decide (p.w = -1 ∧ p.t + p.m = e.t)) := by
          unfold joinB
          rw [decide_eq_true hwy, Bool.true_and]
        rcases hpw' with hw1 | hw1
        · have q := rest7 (decide (e.t + e.m = p.t)) (by rw [hjb]; simp [hw1, eq_comm])
          simp [-x_seq, hw1] at q ⊢
          exact q
        · have q := rest7 (decide (p.t + p.m = e.t)) (by rw [hjb]; simp [hw1])
          simp [-x_seq, hw1] at q ⊢
          exact q
      · simp [↓eq_lp1, ↓ix_last, -x_seq, hwy]
        refine app ?_ _ _
        rw [hms]
        unfold joinB
        simp [hwy]
theorem c__law_one_form {ps ys : List Pc} (h1 : ps.length < 1000000) (h2 : ys.Perm ps) (h3 : ys.Pairwise fun p q => p.b < q.b) (h4 : ∀ p ∈ ys, Way p.w) (h : Q (.d (.lst ((mergeF ys).map encP))) S) : sp__law_one_form [.d (.lst (ps.map encP))] S Q R := ⟨ps, ys, rfl, h1, h2, h3, h4, h⟩
end Eng

end
section
set_option Elab.async false
set_option linter.all false
set_option maxRecDepth 100000
/-! L2h -/
namespace Eng
open PySem PySem.Spec PyProof.Rows L2
variable {S : List OV} {Q : W → List OV → Prop} {R : Exn → List OV → Prop}
theorem sl__law_below : ∀ ws S Qd Rd, sp__law_below ws S Qd Rd → w__law_below (z0 N__law_below ws S) (ed0 S.length Qd) (fun x z => Rd x (z.S.take S.length)) := by
  rintro _ _ Q R ⟨p, r, n, rfl, rfl, h1, h2, h3, h⟩
  have hlog : n.natAbs.log2 < 1920 := by
    rw [Nat.log2_lt (by omega)]
    have e : (10 : Nat) ^ 60 ≤ 2 ^ 400 := ten_big (by omega)
    have e2 : (2 : Nat) ^ 400 ≤ 2 ^ 1920 := Nat.pow_le_pow_right (by omega) (by omega)
    have e3 : ((10 : Int) ^ 60) = ((10 ^ 60 : Nat) : Int) := by simp
    rw [e3] at h2
    omega
  unfold w__law_below
  refine seqI fun K hK => ?_
  simp [N__law_below, -x_seq]
  refine c__law_draw (by omega) (by omega) (by unfold Few at *; omega) fun d p1 d0 d1 ht => ?_
  simp [-x_seq]
  apply hK
  have f1 : Few p1 199 := by unfold Few at *; omega
  refine seqI fun K1 hK1 => ?_
  by_cases q0 : d = 0
  · simp [q0]
    refine c__law_draw (by omega) (by omega) (by unfold Few at *; omega) fun d' p2 e0 e1 ht2 => ?_
    simp
    exact h _ p2 (by split <;> omega) (by split <;> omega) (by omega)
  · simp [q0, -x_seq]
    apply hK1
    refine seqI fun K2 hK2 => ?_
    by_cases q1 : d = 1
    · simp [q1]
      refine c__law_draw (by omega) (by omega) (by unfold Few at *; omega) fun d' p2 e0 e1 ht2 => ?_
      simp
      exact h _ p2 (by split <;> omega) (by split <;> omega) (by omega)
    · simp [q1, -x_seq]
      apply hK2
      simp
      have hz : (Str.ofString n.repr).length ≤ 60 := PyProof.Rows.toString_length_le (v := n) (by omega) (by omega) h2
      refine ⟨hlog, by rw [sizeLine_eq]; omega, ?_⟩
      refine c__law_great (by omega) (by unfold Few at *; omega) fun v p2 v0 v1 ht2 => ?_
      simp
      refine ⟨by omega, ?_⟩
      exact h _ p2 (Int.emod_nonneg _ (by omega)) (Int.emod_lt_of_pos _ (by omega)) (by omega)
theorem c__law_below {p : Pen} {r : List OV} {n : Int} (h1 : 1 ≤ n) (h2 : n < 10 ^ 60) (h3 : Few p 200) (h : ∀ (v : Int) (p' : Pen), 0 ≤ v → v < n → p'.turn ≤ p.turn + 200 → Q (.d (.int v)) (penO p' :: r)) :
    sp__law_below [.cel 0, .d (.int n)] (penO p :: r) Q R := ⟨p, r, n, rfl, rfl, h1, h2, h3, h⟩
end Eng

end
section
set_option Elab.async false
set_option linter.all false
set_option maxRecDepth 100000
/-! L2i: pieces -/
namespace Eng
open PySem PySem.Spec PyProof.Rows L2
variable {S : List OV} {Q : W → List OV → Prop} {R : Exn → List OV → Prop}
def parK2 (ws : List W) (k : W → W → Prop) : Prop := match ws with
  | [u, v] => k u v
  | _ => False
def parK3 (ws : List W) (k : W → W → W → Prop) : Prop := match ws with
  | [u, v, w] => k u v w
  | _ => False
@[simp ↓] theorem x_parK2 (u v : W) (k : W → W → Prop) : parK2 [u, v] k = k u v := rfl
@[simp ↓] theorem x_parK3 (u v w : W) (k : W → W → W → Prop) : parK3 [u, v, w] k = k u v w := rfl
theorem y_par2 (i j : Nat) (as : WAs) (z : Z) (D0 : Ed) (R : XR) : wPar2 i j as z D0 R = as z (fun ws z1 => parK2 ws fun u v => okW u ∧ okW v ∧ D0.nx (setW j v (setW i u z1))) R := by
  have e : ∀ (ws : List W) (k : W → W → Prop), (∃ u v, ws = [u, v] ∧ k u v) = parK2 ws k := fun ws k => by
    unfold parK2; split <;> simp_all [and_assoc]
  show as z (fun ws z1 => ∃ u v, ws = [u, v] ∧ okW u ∧ okW v ∧ D0.nx (setW j v (setW i u z1))) R = _
  congr 1
  funext ws z1
  exact e ws fun u v => okW u ∧ okW v ∧ D0.nx (setW j v (setW i u z1))
theorem y_par3 (i j l : Nat) (as : WAs) (z : Z) (D0 : Ed) (R : XR) : wPar3 i j l as z D0 R = as z (fun ws z1 => parK3 ws fun u v w => okW u ∧ okW v ∧ okW w ∧ D0.nx (setW l w (setW j v (setW i u z1)))) R := by
  have e : ∀ (ws : List W) (k : W → W → W → Prop), (∃ u v w, ws = [u, v, w] ∧ k u v w) = parK3 ws k := fun ws k => by
    unfold parK3; split <;> simp_all [and_assoc]
  show as z (fun ws z1 => ∃ u v w, ws = [u, v, w] ∧ okW u ∧ okW v ∧ okW w ∧ D0.nx (setW l w (setW j v (setW i u z1)))) R = _
  congr 1
  funext ws z1
  exact e ws fun u v w => okW u ∧ okW v ∧ okW w ∧ D0.nx (setW l w (setW j v (setW i u z1)))
@[simp ↓] theorem x_lrg (j : Int) (k : W → Prop) : fLRg (.int j) k = (-(2 ^ 62) ≤ j ∧ j ≤ 16777216 ∧ k (.new (.lst (rngD 0 j.toNat)))) := rfl
def upto (n : Nat) : List Int := (List.range n).map Int.ofNat
theorem upto_len (n : Nat) : (upto n).length = n := by simp [upto]
theorem rng_ints (n : Nat) : rngD 0 n = (upto n).map D.int := by
  unfold rngD upto
  rw [List.map_map]
  refine List.map_congr_left fun i _ => ?_
  show D.int (0 + (i : Int)) = D.int (Int.ofNat i)
  rw [Int.zero_add]; rfl
end Eng

end
section
set_option Elab.async false
set_option linter.all false
set_option maxRecDepth 100000
/-! M1: the starts of pieces in a drawn order -/
namespace Eng
open PySem PySem.Spec PyProof.Rows L2
def nsAt (ns : List Int) (k : Int) : Int := ns.getD k.toNat 0
def stL (ns : List Int) : Int → List Int → List (Int × Int)
  | _, [] => []
  | a, k :: ks => (k, a) :: stL ns (a + nsAt ns k) ks
def stEnd (ns : List Int) : Int → List Int → Int
  | a, [] => a
  | a, k :: ks => stEnd ns (a + nsAt ns k) ks
def encK (l : List (Int × Int)) : List (Key × D) := l.map fun x => (.inl x.1, .int x.2)
theorem stL_keys (ns : List Int) : ∀ (ks : List Int) (a : Int), (stL ns a ks).map (·.1) = ks
  | [], _ => rfl
  | k :: ks, a => by simp [stL, stL_keys ns ks]
theorem stL_app (ns : List Int) (k : Int) : ∀ (ks : List Int) (a : Int), stL ns a (ks ++ [k]) = stL ns a ks ++ [(k, stEnd ns a ks)]
  | [], a => rfl
  | x :: ks, a => by simp [stL, stEnd, stL_app ns k ks]
theorem stEnd_app (ns : List Int) (k : Int) : ∀ (ks : List Int) (a : Int), stEnd ns a (ks ++ [k]) = stEnd ns a ks + nsAt ns k
  | [], a => rfl
  | x :: ks, a => by simp [stEnd, stEnd_app ns k ks]
theorem put_new (l : List (Int × Int)) (k v : Int) (h : k ∉ l.map (·.1)) : putKD (encK l) (.inl k) (.int v) = encK (l ++ [(k, v)]) := by
  unfold putKD
  have e : ((encK l).any fun kv => decide (kv.1 = (Sum.inl k : Key))) = false := by
    rw [List.any_eq_false]
    intro x hx
    obtain ⟨y, hy, rfl⟩ := List.mem_map.mp hx
    simp
    intro q
    exact h (List.mem_map.mpr ⟨y, hy, q⟩)
  rw [e]
  simp [encK]
theorem at_encK (l : List (Int × Int)) (k v : Int) (hn : (l.map (·.1)).Nodup) (h : (k, v) ∈ l) : atK (encK l) (.inl k) = some (.int v) := by
  induction l with
  | nil => cases h
  | cons x l ih =>
    rw [List.map_cons, List.nodup_cons] at hn
    unfold atK encK
    rw [List.map_cons, List.find?_cons]
    by_cases q : x.1 = k
    · simp [q]
      rcases List.mem_cons.mp h with r | r
      · rw [← r]
      · exact absurd (List.mem_map.mpr ⟨_, r, rfl⟩) (q ▸ hn.1)
    · simp [q]
      have hm : (k, v) ∈ l := by
        rcases List.mem_cons.mp h with r | r
        · exact absurd (by rw [← r]) q
        · exact r
      have := ih hn.2 hm
      unfold atK encK at this
      simpa using this
end Eng

end
section
set_option Elab.async false
set_option linter.all false
set_option maxRecDepth 100000
/-! M2: tiles, merging -/
namespace Eng
open PySem PySem.Spec PyProof.Rows L2
theorem Tl_app : ∀ (xs ys : List (Int × Int)) (a e : Int), Tl a (xs ++ ys) e ↔ ∃ m, Tl a xs m ∧ Tl m ys e
  | [], ys, a, e => by simp [Tl]
  | x :: xs, ys, a, e => by
    show (x.1 = a ∧ 1 ≤ x.2 ∧ Tl (a + x.2) (xs ++ ys) e) ↔ ∃ m, (x.1 = a ∧ 1 ≤ x.2 ∧ Tl (a + x.2) xs m) ∧ Tl m ys e
    rw [Tl_app xs ys]
    constructor
    · rintro ⟨h1, h2, m, h3, h4⟩; exact ⟨m, ⟨h1, h2, h3⟩, h4⟩
    · rintro ⟨m, ⟨h1, h2, h3⟩, h4⟩; exact ⟨h1, h2, m, h3, h4⟩
theorem Tl_le : ∀ (xs : List (Int × Int)) (a e : Int), Tl a xs e → a ≤ e
  | [], a, e, h => by have : a = e := h; omega
  | x :: xs, a, e, ⟨h1, h2, h3⟩ => by have := Tl_le xs _ _ h3; omega
theorem Tl_mem : ∀ (xs : List (Int × Int)) (a e : Int), Tl a xs e → ∀ x ∈ xs, a ≤ x.1 ∧ 1 ≤ x.2 ∧ x.1 + x.2 ≤ e
  | y :: xs, a, e, ⟨h1, h2, h3⟩, x, hx => by
    rcases List.mem_cons.mp hx with q | q
    · have := Tl_le xs _ _ h3; rw [q]; omega
    · have := Tl_mem xs _ _ h3 x q; omega
theorem Tl_has : ∀ (xs : List (Int × Int)) (a e : Int), Tl a xs e → ∀ y, a ≤ y → y < e → ∃ x ∈ xs, x.1 ≤ y ∧ y < x.1 + x.2
  | [], a, e, h, y, h1, h2 => by have : a = e := h; omega
  | x :: xs, a, e, ⟨h1, h2, h3⟩, y, h4, h5 => by
    by_cases q : y < a + x.2
    · exact ⟨x, List.mem_cons_self, by omega, by omega⟩
    · obtain ⟨w, hw, h⟩ := Tl_has xs _ _ h3 y (by omega) h5
      exact ⟨w, List.mem_cons_of_mem _ hw, h⟩
theorem Tl_one : ∀ (xs : List (Int × Int)) (a e : Int), Tl a xs e → ∀ x ∈ xs, ∀ x' ∈ xs, ∀ y, x.1 ≤ y → y < x.1 + x.2 → x'.1 ≤ y → y < x'.1 + x'.2 → x = x'
  | z :: xs, a, e, ⟨h1, h2, h3⟩, x, hx, x', hx', y, a1, a2, a3, a4 => by
    rcases List.mem_cons.mp hx with q | q <;> rcases List.mem_cons.mp hx' with r | r
    · rw [q, r]
    · have := Tl_mem xs _ _ h3 x' r; rw [q] at a1 a2; omega
    · have := Tl_mem xs _ _ h3 x q; rw [r] at a3 a4; omega
    · exact Tl_one xs _ _ h3 x q x' r y a1 a2 a3 a4
theorem Tl_lt : ∀ (xs : List (Int × Int)) (a e : Int), Tl a xs e → xs.Pairwise fun x y => x.1 < y.1
  | [], _, _, _ => List.Pairwise.nil
  | x :: xs, a, e, ⟨h1, h2, h3⟩ => List.Pairwise.cons (fun y hy => by have := Tl_mem xs _ _ h3 y hy; omega) (Tl_lt xs _ _ h3)
theorem Tl_nodup (xs : List (Int × Int)) (a e : Int) (h : Tl a xs e) : xs.Nodup :=
  (Tl_lt xs a e h).imp fun q r => by rw [r] at q; omega
theorem Tl_next : ∀ (xs : List (Int × Int)) (a e : Int), Tl a xs e → ∀ t m n, (t, m) ∈ xs → (t + m, n) ∈ xs → ∃ l r, xs = l ++ (t, m) :: (t + m, n) :: r
  | z :: xs, a, e, ⟨h1, h2, h3⟩, t, m, n, hx, hy => by
    rcases List.mem_cons.mp hx with q | q
    · rcases List.mem_cons.mp hy with r | r
      · have a1 := congrArg Prod.fst q; have a2 := congrArg Prod.snd q; have b1 := congrArg Prod.fst r
        simp at a1 a2 b1; omega
      · cases xs with
        | nil => cases r
        | cons y xs =>
          obtain ⟨k1, k2, k3⟩ := h3
          rcases List.mem_cons.mp r with s | s
          · exact ⟨[], xs, by rw [q, s]; rfl⟩
          · have := Tl_mem xs _ _ k3 _ s
            have a1 := congrArg Prod.fst q; have a2 := congrArg Prod.snd q
            simp at this a1 a2; omega
    · rcases List.mem_cons.mp hy with r | r
      · have h5 := Tl_mem xs _ _ h3 _ q
        rw [← r] at h1 h2 h5; simp at h1 h2 h5; omega
      · obtain ⟨l, s, e⟩ := Tl_next xs _ _ h3 t m n q r
        exact ⟨z :: l, s, by rw [e]; rfl⟩
theorem Tl_sum : ∀ (xs : List (Int × Int)) (a e : Int), Tl a xs e → (xs.map (·.2)).sum = e - a
  | [], a, e, h => by have : a = e := h; simp; omega
  | x :: xs, a, e, ⟨h1, h2, h3⟩ => by have := Tl_sum xs _ _ h3; rw [List.map_cons, List.sum_cons, this]; omega
theorem Valid.sum {ps : List Pc} {T : Int} (h : Valid ps T) : (ps.map Pc.m).sum = T := by
  have := Tl_sum _ _ _ h.dom
  rw [List.map_map] at this
  have e : ((fun x : Int × Int => x.2) ∘ fun p : Pc => (p.b, p.m)) = Pc.m := rfl
  rw [e] at this; omega
theorem Valid.asc {ps : List Pc} {T : Int} (h : Valid ps T) : ps.Pairwise fun p q => p.b < q.b := by
  have := List.pairwise_map.mp (Tl_lt _ _ _ h.dom)
  exact this
/-! merging -/
def NJ : List Pc → Prop
  | [] => True
  | [_] => True
  | e :: p :: r => joinB e p = false ∧ NJ (p :: r)
theorem NJ_snoc : ∀ (l : List Pc) (e p : Pc), NJ (l ++ [e]) → joinB e p = false → NJ (l ++ [e] ++ [p])
  | [], e, p, _, h => ⟨h, trivial⟩
  | [d], e, p, h, h2 => ⟨h.1, h2, trivial⟩
  | d :: d2 :: l, e, p, h, h2 => ⟨h.1, NJ_snoc (d2 :: l) e p h.2 h2⟩
theorem NJ_put : ∀ (l : List Pc) (e p : Pc), NJ (l ++ [e]) → (∀ d, joinB d e = false → joinB d p = false) → NJ (l ++ [p])
  | [], e, p, _, h => trivial
  | [d], e, p, h, h2 => ⟨h2 _ h.1, trivial⟩
  | d :: d2 :: l, e, p, h, h2 => ⟨h.1, NJ_put (d2 :: l) e p h.2 h2⟩
theorem NJ_mid : ∀ (l : List Pc) (e p : Pc) (r : List Pc), NJ (l ++ e :: p :: r) → joinB e p = false
  | [], e, p, r, h => h.1
  | [d], e, p, r, h => h.2.1
  | d :: d2 :: l, e, p, r, h => NJ_mid (d2 :: l) e p r h.2
theorem mstep_snoc (l : List Pc) (e p : Pc) : mstep (l ++ [e]) p = if joinB e p then l ++ [joinP e p] else l ++ [e] ++ [p] := by
  unfold mstep
  simp
theorem join_no (d e p : Pc) (h : joinB e p = true) (he : 1 ≤ e.m) (hp : 1 ≤ p.m) (hd : joinB d e = false) : joinB d (joinP e p) = false := by
  unfold joinB joinP at *
  simp at *
  intro hw
  constructor
  · intro h1
    have h2 := hd (by omega)
    rcases h.2 with q | q
    · rw [if_neg (by omega)]
      exact h2.1 (by omega)
    · omega
  · intro h1
    have h2 := hd (by omega)
    rcases h.2 with q | q
    · omega
    · rw [if_pos (by omega)]
      have := h2.2 (by omega)
      omega
theorem Valid_join (l r : List Pc) (e p : Pc) (T : Int) (h : Valid (l ++ [e] ++ p :: r) T) (hj : joinB e p = true) : Valid (l ++ [joinP e p] ++ r) T := by
  obtain ⟨h1, h2, ys, h3, h4⟩ := h
  unfold joinB at hj
  simp at hj
  refine ⟨?_, ?_, ?_⟩
  · intro q hq
    simp at hq
    rcases hq with q1 | q1 | q1
    · exact h1 q (by simp [q1])
    · rw [q1]; exact h1 p (by simp)
    · exact h1 q (by simp [q1])
  · rw [List.map_append, List.map_append, Tl_app] at h2 ⊢
    obtain ⟨m, h5, h6⟩ := h2
    rw [Tl_app] at h5
    obtain ⟨m2, h7, h8⟩ := h5
    obtain ⟨a1, a2, a3⟩ := h8
    obtain ⟨b1, b2, b3⟩ := h6
    have a4 : m2 + e.m = m := a3
    simp at a1 a2 b1 b2
    refine ⟨m2 + (e.m + p.m), ?_, ?_⟩
    · rw [Tl_app]
      exact ⟨m2, h7, a1, by show 1 ≤ e.m + p.m; omega, rfl⟩
    · have : m2 + (e.m + p.m) = m + p.m := by omega
      rw [this]; exact b3
  · have he : (e.t, e.m) ∈ ys := h3.mem_iff.mpr (by simp)
    have hp : (p.t, p.m) ∈ ys := h3.mem_iff.mpr (by simp)
    have hem := Tl_mem _ _ _ h4 _ he
    have hpm := Tl_mem _ _ _ h4 _ hp
    simp at hem hpm
    have key : ∀ (A B : Int × Int) (l' r' : List (Int × Int)), ys = l' ++ A :: B :: r' → B.1 = A.1 + A.2 → 1 ≤ A.2 → (A :: [B]).Perm [(e.t, e.m), (p.t, p.m)] → (A.1, A.2 + B.2) = ((joinP e p).t, (joinP e p).m) → ∃ ys : List (Int × Int), ys.Perm ((l ++ [joinP e p] ++ r).map fun p => (p.t, p.m)) ∧ Tl 0 ys T := by
      intro A B l' r' ey hB hA hP hE
      refine ⟨l' ++ (A.1, A.2 + B.2) :: r', ?_, ?_⟩
      · rw [ey] at h3
        rw [hE]
        simp only [List.map_append, List.map_cons, List.map_nil, List.append_assoc, List.cons_append, List.nil_append] at h3 ⊢
        have p1 : (l' ++ A :: B :: r').Perm ([A, B] ++ (l' ++ r')) := by
          have := (List.perm_append_comm (l₁ := l') (l₂ := [A, B])).append_right r'
          simpa using this
        have p2 : ((l.map fun p => (p.t, p.m)) ++ (e.t, e.m) :: (p.t, p.m) :: r.map fun p => (p.t, p.m)).Perm ([(e.t, e.m), (p.t, p.m)] ++ ((l.map fun p => (p.t, p.m)) ++ r.map fun p => (p.t, p.m))) := by
          have := (List.perm_append_comm (l₁ := l.map fun p => (p.t, p.m)) (l₂ := [(e.t, e.m), (p.t, p.m)])).append_right (r.map fun p => (p.t, p.m))
          simpa using this
        have p3 := (p1.symm.trans h3).trans p2
        have p4 : ([A, B] ++ (l' ++ r')).Perm ([A, B] ++ ((l.map fun p => (p.t, p.m)) ++ r.map fun p => (p.t, p.m))) := p3.trans (hP.symm.append_right _)
        have p5 := (List.perm_append_left_iff _).mp p4
        exact List.perm_middle.trans ((List.Perm.cons _ p5).trans List.perm_middle.symm)
      · rw [ey, Tl_app] at h4
        obtain ⟨m, k1, k2, k3, k4, k5, k6⟩ := h4
        rw [Tl_app]
        refine ⟨m, k1, k2, by show 1 ≤ A.2 + B.2; omega, ?_⟩
        show Tl (m + (A.2 + B.2)) r' T
        rw [← Int.add_assoc]
        exact k6
    rcases hj.2 with q | q
    · obtain ⟨l', r', ey⟩ := Tl_next ys 0 T h4 e.t e.m p.m he (by rw [← q.2]; exact hp)
      refine key (e.t, e.m) (e.t + e.m, p.m) l' r' ey rfl (by show 1 ≤ e.m; omega) (by rw [← q.2]) ?_
      unfold joinP
      simp
      omega
    · obtain ⟨l', r', ey⟩ := Tl_next ys 0 T h4 p.t p.m e.m hp (by rw [q.2]; exact he)
      refine key (p.t, p.m) (p.t + p.m, e.m) l' r' ey rfl (by show 1 ≤ p.m; omega) (by rw [q.2]; exact List.Perm.swap _ _ _) ?_
      unfold joinP
      simp
      omega
theorem Valid.pos {ps : List Pc} {T : Int} (h : Valid ps T) (p : Pc) (hp : p ∈ ps) : 1 ≤ p.m ∧ 0 ≤ p.b ∧ p.b + p.m ≤ T ∧ 0 ≤ p.t ∧ p.t + p.m ≤ T := by
  have h1 := Tl_mem _ _ _ h.dom (p.b, p.m) (List.mem_map.mpr ⟨p, hp, rfl⟩)
  obtain ⟨ys, h2, h3⟩ := h.img
  have h4 := Tl_mem _ _ _ h3 (p.t, p.m) (h2.mem_iff.mpr (List.mem_map.mpr ⟨p, hp, rfl⟩))
  simp at h1 h4
  omega
theorem merge_inv (T : Int) : ∀ (rest acc : List Pc), Valid (acc ++ rest) T → NJ acc → Valid (rest.foldl mstep acc) T ∧ NJ (rest.foldl mstep acc)
  | [], acc, h, h2 => ⟨by simpa using h, h2⟩
  | p :: rest, acc, h, h2 => by
    rw [List.foldl_cons]
    rcases List.eq_nil_or_concat acc with q | ⟨l, e, q⟩
    · rw [q] at h ⊢
      exact merge_inv T rest [p] h trivial
    · rw [List.concat_eq_append] at q
      subst q
      rw [mstep_snoc]
      by_cases hj : joinB e p = true
      · rw [if_pos hj]
        refine merge_inv T rest _ (Valid_join l rest e p T h hj) (NJ_put l e _ h2 fun d hd => ?_)
        exact join_no d e p hj (h.pos e (by simp)).1 (h.pos p (by simp)).1 hd
      · rw [if_neg hj]
        exact merge_inv T rest _ (by simpa using h) (NJ_snoc l e p h2 (by simpa using hj))
theorem merge_fix : ∀ (rest acc : List Pc), NJ (acc ++ rest) → rest.foldl mstep acc = acc ++ rest
  | [], acc, _ => by simp
  | p :: rest, acc, h => by
    rw [List.foldl_cons]
    rcases List.eq_nil_or_concat acc with q | ⟨l, e, q⟩
    · rw [q] at h ⊢
      exact merge_fix rest [p] h
    · rw [List.concat_eq_append] at q
      subst q
      have hj : joinB e p = false := NJ_mid l e p rest (by simpa using h)
      rw [mstep_snoc, hj, if_neg (by simp), merge_fix rest (l ++ [e] ++ [p]) (by simpa using h)]
      simp
theorem merge_valid {ps : List Pc} {T : Int} (h : Valid ps T) : Valid (mergeF ps) T := (merge_inv T ps [] h trivial).1
theorem merge_idem {ps : List Pc} {T : Int} (h : Valid ps T) : mergeF (mergeF ps) = mergeF ps := merge_fix (mergeF ps) [] (merge_inv T ps [] h trivial).2
theorem merge_len : ∀ (rest acc : List Pc), (rest.foldl mstep acc).length ≤ acc.length + rest.length
  | [], acc => by simp
  | p :: rest, acc => by
    rw [List.foldl_cons]
    refine Nat.le_trans (merge_len rest _) ?_
    rcases List.eq_nil_or_concat acc with q | ⟨l, e, q⟩
    · rw [q]; simp [mstep]; omega
    · rw [List.concat_eq_append] at q
      subst q
      rw [mstep_snoc]
      by_cases hj : joinB e p = true
      · rw [if_pos hj]; simp
      · rw [if_neg hj]; simp; omega
end Eng

end
section
set_option Elab.async false
set_option linter.all false
set_option maxRecDepth 100000
/-! M1b: pieces' starts, put together -/
namespace Eng
open PySem PySem.Spec PyProof.Rows L2
def stAt (l : List (Int × Int)) (k : Int) : Int := ((l.find? fun x => decide (x.1 = k)).map (·.2)).getD 0
theorem stAt_mem : ∀ (l : List (Int × Int)) (k v : Int), (l.map (·.1)).Nodup → (k, v) ∈ l → stAt l k = v
  | x :: l, k, v, hn, h => by
    rw [List.map_cons, List.nodup_cons] at hn
    unfold stAt
    rw [List.find?_cons]
    rcases List.mem_cons.mp h with r | r
    · rw [← r]; simp
    · have : x.1 ≠ k := by
        intro q
        exact hn.1 (List.mem_map.mpr ⟨_, r, q.symm⟩)
      have ih := stAt_mem l k v hn.2 r
      unfold stAt at ih
      simp [this, ih]
theorem st_tile (ns : List Int) : ∀ (ks : List Int) (a : Int), (∀ k ∈ ks, 1 ≤ nsAt ns k) → Tl a ((stL ns a ks).map fun x => (x.2, nsAt ns x.1)) (stEnd ns a ks)
  | [], a, _ => rfl
  | k :: ks, a, h => ⟨rfl, h k List.mem_cons_self, st_tile ns ks _ fun j hj => h j (List.mem_cons_of_mem _ hj)⟩
theorem st_tile2 (ns ks : List Int) (hn : ks.Nodup) (h : ∀ k ∈ ks, 1 ≤ nsAt ns k) : Tl 0 (ks.map fun k => (stAt (stL ns 0 ks) k, nsAt ns k)) (stEnd ns 0 ks) := by
  have e : (ks.map fun k => (stAt (stL ns 0 ks) k, nsAt ns k)) = (stL ns 0 ks).map fun x => (x.2, nsAt ns x.1) := by
    have hk := stL_keys ns ks 0
    have : ks.map (fun k => (stAt (stL ns 0 ks) k, nsAt ns k)) = ((stL ns 0 ks).map (·.1)).map (fun k => (stAt (stL ns 0 ks) k, nsAt ns k)) := by rw [hk]
    rw [this, List.map_map]
    refine List.map_congr_left fun x hx => ?_
    show (stAt (stL ns 0 ks) x.1, nsAt ns x.1) = (x.2, nsAt ns x.1)
    rw [stAt_mem _ x.1 x.2 (by rw [hk]; exact hn) hx]
  rw [e]
  exact st_tile ns ks 0 h
theorem st_key {ns ks : List Int} {k : Int} (hn : ks.Nodup) (hk : k ∈ ks) : atK (encK (stL ns 0 ks)) (.inl k) = some (.int (stAt (stL ns 0 ks) k)) := by
  have e := stL_keys ns ks 0
  have : k ∈ (stL ns 0 ks).map (·.1) := by rw [e]; exact hk
  obtain ⟨x, hx, rfl⟩ := List.mem_map.mp this
  rw [at_encK (stL ns 0 ks) x.1 x.2 (by rw [e]; exact hn) hx, stAt_mem _ x.1 x.2 (by rw [e]; exact hn) hx]
theorem perm_sum {xs ys : List Int} (h : xs.Perm ys) : xs.sum = ys.sum := by
  induction h with
  | nil => rfl
  | cons x _ ih => rw [List.sum_cons, List.sum_cons, ih]
  | swap x y l => rw [List.sum_cons, List.sum_cons, List.sum_cons, List.sum_cons]; omega
  | trans _ _ h1 h2 => rw [h1, h2]
theorem upto_at (ns : List Int) : (upto ns.length).map (nsAt ns) = ns := by
  unfold upto
  rw [List.map_map]
  apply List.ext_getElem
  · simp
  · intro i h1 h2
    simp [nsAt, h2]
theorem pieces_valid (ns ys : List Int) (pcs : List Pc) (hy : ys.Perm (upto ns.length)) (hnd : ys.Nodup) (h1 : ∀ n ∈ ns, 1 ≤ n) (e : Int) (hw : ∀ p ∈ pcs, Way p.w) (hd : Tl 0 (pcs.map fun p => (p.b, p.m)) e)
    (hi : pcs.map (fun p => (p.t, p.m)) = (upto ns.length).map fun k => (stAt (stL ns 0 ys) k, nsAt ns k)) : Valid pcs ns.sum ∧ pcs.length = ns.length := by
  have hpos : ∀ k ∈ ys, 1 ≤ nsAt ns k := by
    intro k hk
    have := hy.mem_iff.mp hk
    have : nsAt ns k ∈ (upto ns.length).map (nsAt ns) := List.mem_map.mpr ⟨k, this, rfl⟩
    rw [upto_at] at this
    exact h1 _ this
  have ht := st_tile2 ns ys hnd hpos
  have es : pcs.map Pc.m = ns := by
    have : (pcs.map (fun p => (p.t, p.m))).map (·.2) = ((upto ns.length).map fun k => (stAt (stL ns 0 ys) k, nsAt ns k)).map (·.2) := by rw [hi]
    rw [List.map_map, List.map_map] at this
    have q : (upto ns.length).map ((fun x : Int × Int => x.2) ∘ fun k => (stAt (stL ns 0 ys) k, nsAt ns k)) = ns := upto_at ns
    rw [q] at this
    exact this
  have e1 : e = ns.sum := by
    have := Tl_sum _ _ _ hd
    rw [List.map_map] at this
    have q : pcs.map ((fun x : Int × Int => x.2) ∘ fun p => (p.b, p.m)) = pcs.map Pc.m := rfl
    rw [q, es] at this
    omega
  have e2 : stEnd ns 0 ys = ns.sum := by
    have := Tl_sum _ _ _ ht
    rw [List.map_map] at this
    have q : ys.map ((fun x : Int × Int => x.2) ∘ fun k => (stAt (stL ns 0 ys) k, nsAt ns k)) = ys.map (nsAt ns) := rfl
    rw [q, perm_sum (hy.map (nsAt ns)), upto_at] at this
    omega
  refine ⟨⟨hw, by rw [← e1]; exact hd, _, ?_, by rw [← e2]; exact ht⟩, by rw [← es, List.length_map]⟩
  rw [hi]
  exact hy.map _
end Eng

end
section
set_option Elab.async false
set_option linter.all false
set_option maxRecDepth 100000
/-! L2j: pieces -/
namespace Eng
open PySem PySem.Spec PyProof.Rows L2
variable {S : List OV} {Q : W → List OV → Prop} {R : Exn → List OV → Prop}
@[simp ↓] theorem x_dget_i (i : Int) (kvs : List (Key × D)) (kk : W → Prop) : fDGet (.dct kvs) (.int i) kk = opK (atK kvs (.inl i)) fun y => kk (.d y) := by
  apply propext
  constructor
  · rintro ⟨kvs', k, y, h1, h2, h3, h4⟩
    injection h1 with h1
    subst h1
    injection h2 with h2
    subst h2
    rw [h3]; exact h4
  · intro h
    cases e : atK kvs (.inl i) with
    | none => rw [e] at h; exact h.elim
    | some y => rw [e] at h; exact ⟨kvs, _, y, rfl, rfl, e, h⟩
theorem sl__law_pieces : ∀ ws S Qd Rd, sp__law_pieces ws S Qd Rd → w__law_pieces (z0 N__law_pieces ws S) (ed0 S.length Qd) (fun x z => Rd x (z.S.take S.length)) := by
  rintro _ _ Q R ⟨p, r, ns, rfl, rfl, h1, h2, h3, h⟩
  unfold w__law_pieces
  refine seqI fun K hK => ?_
  simp [N__law_pieces, -x_seq, -x_par3, ↓y_par3]
  refine ⟨by omega, ?_⟩
  rw [rng_ints]
  refine c__law_turned_about (p := p) (xs := upto ns.length) (by rw [upto_len]; omega) (by unfold Few at *; omega) fun ys p1 hy ht => ?_
  simp [-x_seq, -x_par3, ↓y_par3]
  apply hK
  have hlen := hy.length_eq
  rw [upto_len] at hlen
  have hin : ∀ k ∈ ys, 0 ≤ k ∧ k < ns.length := by
    intro k hk
    have := hy.mem_iff.mp hk
    unfold upto at this
    obtain ⟨i, hi, rfl⟩ := List.mem_map.mp this
    have := List.mem_range.mp hi
    simp
    omega
  have hnd : ys.Nodup := by
    refine hy.nodup_iff.mpr ?_
    unfold upto
    exact List.Pairwise.map _ (fun a b q r => q (Int.ofNat.inj r)) List.nodup_range
  have nat_at : ∀ k : Int, 0 ≤ k → k < ns.length → atI (ns.map D.int) k = some (.int (nsAt ns k)) := by
    intro k k0 k1
    obtain ⟨x, e, _, hx⟩ := at_in ns k k0 k1
    have e2 := atI_n (ns.map D.int) k.toNat
    rw [Int.toNat_of_nonneg k0] at e2
    rw [e2, List.getElem?_map, hx]
    unfold nsAt
    rw [List.getD_eq_getElem?_getD, hx]
    rfl
  refine seqI fun K1 hK1 => ?_
  simp [-x_seq]
  refine fLoop_enc D.int (fun rest z => ∃ (ds : List Int) (a5 : SV), ys = ds ++ rest ∧ z = ⟨[SV.cel 0, SV.d (D.lst (List.map D.int ns)), SV.d (D.lst (List.map D.int ys)), SV.own (OV.dic (encK (stL ns 0 ds))), SV.d (D.int (stEnd ns 0 ds)), a5, SV.none], penO p1 :: r⟩) ?_ ?_ ys _ ⟨[], _, rfl, rfl⟩
  · rintro z ⟨ds, a5, e, rfl⟩
    rw [List.append_nil] at e
    subst e
    apply hK1
    refine seqI fun K2 hK2 => ?_
    simp [-x_seq, -x_par2, ↓y_par2]
    apply hK2
    refine seqI fun K3 hK3 => ?_
    simp [-x_seq]
    refine ⟨by omega, ?_⟩
    rw [rng_ints]
    refine fLoop_enc D.int (fun rest z => ∃ (ds : List Int) (pcs : List Pc) (a : Int) (a5 : SV) (p2 : Pen), upto ns.length = ds ++ rest ∧ p2.turn ≤ p1.turn + ds.length ∧ (∀ q ∈ pcs, Way q.w) ∧ Tl 0 (pcs.map fun q => (q.b, q.m)) a ∧
      pcs.map (fun q => (q.t, q.m)) = (ds.map fun k => (stAt (stL ns 0 ys) k, nsAt ns k)) ∧
      z = ⟨[SV.cel 0, SV.d (D.lst (List.map D.int ns)), SV.d (D.lst (List.map D.int ys)), SV.own (OV.dic (encK (stL ns 0 ys))), SV.d (D.int a), a5, SV.own (OV.lst (pcs.map encP))], penO p2 :: r⟩) ?_ ?_ (upto ns.length) _ ⟨[], [], 0, _, p1, rfl, by simp, by simp, rfl, rfl, rfl⟩
    · rintro z ⟨ds, pcs, a, a5, p2, e, ht2, hw, hd, hi, rfl⟩
      rw [List.append_nil] at e
      apply hK3
      simp
      have hv := pieces_valid ns ys pcs hy hnd h2 a hw hd (by rw [hi, e])
      refine h pcs p2 hv.1 hv.2 ?_
      have := congrArg List.length e
      rw [upto_len] at this
      omega
    · rintro k rest z ⟨ds, pcs, a, a5, p2, e, ht2, hw, hd, hi, rfl⟩ K4 hK4
      have hkin : k ∈ upto ns.length := by rw [e]; simp
      have hky : k ∈ ys := hy.mem_iff.mpr hkin
      obtain ⟨k0, k1⟩ := hin k hky
      have hdl : ds.length < ns.length := by
        have := congrArg List.length e
        rw [upto_len] at this
        simp at this
        omega
      have hsk := st_key (ns := ns) hnd hky
      have hpos : 1 ≤ nsAt ns k := by
        have : nsAt ns k ∈ (upto ns.length).map (nsAt ns) := List.mem_map.mpr ⟨k, hkin, rfl⟩
        rw [upto_at] at this
        exact h2 _ this
      simp [-x_seq]
      refine seqI fun K5 hK5 => ?_
      simp [-x_seq, nat_at k k0 k1, keyD, hsk]
      refine c__law_pick (p := p2) (xs := [.int 1, .int 1, .int (-1)]) (by simp) (by simp) (by unfold Few at *; omega) fun x p3 hx ht3 => ?_
      obtain ⟨w, rfl, hwy⟩ : ∃ w : Int, x = .int w ∧ Way w := by
        simp at hx
        rcases hx with rfl | rfl
        · exact ⟨1, rfl, .inl rfl⟩
        · exact ⟨-1, rfl, .inr rfl⟩
      have hpl : pcs.length = ds.length := by
        have := congrArg List.length hi
        simpa using this
      simp [-x_seq]
      refine ⟨by rw [sizeLine_eq]; omega, ?_⟩
      apply hK5
      simp [nat_at k k0 k1]
      apply hK4
      refine ⟨ds ++ [k], pcs ++ [⟨a, nsAt ns k, stAt (stL ns 0 ys) k, w⟩], a + nsAt ns k, SV.d (.int k), p3, by rw [e]; simp, by rw [List.length_append]; simp; omega, ?_, ?_, ?_, ?_⟩
      · intro q hq
        rcases List.mem_append.mp hq with hq | hq
        · exact hw q hq
        · rw [List.mem_singleton.mp hq]; exact hwy
      · rw [List.map_append, Tl_app]
        exact ⟨a, hd, rfl, hpos, rfl⟩
      · rw [List.map_append, List.map_append, hi]; rfl
      · rw [List.map_append]; rfl
  · rintro k rest z ⟨ds, a5, e, rfl⟩ K3 hK3
    obtain ⟨k0, k1⟩ := hin k (by rw [e]; simp)
    have hkn : k ∉ (stL ns 0 ds).map (·.1) := by
      rw [stL_keys]
      intro q
      rw [e] at hnd
      exact (List.nodup_append.mp hnd).2.2 k q k (by simp) rfl
    simp [-x_seq]
    refine seqI fun K4 hK4 => ?_
    simp [-x_seq, keyD]
    rw [put_new _ _ _ hkn]
    refine ⟨by unfold encK; rw [List.length_map, ← List.length_map (f := (·.1)), stL_keys, sizeLine_eq]; rw [e] at hlen; simp at hlen; omega, ?_⟩
    apply hK4
    simp [nat_at k k0 k1]
    apply hK3
    refine ⟨ds ++ [k], SV.d (.int k), by rw [e]; simp, ?_⟩
    rw [stL_app, stEnd_app]
theorem c__law_pieces {p : Pen} {r : List OV} {ns : List Int} (h1 : ns.length ≤ 200) (h2 : ∀ n ∈ ns, 1 ≤ n) (h3 : Few p 2000)
    (h : ∀ (ps : List Pc) (p' : Pen), Valid ps ns.sum → ps.length = ns.length → p'.turn ≤ p.turn + 2000 → Q (.d (.lst (ps.map encP))) (penO p' :: r)) :
    sp__law_pieces [.cel 0, .d (.lst (ns.map D.int))] (penO p :: r) Q R := ⟨p, r, ns, rfl, rfl, h1, h2, h3, h⟩
end Eng

end
section
set_option Elab.async false
set_option linter.all false
set_option maxRecDepth 100000
/-! L2k: small -/
namespace Eng
open PySem PySem.Spec PyProof.Rows L2
variable {S : List OV} {Q : W → List OV → Prop} {R : Exn → List OV → Prop}
theorem sl__law_small : ∀ ws S Qd Rd, sp__law_small ws S Qd Rd → w__law_small (z0 N__law_small ws S) (ed0 S.length Qd) (fun x z => Rd x (z.S.take S.length)) := by
  rintro _ _ Q R ⟨p, r, n, rfl, rfl, h1, h2, h3, h⟩
  unfold w__law_small
  refine seqI fun K hK => ?_
  simp [N__law_small, -x_seq, -x_par3, ↓y_par3]
  refine c__law_draw (p := p) (by omega) (by omega) (by unfold Few at *; omega) fun d p1 d0 d1 t1 => ?_
  simp [-x_seq, -x_par3, ↓y_par3]
  refine c__law_draw (p := p1) (by omega) (by omega) (by unfold Few at *; omega) fun d2 p2 d20 d21 t2 => ?_
  simp [-x_seq, -x_par3, ↓y_par3]
  refine ⟨by rw [sizeLine_eq]; omega, ?_⟩
  refine c__law_draw (p := p2) (by omega) (by omega) (by unfold Few at *; omega) fun d3 p3 d30 d31 t3 => ?_
  simp [-x_seq, -x_par3, ↓y_par3]
  apply hK
  refine seqI fun K1 hK1 => ?_
  have rest : ∀ (x many wide : Int) (p4 : Pen), 1 ≤ x → x ≤ n → 0 ≤ many → many ≤ 13 → 1 ≤ wide → wide ≤ 5 → p4.turn ≤ p.turn + 10 →
      K1 ⟨[.cel 0, .d (.int n), .own (.lst [.int x]), .d (.int many), .d (.int wide), .none, .none], penO p4 :: r⟩ := by
    intro x many wide p4 x1 xn m0 m1 w1 w5 t4
    apply hK1
    refine seqI fun K2 hK2 => ?_
    simp [-x_seq]
    refine ⟨by omega, by omega, ?_⟩
    rw [rng_ints]
    refine fLoop_enc D.int (fun rest z => ∃ (ls : List Int) (a5 a6 : SV) (p5 : Pen), (∀ l ∈ ls, 1 ≤ l) ∧ 1 ≤ ls.sum ∧ ls.sum ≤ n ∧ ls.length + rest.length ≤ 14 ∧ p5.turn + rest.length ≤ p4.turn + 14 ∧
      z = ⟨[.cel 0, .d (.int n), .own (.lst (ls.map D.int)), .d (.int many), .d (.int wide), a5, a6], penO p5 :: r⟩) ?_ ?_ (upto many.toNat) _ ⟨[x], _, _, p4, by simp; exact x1, by simp; exact x1, by simp; exact xn, by rw [upto_len]; simp; omega, by rw [upto_len]; omega, rfl⟩
    · rintro z ⟨ls, a5, a6, p5, q1, q2, q3, q4, q5, rfl⟩
      apply hK2
      simp
      simp at q4 q5
      refine c__law_pieces (p := p5) (by omega) q1 (by unfold Few at *; omega) fun ps p6 v1 v2 v3 => ?_
      simp
      exact h ps ls.sum p6 v1 q2 q3 (by omega) (by omega)
    · rintro k rest z ⟨ls, a5, a6, p5, q1, q2, q3, q4, q5, rfl⟩ K3 hK3
      simp [-x_seq]
      simp at q4 q5
      refine seqI fun K4 hK4 => ?_
      simp [-x_seq]
      refine c__law_draw (p := p5) (by omega) (by omega) (by unfold Few at *; omega) fun d4 p6 d40 d41 t6 => ?_
      simp [-x_seq]
      apply hK4
      refine seqI fun K5 hK5 => ?_
      by_cases hc : ls.sum + (1 + d4) ≤ n
      · simp [-x_seq, hc]
        refine seqI fun K6 hK6 => ?_
        simp [-x_seq]
        refine ⟨by rw [sizeLine_eq]; omega, ?_⟩
        apply hK6
        simp
        apply hK5
        simp
        apply hK3
        refine ⟨ls ++ [1 + d4], SV.d (.int k), SV.d (.int (1 + d4)), p6, ?_, ?_, ?_, ?_, by omega, by simp⟩
        · intro l hl
          rcases List.mem_append.mp hl with q | q
          · exact q1 l q
          · rw [List.mem_singleton.mp q]; omega
        · simp; omega
        · simp; omega
        · simp; omega
      · simp [-x_seq, hc]
        apply hK5
        simp
        apply hK3
        exact ⟨ls, SV.d (.int k), SV.d (.int (1 + d4)), p6, q1, q2, q3, by omega, by omega, rfl⟩
  simp [-x_seq, -x_par3, ↓y_par3]
  refine c__law_draw (p := p3) (by omega) (by omega) (by unfold Few at *; omega) fun d4 p4 d40 d41 t4 => ?_
  by_cases c4 : d4 = 0
  · subst c4
    simp [-x_seq, -x_par3, ↓y_par3]
    refine seqI fun K2 hK2 => ?_
    simp [-x_seq, -x_par3, ↓y_par3]
    refine ⟨by rw [sizeLine_eq]; omega, ?_⟩
    refine c__law_draw (p := p4) (by omega) (by omega) (by unfold Few at *; omega) fun d5 p5 d50 d51 t5 => ?_
    simp [-x_seq, -x_par3, ↓y_par3]
    apply hK2
    simp
    exact rest 1 13 (1 + d5) p5 (by omega) h1 (by omega) (by omega) (by omega) (by omega) (by omega)
  · simp [-x_seq, -x_par3, ↓y_par3, c4]
    exact rest _ d3 5 p4 (by split <;> omega) (by split <;> omega) (by omega) (by omega) (by omega) (by omega) (by omega)
theorem c__law_small {p : Pen} {r : List OV} {n : Int} (h1 : 1 ≤ n) (h2 : n ≤ 1000) (h3 : Few p 5000)
    (h : ∀ (ps : List Pc) (T : Int) (p' : Pen), Valid ps T → 1 ≤ T → T ≤ n → ps.length ≤ 20 → p'.turn ≤ p.turn + 5000 → Q (.d (.lst (ps.map encP))) (penO p' :: r)) :
    sp__law_small [.cel 0, .d (.int n)] (penO p :: r) Q R := ⟨p, r, n, rfl, rfl, h1, h2, h3, h⟩
end Eng

end
section
set_option Elab.async false
set_option linter.all false
set_option maxRecDepth 100000
/-! L2l: lot -/
namespace Eng
open PySem PySem.Spec PyProof.Rows L2
variable {S : List OV} {Q : W → List OV → Prop} {R : Exn → List OV → Prop}
theorem nsAt_at (ns : List Int) (k : Int) (k0 : 0 ≤ k) (k1 : k < ns.length) : atI (ns.map D.int) k = some (.int (nsAt ns k)) := by
  obtain ⟨x, e, _, hx⟩ := at_in ns k k0 k1
  have e2 := atI_n (ns.map D.int) k.toNat
  rw [Int.toNat_of_nonneg k0] at e2
  rw [e2, List.getElem?_map, hx]
  unfold nsAt
  rw [List.getD_eq_getElem?_getD, hx]
  rfl
theorem nsAt_mem (ns : List Int) (k : Int) (k0 : 0 ≤ k) (k1 : k < ns.length) : nsAt ns k ∈ ns := by
  have h : k.toNat < ns.length := by omega
  unfold nsAt
  rw [List.getD_eq_getElem?_getD, List.getElem?_eq_getElem h]
  exact List.getElem_mem h
theorem nsAt_le (ns : List Int) (hs : ns.Pairwise fun x y => x ≤ y) (i j : Int) (i0 : 0 ≤ i) (ij : i ≤ j) (j1 : j < ns.length) : nsAt ns i ≤ nsAt ns j := by
  have hi : i.toNat < ns.length := by omega
  have hj : j.toNat < ns.length := by omega
  unfold nsAt
  rw [List.getD_eq_getElem?_getD, List.getElem?_eq_getElem hi, List.getD_eq_getElem?_getD, List.getElem?_eq_getElem hj]
  by_cases e : i.toNat = j.toNat
  · simp [e]
  · exact List.pairwise_iff_getElem.mp hs _ _ hi hj (by omega)
theorem upto_mid {n : Nat} {ds rest : List Int} {k : Int} (e : upto n = ds ++ k :: rest) : k = ds.length := by
  have h : (upto n)[ds.length]? = some k := by rw [e]; simp
  unfold upto at h
  rw [List.getElem?_map] at h
  have hl := congrArg List.length e
  rw [upto_len] at hl
  simp at hl
  rw [List.getElem?_range (by omega)] at h
  injection h with h
  exact h.symm
theorem sl__law_lot : ∀ ws S Qd Rd, sp__law_lot ws S Qd Rd → w__law_lot (z0 N__law_lot ws S) (ed0 S.length Qd) (fun x z => Rd x (z.S.take S.length)) := by
  rintro _ _ Q R ⟨p, r, T, n, rfl, rfl, h1, h2, h3, h4, h5, h⟩
  unfold w__law_lot
  refine seqI fun K hK => ?_
  simp [N__law_lot, -x_seq]
  refine c__law_draw (p := p) (by omega) (by omega) (by unfold Few at *; omega) fun d p1 d0 d1 t1 => ?_
  by_cases c : d = 0
  · subst c
    simp [-x_seq]
    by_cases cT : 0 < T
    · refine seqI fun K2 hK2 => ?_
      simp [-x_seq, cT]
      refine c__law_draw (p := p1) (by omega) (by omega) (by unfold Few at *; omega) fun d2 p2 d20 d21 t2 => ?_
      by_cases c2 : d2 = 0
      · subst c2
        simp
        refine ⟨by rw [sizeLine_eq]; omega, ?_⟩
        exact h [(0, T)] p2 (by unfold Disj; simp) (by intro l hl; rw [List.mem_singleton.mp hl]; simp; omega) (by simp) (by omega)
      · simp [c2]
        exact h [] p2 (by unfold Disj; simp) (by simp) (by simp) (by omega)
    · simp [cT]
      exact h [] p1 (by unfold Disj; simp) (by simp) (by simp) (by omega)
  · simp [-x_seq, c]
    apply hK
    refine seqI fun K2 hK2 => ?_
    simp [-x_seq]
    refine ⟨c64 (by omega) (by omega), by omega, by omega, ?_⟩
    refine cLoop_inv (fun acc rest z => ∃ (ys : List Int) (p' : Pen), z = ⟨[SV.cel 0, .d (.int T), .d (.int n), .none, .none, .none], penO p' :: r⟩ ∧ acc = ys.map D.int ∧ (∀ y ∈ ys, 0 ≤ y ∧ y ≤ T) ∧ ys.length + rest.length = (2 * n).toNat ∧ p'.turn ≤ p1.turn + 200 * ys.length) ?_ ?_ _ _ _ ⟨[], p1, rfl, rfl, by simp, by simp [rngD], by simp⟩
    · rintro acc z ⟨ys, p2, rfl, rfl, hy, hl, ht⟩
      refine ⟨trivial, ?_⟩
      have hl2 : ys.length = (2 * n).toNat := by simpa using hl
      simp [-x_seq]
      refine ⟨ys, rfl, fun rs hp hs => ?_⟩
      have hrl := hp.length_eq
      have hrin : ∀ k : Int, 0 ≤ k → k < rs.length → 0 ≤ nsAt rs k ∧ nsAt rs k ≤ T := fun k k0 k1 => hy _ (hp.mem_iff.mp (nsAt_mem rs k k0 k1))
      simp [-x_seq]
      apply hK2
      refine seqI fun K3 hK3 => ?_
      simp [-x_seq]
      apply hK3
      refine seqI fun K4 hK4 => ?_
      simp [-x_seq]
      refine ⟨by omega, by omega, ?_⟩
      rw [rng_ints]
      refine fLoop_enc D.int (fun rest z => ∃ (ds : List Int) (lot : List (Int × Int)) (a5 : SV), upto n.toNat = ds ++ rest ∧ (∀ j, 2 * (ds.length : Int) ≤ j → j < rs.length → ∀ l ∈ lot, l.1 + l.2 ≤ nsAt rs j) ∧ Disj lot ∧ (∀ l ∈ lot, 0 ≤ l.1 ∧ 1 ≤ l.2 ∧ l.1 + l.2 ≤ T) ∧ lot.length ≤ ds.length ∧
        z = ⟨[SV.cel 0, .d (.int T), .d (.int n), .d (.lst (rs.map D.int)), .own (.lst (lot.map encS)), a5], penO p2 :: r⟩) ?_ ?_ (upto n.toNat) _ ⟨[], [], _, rfl, by simp, by unfold Disj; simp, by simp, by simp, rfl⟩
      · rintro z ⟨ds, lot, a5, e, q1, q2, q3, q4, rfl⟩
        apply hK4
        simp
        rw [List.append_nil] at e
        have := congrArg List.length e
        rw [upto_len] at this
        exact h lot p2 q2 q3 (by omega) (by omega)
      · rintro k rest z ⟨ds, lot, a5, e, q1, q2, q3, q4, rfl⟩ K5 hK5
        have ek : k = ds.length := upto_mid e
        have hdl : ds.length < n.toNat := by
          have := congrArg List.length e
          rw [upto_len] at this
          simp at this
          omega
        simp [-x_seq]
        refine seqI fun K6 hK6 => ?_
        simp [-x_seq]
        have k0 : 0 ≤ 2 * k := by omega
        have k1 : 2 * k + 1 < rs.length := by omega
        have hm : CMulW' 2 k := c64 (by omega) (by omega)
        have at0 := nsAt_at rs (2 * k) k0 (by omega)
        have at1 := nsAt_at rs (2 * k + 1) (by omega) k1
        have le01 := nsAt_le rs hs (2 * k) (2 * k + 1) k0 (by omega) k1
        have in0 := hrin (2 * k) k0 (by omega)
        have in1 := hrin (2 * k + 1) (by omega) k1
        by_cases hc : nsAt rs (2 * k) < nsAt rs (2 * k + 1)
        · simp [-x_seq, hm, at0, at1, hc]
          refine seqI fun K7 hK7 => ?_
          simp [-x_seq, hm, at0, at1]
          refine ⟨by rw [sizeLine_eq]; omega, ?_⟩
          apply hK7
          simp
          apply hK6
          simp
          apply hK5
          refine ⟨ds ++ [k], lot ++ [(nsAt rs (2 * k), nsAt rs (2 * k + 1) - nsAt rs (2 * k))], SV.d (.int k), by rw [e]; simp, ?_, ?_, ?_, by simp; omega, by rw [List.map_append]; rfl⟩
          · intro j j0 j1 l hl
            rw [List.length_append, List.length_singleton] at j0
            rcases List.mem_append.mp hl with q | q
            · exact q1 j (by omega) j1 l q
            · rw [List.mem_singleton.mp q]
              have := nsAt_le rs hs (2 * k + 1) j (by omega) (by omega) j1
              simp; omega
          · unfold Disj at *
            rw [List.pairwise_append]
            refine ⟨q2, by simp, fun a ha b hb => ?_⟩
            rw [List.mem_singleton.mp hb]
            exact q1 (2 * k) (by omega) (by omega) a ha
          · intro l hl
            rcases List.mem_append.mp hl with q | q
            · exact q3 l q
            · rw [List.mem_singleton.mp q]; simp; omega
        · simp [-x_seq, hm, at0, at1, hc]
          apply hK6
          simp
          apply hK5
          exact ⟨ds ++ [k], lot, SV.d (.int k), by rw [e]; simp, fun j j0 j1 l hl => q1 j (by rw [List.length_append, List.length_singleton] at j0; omega) j1 l hl, q2, q3, by simp; omega, rfl⟩
    · rintro acc x rest z ⟨ys, p2, rfl, rfl, hy, hl, ht⟩
      refine ⟨trivial, fun KT KF k1 k2 => ?_⟩
      rw [List.length_cons] at hl
      simp
      refine c__law_below (by omega) (by omega) (by unfold Few at *; omega) fun d p'' d0 d1 ht2 => ?_
      simp
      apply k1
      refine ⟨by rw [List.length_map, sizeLine_eq]; omega, ys ++ [d], p'', rfl, by simp, ?_, ?_, ?_⟩
      · intro y hy'
        rcases List.mem_append.mp hy' with q | q
        · exact hy y q
        · rw [List.mem_singleton.mp q]; omega
      · rw [List.length_append, List.length_singleton]; omega
      · rw [List.length_append, List.length_singleton]; omega
theorem c__law_lot {p : Pen} {r : List OV} {T n : Int} (h1 : 0 ≤ T) (h2 : T < 10 ^ 50) (h3 : 1 ≤ n) (h4 : n ≤ 10) (h5 : Few p 10000)
    (h : ∀ (lot : List (Int × Int)) (p' : Pen), Disj lot → (∀ l ∈ lot, 0 ≤ l.1 ∧ 1 ≤ l.2 ∧ l.1 + l.2 ≤ T) → lot.length ≤ 10 → p'.turn ≤ p.turn + 10000 → Q (.d (.lst (lot.map encS))) (penO p' :: r)) :
    sp__law_lot [.cel 0, .d (.int T), .d (.int n)] (penO p :: r) Q R := ⟨p, r, T, n, rfl, rfl, h1, h2, h3, h4, h5, h⟩
end Eng

end
section
set_option Elab.async false
set_option linter.all false
set_option maxRecDepth 100000
/-! M3: going, orbits -/
namespace Eng
open PySem PySem.Spec PyProof.Rows L2
theorem findP_some {ps : List Pc} {x : Int} {p : Pc} (h : findP ps x = some p) : p ∈ ps ∧ p.b ≤ x ∧ x < p.b + p.m := by
  unfold findP at h
  refine ⟨List.mem_of_find?_eq_some h, ?_⟩
  have := List.find?_some h
  simpa using this
theorem findP_has {ps : List Pc} {T : Int} (h : Valid ps T) (x : Int) (h0 : 0 ≤ x) (h1 : x < T) : ∃ p, findP ps x = some p := by
  obtain ⟨q, hq, h2, h3⟩ := Tl_has _ _ _ h.dom x h0 h1
  obtain ⟨p, hp, rfl⟩ := List.mem_map.mp hq
  have : (findP ps x).isSome := by
    unfold findP
    rw [List.find?_isSome]
    exact ⟨p, hp, by simpa using ⟨h2, h3⟩⟩
  exact Option.isSome_iff_exists.mp this
def goP (ps : List Pc) (x : Int) : Int × Int := (goesF ps x).getD (0, 1)
theorem goP_find {ps : List Pc} {x : Int} {p : Pc} (h : findP ps x = some p) : goP ps x = if p.w = 1 then (p.t + x - p.b, 1) else (p.t + p.m - 1 - x + p.b, -1) := by
  unfold goP goesF; rw [h]; rfl
theorem goes_goP {ps : List Pc} {T : Int} (h : Valid ps T) (x : Int) (h0 : 0 ≤ x) (h1 : x < T) : goesF ps x = some (goP ps x) := by
  obtain ⟨p, hp⟩ := findP_has h x h0 h1
  rw [goP_find hp]; unfold goesF; rw [hp]
theorem goP_in {ps : List Pc} {T : Int} (h : Valid ps T) (x : Int) (h0 : 0 ≤ x) (h1 : x < T) : 0 ≤ (goP ps x).1 ∧ (goP ps x).1 < T ∧ Way (goP ps x).2 := by
  obtain ⟨p, hp⟩ := findP_has h x h0 h1
  obtain ⟨m1, m2, m3⟩ := findP_some hp
  have := h.pos p m1
  rw [goP_find hp]
  by_cases q : p.w = 1
  · rw [if_pos q]; refine ⟨?_, ?_, .inl rfl⟩ <;> simp <;> omega
  · rw [if_neg q]; refine ⟨?_, ?_, .inr rfl⟩ <;> simp <;> omega
theorem img_one {ps : List Pc} {T : Int} (h : Valid ps T) (p q : Pc) (hp : p ∈ ps) (hq : q ∈ ps) (y : Int) (a1 : p.t ≤ y) (a2 : y < p.t + p.m) (a3 : q.t ≤ y) (a4 : y < q.t + q.m) : p = q := by
  obtain ⟨ys, h2, h3⟩ := h.img
  have e : ((p.t, p.m) : Int × Int) = (q.t, q.m) := Tl_one _ _ _ h3 _ (h2.mem_iff.mpr (List.mem_map.mpr ⟨p, hp, rfl⟩)) _ (h2.mem_iff.mpr (List.mem_map.mpr ⟨q, hq, rfl⟩)) y a1 a2 a3 a4
  have hn : (ps.map fun p => (p.t, p.m)).Nodup := h2.nodup_iff.mp (Tl_nodup _ _ _ h3)
  have hP := List.pairwise_map.mp hn
  have : ∀ (l : List Pc), l.Pairwise (fun a b => ((a.t, a.m) : Int × Int) ≠ (b.t, b.m)) → p ∈ l → q ∈ l → p = q := by
    intro l
    induction l with
    | nil => intro _ k; cases k
    | cons x l ih =>
      intro k k1 k2
      rw [List.pairwise_cons] at k
      rcases List.mem_cons.mp k1 with r | r <;> rcases List.mem_cons.mp k2 with s | s
      · rw [r, s]
      · exact absurd (r ▸ e) (k.1 q s)
      · exact absurd (s ▸ e.symm) (k.1 p r)
      · exact ih k.2 r s
  exact this ps hP hp hq
theorem goP_inj {ps : List Pc} {T : Int} (h : Valid ps T) (x y : Int) (x0 : 0 ≤ x) (x1 : x < T) (y0 : 0 ≤ y) (y1 : y < T) (e : (goP ps x).1 = (goP ps y).1) : x = y := by
  obtain ⟨p, hp⟩ := findP_has h x x0 x1
  obtain ⟨q, hq⟩ := findP_has h y y0 y1
  obtain ⟨m1, m2, m3⟩ := findP_some hp
  obtain ⟨n1, n2, n3⟩ := findP_some hq
  have a := h.pos p m1
  have b := h.pos q n1
  rw [goP_find hp, goP_find hq] at e
  have pw : p.t ≤ (goP ps x).1 ∧ (goP ps x).1 < p.t + p.m := by
    rw [goP_find hp]; by_cases w : p.w = 1
    · rw [if_pos w]; simp; omega
    · rw [if_neg w]; simp; omega
  have qw : q.t ≤ (goP ps y).1 ∧ (goP ps y).1 < q.t + q.m := by
    rw [goP_find hq]; by_cases w : q.w = 1
    · rw [if_pos w]; simp; omega
    · rw [if_neg w]; simp; omega
  rw [goP_find hp] at pw
  rw [goP_find hq, ← e] at qw
  have := img_one h p q m1 n1 _ pw.1 pw.2 qw.1 qw.2
  subst this
  by_cases w : p.w = 1
  · rw [if_pos w, if_pos w] at e; simp at e; omega
  · rw [if_neg w, if_neg w] at e; simp at e; omega
/-! orbits -/
def OX (ps : List Pc) : Nat → Int → Int
  | 0, x => x
  | n + 1, x => (goP ps (OX ps n x)).1
def OW (ps : List Pc) : Nat → Int → Int
  | 0, _ => 1
  | n + 1, x => OW ps n x * (goP ps (OX ps n x)).2
def bI (b : Bool) : Int := if b then 1 else 0
def OS (ps : List Pc) (lot : List (Int × Int)) : Nat → Int → Int
  | 0, _ => 0
  | n + 1, x => OS ps lot n x + bI (inB lot (OX ps n x))
theorem OX_add (ps : List Pc) (k : Nat) (x : Int) : ∀ n, OX ps (k + n) x = OX ps n (OX ps k x)
  | 0 => rfl
  | n + 1 => by show (goP ps (OX ps (k + n) x)).1 = _; rw [OX_add ps k x n]; rfl
theorem OW_add (ps : List Pc) (k : Nat) (x : Int) : ∀ n, OW ps (k + n) x = OW ps k x * OW ps n (OX ps k x)
  | 0 => by show OW ps k x = OW ps k x * 1; rw [Int.mul_one]
  | n + 1 => by show OW ps (k + n) x * (goP ps (OX ps (k + n) x)).2 = _; rw [OX_add, OW_add ps k x n, Int.mul_assoc]; rfl
theorem OS_add (ps : List Pc) (lot : List (Int × Int)) (k : Nat) (x : Int) : ∀ n, OS ps lot (k + n) x = OS ps lot k x + OS ps lot n (OX ps k x)
  | 0 => by show OS ps lot k x = OS ps lot k x + 0; rw [Int.add_zero]
  | n + 1 => by show OS ps lot (k + n) x + bI (inB lot (OX ps (k + n) x)) = _; rw [OX_add, OS_add ps lot k x n, Int.add_assoc]; rfl
theorem OX_in {ps : List Pc} {T : Int} (h : Valid ps T) (x : Int) (h0 : 0 ≤ x) (h1 : x < T) : ∀ n, 0 ≤ OX ps n x ∧ OX ps n x < T
  | 0 => ⟨h0, h1⟩
  | n + 1 => by have := OX_in h x h0 h1 n; have := goP_in h _ this.1 this.2; exact ⟨this.1, this.2.1⟩
theorem way_mul {a b : Int} (ha : Way a) (hb : Way b) : Way (a * b) := by
  unfold Way at *
  rcases ha with rfl | rfl <;> rcases hb with rfl | rfl <;> simp
theorem OW_way {ps : List Pc} {T : Int} (h : Valid ps T) (x : Int) (h0 : 0 ≤ x) (h1 : x < T) : ∀ n, Way (OW ps n x)
  | 0 => .inl rfl
  | n + 1 => by have i := OX_in h x h0 h1 n; exact way_mul (OW_way h x h0 h1 n) (goP_in h _ i.1 i.2).2.2
theorem bI_01 (b : Bool) : bI b = 0 ∨ bI b = 1 := by cases b <;> simp [bI]
theorem OS_in (ps : List Pc) (lot : List (Int × Int)) (x : Int) : ∀ n : Nat, 0 ≤ OS ps lot n x ∧ OS ps lot n x ≤ n
  | 0 => ⟨Int.le_refl _, Int.le_refl _⟩
  | n + 1 => by
    have := OS_in ps lot x n
    have := bI_01 (inB lot (OX ps n x))
    show 0 ≤ OS ps lot n x + _ ∧ OS ps lot n x + _ ≤ _
    omega
theorem OX_inj {ps : List Pc} {T : Int} (h : Valid ps T) (x y : Int) (x0 : 0 ≤ x) (x1 : x < T) (y0 : 0 ≤ y) (y1 : y < T) : ∀ n, OX ps n x = OX ps n y → x = y
  | 0, e => e
  | n + 1, e => by
    have i := OX_in h x x0 x1 n
    have j := OX_in h y y0 y1 n
    exact OX_inj h x y x0 x1 y0 y1 n (goP_inj h _ _ i.1 i.2 j.1 j.2 e)
theorem pigeon : ∀ (n : Nat) (l : List Nat), l.Nodup → (∀ x ∈ l, x < n) → l.length ≤ n
  | 0, l, _, h => by
    cases l with
    | nil => simp
    | cons x l => have := h x List.mem_cons_self; omega
  | n + 1, l, hn, h => by
    have e1 : (l.erase n).Nodup := hn.erase n
    have e2 : ∀ x ∈ l.erase n, x < n := by
      intro x hx
      have a := (hn.mem_erase_iff).mp hx
      have b := h x a.2
      have c := a.1
      omega
    have e3 := pigeon n _ e1 e2
    have e4 : l.length ≤ (l.erase n).length + 1 := by rw [List.length_erase]; split <;> omega
    omega
theorem OX_back {ps : List Pc} {T : Int} (h : Valid ps T) (x : Int) (x0 : 0 ≤ x) (x1 : x < T) : ∃ N : Nat, 1 ≤ N ∧ N ≤ T.toNat ∧ OX ps N x = x := by
  by_cases c : ∃ N : Nat, 1 ≤ N ∧ N ≤ T.toNat ∧ OX ps N x = x
  · exact c
  · exfalso
    have hl : ((List.range (T.toNat + 1)).map fun n => (OX ps n x).toNat).Nodup := by
      refine List.pairwise_map.mpr ?_
      refine List.Pairwise.imp_of_mem ?_ (List.pairwise_lt_range)
      intro a b ha hb hab e
      have hb' := List.mem_range.mp hb
      have ia := OX_in h x x0 x1 a
      have ib := OX_in h x x0 x1 b
      have id' := OX_in h x x0 x1 (b - a)
      have e1 : OX ps a x = OX ps b x := by omega
      have e2 : OX ps b x = OX ps a (OX ps (b - a) x) := by
        rw [← OX_add]; congr 1; omega
      rw [e2] at e1
      have e3 := OX_inj h x _ x0 x1 id'.1 id'.2 a e1
      exact c ⟨b - a, by omega, by omega, e3.symm⟩
    have hb : ∀ y ∈ ((List.range (T.toNat + 1)).map fun n => (OX ps n x).toNat), y < T.toNat := by
      intro y hy
      obtain ⟨n, _, rfl⟩ := List.mem_map.mp hy
      have := OX_in h x x0 x1 n
      omega
    have := pigeon _ _ hl hb
    simp at this
    omega
theorem OX_per {ps : List Pc} {x : Int} {k : Nat} (h : OX ps k x = x) : ∀ q r : Nat, OX ps (q * k + r) x = OX ps r x
  | 0, r => by rw [Nat.zero_mul, Nat.zero_add]
  | q + 1, r => by
    have : (q + 1) * k + r = k + (q * k + r) := by rw [Nat.succ_mul]; omega
    rw [this, OX_add, h, OX_per h q r]
theorem way_sq {a : Int} (h : Way a) : a * a = 1 := by rcases h with rfl | rfl <;> rfl
theorem OW_per {ps : List Pc} {x : Int} {k : Nat} (h : OX ps k x = x) (hw : Way (OW ps k x)) : ∀ q r : Nat, OW ps (q * k + r) x = OW ps r x * (if q % 2 = 1 then OW ps k x else 1)
  | 0, r => by rw [Nat.zero_mul, Nat.zero_add]; simp
  | q + 1, r => by
    have : (q + 1) * k + r = k + (q * k + r) := by rw [Nat.succ_mul]; omega
    rw [this, OW_add, h, OW_per h hw q r]
    by_cases c : q % 2 = 1
    · rw [if_pos c, if_neg (by omega), Int.mul_comm, Int.mul_assoc, way_sq hw]
    · rw [if_neg c, if_pos (by omega), Int.mul_one, Int.mul_comm]
theorem OS_per {ps : List Pc} {lot : List (Int × Int)} {x : Int} {k : Nat} (h : OX ps k x = x) : ∀ q r : Nat, OS ps lot (q * k + r) x = q * OS ps lot k x + OS ps lot r x
  | 0, r => by rw [Nat.zero_mul, Nat.zero_add]; simp
  | q + 1, r => by
    have : (q + 1) * k + r = k + (q * k + r) := by rw [Nat.succ_mul]; omega
    rw [this, OS_add, h, OS_per h q r]
    rw [Int.natCast_add, Int.add_mul]
    simp
    omega
end Eng

end
section
set_option Elab.async false
set_option linter.all false
set_option maxRecDepth 100000
/-! M4: the facts of one spot, rows -/
namespace Eng
open PySem PySem.Spec PyProof.Rows L2
def oneF (ps : List Pc) (lot : List (Int × Int)) (n : Nat) (x : Int) : Fact := ⟨x, 1, OX ps n x, OW ps n x, n, OS ps lot n x⟩
def LotOk (lot : List (Int × Int)) : Prop := Disj lot ∧ ∀ l ∈ lot, 1 ≤ l.2
theorem ovl_one (x : Int) (l : Int × Int) (h : 1 ≤ l.2) : ovl x 1 l = bI (decide (l.1 ≤ x ∧ x < l.1 + l.2)) := by
  unfold ovl ovlo ovhi bI
  by_cases c : l.1 ≤ x ∧ x < l.1 + l.2
  · rw [decide_eq_true c]
    rw [if_neg (by omega : ¬ x < l.1)]
    by_cases d : l.1 + l.2 < x + 1
    · omega
    · rw [if_neg d, if_pos (by omega)]; simp; omega
  · rw [decide_eq_false c]
    simp
    split <;> split <;> omega
theorem spots_one : ∀ (lot : List (Int × Int)), LotOk lot → ∀ x, spotsF lot x 1 = bI (inB lot x)
  | [], _, x => rfl
  | l :: lot, ⟨h1, h2⟩, x => by
    have ih := spots_one lot ⟨(List.pairwise_cons.mp h1).2, fun k hk => h2 k (List.mem_cons_of_mem _ hk)⟩ x
    have e : spotsF (l :: lot) x 1 = ovl x 1 l + spotsF lot x 1 := rfl
    rw [e, ih, ovl_one x l (h2 l List.mem_cons_self)]
    unfold inB
    rw [List.any_cons]
    by_cases c : l.1 ≤ x ∧ x < l.1 + l.2
    · have f : (lot.any fun l => decide (l.1 ≤ x ∧ x < l.1 + l.2)) = false := by
        rw [List.any_eq_false]
        intro k hk
        have := (List.pairwise_cons.mp h1).1 k hk
        simp; omega
      rw [f, decide_eq_true c]; simp [bI]
    · rw [decide_eq_false c, Bool.false_or]; simp [bI]
theorem piece_one {ps : List Pc} {T : Int} {lot : List (Int × Int)} (h : Valid ps T) (hl : LotOk lot) (x : Int) (h0 : 0 ≤ x) (h1 : x < T) : pieceF ps lot x 1 = some (oneF ps lot 1 x) := by
  obtain ⟨p, hp⟩ := findP_has h x h0 h1
  obtain ⟨m1, m2, m3⟩ := findP_some hp
  unfold pieceF
  rw [spots_one lot hl x, hp]
  have b := bI_01 (inB lot x)
  rw [if_neg (by omega)]
  have e : (if 0 < bI (inB lot x) then (1 : Int) else 0) = bI (inB lot x) := by rcases b with q | q <;> rw [q] <;> rfl
  show cutF ⟨p.b, p.m, p.t, p.w, 1, if 0 < bI (inB lot x) then 1 else 0⟩ x 1 = _
  rw [e]
  unfold cutF oneF
  show (if x - p.b < 0 ∨ p.m < x - p.b + 1 then none else _) = _
  rw [if_neg (by omega)]
  have g := goP_find hp
  show some (Fact.mk x 1 (p.t + (if p.w = -1 then p.m - (x - p.b) - 1 else x - p.b)) p.w 1 (bI (inB lot x))) = some (Fact.mk x 1 (goP ps x).1 (1 * (goP ps x).2) ((1 : Nat) : Int) (0 + bI (inB lot x)))
  rw [g, Int.one_mul, Int.zero_add]
  rcases h.way p m1 with w | w
  · rw [w]; simp; omega
  · rw [w]; simp; omega
theorem then_one {ps : List Pc} {lot : List (Int × Int)} (k : Nat) (x : Int) : thenF (oneF ps lot k x) (oneF ps lot 1 (OX ps k x)) = some (oneF ps lot (k + 1) x) := by
  unfold thenF cutF oneF
  simp [OX, OW, OS]
/-- a stretch's fact -/
def lonF (b i n to way seen : Int) : Fact := ⟨b, i, (if to + way * (i - 1) < to then to + way * (i - 1) else to), way, n, seen⟩
theorem lon_one (b n to way seen : Int) : lonF b 1 n to way seen = ⟨b, 1, to, way, n, seen⟩ := by
  unfold lonF; simp
theorem beside_one (b i n to way seen : Int) (hi : 1 ≤ i) (hw : Way way) : besideF (lonF b i n to way seen) ⟨b + i, 1, to + way * i, way, n, seen⟩ = some (lonF b (i + 1) n to way seen) := by
  unfold besideF lonF
  rcases hw with rfl | rfl
  · simp
    omega
  · have e1 : (if to + -1 * (i - 1) < to then to + -1 * (i - 1) else to) = to - (i - 1) := by split <;> omega
    have e2 : (if to + -1 * (i + 1 - 1) < to then to + -1 * (i + 1 - 1) else to) = to - i := by rw [if_pos (by omega)]; omega
    rw [e1, e2]
    simp
    omega
theorem lon_fact {T b i n to way seen : Int} (hb : 0 ≤ b) (hi : 1 ≤ i) (hT : b + i ≤ T) (hn : 1 ≤ n) (hs : 0 ≤ seen) (hw : Way way) (h0 : 0 ≤ to) (h1 : to < T) (h2 : 0 ≤ to + way * (i - 1)) (h3 : to + way * (i - 1) < T) : isFactF T (lonF b i n to way seen) = true := by
  unfold isFactF isPart lonF
  rcases hw with rfl | rfl <;> simp <;> split <;> omega
theorem one_fact {ps : List Pc} {T : Int} {lot : List (Int × Int)} (h : Valid ps T) (n : Nat) (hn : 1 ≤ n) (x : Int) (h0 : 0 ≤ x) (h1 : x < T) : isFactF T (oneF ps lot n x) = true := by
  have a := OX_in h x h0 h1 n
  have b := OW_way h x h0 h1 n
  have c := OS_in ps lot x n
  unfold isFactF isPart oneF
  simp
  unfold Way at b
  omega
/-! rows -/
abbrev Row := Fact × (Str × List Int)
theorem showsG_app (T : Int) (ps : List Pc) (lot : List (Int × Int)) (y : Row) : ∀ (xs : List Row) (fs : List Fact), showsG T ps lot fs (xs ++ [y]) = (showsG T ps lot fs xs && rowOk T ps lot (fs ++ xs.map (·.1)) y)
  | [], fs => by simp [showsG]
  | x :: xs, fs => by
    rw [List.cons_append]
    show (rowOk T ps lot fs x && showsG T ps lot (fs ++ [x.1]) (xs ++ [y])) = _
    rw [showsG_app T ps lot y xs]
    show _ = ((rowOk T ps lot fs x && showsG T ps lot (fs ++ [x.1]) xs) && _)
    rw [Bool.and_assoc]
    simp
def Good (T : Int) (ps : List Pc) (lot : List (Int × Int)) (rows : List Row) (F : Fact) : Prop :=
  ∃ pre r, rows = pre ++ [(F, r)] ∧ showsG T ps lot [] pre = true ∧ rowOk T ps lot (pre.map (·.1)) (F, r) = true ∧ (r.1 = "then" ∨ r.1 = "beside" ∨ (r = (("piece" : Str), []) ∧ F.m = 1 ∧ F.r = 1))
theorem Good.shows {T : Int} {ps : List Pc} {lot : List (Int × Int)} {rows : List Row} {F : Fact} (h : Good T ps lot rows F) : showsG T ps lot [] rows = true := by
  obtain ⟨pre, r, rfl, h1, h2, _⟩ := h
  rw [showsG_app, h1]; simpa using h2
theorem n_pa : ¬ (("piece" : Str) = "again") := by decide +kernel
theorem n_ta : ¬ (("then" : Str) = "again") := by decide +kernel
theorem n_ba : ¬ (("beside" : Str) = "again") := by decide +kernel
theorem n_tp : ¬ (("then" : Str) = "piece") := by decide +kernel
theorem n_bp : ¬ (("beside" : Str) = "piece") := by decide +kernel
theorem n_tr : ¬ (("then" : Str) = "part") := by decide +kernel
theorem n_br : ¬ (("beside" : Str) = "part") := by decide +kernel
theorem n_bt : ¬ (("beside" : Str) = "then") := by decide +kernel
theorem rule_piece (n : Int) : isRuleF ("piece", []) n = true := by
  unfold isRuleF
  rw [show numF ("piece", []) = 0 from rfl]
  simp [n_pa]
theorem rule_two (s : Str) (hs : s = "then" ∨ s = "beside") (i j n : Int) (h : 0 ≤ i ∧ i < n ∧ 0 ≤ j ∧ j < n) : isRuleF (s, [i, j]) n = true := by
  unfold isRuleF
  rcases hs with rfl | rfl
  · rw [show numF ("then", [i, j]) = 2 from rfl]; simp [n_ta]; omega
  · rw [show numF ("beside", [i, j]) = 2 from rfl]; simp [n_ba]; omega
theorem led_then (ps : List Pc) (lot : List (Int × Int)) (fs : List Fact) (b m i j : Int) (F G : Fact) (hi : fs[i.toNat]? = some F) (hj : fs[j.toNat]? = some G) : ledF ps lot fs b m ("then", [i, j]) = thenF F G := by
  unfold ledF
  simp [hi, hj, n_tp, n_tr, n_ta]
theorem led_beside (ps : List Pc) (lot : List (Int × Int)) (fs : List Fact) (b m i j : Int) (F G : Fact) (hi : fs[i.toNat]? = some F) (hj : fs[j.toNat]? = some G) : ledF ps lot fs b m ("beside", [i, j]) = besideF F G := by
  unfold ledF
  simp [hi, hj, n_bp, n_br, n_ba, n_bt]
theorem led_same (ps : List Pc) (lot : List (Int × Int)) (fs : List Fact) (b m b' m' : Int) (r : Str × List Int) (h : r.1 = "then" ∨ r.1 = "beside") : ledF ps lot fs b m r = ledF ps lot fs b' m' r := by
  unfold ledF
  rcases h with h | h <;> rw [h] <;> simp [n_tp, n_tr, n_ta, n_bp, n_br, n_ba, n_bt]
theorem good_piece {ps : List Pc} {T : Int} {lot : List (Int × Int)} (h : Valid ps T) (hl : LotOk lot) (x : Int) (h0 : 0 ≤ x) (h1 : x < T) (rows : List Row) (hr : showsG T ps lot [] rows = true) : Good T ps lot (rows ++ [(oneF ps lot 1 x, (("piece" : Str), []))]) (oneF ps lot 1 x) := by
  refine ⟨rows, _, rfl, hr, ?_, .inr (.inr ⟨rfl, rfl, rfl⟩)⟩
  unfold rowOk
  rw [one_fact h 1 (by omega) x h0 h1, rule_piece]
  have : ledF ps lot (rows.map (·.1)) (oneF ps lot 1 x).b (oneF ps lot 1 x).m ("piece", []) = some (oneF ps lot 1 x) := by
    unfold ledF
    rw [if_pos rfl]; exact piece_one h hl x h0 h1
  simpa using this
theorem good_two {ps : List Pc} {T : Int} {lot : List (Int × Int)} (rows : List Row) (hr : showsG T ps lot [] rows = true) (s : Str) (i j : Int) (F G H : Fact) (hi0 : 0 ≤ i) (hj0 : 0 ≤ j)
    (hi : (rows.map (·.1))[i.toNat]? = some F) (hj : (rows.map (·.1))[j.toNat]? = some G) (hH : isFactF T H = true) (hs : s = "then" ∧ thenF F G = some H ∨ s = "beside" ∧ besideF F G = some H) : Good T ps lot (rows ++ [(H, (s, [i, j]))]) H := by
  have hi1 := (List.getElem?_eq_some_iff.mp hi).1
  have hj1 := (List.getElem?_eq_some_iff.mp hj).1
  have k : isRuleF (s, [i, j]) ((rows.map (·.1)).length) = true := rule_two s (by rcases hs with q | q; exact .inl q.1; exact .inr q.1) i j _ (by omega)
  refine ⟨rows, _, rfl, hr, ?_, by rcases hs with q | q; exact .inl q.1; exact .inr (.inl q.1)⟩
  unfold rowOk
  rw [hH, k]
  have : ledF ps lot (rows.map (·.1)) H.b H.m (s, [i, j]) = some H := by
    rcases hs with ⟨rfl, q⟩ | ⟨rfl, q⟩
    · rw [led_then _ _ _ _ _ _ _ _ _ hi hj]; exact q
    · rw [led_beside _ _ _ _ _ _ _ _ _ hi hj]; exact q
  simpa using this
end Eng

end
section
set_option Elab.async false
set_option linter.all false
set_option maxRecDepth 100000
/-! M5: what isn't so has no rows -/
namespace Eng
open PySem PySem.Spec PyProof.Rows L2
theorem nodup_inj {α β : Type} {f : α → β} {l : List α} (h : (l.map f).Nodup) {p q : α} (hp : p ∈ l) (hq : q ∈ l) (e : f p = f q) : p = q := by
  have hP := List.pairwise_map.mp h
  clear h
  induction l with
  | nil => cases hp
  | cons x l ih =>
    rw [List.pairwise_cons] at hP
    rcases List.mem_cons.mp hp with r | r <;> rcases List.mem_cons.mp hq with s | s
    · rw [r, s]
    · exact absurd (r ▸ e) (hP.1 q s)
    · exact absurd (s ▸ e.symm) (hP.1 p r)
    · exact ih r s hP.2
theorem dom_one {ps : List Pc} {T : Int} (h : Valid ps T) (p q : Pc) (hp : p ∈ ps) (hq : q ∈ ps) (y : Int) (a1 : p.b ≤ y) (a2 : y < p.b + p.m) (a3 : q.b ≤ y) (a4 : y < q.b + q.m) : p = q := by
  have e : ((p.b, p.m) : Int × Int) = (q.b, q.m) := Tl_one _ _ _ h.dom _ (List.mem_map.mpr ⟨p, hp, rfl⟩) _ (List.mem_map.mpr ⟨q, hq, rfl⟩) y a1 a2 a3 a4
  exact nodup_inj (Tl_nodup _ _ _ h.dom) hp hq e
theorem find_one {ps : List Pc} {T : Int} (h : Valid ps T) (p : Pc) (hp : p ∈ ps) (x : Int) (h0 : p.b ≤ x) (h1 : x < p.b + p.m) : findP ps x = some p := by
  have a := h.pos p hp
  obtain ⟨q, hq⟩ := findP_has h x (by omega) (by omega)
  obtain ⟨m1, m2, m3⟩ := findP_some hq
  rw [hq, dom_one h p q hp m1 x h0 h1 m2 m3]
theorem spots_two : ∀ (lot : List (Int × Int)), (∀ l ∈ lot, 1 ≤ l.2) → ∀ b, spotsF lot b 2 = spotsF lot b 1 + spotsF lot (b + 1) 1
  | [], _, b => rfl
  | l :: lot, h, b => by
    have ih := spots_two lot (fun k hk => h k (List.mem_cons_of_mem _ hk)) b
    have e : ∀ m c, spotsF (l :: lot) c m = ovl c m l + spotsF lot c m := fun _ _ => rfl
    rw [e, e, e, ih, ovl_one b l (h l List.mem_cons_self), ovl_one (b + 1) l (h l List.mem_cons_self)]
    have k := h l List.mem_cons_self
    have : ovl b 2 l = bI (decide (l.1 ≤ b ∧ b < l.1 + l.2)) + bI (decide (l.1 ≤ b + 1 ∧ b + 1 < l.1 + l.2)) := by
      unfold ovl ovlo ovhi
      by_cases c : l.1 ≤ b ∧ b < l.1 + l.2
      · rw [decide_eq_true c]
        by_cases d : l.1 ≤ b + 1 ∧ b + 1 < l.1 + l.2
        · rw [decide_eq_true d]; simp [bI]; split <;> split <;> omega
        · rw [decide_eq_false d]; simp [bI]; split <;> split <;> omega
      · rw [decide_eq_false c]
        by_cases d : l.1 ≤ b + 1 ∧ b + 1 < l.1 + l.2
        · rw [decide_eq_true d]; simp [bI]; split <;> split <;> omega
        · rw [decide_eq_false d]; simp [bI]; split <;> split <;> omega
    rw [this]; omega
theorem two_on {ps : List Pc} {T : Int} {lot : List (Int × Int)} (h : Valid ps T) (hl : LotOk lot) (b : Int) (G : Fact) (e : pieceF ps lot b 2 = some G) :
    OX ps 1 (b + 1) = OX ps 1 b + OW ps 1 b ∧ OW ps 1 (b + 1) = OW ps 1 b ∧ OS ps lot 1 (b + 1) = OS ps lot 1 b := by
  unfold pieceF at e
  by_cases c : spotsF lot b 2 ≠ 0 ∧ spotsF lot b 2 ≠ 2
  · rw [if_pos c] at e; cases e
  · rw [if_neg c] at e
    cases hp : findP ps b with
    | none => rw [hp] at e; cases e
    | some p =>
      rw [hp] at e
      unfold cutF at e
      simp only at e
      by_cases d : b - p.b < 0 ∨ p.m < b - p.b + 2
      · rw [if_pos d] at e; cases e
      · obtain ⟨m1, m2, m3⟩ := findP_some hp
        have hq := find_one h p m1 (b + 1) (by omega) (by omega)
        have g1 := goP_find hp
        have g2 := goP_find hq
        have s2 := spots_two lot hl.2 b
        rw [spots_one lot hl, spots_one lot hl] at s2
        have t1 := bI_01 (inB lot b)
        have t2 := bI_01 (inB lot (b + 1))
        refine ⟨?_, ?_, ?_⟩
        · show (goP ps (b + 1)).1 = (goP ps b).1 + 1 * (goP ps b).2
          rw [g1, g2]
          by_cases w : p.w = 1
          · rw [if_pos w, if_pos w]; simp; omega
          · rw [if_neg w, if_neg w]; simp; omega
        · show 1 * (goP ps (b + 1)).2 = 1 * (goP ps b).2
          rw [g1, g2]
          by_cases w : p.w = 1
          · rw [if_pos w, if_pos w]
          · rw [if_neg w, if_neg w]
        · show 0 + bI (inB lot (b + 1)) = 0 + bI (inB lot b)
          omega
/-- the longest stretch from b on -/
structure Lon (ps : List Pc) (T : Int) (lot : List (Int × Int)) (b : Int) (n : Nat) (i to way seen : Int) : Prop where
  i1 : 1 ≤ i
  le : b + i ≤ T
  all : ∀ j : Int, 0 ≤ j → j < i → oneF ps lot n (b + j) = ⟨b + j, 1, to + way * j, way, n, seen⟩
  max : b + i = T ∨ oneF ps lot n (b + i) ≠ ⟨b + i, 1, to + way * i, way, n, seen⟩
theorem good_no {ps : List Pc} {T : Int} {lot : List (Int × Int)} {pre : List Row} {r : Str × List Int} {F F' : Fact} (h3 : rowOk T ps lot (pre.map (·.1)) (F, r) = true)
    (h4 : r.1 = "then" ∨ r.1 = "beside" ∨ (r = (("piece" : Str), []) ∧ F.m = 1 ∧ F.r = 1)) (hne : F' ≠ F) (hp : F.m = 1 → F.r = 1 → isFactF T F' = true → pieceF ps lot F'.b F'.m ≠ some F') : showsG T ps lot [] (pre ++ [(F', r)]) = false := by
  rw [showsG_app]
  have : rowOk T ps lot (pre.map (·.1)) (F', r) = false := by
    cases q : rowOk T ps lot (pre.map (·.1)) (F', r) with
    | false => rfl
    | true =>
      exfalso
      unfold rowOk at q h3
      simp only [Bool.and_eq_true, decide_eq_true_eq] at q h3
      have same : (r.1 = "then" ∨ r.1 = "beside") → False := by
        intro k
        have a := q.2.2
        rw [led_same ps lot _ F'.b F'.m F.b F.m r k, h3.2.2] at a
        injection a with a
        exact hne a.symm
      rcases h4 with k | k | ⟨k1, k2, k3⟩
      · exact same (.inl k)
      · exact same (.inr k)
      · have a := q.2.2
        rw [k1] at a
        unfold ledF at a
        rw [if_pos rfl] at a
        exact hp k2 k3 q.1 a
  rw [List.nil_append, this, Bool.and_false]
def wrongF (F : Fact) (k : Nat) (e : Int) : Fact := match k with
  | 0 => { F with b := F.b + e }
  | 1 => { F with m := F.m + e }
  | 2 => { F with t := F.t + e }
  | 3 => { F with w := F.w + e }
  | 4 => { F with r := F.r + e }
  | _ => { F with s := F.s + e }
def longF (F : Fact) : Fact := { F with m := F.m + 1, t := F.t - (if F.w = -1 then 1 else 0) }
theorem lon_no_two {ps : List Pc} {T : Int} {lot : List (Int × Int)} {b i to way seen : Int} {n : Nat} (h : Valid ps T) (hl : LotOk lot) (hL : Lon ps T lot b n i to way seen) (hi : i = 1) (hn : n = 1) (F : Fact) (hb : F.b = b) (hm : F.m = 2) (hf : isFactF T F = true) : pieceF ps lot F.b F.m ≠ some F := by
  intro e
  rw [hb, hm] at e
  subst hn hi
  obtain ⟨a1, a2, a3⟩ := two_on h hl b F e
  have z := hL.all 0 (by omega) (by omega)
  unfold oneF at z
  simp at z
  unfold isFactF isPart at hf
  simp at hf
  rcases hL.max with q | q
  · omega
  · refine q ?_
    unfold oneF
    rw [a1, a2, a3, z.1, z.2.1, z.2.2, Int.mul_one]
theorem wrong_ne (F : Fact) (k : Nat) (e : Int) (he : e = 1 ∨ e = -1) : wrongF F k e ≠ F := by
  intro q
  unfold wrongF at q
  split at q
  · have := congrArg Fact.b q; simp at this; omega
  · have := congrArg Fact.m q; simp at this; omega
  · have := congrArg Fact.t q; simp at this; omega
  · have := congrArg Fact.w q; simp at this; omega
  · have := congrArg Fact.r q; simp at this; omega
  · have := congrArg Fact.s q; simp at this; omega
theorem long_ne (F : Fact) : longF F ≠ F := by
  intro q
  have := congrArg Fact.m q
  unfold longF at this
  simp at this
  omega
theorem lon_is_one {ps : List Pc} {T : Int} {lot : List (Int × Int)} {b to way seen : Int} {n : Nat} (hL : Lon ps T lot b n 1 to way seen) : lonF b 1 n to way seen = oneF ps lot n b := by
  have := hL.all 0 (by omega) (by omega)
  rw [lon_one]
  simpa using this.symm
theorem wrong_no {ps : List Pc} {T : Int} {lot : List (Int × Int)} {b i to way seen : Int} {n : Nat} (h : Valid ps T) (hl : LotOk lot) (h0 : 0 ≤ b) (hL : Lon ps T lot b n i to way seen) (k : Nat) (e : Int) (he : e = 1 ∨ e = -1)
    (hi : (lonF b i n to way seen).m = 1) (hn : (lonF b i n to way seen).r = 1) (hf : isFactF T (wrongF (lonF b i n to way seen) k e) = true) : pieceF ps lot (wrongF (lonF b i n to way seen) k e).b (wrongF (lonF b i n to way seen) k e).m ≠ some (wrongF (lonF b i n to way seen) k e) := by
  have hi' : i = 1 := hi
  have hn' : n = 1 := by have : (n : Int) = 1 := hn; omega
  subst hi' hn'
  have bT : b < T := by have := hL.le; omega
  have key : lonF b 1 (1 : Nat) to way seen = oneF ps lot 1 b := lon_is_one hL
  have same : ∀ F' : Fact, F' ≠ oneF ps lot 1 b → F'.b = b → F'.m = 1 → pieceF ps lot F'.b F'.m ≠ some F' := by
    intro F' h1 h2 h3 h4
    rw [h2, h3, piece_one h hl b h0 bT] at h4
    injection h4 with h4
    exact h1 h4.symm
  have ne := wrong_ne (lonF b 1 (1 : Nat) to way seen) k e he
  match k with
  | 0 =>
    intro q
    rw [key] at q hf
    have hf1 : 0 ≤ b + e ∧ b + e < T := by
      unfold isFactF isPart wrongF oneF at hf
      simp at hf
      omega
    have q' : pieceF ps lot (b + e) 1 = some (wrongF (oneF ps lot 1 b) 0 e) := q
    rw [piece_one h hl (b + e) hf1.1 hf1.2] at q'
    injection q' with q'
    have t := congrArg Fact.t q'
    have t' : OX ps 1 (b + e) = OX ps 1 b := t
    have := OX_inj h _ _ hf1.1 hf1.2 h0 bT 1 t'
    omega
  | 1 =>
    rcases he with rfl | rfl
    · exact lon_no_two h hl hL rfl rfl _ rfl rfl hf
    · unfold isFactF isPart wrongF lonF at hf
      simp at hf
  | 2 => exact same _ (by rw [← key]; exact ne) rfl rfl
  | 3 => exact same _ (by rw [← key]; exact ne) rfl rfl
  | 4 => exact same _ (by rw [← key]; exact ne) rfl rfl
  | _ + 5 => exact same _ (by rw [← key]; exact ne) rfl rfl
theorem long_no {ps : List Pc} {T : Int} {lot : List (Int × Int)} {b i to way seen : Int} {n : Nat} (h : Valid ps T) (hl : LotOk lot) (hL : Lon ps T lot b n i to way seen)
    (hi : (lonF b i n to way seen).m = 1) (hn : (lonF b i n to way seen).r = 1) (hf : isFactF T (longF (lonF b i n to way seen)) = true) : pieceF ps lot (longF (lonF b i n to way seen)).b (longF (lonF b i n to way seen)).m ≠ some (longF (lonF b i n to way seen)) := by
  have hi' : i = 1 := hi
  have hn' : n = 1 := by have : (n : Int) = 1 := hn; omega
  subst hi' hn'
  exact lon_no_two h hl hL rfl rfl _ rfl rfl hf
end Eng

end
section
set_option Elab.async false
set_option linter.all false
set_option maxRecDepth 100000
/-! M6: papers: what is led is a fact; rows of pieces cut -/
namespace Eng
open PySem PySem.Spec PyProof.Rows L2
structure FactP (T : Int) (F : Fact) : Prop where
  b0 : 0 ≤ F.b
  m1 : 1 ≤ F.m
  bT : F.b + F.m ≤ T
  t0 : 0 ≤ F.t
  tT : F.t + F.m ≤ T
  w : Way F.w
  r1 : 1 ≤ F.r
  s0 : 0 ≤ F.s
theorem factP (T : Int) (F : Fact) : isFactF T F = true ↔ FactP T F := by
  unfold isFactF isPart
  simp
  constructor
  · rintro ⟨⟨a, b, c⟩, ⟨d, e, f⟩, g, h, i⟩; exact ⟨a, b, c, d, f, g, h, i⟩
  · rintro ⟨a, b, c, d, f, g, h, i⟩; exact ⟨⟨a, b, c⟩, ⟨d, b, f⟩, g, h, i⟩
theorem cut_facts {T : Int} {F G : Fact} {b m : Int} (h : FactP T F) (hm : 1 ≤ m) (e : cutF F b m = some G) : FactP T G ∧ G.r = F.r ∧ G.s = F.s ∧ G.b = b ∧ G.m = m := by
  unfold cutF at e
  split at e
  · cases e
  · rename_i c
    injection e with e
    subst e
    obtain ⟨a1, a2, a3, a4, a5, a6, a7, a8⟩ := h
    refine ⟨⟨?_, hm, ?_, ?_, ?_, a6, a7, a8⟩, rfl, rfl, rfl, rfl⟩ <;> simp <;> (try split) <;> omega
theorem then_facts {T : Int} {F G H : Fact} (h : FactP T F) (g : FactP T G) (e : thenF F G = some H) : FactP T H ∧ H.r = F.r + G.r ∧ H.s = F.s + G.s := by
  unfold thenF at e
  split at e
  · rename_i u hu
    injection e with e
    subst e
    obtain ⟨h1, h2, h3, h4, h5⟩ := cut_facts g h.m1 hu
    refine ⟨⟨h.b0, h.m1, h.bT, h1.t0, by have := h1.tT; rw [h5] at this; exact this, way_mul h.w h1.w, ?_, ?_⟩, by rw [h2], by rw [h3]⟩
    · show 1 ≤ F.r + u.r
      have := h.r1; have := h1.r1; omega
    · show 0 ≤ F.s + u.s
      have := h.s0; have := h1.s0; omega
  · cases e
theorem again_facts {T : Int} {F H : Fact} {n : Int} (h : FactP T F) (hn : 2 ≤ n) (e : againF F n = some H) : FactP T H ∧ H.r = n * F.r ∧ H.s = n * F.s := by
  unfold againF at e
  split at e
  · cases e
  · rename_i c
    injection e with e
    subst e
    obtain ⟨a1, a2, a3, a4, a5, a6, a7, a8⟩ := h
    have r1 : 1 ≤ n * F.r := by
      have : 0 < n * F.r := Int.mul_pos (by omega) (by omega)
      omega
    have s0 : 0 ≤ n * F.s := Int.mul_nonneg (by omega) a8
    have habs : absI (F.t - F.b) = if F.t - F.b < 0 then -(F.t - F.b) else F.t - F.b := rfl
    have e1 : n * (F.t - F.b) = (n - 1) * (F.t - F.b) + (F.t - F.b) := by rw [Int.sub_mul]; omega
    have key : ∀ X : Int, X = (n - 1) * (F.t - F.b) → (n - 1) * absI (F.t - F.b) = if F.t - F.b < 0 then -X else X := by
      intro X hX
      rw [habs]
      split
      · rw [Int.mul_neg, hX]
      · rw [hX]
    have hk := key _ rfl
    have sg : ∀ X : Int, X = (n - 1) * (F.t - F.b) → (F.t - F.b < 0 → X ≤ F.t - F.b) ∧ (0 ≤ F.t - F.b → F.t - F.b ≤ X) := by
      intro X hX
      constructor
      · intro q
        have : (n - 1) * (F.t - F.b) ≤ 1 * (F.t - F.b) := Int.mul_le_mul_of_nonpos_right (by omega) (by omega)
        omega
      · intro q
        have : 1 * (F.t - F.b) ≤ (n - 1) * (F.t - F.b) := Int.mul_le_mul_of_nonneg_right (by omega) q
        omega
    have hs := sg _ rfl
    rw [hk] at c ⊢
    rw [e1]
    generalize (n - 1) * (F.t - F.b) = X at *
    refine ⟨⟨?_, ?_, ?_, ?_, ?_, .inl rfl, r1, s0⟩, rfl, rfl⟩ <;> simp <;> (try split) <;> (try split) <;> (try omega)
theorem beside_facts {T : Int} {F G H : Fact} (h : FactP T F) (g : FactP T G) (e : besideF F G = some H) : FactP T H ∧ H.r = F.r ∧ H.s = F.s := by
  unfold besideF at e
  split at e
  · cases e
  · rename_i c1
    split at e
    · cases e
    · rename_i c2
      injection e with e
      subst e
      obtain ⟨a1, a2, a3, a4, a5, a6, a7, a8⟩ := h
      obtain ⟨b1, b2, b3, b4, b5, b6, b7, b8⟩ := g
      unfold Way at a6
      have c3 : G.b = F.b + F.m := by omega
      refine ⟨⟨a1, ?_, ?_, ?_, ?_, a6, a7, a8⟩, rfl, rfl⟩ <;> simp <;> (try split) <;> omega
end Eng

end
section
set_option Elab.async false
set_option linter.all false
set_option maxRecDepth 100000
/-! M7: a piece cut at the ends of a lot -/
namespace Eng
open PySem PySem.Spec PyProof.Rows L2
theorem ovl_far (a c : Int) (hac : a < c) : ∀ (lot : List (Int × Int)), (∀ l ∈ lot, c ≤ l.1) → spotsF lot a (c - a) = 0
  | [], _ => rfl
  | l :: lot, h => by
    have e : spotsF (l :: lot) a (c - a) = ovl a (c - a) l + spotsF lot a (c - a) := rfl
    rw [e, ovl_far a c hac lot fun k hk => h k (List.mem_cons_of_mem _ hk)]
    have := h l List.mem_cons_self
    unfold ovl ovlo ovhi
    split <;> split <;> (try split) <;> (try split) <;> omega
theorem spots_cut (a c : Int) (hac : a < c) : ∀ (lot : List (Int × Int)), LotOk lot → (∀ l ∈ lot, (l.1 ≤ a ∨ c ≤ l.1) ∧ (l.1 + l.2 ≤ a ∨ c ≤ l.1 + l.2)) → spotsF lot a (c - a) = 0 ∨ spotsF lot a (c - a) = c - a
  | [], _, _ => .inl rfl
  | l :: lot, ⟨h1, h2⟩, h => by
    have e : spotsF (l :: lot) a (c - a) = ovl a (c - a) l + spotsF lot a (c - a) := rfl
    rw [e]
    have hl := h l List.mem_cons_self
    have h1l := h2 l List.mem_cons_self
    obtain ⟨hd, ht⟩ := List.pairwise_cons.mp h1
    by_cases q : l.1 ≤ a ∧ c ≤ l.1 + l.2
    · have z : spotsF lot a (c - a) = 0 := ovl_far a c hac lot fun k hk => by have := hd k hk; omega
      right
      rw [z]
      unfold ovl ovlo ovhi
      split <;> split <;> (try split) <;> (try split) <;> omega
    · have z : ovl a (c - a) l = 0 := by
        unfold ovl ovlo ovhi
        split <;> split <;> (try split) <;> (try split) <;> omega
      rw [z, Int.zero_add]
      exact spots_cut a c hac lot ⟨ht, fun k hk => h2 k (List.mem_cons_of_mem _ hk)⟩ fun k hk => h k (List.mem_cons_of_mem _ hk)
theorem piece_cut {ps : List Pc} {T : Int} {lot : List (Int × Int)} (hv : Valid ps T) (hl : LotOk lot) (p : Pc) (hp : p ∈ ps) (a c : Int) (h0 : p.b ≤ a) (hac : a < c) (h1 : c ≤ p.b + p.m)
    (h : ∀ l ∈ lot, (l.1 ≤ a ∨ c ≤ l.1) ∧ (l.1 + l.2 ≤ a ∨ c ≤ l.1 + l.2)) : ∃ F, pieceF ps lot a (c - a) = some F ∧ FactP T F ∧ F.r = 1 ∧ F.s ≤ 1 ∧ F.b = a ∧ F.m = c - a := by
  have hs := spots_cut a c hac lot hl h
  have hf := find_one hv p hp a h0 (by omega)
  have hpos := hv.pos p hp
  have hw := hv.way p hp
  have hF : ∀ s : Int, 0 ≤ s → FactP T ⟨p.b, p.m, p.t, p.w, 1, s⟩ := fun s hs => ⟨hpos.2.1, hpos.1, hpos.2.2.1, hpos.2.2.2.1, hpos.2.2.2.2, hw, by simp, hs⟩
  have hb : (0 : Int) ≤ (if 0 < spotsF lot a (c - a) then 1 else 0) ∧ (if 0 < spotsF lot a (c - a) then (1 : Int) else 0) ≤ 1 := by split <;> omega
  have ex : ∃ F, cutF ⟨p.b, p.m, p.t, p.w, 1, if 0 < spotsF lot a (c - a) then 1 else 0⟩ a (c - a) = some F := by
    unfold cutF
    rw [if_neg (by simp; omega)]
    exact ⟨_, rfl⟩
  obtain ⟨F, hF2⟩ := ex
  obtain ⟨g1, g2, g3, g4, g5⟩ := cut_facts (hF _ hb.1) (by omega) hF2
  refine ⟨F, ?_, g1, g2, by rw [g3]; exact hb.2, g4, g5⟩
  unfold pieceF
  rw [if_neg (by omega), hf]
  exact hF2
/-! papers -/
def RowB (n : Nat) (x : Row) : Prop := x.1.b.natAbs ≤ 10 ^ 60 + n ∧ x.1.m.natAbs ≤ 10 ^ 60 + n ∧ x.1.t.natAbs ≤ 10 ^ 60 + n ∧ x.1.w.natAbs ≤ 10 ^ 60 + n ∧ x.1.r.natAbs ≤ 10 ^ 60 + n ∧ x.1.s.natAbs ≤ 10 ^ 60 + n ∧ (∀ k ∈ x.2.2, k.natAbs ≤ 10 ^ 60 + n) ∧ x.2.2.length ≤ 2 ∧ PyData.strOk x.2.1 = true
structure PaperOk (T : Int) (ps : List Pc) (lot : List (Int × Int)) (top : Int) (rows : List Row) : Prop where
  shows : showsG T ps lot [] rows = true
  row : ∀ x ∈ rows, RowB 0 x
  seen : ∀ x ∈ rows, x.1.s ≤ x.1.r ∧ x.1.r ≤ top
  fact : ∀ x ∈ rows, FactP T x.1
theorem showsG_fact {T : Int} {ps : List Pc} {lot : List (Int × Int)} : ∀ (rows : List Row) (fs : List Fact), showsG T ps lot fs rows = true → ∀ x ∈ rows, FactP T x.1
  | y :: rows, fs, h, x, hx => by
    have h' : (rowOk T ps lot fs y && showsG T ps lot (fs ++ [y.1]) rows) = true := h
    rw [Bool.and_eq_true] at h'
    rcases List.mem_cons.mp hx with q | q
    · have := h'.1
      unfold rowOk at this
      rw [Bool.and_eq_true] at this
      rw [q]
      exact (factP T _).mp this.1
    · exact showsG_fact rows _ h'.2 x q
theorem paper_snoc {T : Int} {ps : List Pc} {lot : List (Int × Int)} {top : Int} {rows : List Row} (h : PaperOk T ps lot top rows) (F : Fact) (r : Str × List Int) (hF : FactP T F) (hr : isRuleF r rows.length = true) (hl : ledF ps lot (rows.map (·.1)) F.b F.m r = some F)
    (hT : T ≤ 10 ^ 60) (htop : top ≤ 10 ^ 60) (hs : F.s ≤ F.r) (ht : F.r ≤ top) (hk : ∀ k ∈ r.2, k.natAbs ≤ 10 ^ 60) (hk2 : r.2.length ≤ 2) (hw : PyData.strOk r.1 = true) : PaperOk T ps lot top (rows ++ [(F, r)]) := by
  refine ⟨?_, ?_, ?_, ?_⟩
  · rw [showsG_app, h.shows]
    unfold rowOk
    rw [(factP T F).mpr hF, List.nil_append, List.length_map, hr, hl]
    simp
  · intro x hx
    rcases List.mem_append.mp hx with q | q
    · exact h.row x q
    · rw [List.mem_singleton.mp q]
      obtain ⟨a1, a2, a3, a4, a5, a6, a7, a8⟩ := hF
      unfold Way at a6
      refine ⟨?_, ?_, ?_, ?_, ?_, ?_, fun k hk' => by have := hk k hk'; omega, hk2, hw⟩ <;> simp only <;> omega
  · intro x hx
    rcases List.mem_append.mp hx with q | q
    · exact h.seen x q
    · rw [List.mem_singleton.mp q]; exact ⟨hs, ht⟩
  · intro x hx
    rcases List.mem_append.mp hx with q | q
    · exact h.fact x q
    · rw [List.mem_singleton.mp q]; exact hF
theorem RowB.sm {n : Nat} {x : Row} (h : RowB n x) (hn : n ≤ 10 ^ 60) : SmR x := by
  obtain ⟨a, b, c, d, e, f, g, _, i⟩ := h
  have k : ∀ j : Int, j.natAbs ≤ 10 ^ 60 + n → Sm j := fun j hj => Nat.lt_of_lt_of_le (show j.natAbs < 2 ^ 250 by omega) (Nat.pow_le_pow_right (by decide) (by decide))
  exact ⟨k _ a, k _ b, k _ c, k _ d, k _ e, k _ f, fun j hj => k j (g j hj), i⟩
theorem RowB.mono {n m : Nat} {x : Row} (h : RowB n x) (hn : n ≤ m) : RowB m x := by
  obtain ⟨a, b, c, d, e, f, g, i, j⟩ := h
  exact ⟨by omega, by omega, by omega, by omega, by omega, by omega, fun k hk => by have := g k hk; omega, i, j⟩
end Eng

end
section
set_option Elab.async false
set_option linter.all false
set_option maxRecDepth 100000
/-! S5: drawn papers -/
namespace Eng
open PySem PySem.Spec PyProof.Rows L2
def scaleF (by' : Int) (F : Fact) : Fact := ⟨F.b * by', F.m * by', F.t * by', F.w, F.r, F.s⟩
def sp__law_long : DSpec := fun ws S Q _ => ∃ (p : Pen) (r : List OV), ws = [.cel 0] ∧ S = penO p :: r ∧ Few p 20000 ∧
  ∀ (ps : List Pc) (T : Int) (p' : Pen), Valid ps T → 1 ≤ T → T ≤ 1000000000000000000 → ps.length ≤ 20 → p'.turn ≤ p.turn + 20000 → Q (.d (.lst (ps.map encP))) (penO p' :: r)
def sp__law_again : DSpec := fun ws S Q _ => ∃ (F : Fact) (n : Int), ws = [.d (encF F), .d (.int n)] ∧ SmF F ∧ Sm n ∧ Q (.d (encO (againF F n))) S
def sp__law_near : DSpec := fun ws S Q _ => ∃ (p : Pen) (r : List OV) (m : Int), ws = [.cel 0, .d (.int m)] ∧ S = penO p :: r ∧ 1 ≤ m ∧ m < 10 ^ 59 ∧ Few p 300 ∧
  ∀ (v : Int) (p' : Pen), 2 ≤ v → v ≤ 10 ^ 60 → p'.turn ≤ p.turn + 300 → Q (.d (.int v)) (penO p' :: r)
def sp__law_begun : DSpec := fun ws S Q _ => ∃ (ps : List Pc) (T : Int) (lot : List (Int × Int)), ws = [.d (.lst (ps.map encP)), .d (.lst (lot.map encS))] ∧ Valid ps T ∧ LotOk lot ∧ 1 ≤ T ∧ T ≤ 10 ^ 50 ∧ ps.length ≤ 100 ∧ lot.length ≤ 10 ∧
  ∀ rows : List Row, PaperOk T ps lot 1 rows → rows ≠ [] → rows.length ≤ 3000 → Q (.d (.lst (rows.map encRow))) S
def sp__law_one_more : DSpec := fun ws S Q _ => ∃ (p : Pen) (r : List OV) (T : Int) (ps : List Pc) (lot : List (Int × Int)) (rows : List Row) (top : Int), ws = [.cel 0, .d (.lst (rows.map encRow)), .d (.int top)] ∧ S = penO p :: r ∧ PaperOk T ps lot top rows ∧ rows ≠ [] ∧ rows.length ≤ 5000 ∧
  T ≤ 10 ^ 50 ∧ 1 ≤ top ∧ top ≤ 10 ^ 50 ∧ Few p 2000 ∧
  ∀ (new : List Row) (p' : Pen), PaperOk T ps lot top (rows ++ new) → new.length ≤ 1 → p'.turn ≤ p.turn + 2000 → Q (.d (.lst (new.map encRow))) (penO p' :: r)
def sp__law_paper : DSpec := fun ws S Q _ => ∃ (p : Pen) (r : List OV) (ps : List Pc) (T : Int) (lot : List (Int × Int)) (n top : Int), ws = [.cel 0, .d (.lst (ps.map encP)), .d (.lst (lot.map encS)), .d (.int n), .d (.int top)] ∧ S = penO p :: r ∧ Valid ps T ∧ LotOk lot ∧ 1 ≤ T ∧ T ≤ 10 ^ 50 ∧
  ps.length ≤ 100 ∧ lot.length ≤ 10 ∧ 0 ≤ n ∧ n ≤ 20 ∧ 1 ≤ top ∧ top ≤ 10 ^ 50 ∧ Few p 50000 ∧
  ∀ (rows : List Row) (p' : Pen), PaperOk T ps lot top rows → rows ≠ [] → rows.length ≤ 4000 → p'.turn ≤ p.turn + 50000 → Q (.d (.lst (rows.map encRow))) (penO p' :: r)
def sp__law_scaled : DSpec := fun ws S Q _ => ∃ (F : Fact) (by' : Int), ws = [.d (encF F), .d (.int by')] ∧ Sm F.b ∧ Sm F.m ∧ Sm F.t ∧ Sm by' ∧ Q (.d (encF (scaleF by' F))) S
def sp__law_nudged : DSpec := fun ws S Q _ => ∃ (p : Pen) (r : List OV) (n : Nat) (rows : List Row), ws = [.cel 0, .d (.lst (rows.map encRow))] ∧ S = penO p :: r ∧ rows ≠ [] ∧ rows.length ≤ 5000 ∧ (∀ x ∈ rows, RowB n x) ∧ n ≤ 100 ∧ Few p 10 ∧
  ∀ (rows' : List Row) (p' : Pen), rows'.length = rows.length → (∀ x ∈ rows', RowB (n + 1) x) → p'.turn ≤ p.turn + 10 → Q (.d (.lst (rows'.map encRow))) (penO p' :: r)
end Eng

end
section
set_option Elab.async false
set_option linter.all false
set_option maxRecDepth 100000
namespace Eng
open PySem PySem.Spec PyProof.Rows L2
def w__law_long : WS := (wSeq (wPar2 1 2 (wConsO (wLst wNil) (wCons (wCall sp__law_draw (wCons (wVar 0) (wCons (wC (.int 4)) wNil))) wNil)))
  (wSeq (wFor (iR1 (wCons (wOp2 fAdd (wC (.int 2)) (wCall sp__law_draw (wCons (wVar 0) (wCons (wC (.int 4)) wNil)))) wNil)) (gN 3)
  (wSeq (wSet 4 (wOp2 fIx (wLst (wCons (wC (.int 17)) (wCons (wC (.int 17)) (wCons (wC (.int 16)) (wCons (wC (.int 12)) (wCons (wC (.int 5)) (wCons (wC (.int 1)) wNil))))))) (wCall sp__law_draw (wCons (wVar 0) (wCons (wC (.int 6)) wNil)))))
  (wSeq (wEx (wMut fAppend (wVar 1) (wCons (wOp2 fAdd (wC (.int 1)) (wCall sp__law_great (wCons (wVar 0) (wCons (wVar 4) wNil)))) wNil)))
  wNx)))
  (wSeq (wIfS (wAsT (wOp2 (fEq false) (wVar 2) (wC (.int 0))))
  (wSeq (wSetO 1 (wComp [3] (iData (wVar 1)) (gN 3) wYes (wOp2 fAdd (wOp2 fIx (wVar 1) (wC (.int 0))) (wCall sp__law_draw (wCons (wVar 0) (wCons (wC (.int 5)) wNil))))))
  wNx)
  wNx)
  (wSeq (wIfS (wAsT (wOp2 (fEq false) (wVar 2) (wC (.int 2))))
  (wSeq (wSetO 1 (wComp [3] (iR1 (wCons (wOp2 fAdd (wC (.int 6)) (wCall sp__law_draw (wCons (wVar 0) (wCons (wC (.int 8)) wNil)))) wNil)) (gN 3) wYes (wOp2 fAdd (wC (.int 1)) (wCall sp__law_great (wCons (wVar 0) (wCons (wOp2 fAdd (wC (.int 1)) (wCall sp__law_draw (wCons (wVar 0) (wCons (wC (.int 5)) wNil)))) wNil))))))
  wNx)
  wNx)
  (wSeq (wIfS (wAsT (wOp2 (fEq false) (wVar 2) (wC (.int 1))))
  (wSeq (wPar2 5 6 (wCons (wOp2 fAdd (wC (.int 1)) (wCall sp__law_draw (wCons (wVar 0) (wCons (wC (.int 9)) wNil)))) (wCons (wOp2 fAdd (wC (.int 1)) (wCall sp__law_draw (wCons (wVar 0) (wCons (wC (.int 9)) wNil)))) wNil)))
  (wSeq (wFor (iR1 (wCons (wOp2 fAdd (wC (.int 40)) (wCall sp__law_draw (wCons (wVar 0) (wCons (wC (.int 40)) wNil)))) wNil)) (gN 3)
  (wSeq (wPar2 5 6 (wCons (wVar 6) (wCons (wOp2 fAdd (wVar 5) (wVar 6)) wNil)))
  wNx))
  (wSeq (wSetO 1 (wSl (wOp2 fAdd (wLst (wCons (wVar 5) (wCons (wVar 6) wNil))) (wVar 1)) none (some (wCallB fLen (wCons (wVar 1) wNil)))))
  wNx)))
  wNx)
  (wSeq (wRt (wCall sp__law_pieces (wCons (wVar 0) (wCons (wTake 1) wNil))))
  wNx))))))
def N__law_long : List Str := ["pen", "lengths", "kind", "k", "figures", "one", "two"]
def w__law_begun : WS := (wSeq (wPar2 2 3 (wCons (wSumL (wComp [10, 5] (iData (wVar 1)) (gT 2 (gCons (gN 10) (gCons (gN 5) gNil))) wYes (wLst (wCons (wVar 10) (wCons (wOp2 fAdd (wVar 10) (wVar 5)) wNil))))) (wConsO (wLst wNil) wNil)))
  (wSeq (wFor (iData (wVar 0)) (gT 4 (gCons (gN 4) (gCons (gN 5) (gCons (gN 6) (gCons (gN 7) gNil)))))
  (wSeq (wSet 8 (wCallB fSortI (wCons (wOp2 fAdd (wLst (wCons (wVar 4) (wCons (wOp2 fAdd (wVar 4) (wVar 5)) wNil))) (wComp [11] (iData (wVar 2)) (gN 11) (wChainT pLt pLt (wVar 4) (wVar 11) (wOp2 fAdd (wVar 4) (wVar 5))) (wVar 11))) wNil)))
  (wSeq (wFor (iR1 (wCons (wOp2 fSub (wCallB fLen (wCons (wVar 8) wNil)) (wC (.int 1))) wNil)) (gN 9)
  (wSeq (wIfS (wAsT (wOp2 (fCmp pLt) (wOp2 fIx (wVar 8) (wVar 9)) (wOp2 fIx (wVar 8) (wOp2 fAdd (wVar 9) (wC (.int 1))))))
  (wSeq (wEx (wMut fAppend (wVar 3) (wCons (wTup (wCons (wCall sp__law_piece (wCons (wVar 0) (wCons (wVar 1) (wCons (wOp2 fIx (wVar 8) (wVar 9)) (wCons (wOp2 fSub (wOp2 fIx (wVar 8) (wOp2 fAdd (wVar 9) (wC (.int 1)))) (wOp2 fIx (wVar 8) (wVar 9))) wNil))))) (wCons (wTup (wCons (wC (.str "piece")) wNil)) wNil))) wNil)))
  wNx)
  wNx)
  wNx))
  wNx)))
  (wSeq (wRt (wTake 3))
  wNx)))
def N__law_begun : List Str := ["pieces", "lot", "ends", "found", "start", "many", "to", "way", "cuts", "k", "begin", "end"]
def w__law_near : WS := (wSeq (wRt (wCallB fMax2 (wCons (wC (.int 2)) (wCons (wCall sp__law_pick (wCons (wVar 0) (wCons (wLst (wCons (wC (.int 2)) (wCons (wC (.int 3)) (wCons (wVar 1) (wCons (wOp2 fSub (wVar 1) (wC (.int 1))) (wCons (wOp2 fAdd (wC (.int 2)) (wCall sp__law_below (wCons (wVar 0) (wCons (wCallB fMax2 (wCons (wC (.int 1)) (wCons (wOp2 fSub (wVar 1) (wC (.int 1))) wNil))) wNil)))) wNil)))))) wNil))) wNil))))
  wNx)
def N__law_near : List Str := ["pen", "most"]
def w__law_again : WS := (wSeq (wSet 2 (wOp2 fSub (wOp2 fIx (wVar 0) (wC (.int 2))) (wOp2 fIx (wVar 0) (wC (.int 0)))))
  (wSeq (wSet 3 (wOp2 fSub (wOp2 fIx (wVar 0) (wC (.int 1))) (wOp2 fMul (wCallB fAbs (wCons (wVar 2) wNil)) (wOp2 fSub (wVar 1) (wC (.int 1))))))
  (wSeq (wIfS (wTOr (wAsT (wOp2 (fEq false) (wOp2 fIx (wVar 0) (wC (.int 3))) (wOp1 fNeg (wC (.int 1))))) (wAsT (wOp2 (fCmp pLt) (wVar 3) (wC (.int 1)))))
  (wSeq (wRt (wC .non))
  wNx)
  wNx)
  (wSeq (wSet 4 (wIf (wAsT (wOp2 (fCmp pGt) (wVar 2) (wC (.int 0)))) (wOp2 fIx (wVar 0) (wC (.int 0))) (wOp2 fSub (wOp2 fAdd (wOp2 fIx (wVar 0) (wC (.int 0))) (wOp2 fIx (wVar 0) (wC (.int 1)))) (wVar 3))))
  (wSeq (wRt (wTup (wCons (wVar 4) (wCons (wVar 3) (wCons (wOp2 fAdd (wVar 4) (wOp2 fMul (wVar 2) (wVar 1))) (wCons (wC (.int 1)) (wCons (wOp2 fMul (wOp2 fIx (wVar 0) (wC (.int 4))) (wVar 1)) (wCons (wOp2 fMul (wOp2 fIx (wVar 0) (wC (.int 5))) (wVar 1)) wNil))))))))
  wNx)))))
def N__law_again : List Str := ["fact", "times", "shift", "left", "begin"]
def w__law_one_more : WS := (wSeq (wSet 3 (wComp [17] (iData (wVar 1)) (gN 17) wYes (wOp2 fIx (wVar 17) (wC (.int 0)))))
  (wSeq (wPar3 4 5 6 (wCons (wCall sp__law_draw (wCons (wVar 0) (wCons (wCallB fLen (wCons (wVar 3) wNil)) wNil))) (wCons (wCall sp__law_draw (wCons (wVar 0) (wCons (wCallB fLen (wCons (wVar 3) wNil)) wNil))) (wCons (wCall sp__law_draw (wCons (wVar 0) (wCons (wC (.int 8)) wNil))) wNil))))
  (wSeq (wPar2 7 8 (wCons (wOp2 fIx (wVar 3) (wVar 4)) (wCons (wOp2 fIx (wVar 3) (wVar 5)) wNil)))
  (wSeq (wIfS (wAsT (wOp2 (fCmp pLt) (wVar 6) (wC (.int 3))))
  (wSeq (wSet 9 (wComp [18] (iR1 (wCons (wCallB fLen (wCons (wVar 3) wNil)) wNil)) (gN 18) (wAsT (wOp2 (fIsN true) (wCall sp__law_then (wCons (wVar 7) (wCons (wOp2 fIx (wVar 3) (wVar 18)) wNil))) (wC .non))) (wVar 18)))
  (wSeq (wSet 5 (wCall sp__law_pick (wCons (wVar 0) (wCons (wOp2 fAdd (wVar 9) (wLst (wCons (wVar 5) wNil))) wNil))))
  (wSeq (wSet 10 (wTup (wCons (wCall sp__law_then (wCons (wVar 7) (wCons (wOp2 fIx (wVar 3) (wVar 5)) wNil))) (wCons (wTup (wCons (wC (.str "then")) (wCons (wVar 4) (wCons (wVar 5) wNil)))) wNil))))
  wNx)))
  (wSeq (wIfS (wAsT (wOp2 (fEq false) (wVar 6) (wC (.int 3))))
  (wSeq (wSet 11 (wOp2 fAdd (wOp2 fIx (wVar 7) (wC (.int 0))) (wCall sp__law_below (wCons (wVar 0) (wCons (wOp2 fIx (wVar 7) (wC (.int 1))) wNil)))))
  (wSeq (wSet 10 (wTup (wCons (wCall sp__law_cut (wCons (wVar 7) (wCons (wVar 11) (wCons (wOp2 fAdd (wC (.int 1)) (wCall sp__law_below (wCons (wVar 0) (wCons (wOp2 fSub (wOp2 fAdd (wOp2 fIx (wVar 7) (wC (.int 0))) (wOp2 fIx (wVar 7) (wC (.int 1)))) (wVar 11)) wNil)))) wNil)))) (wCons (wTup (wCons (wC (.str "part")) (wCons (wVar 4) wNil))) wNil))))
  wNx))
  (wSeq (wIfS (wAsT (wOp2 (fEq false) (wVar 6) (wC (.int 4))))
  (wSeq (wSet 12 (wComp [18] (iR1 (wCons (wCallB fLen (wCons (wVar 3) wNil)) wNil)) (gN 18) (wChainT pLe pLt (wOp2 fIx (wOp2 fIx (wVar 3) (wVar 18)) (wC (.int 0))) (wOp2 fIx (wVar 7) (wC (.int 2))) (wOp2 fAdd (wOp2 fIx (wOp2 fIx (wVar 3) (wVar 18)) (wC (.int 0))) (wOp2 fIx (wOp2 fIx (wVar 3) (wVar 18)) (wC (.int 1))))) (wVar 18)))
  (wSeq (wSet 9 (wOp2 fIx (wVar 3) (wCall sp__law_pick (wCons (wVar 0) (wCons (wOp2 fAdd (wVar 12) (wLst (wCons (wVar 5) wNil))) wNil)))))
  (wSeq (wPar2 13 14 (wCons (wCallB fMax2 (wCons (wOp2 fIx (wVar 7) (wC (.int 2))) (wCons (wOp2 fIx (wVar 9) (wC (.int 0))) wNil))) (wCons (wCallB fMin2 (wCons (wOp2 fAdd (wOp2 fIx (wVar 7) (wC (.int 2))) (wOp2 fIx (wVar 7) (wC (.int 1)))) (wCons (wOp2 fAdd (wOp2 fIx (wVar 9) (wC (.int 0))) (wOp2 fIx (wVar 9) (wC (.int 1)))) wNil))) wNil)))
  (wSeq (wSet 15 (wIf (wAsT (wOp2 (fEq false) (wOp2 fIx (wVar 7) (wC (.int 3))) (wC (.int 1)))) (wOp2 fSub (wVar 13) (wOp2 fIx (wVar 7) (wC (.int 2)))) (wOp2 fSub (wOp2 fAdd (wOp2 fIx (wVar 7) (wC (.int 2))) (wOp2 fIx (wVar 7) (wC (.int 1)))) (wVar 14))))
  (wSeq (wSet 10 (wTup (wCons (wIf (wAsT (wOp2 (fCmp pLt) (wVar 13) (wVar 14))) (wCall sp__law_cut (wCons (wVar 7) (wCons (wOp2 fAdd (wOp2 fIx (wVar 7) (wC (.int 0))) (wVar 15)) (wCons (wOp2 fSub (wVar 14) (wVar 13)) wNil)))) (wC .non)) (wCons (wTup (wCons (wC (.str "part")) (wCons (wVar 4) wNil))) wNil))))
  wNx)))))
  (wSeq (wIfS (wAsT (wOp2 (fCmp pLt) (wVar 6) (wC (.int 7))))
  (wSeq (wSet 16 (wCall sp__law_near (wCons (wVar 0) (wCons (wOp2 fAdd (wC (.int 1)) (wOp2 fDiv (wOp2 fSub (wOp2 fIx (wVar 7) (wC (.int 1))) (wC (.int 1))) (wCallB fMax2 (wCons (wC (.int 1)) (wCons (wCallB fAbs (wCons (wOp2 fSub (wOp2 fIx (wVar 7) (wC (.int 2))) (wOp2 fIx (wVar 7) (wC (.int 0)))) wNil)) wNil))))) wNil))))
  (wSeq (wSet 16 (wCallB fMax2 (wCons (wC (.int 2)) (wCons (wCallB fMin2 (wCons (wVar 16) (wCons (wOp2 fDiv (wVar 2) (wOp2 fIx (wVar 7) (wC (.int 4)))) wNil))) wNil))))
  (wSeq (wSet 10 (wTup (wCons (wCall sp__law_again (wCons (wVar 7) (wCons (wVar 16) wNil))) (wCons (wTup (wCons (wC (.str "again")) (wCons (wVar 4) (wCons (wVar 16) wNil)))) wNil))))
  wNx)))
  (wSeq (wSet 9 (wComp [18] (iR1 (wCons (wCallB fLen (wCons (wVar 3) wNil)) wNil)) (gN 18) (wAsT (wOp2 (fIsN true) (wCall sp__law_beside (wCons (wVar 7) (wCons (wOp2 fIx (wVar 3) (wVar 18)) wNil))) (wC .non))) (wVar 18)))
  (wSeq (wSet 5 (wCall sp__law_pick (wCons (wVar 0) (wCons (wOp2 fAdd (wVar 9) (wLst (wCons (wVar 5) wNil))) wNil))))
  (wSeq (wSet 10 (wTup (wCons (wCall sp__law_beside (wCons (wVar 7) (wCons (wOp2 fIx (wVar 3) (wVar 5)) wNil))) (wCons (wTup (wCons (wC (.str "beside")) (wCons (wVar 4) (wCons (wVar 5) wNil)))) wNil))))
  wNx))))
  wNx))
  wNx))
  wNx))
  (wSeq (wRt (wIf (wTAnd (wAsT (wOp2 (fIsN true) (wOp2 fIx (wVar 10) (wC (.int 0))) (wC .non))) (wAsT (wOp2 (fCmp pLe) (wOp2 fIx (wOp2 fIx (wVar 10) (wC (.int 0))) (wC (.int 4))) (wVar 2)))) (wLst (wCons (wVar 10) wNil)) (wLst wNil)))
  wNx)))))
def N__law_one_more : List Str := ["pen", "rows", "top", "facts", "j", "k", "kind", "one", "other", "on", "found", "begin", "reach", "low", "high", "ahead", "times", "row", "n"]
def w__law_paper : WS := (wSeq (wSet 5 (wCall sp__law_begun (wCons (wVar 1) (wCons (wVar 2) wNil))))
  (wSeq (wFor (iR1 (wCons (wVar 3) wNil)) (gN 6)
  (wSeq (wSet 5 (wOp2 fAdd (wVar 5) (wCall sp__law_one_more (wCons (wVar 0) (wCons (wVar 5) (wCons (wVar 4) wNil))))))
  wNx))
  (wSeq (wRt (wVar 5))
  wNx)))
def N__law_paper : List Str := ["pen", "pieces", "lot", "many", "top", "rows", "k"]
def w__law_nudged : WS := (wSeq (wPar2 2 3 (wCons (wCall sp__law_draw (wCons (wVar 0) (wCons (wCallB fLen (wCons (wVar 1) wNil)) wNil))) (wCons (wCall sp__law_pick (wCons (wVar 0) (wCons (wLst (wCons (wC (.int 1)) (wCons (wOp1 fNeg (wC (.int 1))) wNil))) wNil))) wNil)))
  (wSeq (wAsg (wOp2 fIx (wVar 1) (wVar 2)) (gT 2 (gCons (gN 4) (gCons (gN 5) gNil))))
  (wSeq (wSet 6 (wCall sp__law_draw (wCons (wVar 0) (wCons (wOp2 fAdd (wC (.int 6)) (wCallB fLen (wCons (wVar 5) wNil))) wNil))))
  (wSeq (wIfS (wAsT (wOp2 (fCmp pLt) (wVar 6) (wC (.int 6))))
  (wSeq (wSet 4 (wOp2 fAdd (wOp2 fAdd (wSl (wVar 4) none (some (wVar 6))) (wTup (wCons (wOp2 fAdd (wOp2 fIx (wVar 4) (wVar 6)) (wVar 3)) wNil))) (wSl (wVar 4) (some (wOp2 fAdd (wVar 6) (wC (.int 1)))) none)))
  wNx)
  (wSeq (wIfS (wAsT (wOp2 (fCmp pGt) (wVar 6) (wC (.int 6))))
  (wSeq (wSet 5 (wOp2 fAdd (wOp2 fAdd (wSl (wVar 5) none (some (wOp2 fSub (wVar 6) (wC (.int 6))))) (wTup (wCons (wOp2 fAdd (wOp2 fIx (wVar 5) (wOp2 fSub (wVar 6) (wC (.int 6)))) (wVar 3)) wNil))) (wSl (wVar 5) (some (wOp2 fSub (wVar 6) (wC (.int 5)))) none)))
  wNx)
  wNx)
  wNx))
  (wSeq (wRt (wOp2 fAdd (wOp2 fAdd (wSl (wVar 1) none (some (wVar 2))) (wLst (wCons (wTup (wCons (wVar 4) (wCons (wVar 5) wNil))) wNil))) (wSl (wVar 1) (some (wOp2 fAdd (wVar 2) (wC (.int 1)))) none)))
  wNx)))))
def N__law_nudged : List Str := ["pen", "rows", "at", "by", "fact", "rule", "k"]
def w__law_scaled : WS := (wSeq (wRt (wOp2 fAdd (wTup (wCons (wOp2 fMul (wOp2 fIx (wVar 0) (wC (.int 0))) (wVar 1)) (wCons (wOp2 fMul (wOp2 fIx (wVar 0) (wC (.int 1))) (wVar 1)) (wCons (wOp2 fMul (wOp2 fIx (wVar 0) (wC (.int 2))) (wVar 1)) wNil)))) (wSl (wVar 0) (some (wC (.int 3))) none)))
  wNx)
def N__law_scaled : List Str := ["fact", "by"]
end Eng

end
section
set_option Elab.async false
set_option linter.all false
set_option maxRecDepth 100000
/-! L4a: again, near, scaled -/
namespace Eng
open PySem PySem.Spec PyProof.Rows L2
variable {S : List OV} {Q : W → List OV → Prop} {R : Exn → List OV → Prop}
theorem sl__law_again : ∀ ws S Qd Rd, sp__law_again ws S Qd Rd → w__law_again (z0 N__law_again ws S) (ed0 S.length Qd) (fun x z => Rd x (z.S.take S.length)) := by
  rintro _ S Q R ⟨F, n, rfl, ⟨s1, s2, s3, s4, s5, s6⟩, sn, h⟩
  unfold w__law_again
  rw [tup_encF F]
  refine seqI fun K hK => ?_
  simp [N__law_again]
  apply hK
  refine seqI fun K1 hK1 => ?_
  simp
  refine ⟨cmul_sm (sm_abs s3 s1) (sm_sub1 sn), hK1 _ ?_⟩
  refine seqI fun K2 hK2 => ?_
  unfold againF absI at h
  rw [Int.mul_comm (n - 1)] at h
  by_cases h1 : F.w = -1
  · simp [h1, encO] at h ⊢; exact h
  by_cases h2 : F.m - (if F.t - F.b < 0 then -(F.t - F.b) else F.t - F.b) * (n - 1) < 1
  · simp only [h1, h2, false_or, if_true, encO] at h
    simp [h1, h2]; exact h
  simp only [h1, h2, or_self, if_false, encO, encF] at h
  simp [h1, h2]
  apply hK2
  refine seqI fun K4 hK4 => ?_
  rw [Int.mul_comm n (F.t - F.b), Int.mul_comm n F.r, Int.mul_comm n F.s] at h
  have fin : ∀ b : Int, b = (if F.t - F.b < 0 then F.b + (F.m - (F.m - (if F.t - F.b < 0 then -(F.t - F.b) else F.t - F.b) * (n - 1))) else F.b) → K4 ⟨[.d (.tup [.int F.b, .int F.m, .int F.t, .int F.w, .int F.r, .int F.s]), .d (.int n), .d (.int (F.t - F.b)), .d (.int (F.m - (if F.t - F.b < 0 then -(F.t - F.b) else F.t - F.b) * (n - 1))), .d (.int b)], S⟩ := by
    intro b hb
    apply hK4
    simp
    rw [← hb] at h
    exact ⟨cmul_sm (sm_sub s3 s1) (sm_big sn), cmul_sm (sm_big s5) (sm_big sn), cmul_sm (sm_big s6) (sm_big sn), h⟩
  by_cases h3 : F.b < F.t
  · have q := fin F.b (by rw [if_neg (by omega)])
    simp [h3]
    exact q
  · simp [h3]
    refine fin _ ?_
    by_cases h4 : F.t - F.b < 0
    · rw [if_pos h4]; omega
    · rw [if_neg h4, if_neg h4]
      have : F.t - F.b = 0 := by omega
      rw [this]; omega
theorem c__law_again {F : Fact} {n : Int} (h1 : SmF F) (h2 : Sm n) (h : Q (.d (encO (againF F n))) S) : sp__law_again [.d (encF F), .d (.int n)] S Q R := ⟨F, n, rfl, h1, h2, h⟩
theorem sl__law_scaled : ∀ ws S Qd Rd, sp__law_scaled ws S Qd Rd → w__law_scaled (z0 N__law_scaled ws S) (ed0 S.length Qd) (fun x z => Rd x (z.S.take S.length)) := by
  rintro _ S Q R ⟨F, n, rfl, h1, h2, h3, h4, h⟩
  unfold w__law_scaled
  rw [tup_encF F]
  simp [N__law_scaled, cut6]
  exact ⟨cmul_sm (sm_big h1) (sm_big h4), cmul_sm (sm_big h2) (sm_big h4), cmul_sm (sm_big h3) (sm_big h4), h⟩
theorem c__law_scaled {F : Fact} {n : Int} (h1 : Sm F.b) (h2 : Sm F.m) (h3 : Sm F.t) (h4 : Sm n) (h : Q (.d (encF (scaleF n F))) S) : sp__law_scaled [.d (encF F), .d (.int n)] S Q R := ⟨F, n, rfl, h1, h2, h3, h4, h⟩
end Eng

end
section
set_option Elab.async false
set_option linter.all false
set_option maxRecDepth 100000
/-! L4n: again, near, scaled -/
namespace Eng
open PySem PySem.Spec PyProof.Rows L2
variable {S : List OV} {Q : W → List OV → Prop} {R : Exn → List OV → Prop}
theorem sl__law_near : ∀ ws S Qd Rd, sp__law_near ws S Qd Rd → w__law_near (z0 N__law_near ws S) (ed0 S.length Qd) (fun x z => Rd x (z.S.take S.length)) := by
  rintro _ _ Q R ⟨p, r, m, rfl, rfl, h1, h2, h3, h⟩
  unfold w__law_near
  simp -implicitDefEqProofs [N__law_near]
  refine c__law_below (p := p) (by split <;> omega) (by split <;> omega) (by unfold Few at *; omega) fun v p1 v0 v1 t1 => ?_
  simp
  refine ⟨by rw [sizeLine_eq]; omega, ?_⟩
  refine c__law_pick (p := p1) (xs := [.int 2, .int 3, .int m, .int (m - 1), .int (2 + v)]) (by simp) (by simp) (by unfold Few at *; omega) fun x p2 hx t2 => ?_
  have hv : v ≤ m := by split at v1 <;> omega
  obtain ⟨e, rfl, he⟩ : ∃ e : Int, x = .int e ∧ e ≤ m + 3 := by
    clear h2 h3 h
    simp at hx
    rcases hx with rfl | rfl | rfl | rfl | rfl
    · exact ⟨_, rfl, by omega⟩
    · exact ⟨_, rfl, by omega⟩
    · exact ⟨_, rfl, by omega⟩
    · exact ⟨_, rfl, by omega⟩
    · exact ⟨_, rfl, by omega⟩
  simp
  have b1 : ∀ e : Int, e ≤ m + 3 → 2 ≤ (if 2 < e then e else 2) ∧ (if 2 < e then e else 2) ≤ m + 3 := by
    intro e he
    clear h2 h3 h
    split <;> (constructor <;> omega)
  have b2 : ∀ e : Int, e ≤ m + 3 → e ≤ 10 ^ 60 := by
    intro e he
    clear h
    omega
  exact h _ p2 (b1 e he).1 (b2 _ (b1 e he).2) (by clear h; omega)
theorem c__law_near {p : Pen} {r : List OV} {m : Int} (h1 : 1 ≤ m) (h2 : m < 10 ^ 59) (h3 : Few p 300) (h : ∀ (v : Int) (p' : Pen), 2 ≤ v → v ≤ 10 ^ 60 → p'.turn ≤ p.turn + 300 → Q (.d (.int v)) (penO p' :: r)) :
    sp__law_near [.cel 0, .d (.int m)] (penO p :: r) Q R := ⟨p, r, m, rfl, rfl, h1, h2, h3, h⟩
end Eng

end
section
set_option Elab.async false
set_option linter.all false
set_option maxRecDepth 100000
/-! L4b: one row more -/
namespace Eng
open PySem PySem.Spec PyProof.Rows L2
variable {S : List OV} {Q : W → List OV → Prop} {R : Exn → List OV → Prop}
theorem n_ra : ¬ (("part" : Str) = "again") := by decide +kernel
theorem n_rp : ¬ (("part" : Str) = "piece") := by decide +kernel
theorem n_ap : ¬ (("again" : Str) = "piece") := by decide +kernel
theorem n_ar : ¬ (("again" : Str) = "part") := by decide +kernel
theorem rule_part (i n : Int) (h : 0 ≤ i ∧ i < n) : isRuleF ("part", [i]) n = true := by
  unfold isRuleF
  rw [show numF ("part", [i]) = 1 from rfl]; simp [n_ra]; omega
theorem rule_again (i t n : Int) (h : 0 ≤ i ∧ i < n) (ht : 2 ≤ t) : isRuleF ("again", [i, t]) n = true := by
  unfold isRuleF
  rw [show numF ("again", [i, t]) = 1 from rfl]; simp; omega
theorem led_part (ps : List Pc) (lot : List (Int × Int)) (fs : List Fact) (b m i : Int) (F : Fact) (hi : fs[i.toNat]? = some F) : ledF ps lot fs b m ("part", [i]) = cutF F b m := by
  unfold ledF
  simp [hi, n_rp]
theorem led_again (ps : List Pc) (lot : List (Int × Int)) (fs : List Fact) (b m i t : Int) (F : Fact) (hi : fs[i.toNat]? = some F) : ledF ps lot fs b m ("again", [i, t]) = againF F t := by
  unfold ledF
  simp [hi, n_ap, n_ar]
theorem fact_at (rows : List Row) (fs : List Fact) (hfs : fs = rows.map (·.1)) (j : Int) (h0 : 0 ≤ j) (h1 : j < rows.length) : ∃ x ∈ rows, atI (fs.map encF) j = some (encF x.1) ∧ fs[j.toNat]? = some x.1 := by
  subst hfs
  obtain ⟨x, _, hx, e⟩ := at_in rows j h0 h1
  refine ⟨x, hx, ?_, by rw [List.getElem?_map, e]; rfl⟩
  have := atI_n ((rows.map (·.1)).map encF) j.toNat
  rw [Int.toNat_of_nonneg h0] at this
  rw [this, List.getElem?_map, List.getElem?_map, e]
  rfl
theorem upto_in {n : Nat} {i : Int} (h : i ∈ upto n) : 0 ≤ i ∧ i < n := by
  unfold upto at h
  obtain ⟨j, hj, rfl⟩ := List.mem_map.mp h
  have := List.mem_range.mp hj
  constructor
  · exact Int.natCast_nonneg j
  · show (j : Int) < n
    omega
theorem pick_in {n : Nat} {c : Int → Bool} {k : Int} {x : D} (k0 : 0 ≤ k) (k1 : k < n) (h : x ∈ List.map D.int (List.filter c (upto n)) ++ [D.int k]) : ∃ i : Int, x = .int i ∧ 0 ≤ i ∧ i < n := by
  rcases List.mem_append.mp h with q | q
  · obtain ⟨i, hi, rfl⟩ := List.mem_map.mp q
    have := upto_in (List.mem_filter.mp hi).1
    exact ⟨i, rfl, this⟩
  · rw [List.mem_singleton.mp q]; exact ⟨k, rfl, k0, k1⟩
theorem filt_len {n : Nat} {c : Int → Bool} : (List.filter c (upto n)).length ≤ n := by
  have := List.length_filter_le c (upto n)
  rw [upto_len] at this; exact this
def FinP (T : Int) (ps : List Pc) (lot : List (Int × Int)) (top : Int) (rows : List Row) (p : Pen) (r : List OV) (K : Z → Prop) : Prop :=
  ∀ (o : Option Fact) (ru : Str × List Int) (p' : Pen) (a3 a4 a5 a6 a7 a8 a9 a11 a12 a13 a14 a15 a16 a17 a18 : SV), (∀ G, o = some G → G.r ≤ top → PaperOk T ps lot top (rows ++ [(G, ru)])) → p'.turn ≤ p.turn + 2000 →
      K ⟨[.cel 0, .d (.lst (rows.map encRow)), .d (.int top), a3, a4, a5, a6, a7, a8, a9, .d (.tup [encO o, encR ru]), a11, a12, a13, a14, a15, a16, a17, a18], penO p' :: r⟩
theorem FinP.next {T : Int} {ps : List Pc} {lot : List (Int × Int)} {top : Int} {rows : List Row} {p : Pen} {r : List OV} {K K' : Z → Prop} (h : FinP T ps lot top rows p r K) (hk : ∀ z, K z → K' z) : FinP T ps lot top rows p r K' :=
  fun o ru p' a3 a4 a5 a6 a7 a8 a9 a11 a12 a13 a14 a15 a16 a17 a18 h1 h2 => hk _ (h o ru p' a3 a4 a5 a6 a7 a8 a9 a11 a12 a13 a14 a15 a16 a17 a18 h1 h2)
theorem sl__law_one_more : ∀ ws S Qd Rd, sp__law_one_more ws S Qd Rd → w__law_one_more (z0 N__law_one_more ws S) (ed0 S.length Qd) (fun x z => Rd x (z.S.take S.length)) := by
  rintro _ _ Q R ⟨p, r, T, ps, lot, rows, top, rfl, rfl, hp, hne, hl, hT, ht1, ht2, hf, h⟩
  unfold w__law_one_more
  refine seqI fun K hK => ?_
  simp [N__law_one_more, -x_seq]
  refine cLoop_map encRow (fun x => encF x.1) trivial rows (fun x hm KT h1 => ?_) (by rw [sizeLine_eq]; omega) ?_
  · simp [encRow]
    exact h1 _ rfl
  simp [-x_seq]
  apply hK
  refine seqI fun K1 hK1 => ?_
  simp [-x_seq, -x_par3, ↓y_par3]
  have ef : List.map (fun x : Row => encF x.1) rows = (rows.map (·.1)).map encF := by rw [List.map_map]; rfl
  obtain ⟨fs, hfs⟩ : ∃ fs : List Fact, fs = rows.map (·.1) := ⟨_, rfl⟩
  rw [ef, ← hfs]
  have hfl : fs.length = rows.length := by rw [hfs, List.length_map]
  have hlen : 1 ≤ rows.length := by
    cases rows with
    | nil => exact absurd rfl hne
    | cons a l => simp
  refine c__law_draw (p := p) (by omega) (by omega) (by unfold Few at *; omega) fun j p1 j0 j1 t1 => ?_
  simp [-x_seq, -x_par3, ↓y_par3]
  refine c__law_draw (p := p1) (by omega) (by omega) (by unfold Few at *; omega) fun k p2 k0 k1 t2 => ?_
  simp [-x_seq, -x_par3, ↓y_par3]
  refine c__law_draw (p := p2) (by omega) (by omega) (by unfold Few at *; omega) fun kind p3 kd0 kd1 t3 => ?_
  simp [-x_seq, -x_par3, ↓y_par3]
  apply hK1
  refine seqI fun K2 hK2 => ?_
  obtain ⟨xj, hxj, atj, gj⟩ := fact_at rows fs hfs j j0 (by omega)
  obtain ⟨xk, hxk, atk, gk⟩ := fact_at rows fs hfs k k0 (by omega)
  simp [-x_seq, -x_par2, ↓y_par2, atj, atk]
  apply hK2
  have Fj := hp.fact _ hxj
  have sj := hp.seen _ hxj
  generalize xj.1 = F at *
  refine seqI fun K3 hK3 => ?_
  have fin : FinP T ps lot top rows p r K3 := by
    intro o ru p' a3 a4 a5 a6 a7 a8 a9 a11 a12 a13 a14 a15 a16 a17 a18 ho ht
    apply hK3
    cases o with
    | none =>
      simp [encO]
      exact h [] p' (by simpa using hp) (by simp) ht
    | some G =>
      simp [encO, tup_encF G]
      by_cases c : G.r ≤ top
      · simp [c]
        refine ⟨by rw [sizeLine_eq]; omega, ?_⟩
        have := h [(G, ru)] p' (ho G rfl c) (by simp) ht
        simpa [encRow, tup_encF G] using this
      · simp [c]
        exact h [] p' (by simpa using hp) (by simp) ht
  by_cases q1 : kind < 3
  · simp [-x_seq, q1]
    refine seqI fun K4 hK4 => ?_
    simp [-x_seq]
    refine ⟨by omega, ?_⟩
    rw [rng_ints]
    refine cLoop_pure D.int D.int (fun i => (thenF F ((fs[i.toNat]?).getD F)).isSome) trivial (upto fs.length) [] (fun i hi KT KF g1 g2 => ?_) (by rw [upto_len, sizeLine_eq]; simp; omega) ?_
    · obtain ⟨i0, i1⟩ := upto_in hi
      obtain ⟨xi, hxi, ati, gi⟩ := fact_at rows fs hfs i i0 (by omega)
      simp [ati]
      refine c__law_then Fj.w (hp.fact _ hxi).w ?_
      simp only [gi, Option.getD_some] at g1 g2
      cases e : thenF F xi.1 with
      | none =>
        rw [e] at g2
        simp [encO]
        exact g2 rfl _ rfl
      | some G =>
        rw [e] at g1
        simp [encO, tup_encF G]
        exact g1 rfl _ rfl
    simp [-x_seq]
    apply hK4
    refine seqI fun K5 hK5 => ?_
    simp [-x_seq]
    refine ⟨by rw [sizeLine_eq]; omega, ?_⟩
    refine ⟨by have := filt_len (n := fs.length) (c := fun i => (thenF F (fs[i.toNat]?.getD F)).isSome); rw [sizeLine_eq]; omega, ?_⟩
    refine c__law_pick (p := p3) (xs := List.map D.int (List.filter (fun i => (thenF F (fs[i.toNat]?.getD F)).isSome) (upto fs.length)) ++ [D.int k]) (by simp) (by have := filt_len (n := fs.length) (c := fun i => (thenF F (fs[i.toNat]?.getD F)).isSome); simp; omega) (by unfold Few at *; omega) fun y p4 hy t4 => ?_
    obtain ⟨k', rfl, k'0, k'1⟩ := pick_in k0 (by omega) hy
    obtain ⟨x2, hx2, at2, g2⟩ := fact_at rows fs hfs k' k'0 (by omega)
    simp [-x_seq]
    apply hK5
    refine seqI fun K6 hK6 => ?_
    simp [-x_seq, at2]
    refine c__law_then Fj.w (hp.fact _ hx2).w ?_
    simp [-x_seq]
    apply hK6
    simp
    refine fin (thenF F x2.1) ("then", [j, k']) p4 _ _ _ _ _ _ _ _ _ _ _ _ _ _ _ (fun G hG hr => ?_) (by omega)
    obtain ⟨w1, w2, w3⟩ := then_facts Fj (hp.fact _ hx2) hG
    have s2 := hp.seen _ hx2
    refine paper_snoc hp G _ w1 (rule_two _ (.inl rfl) j k' _ ⟨j0, by omega, k'0, by omega⟩) (by rw [← hfs, led_then _ _ _ _ _ _ _ _ _ gj g2]; exact hG) (by omega) (by omega) (by omega) hr (fun i hi => ?_) (by simp) (show PyData.strOk "then" = true by decide +kernel)
    simp at hi
    omega
  simp [-x_seq, q1]
  refine seqI fun K4 hK4 => ?_
  have fin4 : FinP T ps lot top rows p r K4 := fin.next fun z q => hK4 z (by simp; exact q)
  by_cases q2 : kind = 3
  · simp [-x_seq, q2]
    refine seqI fun K5 hK5 => ?_
    rw [tup_encF F]
    simp [-x_seq]
    have := Fj.m1; have := Fj.bT; have := Fj.b0
    refine c__law_below (p := p3) (by omega) (by omega) (by unfold Few at *; omega) fun v p4 v0 v1 t4 => ?_
    simp [-x_seq]
    apply hK5
    refine seqI fun K6 hK6 => ?_
    simp [-x_seq]
    refine c__law_below (p := p4) (by omega) (by omega) (by unfold Few at *; omega) fun u p5 u0 u1 t5 => ?_
    simp [-x_seq]
    rw [← tup_encF F]
    refine c__law_cut Fj.w ?_
    simp [-x_seq]
    apply hK6
    simp
    refine fin4 (cutF F (F.b + v) (1 + u)) ("part", [j]) p5 _ _ _ _ _ _ _ _ _ _ _ _ _ _ _ (fun G hG hr => ?_) (by omega)
    obtain ⟨w1, w2, w3, w4, w5⟩ := cut_facts Fj (by omega) hG
    refine paper_snoc hp G _ w1 (rule_part j _ ⟨j0, by omega⟩) (by rw [← hfs, led_part _ _ _ _ _ _ _ gj, w4, w5]; exact hG) (by omega) (by omega) (by omega) hr (fun i hi => ?_) (by simp) (show PyData.strOk "part" = true by decide +kernel)
    simp at hi
    omega
  simp [-x_seq, q2]
  refine seqI fun K5 hK5 => ?_
  have fin5 : FinP T ps lot top rows p r K5 := fin4.next fun z q => hK5 z (by simp; exact q)
  by_cases q3 : kind = 4
  · simp [-x_seq, q3]
    refine seqI fun K6 hK6 => ?_
    rw [tup_encF F]
    simp [-x_seq]
    refine ⟨by omega, ?_⟩
    rw [rng_ints]
    refine cLoop_pure D.int D.int (fun i => decide (((fs[i.toNat]?).getD F).b ≤ F.t ∧ F.t < ((fs[i.toNat]?).getD F).b + ((fs[i.toNat]?).getD F).m)) trivial (upto fs.length) [] (fun i hi KT KF g1 g2 => ?_) (by rw [upto_len, sizeLine_eq]; simp; omega) ?_
    · obtain ⟨i0, i1⟩ := upto_in hi
      obtain ⟨xi, hxi, ati, gi⟩ := fact_at rows fs hfs i i0 (by omega)
      simp only [gi, Option.getD_some] at g1 g2
      simp [ati, tup_encF xi.1]
      by_cases c1 : xi.1.b ≤ F.t
      · by_cases c2 : F.t < xi.1.b + xi.1.m
        · simp [c1, c2]
          exact g1 (by simp [c1, c2]) _ rfl
        · simp [c1, c2]
          exact g2 (by simp [c1, c2]) _ rfl
      · simp [c1]
        exact g2 (by simp [c1]) _ rfl
    simp [-x_seq]
    apply hK6
    refine seqI fun K7 hK7 => ?_
    simp [-x_seq]
    have flr := filt_len (n := fs.length) (c := fun i => decide ((fs[i.toNat]?.getD F).b ≤ F.t) && decide (F.t < (fs[i.toNat]?.getD F).b + (fs[i.toNat]?.getD F).m))
    refine ⟨by rw [sizeLine_eq]; omega, by rw [sizeLine_eq]; omega, ?_⟩
    refine c__law_pick (p := p3) (xs := List.map D.int (List.filter (fun i => decide ((fs[i.toNat]?.getD F).b ≤ F.t) && decide (F.t < (fs[i.toNat]?.getD F).b + (fs[i.toNat]?.getD F).m)) (upto fs.length)) ++ [D.int k]) (by simp) (by simp; omega) (by unfold Few at *; omega) fun y p4 hy t4 => ?_
    obtain ⟨k', rfl, k'0, k'1⟩ := pick_in k0 (by omega) hy
    obtain ⟨x2, hx2, at2, g2⟩ := fact_at rows fs hfs k' k'0 (by omega)
    simp [-x_seq, at2]
    apply hK7
    have Fx := hp.fact _ hx2
    generalize x2.1 = G2 at *
    refine seqI fun K8 hK8 => ?_
    rw [tup_encF G2]
    simp [-x_seq, -x_par2, ↓y_par2]
    apply hK8
    generalize hlow : (if F.t < G2.b then G2.b else F.t) = low
    generalize hhigh : (if G2.b + G2.m < F.t + F.m then G2.b + G2.m else F.t + F.m) = high
    refine seqI fun K9 hK9 => ?_
    have tail : ∀ ah : Int, K9 ⟨[.cel 0, .d (.lst (rows.map encRow)), .d (.int top), .d (.lst (fs.map encF)), .d (.int j), .d (.int k), .d (.int 4), .d (.tup [.int F.b, .int F.m, .int F.t, .int F.w, .int F.r, .int F.s]), .d (encF xk.1), .d (.tup [.int G2.b, .int G2.m, .int G2.t, .int G2.w, .int G2.r, .int G2.s]), .none, .none,
        .d (.lst (List.map D.int (List.filter (fun i => decide ((fs[i.toNat]?.getD F).b ≤ F.t) && decide (F.t < (fs[i.toNat]?.getD F).b + (fs[i.toNat]?.getD F).m)) (upto fs.length)))), .d (.int low), .d (.int high), .d (.int ah), .none, .none, .none], penO p4 :: r⟩ := by
      intro ah
      apply hK9
      refine seqI fun K10 hK10 => ?_
      by_cases c : low < high
      · simp [-x_seq, c]
        rw [← tup_encF F]
        refine c__law_cut Fj.w ?_
        simp [-x_seq]
        apply hK10
        simp
        refine fin5 (cutF F (F.b + ah) (high - low)) ("part", [j]) p4 _ _ _ _ _ _ _ _ _ _ _ _ _ _ _ (fun G hG hr => ?_) (by omega)
        obtain ⟨w1, w2, w3, w4, w5⟩ := cut_facts Fj (by omega) hG
        refine paper_snoc hp G _ w1 (rule_part j _ ⟨j0, by omega⟩) (by rw [← hfs, led_part _ _ _ _ _ _ _ gj, w4, w5]; exact hG) (by omega) (by omega) (by omega) hr (fun i hi => ?_) (by simp) (show PyData.strOk "part" = true by decide +kernel)
        simp at hi
        omega
      · simp [-x_seq, c]
        apply hK10
        simp
        exact fin5 none ("part", [j]) p4 _ _ _ _ _ _ _ _ _ _ _ _ _ _ _ (fun G hG => by cases hG) (by omega)
    by_cases cw : F.w = 1
    · have q := tail (low - F.t)
      simp [-x_seq, cw] at q ⊢
      exact q
    · have q := tail (F.t + F.m - high)
      simp [-x_seq, cw] at q ⊢
      exact q
  simp [-x_seq, q3]
  refine seqI fun K6 hK6 => ?_
  have fin6 : FinP T ps lot top rows p r K6 := fin5.next fun z q => hK6 z (by simp; exact q)
  by_cases q4 : kind < 7
  · simp [-x_seq, q4]
    refine seqI fun K7 hK7 => ?_
    rw [tup_encF F]
    simp [-x_seq]
    obtain ⟨ab, hab⟩ : ∃ ab : Int, ab = (if 1 < if F.t - F.b < 0 then -(F.t - F.b) else F.t - F.b then if F.t - F.b < 0 then -(F.t - F.b) else F.t - F.b else 1) := ⟨_, rfl⟩
    rw [← hab]
    have f1 := Fj.m1; have f2 := Fj.bT; have f3 := Fj.b0; have f4 := Fj.t0; have f5 := Fj.tT; have f6 := Fj.r1; have f7 := Fj.s0
    have ab1 : 1 ≤ ab := by rw [hab]; clear h hp; split <;> omega
    have ab2 : ab ≤ 10 ^ 50 := by rw [hab]; clear h hp; split <;> (try split) <;> omega
    have dv0 : 0 ≤ (F.m - 1) / ab := Int.ediv_nonneg (by omega) (by omega)
    have dv1 : (F.m - 1) / ab ≤ F.m - 1 := Int.ediv_le_self _ (by omega)
    refine ⟨⟨by omega, Nat.lt_of_lt_of_le (show ab.natAbs < 2 ^ 250 by omega) (Nat.pow_le_pow_right (by decide) (by decide))⟩, ?_⟩
    refine c__law_near (p := p3) (by omega) (by omega) (by unfold Few at *; omega) fun v p4 v0 v1 t4 => ?_
    simp [-x_seq]
    apply hK7
    refine seqI fun K8 hK8 => ?_
    simp [-x_seq]
    have tp0 : 0 ≤ top / F.r := Int.ediv_nonneg (by omega) (by omega)
    have tp1 : top / F.r ≤ top := Int.ediv_le_self _ (by omega)
    refine ⟨⟨by omega, Nat.lt_of_lt_of_le (show F.r.natAbs < 2 ^ 250 by omega) (Nat.pow_le_pow_right (by decide) (by decide))⟩, ?_⟩
    apply hK8
    generalize hti : (if 2 < if top / F.r < v then top / F.r else v then if top / F.r < v then top / F.r else v else 2) = ti
    have ti0 : 2 ≤ ti := by rw [← hti]; clear h hp; split <;> omega
    have ti1 : ti ≤ 10 ^ 60 := by rw [← hti]; clear h hp; split <;> (try split) <;> omega
    refine seqI fun K9 hK9 => ?_
    simp [-x_seq]
    rw [← tup_encF F]
    have smi : ∀ i : Int, i.natAbs ≤ 10 ^ 60 → Sm i := fun i hi => Nat.lt_of_lt_of_le (show i.natAbs < 2 ^ 250 by omega) (Nat.pow_le_pow_right (by decide) (by decide))
    refine c__law_again ⟨smi _ (by omega), smi _ (by omega), smi _ (by omega), Fj.w, smi _ (by omega), smi _ (by omega)⟩ (smi _ (by omega)) ?_
    simp [-x_seq]
    apply hK9
    simp
    refine fin6 (againF F ti) ("again", [j, ti]) p4 _ _ _ _ _ _ _ _ _ _ _ _ _ _ _ (fun G hG hr => ?_) (by omega)
    obtain ⟨w1, w2, w3⟩ := again_facts Fj ti0 hG
    have hs : G.s ≤ G.r := by rw [w2, w3]; exact Int.mul_le_mul_of_nonneg_left sj.1 (by omega)
    refine paper_snoc hp G _ w1 (rule_again j ti _ ⟨j0, by omega⟩ ti0) (by rw [← hfs, led_again _ _ _ _ _ _ _ _ gj]; exact hG) (by omega) (by omega) hs hr (fun i hi => ?_) (by simp) (show PyData.strOk "again" = true by decide +kernel)
    simp at hi
    omega
  simp [-x_seq, q4]
  refine seqI fun K7 hK7 => ?_
  simp [-x_seq]
  refine ⟨by omega, ?_⟩
  rw [rng_ints]
  refine cLoop_pure D.int D.int (fun i => (besideF F ((fs[i.toNat]?).getD F)).isSome) trivial (upto fs.length) [] (fun i hi KT KF g1 g2 => ?_) (by rw [upto_len, sizeLine_eq]; simp; omega) ?_
  · obtain ⟨i0, i1⟩ := upto_in hi
    obtain ⟨xi, hxi, ati, gi⟩ := fact_at rows fs hfs i i0 (by omega)
    simp [ati]
    have m1 := Fj.m1; have m2 := (hp.fact _ hxi).m1
    refine c__law_beside Fj.w (by omega) (by omega) ?_
    simp only [gi, Option.getD_some] at g1 g2
    cases e : besideF F xi.1 with
    | none =>
      rw [e] at g2
      simp [encO]
      exact g2 rfl _ rfl
    | some G =>
      rw [e] at g1
      simp [encO, tup_encF G]
      exact g1 rfl _ rfl
  simp [-x_seq]
  apply hK7
  refine seqI fun K8 hK8 => ?_
  simp [-x_seq]
  have flb := filt_len (n := fs.length) (c := fun i => (besideF F (fs[i.toNat]?.getD F)).isSome)
  refine ⟨by rw [sizeLine_eq]; omega, by rw [sizeLine_eq]; omega, ?_⟩
  refine c__law_pick (p := p3) (xs := List.map D.int (List.filter (fun i => (besideF F (fs[i.toNat]?.getD F)).isSome) (upto fs.length)) ++ [D.int k]) (by simp) (by have := filt_len (n := fs.length) (c := fun i => (besideF F (fs[i.toNat]?.getD F)).isSome); simp; omega) (by unfold Few at *; omega) fun y p4 hy t4 => ?_
  obtain ⟨k', rfl, k'0, k'1⟩ := pick_in k0 (by omega) hy
  obtain ⟨x2, hx2, at2, g2⟩ := fact_at rows fs hfs k' k'0 (by omega)
  simp [-x_seq]
  apply hK8
  refine seqI fun K9 hK9 => ?_
  simp [-x_seq, at2]
  have m1 := Fj.m1; have m2 := (hp.fact _ hx2).m1
  refine c__law_beside Fj.w (by omega) (by omega) ?_
  simp [-x_seq]
  apply hK9
  simp
  refine fin6 (besideF F x2.1) ("beside", [j, k']) p4 _ _ _ _ _ _ _ _ _ _ _ _ _ _ _ (fun G hG hr => ?_) (by omega)
  obtain ⟨w1, w2, w3⟩ := beside_facts Fj (hp.fact _ hx2) hG
  refine paper_snoc hp G _ w1 (rule_two _ (.inr rfl) j k' _ ⟨j0, by omega, k'0, by omega⟩) (by rw [← hfs, led_beside _ _ _ _ _ _ _ _ _ gj g2]; exact hG) (by omega) (by omega) (by omega) hr (fun i hi => ?_) (by simp) (show PyData.strOk "beside" = true by decide +kernel)
  simp at hi
  omega
theorem c__law_one_more {p : Pen} {r : List OV} {T : Int} {ps : List Pc} {lot : List (Int × Int)} {rows : List Row} {top : Int} (h1 : PaperOk T ps lot top rows) (h2 : rows ≠ []) (h3 : rows.length ≤ 5000) (h4 : T ≤ 10 ^ 50) (h5 : 1 ≤ top) (h6 : top ≤ 10 ^ 50) (h7 : Few p 2000)
    (h : ∀ (new : List Row) (p' : Pen), PaperOk T ps lot top (rows ++ new) → new.length ≤ 1 → p'.turn ≤ p.turn + 2000 → Q (.d (.lst (new.map encRow))) (penO p' :: r)) :
    sp__law_one_more [.cel 0, .d (.lst (rows.map encRow)), .d (.int top)] (penO p :: r) Q R := ⟨p, r, T, ps, lot, rows, top, rfl, rfl, h1, h2, h3, h4, h5, h6, h7, h⟩
end Eng

end
section
set_option Elab.async false
set_option linter.all false
set_option maxRecDepth 100000
/-! L4c: rows of the pieces; papers -/
namespace Eng
open PySem PySem.Spec PyProof.Rows L2
variable {S : List OV} {Q : W → List OV → Prop} {R : Exn → List OV → Prop}
def endsL (lot : List (Int × Int)) : List Int := (lot.map fun l => [l.1, l.1 + l.2]).flatten
theorem endsL_len : ∀ lot : List (Int × Int), (endsL lot).length = 2 * lot.length
  | [] => rfl
  | l :: lot => by
    have e : endsL (l :: lot) = [l.1, l.1 + l.2] ++ endsL lot := rfl
    rw [e, List.length_append, endsL_len lot]; simp; omega
theorem endsL_mem {lot : List (Int × Int)} {l : Int × Int} (h : l ∈ lot) : l.1 ∈ endsL lot ∧ l.1 + l.2 ∈ endsL lot := by
  unfold endsL
  constructor
  · exact List.mem_flatten.mpr ⟨_, List.mem_map.mpr ⟨l, h, rfl⟩, by simp⟩
  · exact List.mem_flatten.mpr ⟨_, List.mem_map.mpr ⟨l, h, rfl⟩, by simp⟩
theorem endsD (lot : List (Int × Int)) : (lot.map fun l => [D.int l.1, D.int (l.1 + l.2)]).flatten = (endsL lot).map D.int := by
  unfold endsL
  induction lot with
  | nil => rfl
  | cons l lot ih => simp only [List.map_cons, List.flatten_cons, List.map_append]; rw [ih]; rfl
theorem sorted_gap (rs : List Int) (hs : rs.Pairwise fun x y => x ≤ y) (e : Int) (he : e ∈ rs) (k : Int) (k0 : 0 ≤ k) (k1 : k + 1 < rs.length) : e ≤ nsAt rs k ∨ nsAt rs (k + 1) ≤ e := by
  obtain ⟨i, hi, rfl⟩ := List.mem_iff_getElem.mp he
  have e1 : rs[i] = nsAt rs (i : Int) := by
    unfold nsAt
    rw [List.getD_eq_getElem?_getD, Int.toNat_natCast, List.getElem?_eq_getElem hi]; rfl
  rw [e1]
  by_cases c : (i : Int) ≤ k
  · exact .inl (nsAt_le rs hs i k (by omega) c (by omega))
  · exact .inr (nsAt_le rs hs (k + 1) i (by omega) (by omega) (by omega))
theorem sorted_ends (rs : List Int) (hs : rs.Pairwise fun x y => x ≤ y) (e : Int) (he : e ∈ rs) : nsAt rs 0 ≤ e ∧ e ≤ nsAt rs ((rs.length : Int) - 1) := by
  obtain ⟨i, hi, rfl⟩ := List.mem_iff_getElem.mp he
  have e1 : rs[i] = nsAt rs (i : Int) := by
    unfold nsAt
    rw [List.getD_eq_getElem?_getD, Int.toNat_natCast, List.getElem?_eq_getElem hi]; rfl
  rw [e1]
  exact ⟨nsAt_le rs hs 0 i (by omega) (by omega) (by omega), nsAt_le rs hs i _ (by omega) (by omega) (by omega)⟩
theorem sl__law_begun : ∀ ws S Qd Rd, sp__law_begun ws S Qd Rd → w__law_begun (z0 N__law_begun ws S) (ed0 S.length Qd) (fun x z => Rd x (z.S.take S.length)) := by
  rintro _ S Q R ⟨ps, T, lot, rfl, hv, hlo, hT1, hT, hpl, hll, h⟩
  unfold w__law_begun
  refine seqI fun K hK => ?_
  simp [N__law_begun, -x_seq, -x_par2, ↓y_par2]
  refine cLoop_map encS (fun l => .lst [.int l.1, .int (l.1 + l.2)]) trivial lot (fun l hm KT h1 => ?_) (by rw [sizeLine_eq]; omega) ?_
  · simp [encS]
    exact h1 _ rfl
  simp [-x_seq, -x_par2, ↓y_par2]
  refine ⟨lot.map fun l => [D.int l.1, D.int (l.1 + l.2)], by rw [List.map_map]; rfl, by rw [← List.length_flatten, endsD, List.length_map, endsL_len, sizeLine_eq]; omega, ?_⟩
  rw [endsD]
  apply hK
  have hel := endsL_len lot
  refine seqI fun K1 hK1 => ?_
  simp [-x_seq]
  refine fLoop_enc encP (fun rest z => ∃ (ds : List Pc) (rows : List Row) (a4 a5 a6 a7 a8 a9 : SV), ps = ds ++ rest ∧ PaperOk T ps lot 1 rows ∧ rows.length ≤ 22 * ds.length ∧ (ds ≠ [] → rows ≠ []) ∧
    z = ⟨[.d (.lst (ps.map encP)), .d (.lst (lot.map encS)), .d (.lst ((endsL lot).map D.int)), .own (.lst (rows.map encRow)), a4, a5, a6, a7, a8, a9, .none, .none], S⟩) ?_ ?_ ps _ ⟨[], [], _, _, _, _, _, _, rfl, ⟨rfl, by simp, by simp, by simp⟩, by simp, by simp, rfl⟩
  · rintro z ⟨ds, rows, a4, a5, a6, a7, a8, a9, e, hp, hl, hn, rfl⟩
    rw [List.append_nil] at e
    apply hK1
    simp
    refine h rows hp (hn ?_) (by rw [e] at hpl; omega)
    rintro rfl
    rw [e] at hv
    have := hv.dom
    have : (0 : Int) = T := this
    omega
  rintro pc rest z ⟨ds, rows, a4, a5, a6, a7, a8, a9, e, hp, hl, hn, rfl⟩ K2 hK2
  have hpc : pc ∈ ps := by rw [e]; simp
  have pos := hv.pos pc hpc
  have dsl : ds.length < 100 := by have := congrArg List.length e; simp at this; omega
  rw [tup_encP]
  simp [-x_seq]
  refine seqI fun K3 hK3 => ?_
  simp [-x_seq]
  refine cLoop_pure D.int D.int (fun x => decide (pc.b < x ∧ x < pc.b + pc.m)) trivial (endsL lot) [] (fun x hx KT KF g1 g2 => ?_) (by rw [hel, sizeLine_eq]; simp; omega) ?_
  · simp
    by_cases c1 : pc.b < x
    · by_cases c2 : x < pc.b + pc.m
      · simp [c1, c2]
        exact g1 (by simp [c1, c2]) _ rfl
      · simp [c1, c2]
        exact g2 (by simp [c1, c2]) _ rfl
    · simp [c1]
      exact g2 (by simp [c1]) _ rfl
  generalize hcs : List.filter (fun x => decide (pc.b < x ∧ x < pc.b + pc.m)) (endsL lot) = cs
  have csl : cs.length ≤ 20 := by
    rw [← hcs]
    refine Nat.le_trans (List.length_filter_le _ _) (by omega)
  have csm : ∀ x ∈ endsL lot, pc.b < x → x < pc.b + pc.m → x ∈ cs := by
    intro x hx h1 h2
    rw [← hcs]
    exact List.mem_filter.mpr ⟨hx, by simp [h1, h2]⟩
  have csb : ∀ x ∈ cs, pc.b < x ∧ x < pc.b + pc.m := by
    intro x hx
    rw [← hcs] at hx
    simpa using (List.mem_filter.mp hx).2
  simp [-x_seq]
  refine ⟨by rw [sizeLine_eq]; omega, pc.b :: (pc.b + pc.m) :: cs, rfl, fun rs hp1 hs => ?_⟩
  have rl : rs.length = cs.length + 2 := by rw [hp1.length_eq]; simp
  have rin : ∀ x ∈ rs, pc.b ≤ x ∧ x ≤ pc.b + pc.m := by
    intro x hx
    have := hp1.mem_iff.mp hx
    simp at this
    rcases this with q | q | q
    · omega
    · omega
    · have := csb x q; omega
  have rlo := sorted_ends rs hs pc.b (hp1.mem_iff.mpr (by simp))
  have rhi := sorted_ends rs hs (pc.b + pc.m) (hp1.mem_iff.mpr (by simp))
  have gap : ∀ e ∈ endsL lot, ∀ k : Int, 0 ≤ k → k + 1 < rs.length → e ≤ nsAt rs k ∨ nsAt rs (k + 1) ≤ e := by
    intro e he k k0 k1
    have i1 := rin _ (nsAt_mem rs k k0 (by omega))
    have i2 := rin _ (nsAt_mem rs (k + 1) (by omega) (by omega))
    by_cases c1 : pc.b < e
    · by_cases c2 : e < pc.b + pc.m
      · exact sorted_gap rs hs e (hp1.mem_iff.mpr (by simp [csm e he c1 c2])) k k0 k1
      · exact .inr (by omega)
    · exact .inl (by omega)
  simp [-x_seq]
  apply hK3
  refine seqI fun K4 hK4 => ?_
  simp [-x_seq]
  refine ⟨by omega, by omega, ?_⟩
  rw [rng_ints]
  refine fLoop_enc D.int (fun rest2 z => ∃ (ks : List Int) (rows' : List Row) (a9 : SV), upto (rs.length - 1) = ks ++ rest2 ∧ PaperOk T ps lot 1 rows' ∧ rows'.length ≤ rows.length + ks.length ∧ (nsAt rs 0 < nsAt rs ks.length → rows' ≠ []) ∧
    z = ⟨[.d (.lst (ps.map encP)), .d (.lst (lot.map encS)), .d (.lst ((endsL lot).map D.int)), .own (.lst (rows'.map encRow)), .d (.int pc.b), .d (.int pc.m), .d (.int pc.t), .d (.int pc.w), .d (.lst (rs.map D.int)), a9, .none, .none], S⟩) ?_ ?_ _ _ ⟨[], rows, _, rfl, hp, by simp, by simp, rfl⟩
  · rintro z ⟨ks, rows', a9, e2, hp2, hl2, hn2, rfl⟩
    rw [List.append_nil] at e2
    have kl : ks.length = rs.length - 1 := by
      have := congrArg List.length e2
      rw [upto_len] at this
      omega
    apply hK4
    simp
    apply hK2
    refine ⟨ds ++ [pc], rows', _, _, _, _, _, _, by rw [e]; simp, hp2, by rw [List.length_append, List.length_singleton]; omega, fun _ => hn2 ?_, rfl⟩
    have : (ks.length : Int) = (rs.length : Int) - 1 := by omega
    rw [this]
    omega
  rintro k rest2 z ⟨ks, rows', a9, e2, hp2, hl2, hn2, rfl⟩ K5 hK5
  have ek := upto_mid e2
  have kl : ks.length < rs.length - 1 := by
    have := congrArg List.length e2
    rw [upto_len] at this
    simp at this
    omega
  have at0 := nsAt_at rs k (by omega) (by omega)
  have at1 := nsAt_at rs (k + 1) (by omega) (by omega)
  have i0 := rin _ (nsAt_mem rs k (by omega) (by omega))
  have i1 := rin _ (nsAt_mem rs (k + 1) (by omega) (by omega))
  simp [-x_seq]
  refine seqI fun K6 hK6 => ?_
  by_cases c : nsAt rs k < nsAt rs (k + 1)
  · simp [-x_seq, at0, at1, c]
    refine seqI fun K7 hK7 => ?_
    simp [-x_seq, at0, at1]
    refine c__law_piece (by omega) (by omega) hv (by omega) ?_
    obtain ⟨F, f1, f2, f3, f4, f5, f6⟩ := piece_cut hv hlo pc hpc (nsAt rs k) (nsAt rs (k + 1)) i0.1 c i1.2 (fun l hl => ⟨gap _ (endsL_mem hl).1 k (by omega) (by omega), gap _ (endsL_mem hl).2 k (by omega) (by omega)⟩)
    rw [f1]
    simp [-x_seq, encO]
    refine ⟨by rw [sizeLine_eq]; omega, by rw [sizeLine_eq]; omega, ?_⟩
    apply hK7
    simp
    apply hK6
    simp
    apply hK5
    refine ⟨ks ++ [k], rows' ++ [(F, (("piece" : Str), []))], SV.d (.int k), by rw [e2]; simp, ?_, by rw [List.length_append, List.length_singleton, List.length_append, List.length_singleton]; omega, fun _ => by simp, ?_⟩
    · refine paper_snoc hp2 F _ f2 (rule_piece _) ?_ (by omega) (by omega) (by omega) (by omega) (by simp) (by simp) (show PyData.strOk "piece" = true by decide +kernel)
      unfold ledF
      rw [if_pos rfl, f5, f6]
      exact f1
    · rw [List.map_append]; rfl
  · have le := nsAt_le rs hs k (k + 1) (by omega) (by omega) (by omega)
    simp [-x_seq, at0, at1, c]
    apply hK6
    simp
    apply hK5
    refine ⟨ks ++ [k], rows', SV.d (.int k), by rw [e2]; simp, hp2, by rw [List.length_append, List.length_singleton]; omega, fun q => hn2 ?_, rfl⟩
    rw [List.length_append, List.length_singleton] at q
    have e3 : ((ks.length + 1 : Nat) : Int) = k + 1 := by omega
    rw [e3] at q
    rw [← ek]
    omega
theorem c__law_begun {ps : List Pc} {T : Int} {lot : List (Int × Int)} (h1 : Valid ps T) (h2 : LotOk lot) (h3 : 1 ≤ T) (h4 : T ≤ 10 ^ 50) (h5 : ps.length ≤ 100) (h6 : lot.length ≤ 10) (h : ∀ rows : List Row, PaperOk T ps lot 1 rows → rows ≠ [] → rows.length ≤ 3000 → Q (.d (.lst (rows.map encRow))) S) :
    sp__law_begun [.d (.lst (ps.map encP)), .d (.lst (lot.map encS))] S Q R := ⟨ps, T, lot, rfl, h1, h2, h3, h4, h5, h6, h⟩
theorem PaperOk.up {T : Int} {ps : List Pc} {lot : List (Int × Int)} {top top' : Int} {rows : List Row} (h : PaperOk T ps lot top rows) (ht : top ≤ top') : PaperOk T ps lot top' rows :=
  ⟨h.shows, h.row, fun x hx => ⟨(h.seen x hx).1, Int.le_trans (h.seen x hx).2 ht⟩, h.fact⟩
theorem sl__law_paper : ∀ ws S Qd Rd, sp__law_paper ws S Qd Rd → w__law_paper (z0 N__law_paper ws S) (ed0 S.length Qd) (fun x z => Rd x (z.S.take S.length)) := by
  rintro _ _ Q R ⟨p, r, ps, T, lot, n, top, rfl, rfl, hv, hlo, hT1, hT, hpl, hll, n0, n20, t1, t2, hf, h⟩
  unfold w__law_paper
  refine seqI fun K hK => ?_
  simp [N__law_paper, -x_seq]
  refine c__law_begun hv hlo hT1 hT hpl hll fun rows0 hp0 hn0 hl0 => ?_
  simp [-x_seq]
  apply hK
  refine seqI fun K1 hK1 => ?_
  simp [-x_seq]
  refine ⟨by omega, by omega, ?_⟩
  rw [rng_ints]
  refine fLoop_enc D.int (fun rest z => ∃ (ks : List Int) (rows : List Row) (a6 : SV) (p' : Pen), upto n.toNat = ks ++ rest ∧ PaperOk T ps lot top rows ∧ rows ≠ [] ∧ rows.length ≤ 3000 + ks.length ∧ p'.turn ≤ p.turn + 2000 * ks.length ∧
    z = ⟨[.cel 0, .d (.lst (ps.map encP)), .d (.lst (lot.map encS)), .d (.int n), .d (.int top), .d (.lst (rows.map encRow)), a6], penO p' :: r⟩) ?_ ?_ _ _ ⟨[], rows0, _, p, rfl, hp0.up t1, hn0, by simpa using hl0, by simp, rfl⟩
  · rintro z ⟨ks, rows, a6, p', e, hp, hn, hl, ht, rfl⟩
    have kl := congrArg List.length e
    rw [upto_len, List.append_nil] at kl
    apply hK1
    simp
    exact h rows p' hp hn (by omega) (by omega)
  rintro k rest z ⟨ks, rows, a6, p', e, hp, hn, hl, ht, rfl⟩ K2 hK2
  have kl := congrArg List.length e
  rw [upto_len] at kl
  simp at kl
  simp [-x_seq]
  refine seqI fun K3 hK3 => ?_
  simp [-x_seq]
  refine c__law_one_more hp hn (by omega) hT t1 t2 (by unfold Few at *; omega) fun new p2 h1 h2 h3 => ?_
  simp [-x_seq]
  refine ⟨by rw [sizeLine_eq]; omega, ?_⟩
  apply hK3
  simp
  apply hK2
  refine ⟨ks ++ [k], rows ++ new, SV.d (.int k), p2, by rw [e]; simp, h1, by simp [hn], by rw [List.length_append, List.length_append, List.length_singleton]; omega, by rw [List.length_append, List.length_singleton]; omega, ?_⟩
  rw [List.map_append]
theorem c__law_paper {p : Pen} {r : List OV} {ps : List Pc} {T : Int} {lot : List (Int × Int)} {n top : Int} (h1 : Valid ps T) (h2 : LotOk lot) (h3 : 1 ≤ T) (h4 : T ≤ 10 ^ 50) (h5 : ps.length ≤ 100) (h6 : lot.length ≤ 10) (h7 : 0 ≤ n) (h8 : n ≤ 20) (h9 : 1 ≤ top) (h10 : top ≤ 10 ^ 50) (h11 : Few p 50000)
    (h : ∀ (rows : List Row) (p' : Pen), PaperOk T ps lot top rows → rows ≠ [] → rows.length ≤ 4000 → p'.turn ≤ p.turn + 50000 → Q (.d (.lst (rows.map encRow))) (penO p' :: r)) :
    sp__law_paper [.cel 0, .d (.lst (ps.map encP)), .d (.lst (lot.map encS)), .d (.int n), .d (.int top)] (penO p :: r) Q R := ⟨p, r, ps, T, lot, n, top, rfl, rfl, h1, h2, h3, h4, h5, h6, h7, h8, h9, h10, h11, h⟩
end Eng

end
section
set_option Elab.async false
set_option linter.all false
set_option maxRecDepth 100000
/-! L4d: long layings -/
namespace Eng
open PySem PySem.Spec PyProof.Rows L2
variable {S : List OV} {Q : W → List OV → Prop} {R : Exn → List OV → Prop}
/-- what one, two are behind so many turns, from at most 9 each -/
def fibB : Nat → Nat
  | 0 => 9
  | 1 => 9
  | n + 2 => fibB n + fibB (n + 1)
def fibT : Nat → Nat × Nat
  | 0 => (9, 9)
  | n + 1 => ((fibT n).2, (fibT n).1 + (fibT n).2)
theorem fibT_mono : ∀ n, (fibT n).1 ≤ (fibT (n + 1)).1 ∧ (fibT n).2 ≤ (fibT (n + 1)).2 ∧ (fibT n).1 ≤ (fibT n).2
  | 0 => by decide
  | n + 1 => by
    have := fibT_mono n
    have e1 : fibT (n + 1) = ((fibT n).2, (fibT n).1 + (fibT n).2) := rfl
    have e2 : fibT (n + 2) = ((fibT (n + 1)).2, (fibT (n + 1)).1 + (fibT (n + 1)).2) := rfl
    rw [e2, e1] at *
    simp only at *
    omega
theorem fibT_le : ∀ {n m : Nat}, n ≤ m → (fibT n).2 ≤ (fibT m).2 ∧ (fibT n).1 ≤ (fibT m).1
  | n, m, h => by
    induction m with
    | zero => have : n = 0 := by omega
              subst this; exact ⟨Nat.le_refl _, Nat.le_refl _⟩
    | succ m ih =>
      by_cases c : n = m + 1
      · subst c; exact ⟨Nat.le_refl _, Nat.le_refl _⟩
      · have a := ih (by omega)
        have b := fibT_mono m
        exact ⟨Nat.le_trans a.1 b.2.1, Nat.le_trans a.2 b.1⟩
theorem fib79 : (fibT 79).1 + (fibT 79).2 ≤ 600000000000000000 := by decide +kernel
theorem sum_bd (b : Int) : ∀ (ns : List Int), (∀ n ∈ ns, 1 ≤ n ∧ n ≤ b) → (ns.length : Int) ≤ ns.sum ∧ ns.sum ≤ ns.length * b
  | [], _ => by simp
  | n :: ns, h => by
    have a := sum_bd b ns fun k hk => h k (List.mem_cons_of_mem _ hk)
    have c := h n List.mem_cons_self
    rw [List.sum_cons, List.length_cons]
    have e : ((ns.length + 1 : Nat) : Int) * b = ns.length * b + b := by rw [Int.natCast_add, Int.add_mul]; simp
    rw [e]
    omega
theorem sl__law_long : ∀ ws S Qd Rd, sp__law_long ws S Qd Rd → w__law_long (z0 N__law_long ws S) (ed0 S.length Qd) (fun x z => Rd x (z.S.take S.length)) := by
  rintro _ _ Q R ⟨p, r, rfl, rfl, hf, h⟩
  unfold w__law_long
  refine seqI fun K hK => ?_
  simp [N__law_long, -x_seq, -x_par2, ↓y_par2]
  refine c__law_draw (p := p) (by omega) (by omega) (by unfold Few at *; omega) fun kind p1 kd0 kd1 t1 => ?_
  simp [-x_seq, -x_par2, ↓y_par2]
  apply hK
  refine seqI fun K1 hK1 => ?_
  simp [-x_seq]
  refine c__law_draw (p := p1) (by omega) (by omega) (by unfold Few at *; omega) fun many p2 m0 m1 t2 => ?_
  simp [-x_seq]
  refine ⟨by omega, by omega, ?_⟩
  rw [rng_ints]
  refine fLoop_enc D.int (fun rest z => ∃ (ks ns : List Int) (a3 a4 : SV) (p' : Pen), upto (2 + many).toNat = ks ++ rest ∧ ns.length = ks.length ∧ (∀ n ∈ ns, 1 ≤ n ∧ n ≤ 100000000000000000) ∧ p'.turn ≤ p2.turn + 101 * ks.length ∧
    z = ⟨[.cel 0, .own (.lst (ns.map D.int)), .d (.int kind), a3, a4, .none, .none], penO p' :: r⟩) ?_ ?_ _ _ ⟨[], [], _, _, p2, rfl, rfl, by simp, by simp, rfl⟩
  · rintro z ⟨ks, ns, a3, a4, p', e, hl, hn, ht, rfl⟩
    have kl := congrArg List.length e
    rw [upto_len, List.append_nil] at kl
    apply hK1
    have nl : 2 ≤ ns.length ∧ ns.length ≤ 5 := by omega
    have ret : ∀ (ns' : List Int) (b3 b4 b5 b6 : SV) (pp : Pen), ns'.length ≤ 20 → (∀ n ∈ ns', 1 ≤ n) → 1 ≤ ns'.sum → ns'.sum ≤ 1000000000000000000 → pp.turn ≤ p.turn + 3000 →
        wSeq (wRt (wCall sp__law_pieces (wCons (wVar 0) (wCons (wTake 1) wNil)))) wNx ⟨[.cel 0, .own (.lst (ns'.map D.int)), .d (.int kind), b3, b4, b5, b6], penO pp :: r⟩ (ed0 (penO p :: r).length Q) (fun x z => R x (List.take (penO p :: r).length z.S)) := by
      intro ns' b3 b4 b5 b6 pp h1 h2 h3 h4 h5
      simp
      refine c__law_pieces (p := pp) (by omega) h2 (by unfold Few at *; omega) fun ps p6 v1 v2 v3 => ?_
      simp
      exact h ps ns'.sum p6 v1 h3 h4 (by omega) (by omega)
    have a0 : 1 ≤ nsAt ns 0 ∧ nsAt ns 0 ≤ 100000000000000000 := hn _ (nsAt_mem ns 0 (by omega) (by omega))
    have at0 : ns[0]? = some (nsAt ns 0) := by
      unfold nsAt
      rw [List.getD_eq_getElem?_getD, List.getElem?_eq_getElem (show (0 : Int).toNat < ns.length by simp; omega)]
      rw [List.getElem?_eq_getElem (show 0 < ns.length by omega)]
      rfl
    refine seqI fun K2 hK2 => ?_
    by_cases k0 : kind = 0
    · subst k0
      simp [-x_seq]
      refine seqI fun K3 hK3 => ?_
      simp [-x_seq]
      refine cLoop_inv (fun acc rest z => ∃ (ys : List Int) (pp : Pen), acc = ys.map D.int ∧ ys.length + rest.length = ns.length ∧ (∀ n ∈ ys, 1 ≤ n ∧ n ≤ 100000000000000004) ∧ pp.turn + rest.length ≤ p'.turn + 5 ∧ z = ⟨[.cel 0, .own (.lst (ns.map D.int)), .d (.int 0), .none, a4, .none, .none], penO pp :: r⟩) ?_ ?_ _ _ _ ⟨[], p', rfl, by simp, by simp, by simp; omega, rfl⟩
      · rintro acc z ⟨ys, pp, rfl, h1, h2, h3, rfl⟩
        refine ⟨rfl, ?_⟩
        simp [-x_seq]
        apply hK3
        simp
        apply hK2
        refine seqI fun K4 hK4 => ?_
        simp [-x_seq]
        apply hK4
        refine seqI fun K5 hK5 => ?_
        simp [-x_seq]
        apply hK5
        simp at h1 h3
        have sb := sum_bd 100000000000000004 ys h2
        refine ret ys _ _ _ _ pp (by omega) (fun n hn => (h2 n hn).1) (by omega) (by have := Int.mul_le_mul_of_nonneg_right (show (ys.length : Int) ≤ 5 by omega) (show (0 : Int) ≤ 100000000000000004 by omega); omega) (by omega)
      · rintro acc x rest z ⟨ys, pp, rfl, h1, h2, h3, rfl⟩
        simp at h1 h3
        refine ⟨rfl, fun KT KF g1 g2 => ?_⟩
        simp [at0]
        refine c__law_draw (p := pp) (by omega) (by omega) (by unfold Few at *; omega) fun d p4 d0 d1 t4 => ?_
        simp
        apply g1
        refine ⟨by rw [List.length_map, sizeLine_eq]; omega, ys ++ [nsAt ns 0 + d], p4, by simp, by simp; omega, ?_, by omega, rfl⟩
        intro n hn'
        rcases List.mem_append.mp hn' with q | q
        · exact h2 n q
        · rw [List.mem_singleton.mp q]; omega
    simp [-x_seq, k0]
    apply hK2
    refine seqI fun K4 hK4 => ?_
    by_cases k2 : kind = 2
    · subst k2
      simp [-x_seq]
      refine seqI fun K5 hK5 => ?_
      simp [-x_seq]
      refine c__law_draw (p := p') (by omega) (by omega) (by unfold Few at *; omega) fun c p3 c0 c1 t3 => ?_
      simp [-x_seq]
      refine ⟨by omega, by omega, ?_⟩
      refine cLoop_inv (fun acc rest z => ∃ (ys : List Int) (pp : Pen), acc = ys.map D.int ∧ ys.length + rest.length = (6 + c).toNat ∧ (∀ n ∈ ys, 1 ≤ n ∧ n ≤ 100000) ∧ pp.turn ≤ p3.turn + 101 * ys.length ∧ z = ⟨[.cel 0, .own (.lst (ns.map D.int)), .d (.int 2), .none, a4, .none, .none], penO pp :: r⟩) ?_ ?_ _ _ _ ⟨[], p3, rfl, by simp [rngD], by simp, by simp, rfl⟩
      · rintro acc z ⟨ys, pp, rfl, h1, h2, h3, rfl⟩
        refine ⟨trivial, ?_⟩
        simp [-x_seq]
        apply hK5
        simp
        apply hK4
        refine seqI fun K6 hK6 => ?_
        simp [-x_seq]
        apply hK6
        simp at h1 h3
        have sb := sum_bd 100000 ys h2
        refine ret ys _ _ _ _ pp (by omega) (fun n hn => (h2 n hn).1) (by omega) (by omega) (by omega)
      · rintro acc x rest z ⟨ys, pp, rfl, h1, h2, h3, rfl⟩
        simp at h1
        refine ⟨trivial, fun KT KF g1 g2 => ?_⟩
        simp
        refine c__law_draw (p := pp) (by omega) (by omega) (by unfold Few at *; omega) fun d p4 d0 d1 t4 => ?_
        obtain ⟨f, hf', f5, f10⟩ : ∃ f : Nat, 1 + d = (f : Int) ∧ f ≤ 5 ∧ (10 : Int) ^ f ≤ 100000 := by
          have : d = 0 ∨ d = 1 ∨ d = 2 ∨ d = 3 ∨ d = 4 := by omega
          rcases this with rfl | rfl | rfl | rfl | rfl
          · exact ⟨1, rfl, by omega, by omega⟩
          · exact ⟨2, rfl, by omega, by omega⟩
          · exact ⟨3, rfl, by omega, by omega⟩
          · exact ⟨4, rfl, by omega, by omega⟩
          · exact ⟨5, rfl, by omega, by omega⟩
        simp [hf']
        refine c__law_great (p := p4) (by omega) (by unfold Few at *; omega) fun v p5 v0 v1 t5 => ?_
        simp
        apply g1
        refine ⟨by rw [List.length_map, sizeLine_eq]; omega, ys ++ [1 + v], p5, by simp, by simp; omega, ?_, by rw [List.length_append, List.length_singleton]; omega, rfl⟩
        intro n hn'
        rcases List.mem_append.mp hn' with q | q
        · exact h2 n q
        · rw [List.mem_singleton.mp q]; omega
    simp [-x_seq, k2]
    apply hK4
    refine seqI fun K5 hK5 => ?_
    by_cases k1 : kind = 1
    · subst k1
      simp [-x_seq]
      refine seqI fun K6 hK6 => ?_
      simp [-x_seq, -x_par2, ↓y_par2]
      refine c__law_draw (p := p') (by omega) (by omega) (by unfold Few at *; omega) fun c p3 c0 c1 t3 => ?_
      simp [-x_seq, -x_par2, ↓y_par2]
      refine c__law_draw (p := p3) (by omega) (by omega) (by unfold Few at *; omega) fun d p4 d0 d1 t4 => ?_
      simp [-x_seq, -x_par2, ↓y_par2]
      apply hK6
      refine seqI fun K7 hK7 => ?_
      simp [-x_seq]
      refine c__law_draw (p := p4) (by omega) (by omega) (by unfold Few at *; omega) fun m p5 m0 m1 t5 => ?_
      simp [-x_seq]
      refine ⟨by omega, by omega, ?_⟩
      rw [rng_ints]
      refine fLoop_enc D.int (fun rest z => ∃ (ks : List Int) (u v : Int) (a3 : SV), upto (40 + m).toNat = ks ++ rest ∧ 1 ≤ u ∧ 1 ≤ v ∧ u ≤ (fibT ks.length).1 ∧ v ≤ (fibT ks.length).2 ∧ z = ⟨[.cel 0, .own (.lst (ns.map D.int)), .d (.int 1), a3, a4, .d (.int u), .d (.int v)], penO p5 :: r⟩) ?_ ?_ _ _ ⟨[], 1 + c, 1 + d, _, rfl, by omega, by omega, by show (1 + c) ≤ ((9 : Nat) : Int); omega, by show (1 + d) ≤ ((9 : Nat) : Int); omega, rfl⟩
      · rintro z ⟨ks, u, v, b3, e2, u1, v1, u2, v2, rfl⟩
        have kl2 := congrArg List.length e2
        rw [upto_len, List.append_nil] at kl2
        have fl := fibT_le (show ks.length ≤ 79 by omega)
        have fb := fib79
        apply hK7
        refine seqI fun K8 hK8 => ?_
        simp [-x_seq]
        refine ⟨by rw [sizeLine_eq]; omega, ?_⟩
        have ec : cutD (D.int u :: D.int v :: List.map D.int ns) none (some (ns.length : Int)) = (u :: v :: ns.take (ns.length - 2)).map D.int := by
          rw [cut_to]
          obtain ⟨n2, hn2⟩ : ∃ n2, ns.length = n2 + 2 := ⟨ns.length - 2, by omega⟩
          rw [hn2]
          simp
        rw [ec]
        apply hK8
        simp [-x_seq]
        apply hK5
        have hns : ∀ n ∈ ns.take (ns.length - 2), 1 ≤ n ∧ n ≤ 100000000000000000 := fun n hn' => hn n (List.mem_of_mem_take hn')
        have sb := sum_bd 100000000000000000 _ hns
        have tl : (ns.take (ns.length - 2)).length ≤ 3 := by rw [List.length_take]; omega
        have sm := Int.mul_le_mul_of_nonneg_right (show ((ns.take (ns.length - 2)).length : Int) ≤ 3 by omega) (show (0 : Int) ≤ 100000000000000000 by omega)
        suffices hall : ∀ n ∈ (u :: v :: ns.take (ns.length - 2)), 1 ≤ n by
          have q := fun b3 b4 b5 b6 => ret (u :: v :: ns.take (ns.length - 2)) b3 b4 b5 b6 p5 (by simp; omega) hall (by rw [List.sum_cons, List.sum_cons]; omega) (by rw [List.sum_cons, List.sum_cons]; omega) (by omega)
          simp only [List.map_cons] at q
          simp only [List.map_take] at q
          exact q _ _ _ _
        intro n hn'
        rcases List.mem_cons.mp hn' with q | q
        · omega
        · rcases List.mem_cons.mp q with q | q
          · omega
          · exact (hns n q).1
      · rintro k rest z ⟨ks, u, v, b3, e2, u1, v1, u2, v2, rfl⟩ K8 hK8
        simp [-x_seq, -x_par2, ↓y_par2]
        refine seqI fun K9 hK9 => ?_
        simp [-x_seq, -x_par2, ↓y_par2]
        apply hK9
        simp
        apply hK8
        refine ⟨ks ++ [k], v, u + v, SV.d (.int k), by rw [e2]; simp, v1, by omega, ?_, ?_, rfl⟩
        · rw [List.length_append, List.length_singleton]; exact v2
        · rw [List.length_append, List.length_singleton]
          show u + v ≤ (((fibT ks.length).1 + (fibT ks.length).2 : Nat) : Int)
          omega
    simp [-x_seq, k1]
    apply hK5
    have sb := sum_bd 100000000000000000 ns hn
    refine ret ns _ _ _ _ p' (by omega) (fun n hn' => (hn n hn').1) (by omega) (by have := Int.mul_le_mul_of_nonneg_right (show (ns.length : Int) ≤ 5 by omega) (show (0 : Int) ≤ 100000000000000000 by omega); omega) (by omega)
  · rintro k rest z ⟨ks, ns, a3, a4, p', e, hl, hn, ht, rfl⟩ K2 hK2
    have kl := congrArg List.length e
    rw [upto_len] at kl
    simp at kl
    simp [-x_seq]
    refine seqI fun K3 hK3 => ?_
    simp [-x_seq]
    refine c__law_draw (p := p') (by omega) (by omega) (by unfold Few at *; omega) fun d p3 d0 d1 t3 => ?_
    obtain ⟨f, at', f17, f10⟩ : ∃ f : Nat, atI [D.int 17, D.int 17, D.int 16, D.int 12, D.int 5, D.int 1] d = some (.int f) ∧ f ≤ 17 ∧ (10 : Int) ^ f ≤ 100000000000000000 := by
      have : d = 0 ∨ d = 1 ∨ d = 2 ∨ d = 3 ∨ d = 4 ∨ d = 5 := by omega
      rcases this with rfl | rfl | rfl | rfl | rfl | rfl
      · exact ⟨17, rfl, by omega, by omega⟩
      · exact ⟨17, rfl, by omega, by omega⟩
      · exact ⟨16, rfl, by omega, by omega⟩
      · exact ⟨12, rfl, by omega, by omega⟩
      · exact ⟨5, rfl, by omega, by omega⟩
      · exact ⟨1, rfl, by omega, by omega⟩
    simp [-x_seq, at']
    apply hK3
    refine seqI fun K4 hK4 => ?_
    simp [-x_seq]
    refine c__law_great (p := p3) (by omega) (by unfold Few at *; omega) fun v p4 v0 v1 t4 => ?_
    simp [-x_seq]
    refine ⟨by rw [sizeLine_eq]; omega, ?_⟩
    apply hK4
    simp
    apply hK2
    refine ⟨ks ++ [k], ns ++ [1 + v], SV.d (.int k), SV.d (.int f), p4, by rw [e]; simp, by simp [hl], ?_, by rw [List.length_append, List.length_singleton]; omega, by simp⟩
    intro n hn'
    rcases List.mem_append.mp hn' with q | q
    · exact hn n q
    · rw [List.mem_singleton.mp q]; omega
theorem c__law_long {p : Pen} {r : List OV} (h1 : Few p 20000) (h : ∀ (ps : List Pc) (T : Int) (p' : Pen), Valid ps T → 1 ≤ T → T ≤ 1000000000000000000 → ps.length ≤ 20 → p'.turn ≤ p.turn + 20000 → Q (.d (.lst (ps.map encP))) (penO p' :: r)) :
    sp__law_long [.cel 0] (penO p :: r) Q R := ⟨p, r, rfl, rfl, h1, h⟩
end Eng

end
section
set_option Elab.async false
set_option linter.all false
set_option maxRecDepth 100000
/-! Eng26: d.get(k, x), dict(pairs). -/
namespace Eng
open PySem PySem.Spec PyProof.Rows L2
section
variable {Γ : Gm} {sc : Scope} {st : Names'}
/-- o.get(e, f) -/
def wGet2 (wo we wf : WE) : WE := fun z Q R => wFr wo z (fun x z1 => ∃ kvs0, rd z1 x = some (.dct kvs0) ∧ wFr we z1 (fun y z2 => wFr wf z2 (fun u z3 => ∃ kvs kd kk, rd z3 x = some (.dct kvs) ∧ y = .d kd ∧ keyD kd = some kk ∧ Q (match atK kvs kk with
  | some w => .d w
  | none => u) z3) R) R) R
theorem se_dget2 {o e f : Expr} {wo we wf : WE} {apos cpos : Pos} (ho : SE Γ sc st o wo) (he : SE Γ sc st e we) (hf : SE Γ sc st f wf) (hm : ∀ X : Cx, M2 X o "get" apos e f cpos) : SE Γ sc st (.Call (.Attribute o "get" apos) [e, f] [] cpos) (wGet2 wo we wf) := by
  obtain ⟨to, po, so⟩ := ho.f
  obtain ⟨te, pe, se⟩ := he.f
  obtain ⟨tf, pf, sf⟩ := hf.f
  refine ⟨_, fun X C => pe_dget2 C.u1 (po X C) (pe X C) (pf X C) (hm X), fun O L m z σ H Q Qd R cl S hw hx k => ?_⟩
  refine so O L m z σ H _ _ R cl S hw hx fun L1 z1 H1 x xv s1 c1 n1 S1 r1 q => ?_
  obtain ⟨kvs0, e1, q⟩ := q
  obtain ⟨a, vs, rfl, hh, rk⟩ := (S1.rdT r1 e1).dct
  refine ⟨a, rfl, .inl ⟨vs, .inl hh⟩, ?_⟩
  refine se O L1 m z1 σ H1 _ _ R c1 S1 q (hx.later s1) fun L2 z2 H2 y yv s2 c2 n2 S2 r2 q2 => ?_
  refine sf O L2 m z2 σ H2 _ _ R c2 S2 q2 (hx.later (s1.trans s2)) fun L3 z3 H3 u uv s3 c3 n3 S3 r3 q3 => ?_
  obtain ⟨kvs, kd, kk, e3, rfl, hk, q3⟩ := q3
  have r1' := Wr.later (s2.trans s3) c3 n1 r1
  obtain ⟨a', vs', ea, hh', rk'⟩ := (S3.rdT r1' e3).dct
  cases ea
  have r2' := Wr.later s3 c3 n2 r2
  have ek := keyD_rep r2'.2.t hk
  subst ek
  cases hq : atK kvs kk with
  | some w =>
    obtain ⟨v, e4, r4⟩ := (repK_at rk').1 w hq
    refine ⟨some v, ?_, ?_⟩
    · rw [← e4]; exact DGet.k hh'
    · rw [hq] at q3
      exact k L3 z3 H3 (.d w) v (s1.trans (s2.trans s3)) S3 (wrD c3 r4) q3
  | none =>
    refine ⟨none, ?_, ?_⟩
    · rw [← (repK_at rk').2 hq]; exact DGet.k hh'
    · rw [hq] at q3
      exact k L3 z3 H3 u uv (s1.trans (s2.trans s3)) S3 r3 q3
end
end Eng
namespace Eng
open PySem PySem.Spec PyProof.Rows L2
def kD : Key → D
  | .inl i => .int i
  | .inr s => .str s
def pairD (kv : Key × D) : D := .tup [kD kv.1, kv.2]
section
variable {Γ : Gm}
theorem rep_kD {K : PySem.W.Frag} {cA : Str → Addr} {B : Addr → Prop} {H : Hp} {k : Key} {v : V} (h : Rep K cA B H (kD k) v) : v = kV k := by
  cases k with
  | inl i => cases h; rfl
  | inr s => cases h; rfl
theorem repL_pairs {K : PySem.W.Frag} {cA : Str → Addr} {B : Addr → Prop} {H : Hp} : ∀ (kvs : List (Key × D)) (us : List V), RepL K cA B H (kvs.map pairD) us →
    ∃ (ps : List Addr) (vs : List (Key × V)), us = ps.map V.ref ∧ Paired (fun p kv => SqT K H p [kV kv.1, kv.2]) ps vs ∧ RepK K cA B H kvs vs
  | [], _, .nil => ⟨[], [], rfl, .nil, .nil⟩
  | (k, d) :: kvs, _, .cons r rr => by
    obtain ⟨ps, vs, rfl, h2, h3⟩ := repL_pairs kvs _ rr
    obtain ⟨a, ws, rfl, hs, rl⟩ := r.t.tup
    cases rl with
    | cons ra rb =>
      cases rb with
      | cons rb rc =>
        cases rc
        have e := rep_kD ra
        subst e
        exact ⟨a :: ps, (k, _) :: vs, rfl, .cons hs h2, .cons rb h3⟩
def fDictP : FN := fun ds k => ∃ kvs : List (Key × D), ds = [.lst (kvs.map pairD)] ∧ k (.new (.dic (mergeD kvs)))
theorem rn_dictP : RNS Γ (fun xs H Q => ∃ a ps kvs, xs = [V.ref a] ∧ SqL Γ.K H a (List.map V.ref ps) ∧ Paired (fun p kv => SqT Γ.K H p [kV kv.fst, kv.snd]) ps kvs ∧ ∀ (p : Addr), H p = none → Q (V.ref p) (upd H p (HO.dK (mergeK [] kvs)))) fDictP := by
  intro O L m z σ H xs ds k Q cl S rx h post
  obtain ⟨kvs, rfl, h⟩ := h
  cases rx with
  | cons r t =>
    cases t
    obtain ⟨a, us, rfl, hh, rl⟩ := r.lst
    obtain ⟨ps, vs, rfl, h2, h3⟩ := repL_pairs kvs us rl
    refine ⟨a, ps, vs, rfl, SqL.of hh, h2, fun p hp => ?_⟩
    have rm : RepK Γ.K Γ.C (Bd O L) H (mergeD kvs) (mergeK [] vs) := repK_merge _ _ _ _ h3 .nil
    exact post (lab L p (.res [])) _ (.new (.dic _)) _ (stp_newL hp) (S.newL _ _ hp) (ovr_newK rm hp) h
end
theorem cDictP {Γ : Gm} {sc : Scope} {st : Names'} : ∀ X, Ctx Γ sc st X → CallR X (.type "dict") (fun xs H Q => ∃ a ps kvs, xs = [V.ref a] ∧ SqL Γ.K H a (List.map V.ref ps) ∧ Paired (fun p kv => SqT Γ.K H p [kV kv.fst, kv.snd]) ps kvs ∧ ∀ (p : Addr), H p = none → Q (V.ref p) (upd H p (HO.dK (mergeK [] kvs)))) := fun X C => by rw [← C.K]; exact call_dictP C.calm
end Eng

end
section
set_option Elab.async false
set_option linter.all false
set_option maxRecDepth 100000
/-! Eng27: repr of nested data. -/
namespace Eng
open PySem PySem.Spec PyProof.Rows L2
def keyP : Key → PyData
  | .inl i => .int i
  | .inr s => .str s
mutual
/-- as the library's data, dicts too -/
def D.pt : D → PyData
  | .non => .none
  | .bl b => .bool b
  | .int i => .int i
  | .str s => .str s
  | .tup xs => .tuple (D.pts xs)
  | .lst xs => .list (D.pts xs)
  | .dct kvs => .dict (D.ptk kvs)
  | .scr _ => .none
  | .ob _ _ => .none
def D.pts : List D → List PyData
  | [] => []
  | x :: xs => D.pt x :: D.pts xs
def D.ptk : List (Key × D) → List (PyData × PyData)
  | [] => []
  | p :: r => (keyP p.1, D.pt p.2) :: D.ptk r
end
mutual
/-- no script, no instance in it -/
def D.rok : D → Bool
  | .tup xs => D.roks xs
  | .lst xs => D.roks xs
  | .dct kvs => D.rokk kvs
  | .scr _ => false
  | .ob _ _ => false
  | _ => true
def D.roks : List D → Bool
  | [] => true
  | x :: xs => D.rok x && D.roks xs
def D.rokk : List (Key × D) → Bool
  | [] => true
  | p :: r => D.rok p.2 && D.rokk r
end
mutual
/-- a value of such data -/
inductive Dq (K : PySem.W.Frag) (H : Hp) : V → PyData → Prop
  | non : Dq K H .non .none
  | bl (b : Bool) : Dq K H (.bl b) (.bool b)
  | int (i : Int) : Dq K H (.int i) (.int i)
  | str (x : Str) : Dq K H (.str x) (.str x)
  | lst {a : Addr} {xs : List V} {ds : List PyData} : SqL K H a xs → DqL K H xs ds → Dq K H (.ref a) (.list ds)
  | tup {a : Addr} {xs : List V} {ds : List PyData} : SqT K H a xs → DqL K H xs ds → Dq K H (.ref a) (.tuple ds)
  | dct {a : Addr} {xs : List (Key × V)} {ds : List (PyData × PyData)} : H a = some (.dK xs) → DqK K H xs ds → Dq K H (.ref a) (.dict ds)
inductive DqL (K : PySem.W.Frag) (H : Hp) : List V → List PyData → Prop
  | nil : DqL K H [] []
  | cons {v : V} {vs : List V} {d : PyData} {ds : List PyData} : Dq K H v d → DqL K H vs ds → DqL K H (v :: vs) (d :: ds)
inductive DqK (K : PySem.W.Frag) (H : Hp) : List (Key × V) → List (PyData × PyData) → Prop
  | nil : DqK K H [] []
  | cons {k : Key} {v : V} {vs : List (Key × V)} {d : PyData} {ds : List (PyData × PyData)} : Dq K H v d → DqK K H vs ds → DqK K H ((k, v) :: vs) ((keyP k, d) :: ds)
end
section
variable {K : PySem.W.Frag} {cA : Str → Addr} {B : Addr → Prop} {H : Hp}
mutual
theorem Rep.dq : ∀ {x : D} {v : V}, Rep K cA B H x v → x.rok = true → Dq K H v x.pt
  | _, _, .non, _ => .non
  | _, _, .bl b, _ => .bl b
  | _, _, .int i, _ => .int i
  | _, _, .str s, _ => .str s
  | .tup xs, _, .tup h hs, r => .tup (h.elim (fun h => .inl (.inl h.2)) .inr) (RepL.dq hs r)
  | .lst xs, _, .lst hb h hs, r => .lst (SqL.of h) (RepL.dq hs r)
  | .dct xs, _, .dct hb h hs, r => .dct h (RepK.dq hs r)
  | _, _, .scr h, r => nomatch r
  | _, _, .ob hb h hs, r => nomatch r
theorem RepL.dq : ∀ {xs : List D} {vs : List V}, RepL K cA B H xs vs → D.roks xs = true → DqL K H vs (D.pts xs)
  | _, _, .nil, _ => .nil
  | x :: xs, _, .cons h hs, r => by
    have r' : (D.rok x && D.roks xs) = true := r
    rw [Bool.and_eq_true] at r'
    exact .cons (Rep.dq h r'.1) (RepL.dq hs r'.2)
theorem RepK.dq : ∀ {xs : List (Key × D)} {vs : List (Key × V)}, RepK K cA B H xs vs → D.rokk xs = true → DqK K H vs (D.ptk xs)
  | _, _, .nil, _ => .nil
  | p :: xs, _, .cons h hs, r => by
    have r' : (D.rok p.2 && D.rokk xs) = true := r
    rw [Bool.and_eq_true] at r'
    exact .cons (Rep.dq h r'.1) (RepK.dq hs r'.2)
end
theorem RepT.dq {x : D} {v : V} (h : RepT K cA B H x v) (r : x.rok = true) : Dq K H v x.pt := by
  cases x with
  | lst xs =>
    obtain ⟨a, vs, rfl, hh, rl⟩ := h.lst
    exact .lst (SqL.of hh) (RepL.dq rl r)
  | dct xs =>
    obtain ⟨a, vs, rfl, hh, rl⟩ := h.dct
    exact .dct hh (RepK.dq rl r)
  | scr ns => cases r
  | ob _ _ => cases r
  | non => exact Rep.dq (show Rep K cA B H .non v from h) r
  | bl b => exact Rep.dq (show Rep K cA B H (.bl b) v from h) r
  | int b => exact Rep.dq (show Rep K cA B H (.int b) v from h) r
  | str b => exact Rep.dq (show Rep K cA B H (.str b) v from h) r
  | tup b => exact Rep.dq (show Rep K cA B H (.tup b) v from h) r
end
/-! ### shown -/
section
variable {P : Program} {w : World} {h : Heap}
/-- a thing that repr shows whole, nested or not -/
def Nst (P : Program) (w : World) (h : Heap) (u : Value) (p : PyData) : Prop :=
  (∃ as, Reads h u p as) ∧ (∃ bs, ReadAtMost h p.depth bs ∧ ReprK P w bs h p.depth u p.shown) ∧ ∀ a, u = .ref a → ∃ T idr, ShowsBy P w h a p T idr
def NstL (P : Program) (w : World) (h : Heap) (us : List Value) (ps : List PyData) : Prop :=
  (∃ as, ReadsAll h us ps as) ∧ ∃ bs, ReadAtMost h (PyData.depthAll ps) bs ∧ ReprAllK P w bs h (PyData.depthAll ps) us (PyData.shownAll ps)
theorem nst_leaf {u : Value} {p : PyData} (r : Reads h u p []) (i : ReprIs P w u p.shown) (n : ∀ a, u ≠ .ref a) : Nst P w h u p :=
  ⟨⟨_, r⟩, ⟨[], (fun _ q => nomatch q), .of_is i _ _ _⟩, fun a e => absurd e (n a)⟩
theorem nstL_nil : NstL P w h [] [] := ⟨⟨_, .nil⟩, [], (fun _ q => nomatch q), .nil⟩
theorem nstL_cons {u : Value} {us : List Value} {p : PyData} {ps : List PyData} (a : Nst P w h u p) (b : NstL P w h us ps) : NstL P w h (u :: us) (p :: ps) := by
  obtain ⟨⟨as1, r1⟩, ⟨b1, m1, k1⟩, _⟩ := a
  obtain ⟨⟨as2, r2⟩, b2, m2, k2⟩ := b
  refine ⟨⟨_, .cons r1 r2⟩, b1 ++ b2, (m1.mono ?_).append (m2.mono ?_), ?_⟩
  · simp only [PyData.depthAll]; exact Nat.le_max_left _ _
  · simp only [PyData.depthAll]; exact Nat.le_max_right _ _
  · simp only [PyData.depthAll, PyData.shownAll]
    exact .cons ((k1.more fun b hb => List.mem_append_left _ hb).level_le (Nat.le_max_left _ _)) (k2.more_le (fun b hb => List.mem_append_right _ hb) (Nat.le_max_right _ _))
theorem nst_list {a : Addr} {o : Obj} {its : List Value} {n : Nat} {ps : List PyData} (h1 : h.get? a = some o) (h2 : o.cls = .type "list") (h3 : o.data = .seq its.toArray n) (b : NstL P w h its ps) (hz : (PyData.list ps).shown.length ≤ sizeLine) : Nst P w h (.ref a) (.list ps) := by
  obtain ⟨⟨as, r⟩, bs, m, k⟩ := b
  have hz2 : (listText (PyData.shownAll ps)).length ≤ sizeLine := by simpa only [PyData.shown] using hz
  have rd : Reads h (.ref a) (.list ps) (a :: as) := .list h1 h2 h3 r
  have na : a ∉ bs := not_mem_of_deeper rd (by simp only [PyData.depth]; omega) m
  cases its with
  | nil =>
    cases r
    refine ⟨⟨_, rd⟩, ⟨a :: bs, ReadAtMost.cons rd (by simp only [PyData.depth]; omega) m, ?_⟩, fun b e => ?_⟩
    · simp only [PyData.depth, PyData.shown, PyData.shownAll, listText_nil]
      exact ReprK.listEmpty h1 h2 h3
    · cases e
      refine ⟨"list", "list.__repr__", F.slot_list_repr.toG, F.slot_list_str, F.slot_list_format, (fun s hk0 => ⟨o, hk0 _ _ h1, h2⟩), fun A E s Q hg hu hk0 hQ => ?_⟩
      simp only [PyData.shown, PyData.shownAll, listText_nil] at hQ
      exact call_list_repr_empty ⟨o, hk0 _ _ h1, h2⟩ (hk0 _ _ h1) h3 (hQ s.heap _ _ fun _ _ e => e)
  | cons x its =>
    refine ⟨⟨_, rd⟩, ⟨a :: bs, ReadAtMost.cons rd (by simp only [PyData.depth]; omega) m, ?_⟩, fun b e => ?_⟩
    · simp only [PyData.depth, PyData.shown]
      exact ReprK.list h1 h2 h3 na (by simpa using k.length_eq) fun i y e => k.item i y (by simpa using e)
    · cases e
      refine ⟨"list", "list.__repr__", F.slot_list_repr.toG, F.slot_list_str, F.slot_list_format, (fun s hk0 => ⟨o, hk0 _ _ h1, h2⟩), fun A E s Q hg hu hk0 hQ => ?_⟩
      simp only [PyData.depth] at hu
      simp only [PyData.shown] at hQ
      exact call_list_reprK h1 h2 h3 na (by simpa using k.length_eq) (fun i y e => k.item i y (by simpa using e)) hg (fun b _ => Clear.nil b) hu hk0 hQ hz2
theorem nst_tuple {a : Addr} {o : Obj} {its : List Value} {n : Nat} {ps : List PyData} (h1 : h.get? a = some o) (h2 : o.cls = .type "tuple") (h3 : o.data = .seq its.toArray n) (b : NstL P w h its ps) (hz : (PyData.tuple ps).shown.length ≤ sizeLine) : Nst P w h (.ref a) (.tuple ps) := by
  obtain ⟨⟨as, r⟩, bs, m, k⟩ := b
  have hz2 : (tupleText (PyData.shownAll ps)).length ≤ sizeLine := by simpa only [PyData.shown] using hz
  have rd : Reads h (.ref a) (.tuple ps) as := .tuple h1 h2 h3 r
  have na : a ∉ bs := not_mem_of_deeper rd (by simp only [PyData.depth]; omega) m
  refine ⟨⟨_, rd⟩, ⟨a :: bs, ReadAtMost.cons rd (by simp only [PyData.depth]; omega) m, ?_⟩, fun b e => ?_⟩
  · simp only [PyData.depth, PyData.shown]
    exact ReprK.tuple h1 h2 h3 na k
  · cases e
    refine ⟨"tuple", "tuple.__repr__", F.slot_tuple_repr, F.slot_tuple_str, F.slot_tuple_format, (fun s hk0 => ⟨o, hk0 _ _ h1, h2⟩), fun A E s Q hg hu hk0 hQ => ?_⟩
    simp only [PyData.depth] at hu
    simp only [PyData.shown] at hQ
    exact call_tuple_reprK h1 h2 h3 na k hg (fun b _ => Clear.nil b) hu hk0 hQ hz2
theorem nst_dict {a : Addr} {o : Obj} {es : Array DictEntry} {n : Nat} {ps : List (PyData × PyData)} (h1 : h.get? a = some o) (h2 : o.cls = .type "dict") (h3 : o.data = .dict es n) (hs : (a == sysModules) = false) (bk : NstL P w h (es.toList.map (·.key)) (ps.map (·.1))) (bv : NstL P w h (es.toList.map (·.val)) (ps.map (·.2)))
    (hz : (PyData.dict ps).shown.length ≤ sizeLine) : Nst P w h (.ref a) (.dict ps) := by
  obtain ⟨⟨as1, r1⟩, b1, m1, k1⟩ := bk
  obtain ⟨⟨as2, r2⟩, b2, m2, k2⟩ := bv
  have hz2 : (dictText (PyData.shownKv ps)).length ≤ sizeLine := by simpa only [PyData.shown] using hz
  have rd : Reads h (.ref a) (.dict ps) (a :: as1 ++ as2) := .dict h1 h2 h3 r1 r2
  have m : ReadAtMost h (PyData.depthKv ps) (b1 ++ b2) := (m1.mono (PyData.depthAll_keys_le ps)).append (m2.mono (PyData.depthAll_vals_le ps))
  have na : a ∉ b1 ++ b2 := not_mem_of_deeper rd (by simp only [PyData.depth]; omega) m
  have ents := ReprEntriesK.of_two es.toList _ _ (k1.more_le (fun b hb => List.mem_append_left b2 hb) (PyData.depthAll_keys_le ps)) (k2.more_le (fun b hb => List.mem_append_right b1 hb) (PyData.depthAll_vals_le ps))
  refine ⟨⟨_, rd⟩, ⟨a :: (b1 ++ b2), ReadAtMost.cons rd (by simp only [PyData.depth]; omega) m, ?_⟩, fun b e => ?_⟩
  · simp only [PyData.depth, PyData.shown, PyData.shownKv_eq]
    exact ReprK.dict h1 h2 h3 hs na ents
  · cases e
    refine ⟨"dict", "dict.__repr__", F.slot_dict_repr, F.slot_dict_str, F.slot_dict_format, (fun s hk0 => ⟨o, hk0 _ _ h1, h2⟩), fun A E s Q hg hu hk0 hQ => ?_⟩
    simp only [PyData.depth] at hu
    simp only [PyData.shown, PyData.shownKv_eq] at hQ
    exact call_dict_reprK h1 h2 h3 hs na ents hg (fun b _ => Clear.nil b) hu hk0 hQ (by rw [← PyData.shownKv_eq]; exact hz2)
end
section
variable {X : Cx} {pins : List (Addr × Obj)} {σ : St} {H : Hp} {s : Shared}
mutual
theorem Dq.nst (I : Inv X pins σ H s) : ∀ {v : V} {p : PyData}, Dq X.K H v p → ∀ u, RelV v u → p.showable = true → p.shown.length ≤ sizeLine → Nst X.prog X.w s.heap u p
  | _, _, .non, u, r, hs, hz => by
    cases r
    exact nst_leaf .none (by simp only [PyData.shown]; exact ReprIs.none) (fun a e => nomatch e)
  | _, _, .bl b, u, r, hs, hz => by
    cases r
    exact nst_leaf (.bool b) (by simp only [PyData.shown]; exact ReprIs.bool b) (fun a e => nomatch e)
  | _, _, .int i, u, r, hs, hz => by
    obtain ⟨t, rfl⟩ := r
    exact nst_leaf (.int i t) (by simp only [PyData.shown]; exact ReprIs.int t (by simpa [PyData.showable] using hs)) (fun a e => nomatch e)
  | _, _, .str x, u, r, hs, hz => by
    obtain ⟨t, rfl⟩ := r
    exact nst_leaf (.str x t) (by simp only [PyData.shown]; exact ReprIs.str x t (by simpa only [PyData.shown] using hz)) (fun a e => nomatch e)
  | _, .list ps, .lst h1 h2, u, r, hs, hz => by
    cases r
    obtain ⟨its, rv, ⟨o, n, ho, hc, _, hd⟩, _⟩ := I.list h1
    exact nst_list ho hc hd (DqL.nst I h2 its rv (by simpa [PyData.showable] using hs) fun t ht => Nat.le_trans (listText_mem_le ht) (by simpa only [PyData.shown] using hz)) hz
  | _, .tuple ps, .tup h1 h2, u, r, hs, hz => by
    cases r
    obtain ⟨its, rv, ⟨o, ho, hc, n, hd⟩, _⟩ := I.tuple h1
    exact nst_tuple ho hc hd (DqL.nst I h2 its rv (by simpa [PyData.showable] using hs) fun t ht => Nat.le_trans (tupleText_mem_le ht) (by simpa only [PyData.shown] using hz)) hz
  | _, .dict ps, .dct h1 h2, u, r, hs, hz => by
    cases r
    obtain ⟨_, hsm, vs, kv, o, es, ep, ho, ex, hd, _, pr, _⟩ := dk_of I.hok h1
    obtain ⟨a1, a2⟩ := DqK.nst I h2 es.toList vs pr kv (by simpa [PyData.showable] using hs) fun t ht => Nat.le_trans (dictText_mem_le ht) (by simpa only [PyData.shown] using hz)
    exact nst_dict ho ex.1 hd hsm a1 a2 hz
theorem DqL.nst (I : Inv X pins σ H s) : ∀ {vs : List V} {ps : List PyData}, DqL X.K H vs ps → ∀ us, Vals vs us → PyData.showableAll ps = true → (∀ t ∈ PyData.shownAll ps, t.length ≤ sizeLine) → NstL X.prog X.w s.heap us ps
  | _, _, .nil, us, r, _, _ => by
    cases r
    exact nstL_nil
  | _, _, .cons (d := d) (ds := ds) h1 h2, us, r, hs, hz => by
    cases r with
    | cons r1 r2 =>
      have hs' : d.showable = true ∧ PyData.showableAll ds = true := by simpa [PyData.showableAll] using hs
      exact nstL_cons (Dq.nst I h1 _ r1 hs'.1 (hz _ (by simp only [PyData.shownAll]; exact List.mem_cons_self))) (DqL.nst I h2 _ r2 hs'.2 fun t ht => hz t (by simp only [PyData.shownAll]; exact List.mem_cons_of_mem _ ht))
theorem DqK.nst (I : Inv X pins σ H s) : ∀ {xs : List (Key × V)} {ps : List (PyData × PyData)}, DqK X.K H xs ps → ∀ (es : List DictEntry) (vs : List (Key × Value)), Pairs (mixKind X.prog X.w) es vs → KV xs vs → PyData.showableKv ps = true → (∀ t ∈ PyData.shownKv ps, t.length ≤ sizeLine) →
    NstL X.prog X.w s.heap (es.map (·.key)) (ps.map (·.1)) ∧ NstL X.prog X.w s.heap (es.map (·.val)) (ps.map (·.2))
  | _, _, .nil, es, vs, pr, kv, _, _ => by
    cases kv
    cases pr
    exact ⟨nstL_nil, nstL_nil⟩
  | _, _, .cons (k := k) (d := d) (ds := ds) h1 h2, es, vs, pr, kv, hs, hz => by
    cases kv with
    | cons r t =>
      cases pr with
      | cons q1 q2 q3 =>
        have hs' : ((keyP k).showable = true ∧ d.showable = true) ∧ PyData.showableKv ds = true := by simpa [PyData.showableKv] using hs
        have hz0 := hz ((keyP k).shown ++ ": " ++ d.shown) (by simp only [PyData.shownKv]; exact List.mem_cons_self)
        have hzl : (keyP k).shown.length ≤ sizeLine ∧ d.shown.length ≤ sizeLine := by
          rw [Str.length_append, Str.length_append] at hz0
          omega
        obtain ⟨a1, a2⟩ := DqK.nst I h2 _ _ q3 t hs'.2 fun t ht => hz t (by simp only [PyData.shownKv]; exact List.mem_cons_of_mem _ ht)
        rw [← r.1] at q1
        refine ⟨nstL_cons ?_ a1, nstL_cons (Dq.nst I h1 _ (by simp only; rw [q2]; exact r.2) hs'.1.2 hzl.2) a2⟩
        rcases keyIs_shape q1 with ⟨i, tk, rfl, e⟩ | ⟨x, tk, rfl, e⟩
        · simp only
          rw [e]
          exact nst_leaf (.int i tk) (by simp only [keyP, PyData.shown]; exact ReprIs.int tk (by simpa [keyP, PyData.showable] using hs'.1.1)) (fun a e => nomatch e)
        · simp only
          rw [e]
          exact nst_leaf (.str x tk) (by simp only [keyP, PyData.shown]; exact ReprIs.str x tk (by simpa only [keyP, PyData.shown] using hzl.1)) (fun a e => nomatch e)
end
end
/-! ### repr(x) -/
def rRepr (K : PySem.W.Frag) : List V → Hp → VK → Prop := fun xs H Q => ∃ v p, xs = [v] ∧ Dq K H v p ∧ p.showable = true ∧ p.shown.length ≤ sizeLine ∧ p.depth ≤ 50 ∧ Q (.str p.shown) H
theorem call_reprD {X : Cx} (hg : NoGd X.A) (hu : X.A.units + 64 < cLine) : CallR X (.builtin "repr") (rRepr X.K) := by
  intro pins s σ H xs us Q I r h
  obtain ⟨v, p, rfl, hd, hs, hz, dp, q⟩ := h
  obtain ⟨u, rfl, rv⟩ : ∃ u, us = [u] ∧ RelV v u := by
    cases r with
    | cons r1 r2 => cases r2; exact ⟨_, rfl, r1⟩
  have nst := hd.nst I u rv hs hz
  have fin : ∀ tk t, EP X pins σ Q (.str p.shown t) { s with toks := tk } := fun tk t => ⟨.str p.shown, H, I.tok _, ⟨t, rfl⟩, q⟩
  cases hd with
  | non =>
    cases rv
    simp only [PyData.shown] at fin
    exact PySem.P.repr_of_none (fin _ _)
  | bl b =>
    cases rv
    simp only [PyData.shown] at fin
    exact PySem.P.repr_of_bool (fin _ _)
  | int i =>
    obtain ⟨t, rfl⟩ := rv
    simp only [PyData.shown] at fin
    exact PySem.P.repr_of_int (by simpa [PyData.showable] using hs) (fin _ _)
  | str x =>
    obtain ⟨t, rfl⟩ := rv
    simp only [PyData.shown] at fin
    exact PySem.P.repr_of_str (fin _ _) (by simpa only [PyData.shown] using hz)
  | lst h1 h2 =>
    cases rv
    obtain ⟨T, idr, S⟩ := nst.2.2 _ rfl
    exact call_repr_slot (by omega) (S.typeIs s fun _ _ e => e) S.slotRepr (S.call X.A.in1 _ s _ hg (by show X.A.units + 1 + _ < cLine; omega) (fun _ _ e => e) fun h' t tk hk => ⟨_, _, rfl, .str _, H, I.kept hk, ⟨t, rfl⟩, q⟩)
  | tup h1 h2 =>
    cases rv
    obtain ⟨T, idr, S⟩ := nst.2.2 _ rfl
    exact call_repr_slot (by omega) (S.typeIs s fun _ _ e => e) S.slotRepr (S.call X.A.in1 _ s _ hg (by show X.A.units + 1 + _ < cLine; omega) (fun _ _ e => e) fun h' t tk hk => ⟨_, _, rfl, .str _, H, I.kept hk, ⟨t, rfl⟩, q⟩)
  | dct h1 h2 =>
    cases rv
    obtain ⟨T, idr, S⟩ := nst.2.2 _ rfl
    exact call_repr_slot (by omega) (S.typeIs s fun _ _ e => e) S.slotRepr (S.call X.A.in1 _ s _ hg (by show X.A.units + 1 + _ < cLine; omega) (fun _ _ e => e) fun h' t tk hk => ⟨_, _, rfl, .str _, H, I.kept hk, ⟨t, rfl⟩, q⟩)
/-- the text that repr shows -/
def rpr (d : D) : Str := d.pt.shown
def fRepr : FN := fun ds k => ∃ d, ds = [d] ∧ d.rok = true ∧ d.pt.showable = true ∧ (rpr d).length ≤ sizeLine ∧ d.pt.depth ≤ 50 ∧ k (.d (.str (rpr d)))
theorem rn_repr {Γ : Gm} : RNS Γ (rRepr Γ.K) fRepr := rn_val fun O L H xs ds k Q rx h post => by
  obtain ⟨d, rfl, h1, h2, h3, h4, h⟩ := h
  cases rx with
  | cons r t =>
    cases t
    exact ⟨_, _, rfl, r.dq h1, h2, h3, h4, post _ _ (.str _) h⟩
section
variable {Γ : Gm} {sc : Scope} {st : Names'} {a b : Expr} {wa wb : WE} {pos : Pos}
theorem cRepr : ∀ X, Ctx Γ sc st X → CallR X (.builtin "repr") (rRepr Γ.K) := fun X C => by rw [← C.K]; exact call_reprD C.gd C.room.units
/-! ### texts compared -/
def fEqS (neg : Bool) : F2 := fun d e k => match d, e with
  | .str x, .str y => k (.d (.bl (if neg then !decide (x = y) else decide (x = y))))
  | _, _ => False
theorem dec_strV (x y : Str) : decide (V.str x = V.str y) = decide (x = y) := by
  by_cases h : x = y
  · subst h; simp
  · have : ¬ V.str x = V.str y := fun q => h (by injection q)
    rw [decide_eq_false h, decide_eq_false this]
theorem r2_eqS : R2S Γ rEq (fEqS false) := r2_val fun O L H x y d e k Q rx ry h post => by
  cases d <;> cases e <;> first | exact h.elim | skip
  have e1 := rx.str
  have e2 := ry.str
  subst e1 e2
  refine ⟨rfl, ?_⟩
  rw [dec_strV]
  exact post _ _ (.bl _) h
theorem r2_neS : R2S Γ rNe (fEqS true) := r2_val fun O L H x y d e k Q rx ry h post => by
  cases d <;> cases e <;> first | exact h.elim | skip
  have e1 := rx.str
  have e2 := ry.str
  subst e1 e2
  refine ⟨rfl, ?_⟩
  rw [dec_strV]
  exact post _ _ (.bl _) h
theorem se_eqS (ha : SE Γ sc st a wa) (hb : SE Γ sc st b wb) : SE Γ sc st (.Compare a [.Eq] [b] pos) (wOp2 (fEqS false) wa wb) := se_cmp (fun X C => op_eq) r2_eqS ha hb (nomark _)
theorem st_eqS (ha : SE Γ sc st a wa) (hb : SE Γ sc st b wb) : ST Γ sc st (.Compare a [.Eq] [b] pos) (wAsT (wOp2 (fEqS false) wa wb)) := st_cmp (fun X C => op_eq) r2_eqS ha hb (nomark _)
theorem se_neS (ha : SE Γ sc st a wa) (hb : SE Γ sc st b wb) : SE Γ sc st (.Compare a [.NotEq] [b] pos) (wOp2 (fEqS true) wa wb) := se_cmp (fun X C => op_ne) r2_neS ha hb (nomark _)
theorem st_neS (ha : SE Γ sc st a wa) (hb : SE Γ sc st b wb) : ST Γ sc st (.Compare a [.NotEq] [b] pos) (wAsT (wOp2 (fEqS true) wa wb)) := st_cmp (fun X C => op_ne) r2_neS ha hb (nomark _)
/-! ### str(x) of a number or a text -/
def fStr : FN := fun ds k => match ds with
  | [.int i] => i.natAbs.log2 < 1920 ∧ k (.d (.str (toString i)))
  | [.str x] => k (.d (.str x))
  | _ => False
def rStr : List V → Hp → VK → Prop := fun xs H Q => (∃ i, xs = [.int i] ∧ i.natAbs.log2 < 1920 ∧ Q (.str (toString i)) H) ∨ (∃ x, xs = [.str x] ∧ Q (.str x) H)
theorem cStr : ∀ X, Ctx Γ sc st X → CallR X (.type "str") rStr := fun X C pins s σ H xs us Q I r h => h.elim (fun h => call_str_int pins s σ H xs us Q I r h) (fun h => SkE.call_str_str pins s σ H xs us Q I r h)
theorem rn_str : RNS Γ rStr fStr := rn_val fun O L H xs ds k Q rx h post => by
  unfold fStr at h
  split at h
  · cases rx with
    | cons r t =>
      cases t
      have e := r.int
      subst e
      exact .inl ⟨_, rfl, h.1, post _ _ (.str _) h.2⟩
  · cases rx with
    | cons r t =>
      cases t
      have e := r.str
      subst e
      exact .inr ⟨_, rfl, post _ _ (.str _) h⟩
  · exact h.elim
end
/-! ### run -/
section
variable {kk : W → Prop}
@[simp ↓] theorem x_repr (d : D) : fRepr [d] kk = (d.rok = true ∧ d.pt.showable = true ∧ (rpr d).length ≤ sizeLine ∧ d.pt.depth ≤ 50 ∧ kk (.d (.str (rpr d)))) := by
  apply propext
  constructor
  · rintro ⟨d', e, h⟩
    cases e
    exact h
  · intro h
    exact ⟨d, rfl, h⟩
@[simp ↓] theorem x_eqS (neg : Bool) (x y : Str) : fEqS neg (.str x) (.str y) kk = kk (.d (.bl (if neg then !decide (x = y) else decide (x = y)))) := rfl
@[simp ↓] theorem x_str1I (i : Int) : fStr [.int i] kk = (i.natAbs.log2 < 1920 ∧ kk (.d (.str (toString i)))) := rfl
@[simp ↓] theorem x_str1S (x : Str) : fStr [.str x] kk = kk (.d (.str x)) := rfl
end
/-! ### how long a shown thing is -/
def keyC : Key → Nat
  | .inl _ => 1
  | .inr s => s.cps.size + 1
def keyF : Key → Bool
  | .inl i => decide (i.natAbs < 2 ^ 1900)
  | .inr s => PyData.strOk s
mutual
/-- texts good, numbers of at most 1900 bits, no script, no instance -/
def D.fine : D → Bool
  | .int i => decide (i.natAbs < 2 ^ 1900)
  | .str s => PyData.strOk s
  | .tup xs => D.fines xs
  | .lst xs => D.fines xs
  | .dct kvs => D.finek kvs
  | .scr _ => false
  | .ob _ _ => false
  | _ => true
def D.fines : List D → Bool
  | [] => true
  | x :: xs => D.fine x && D.fines xs
def D.finek : List (Key × D) → Bool
  | [] => true
  | p :: r => keyF p.1 && (D.fine p.2 && D.finek r)
end
mutual
/-- how many leaves, about -/
def D.cn : D → Nat
  | .str s => s.cps.size + 1
  | .tup xs => D.cns xs + 1
  | .lst xs => D.cns xs + 1
  | .dct kvs => D.cnk kvs + 1
  | _ => 1
def D.cns : List D → Nat
  | [] => 0
  | x :: xs => D.cn x + D.cns xs
def D.cnk : List (Key × D) → Nat
  | [] => 0
  | p :: r => keyC p.1 + (D.cn p.2 + D.cnk r)
end
set_option exponentiation.threshold 4000 in
theorem pow_1900 : 2 ^ 1900 ≤ 10 ^ 572 := by decide +kernel
theorem int_shown {i : Int} (h : i.natAbs < 2 ^ 1900) : (PyData.int i).shown.length ≤ 573 := by
  have := int_text_length_le10 (a := i) (k := 572) (by decide) (Nat.lt_of_lt_of_le h pow_1900)
  simp only [PyData.shown]
  rw [PySem.ofString_length]
  exact this
theorem str_shown {s : Str} (h : PyData.strOk s = true) : (PyData.str s).shown.length ≤ 10 * s.cps.size + 2 := by
  simp only [PyData.shown]
  refine StrLaws.reprText_len s fun c hc => ?_
  have h' : (s.cps.all fun c => decide (c < 1114112)) = true := h
  rw [← Array.all_toList] at h'
  have := List.all_eq_true.mp h' c hc
  have : c < 1114112 := of_decide_eq_true this
  omega
set_option exponentiation.threshold 4000 in
theorem int_bits {i : Int} (h : i.natAbs < 2 ^ 1900) : i.natAbs.log2 < 1920 := by
  by_cases z : i.natAbs = 0
  · rw [z]; decide
  · have := (Nat.log2_lt z).mpr h
    omega
theorem key_cn (k : Key) (hk : keyF k = true) : (keyP k).showable = true ∧ (keyP k).shown.length + 2 ≤ 600 * keyC k := by
  cases k with
  | inl i =>
    have h' : i.natAbs < 2 ^ 1900 := of_decide_eq_true hk
    refine ⟨decide_eq_true (int_bits h'), ?_⟩
    have := int_shown h'
    show (PyData.int i).shown.length + 2 ≤ 600 * 1
    omega
  | inr s =>
    refine ⟨rfl, ?_⟩
    have := str_shown (s := s) hk
    show (PyData.str s).shown.length + 2 ≤ 600 * (s.cps.size + 1)
    omega
theorem pts_len : ∀ xs : List D, (D.pts xs).length = xs.length
  | [] => rfl
  | x :: xs => congrArg Nat.succ (pts_len xs)
theorem ptk_len : ∀ xs : List (Key × D), (D.ptk xs).length = xs.length
  | [] => rfl
  | x :: xs => congrArg Nat.succ (ptk_len xs)
mutual
theorem D.fine_ok : ∀ d : D, d.fine = true → d.rok = true ∧ d.pt.showable = true ∧ d.pt.shown.length + 2 ≤ 600 * d.cn
  | .non, _ => ⟨rfl, rfl, by decide⟩
  | .bl b, _ => ⟨rfl, rfl, by cases b <;> decide⟩
  | .int i, h => by
    have h' : i.natAbs < 2 ^ 1900 := of_decide_eq_true h
    have e := int_shown h'
    refine ⟨rfl, decide_eq_true (int_bits h'), ?_⟩
    show (PyData.int i).shown.length + 2 ≤ 600 * 1
    omega
  | .str s, h => by
    refine ⟨rfl, rfl, ?_⟩
    have := str_shown (s := s) h
    show (PyData.str s).shown.length + 2 ≤ 600 * (s.cps.size + 1)
    omega
  | .tup xs, h => by
    obtain ⟨a, b, c⟩ := D.fines_ok xs h
    refine ⟨a, b, ?_⟩
    have h2 := tupleText_len_le (PyData.shownAll (D.pts xs))
    rw [PyData.shownAll_length, pts_len] at h2
    show (PyData.tuple (D.pts xs)).shown.length + 2 ≤ 600 * (D.cns xs + 1)
    simp only [PyData.shown]
    omega
  | .lst xs, h => by
    obtain ⟨a, b, c⟩ := D.fines_ok xs h
    refine ⟨a, b, ?_⟩
    have h2 := listText_len_le (PyData.shownAll (D.pts xs))
    rw [PyData.shownAll_length, pts_len] at h2
    show (PyData.list (D.pts xs)).shown.length + 2 ≤ 600 * (D.cns xs + 1)
    simp only [PyData.shown]
    omega
  | .dct kvs, h => by
    obtain ⟨a, b, c⟩ := D.finek_ok kvs h
    refine ⟨a, b, ?_⟩
    have h2 := dictText_len_le (PyData.shownKv (D.ptk kvs))
    rw [PyData.shownKv_length, ptk_len] at h2
    show (PyData.dict (D.ptk kvs)).shown.length + 2 ≤ 600 * (D.cnk kvs + 1)
    simp only [PyData.shown]
    omega
  | .scr _, h => nomatch h
  | .ob _ _, h => nomatch h
theorem D.fines_ok : ∀ xs : List D, D.fines xs = true → D.roks xs = true ∧ PyData.showableAll (D.pts xs) = true ∧ ((PyData.shownAll (D.pts xs)).map (·.length)).sum + 2 * xs.length ≤ 600 * D.cns xs
  | [], _ => ⟨rfl, rfl, by decide⟩
  | x :: xs, h => by
    have h' : (D.fine x && D.fines xs) = true := h
    rw [Bool.and_eq_true] at h'
    obtain ⟨a1, a2, a3⟩ := D.fine_ok x h'.1
    obtain ⟨b1, b2, b3⟩ := D.fines_ok xs h'.2
    refine ⟨?_, ?_, ?_⟩
    · show (D.rok x && D.roks xs) = true
      rw [a1, b1]; rfl
    · show (PyData.showable x.pt && PyData.showableAll (D.pts xs)) = true
      rw [a2, b2]; rfl
    · show (x.pt.shown.length + ((PyData.shownAll (D.pts xs)).map (·.length)).sum) + 2 * (xs.length + 1) ≤ 600 * (D.cn x + D.cns xs)
      omega
theorem D.finek_ok : ∀ xs : List (Key × D), D.finek xs = true → D.rokk xs = true ∧ PyData.showableKv (D.ptk xs) = true ∧ ((PyData.shownKv (D.ptk xs)).map (·.length)).sum + 2 * xs.length ≤ 600 * D.cnk xs
  | [], _ => ⟨rfl, rfl, by decide⟩
  | p :: xs, h => by
    have h' : (keyF p.1 && (D.fine p.2 && D.finek xs)) = true := h
    rw [Bool.and_eq_true, Bool.and_eq_true] at h'
    obtain ⟨k1, k2⟩ := key_cn p.1 h'.1
    obtain ⟨a1, a2, a3⟩ := D.fine_ok p.2 h'.2.1
    obtain ⟨b1, b2, b3⟩ := D.finek_ok xs h'.2.2
    refine ⟨?_, ?_, ?_⟩
    · show (D.rok p.2 && D.rokk xs) = true
      rw [a1, b1]; rfl
    · show (PyData.showable (keyP p.1) && PyData.showable p.2.pt && PyData.showableKv (D.ptk xs)) = true
      rw [k1, a2, b2]; rfl
    · show (((keyP p.1).shown ++ ": " ++ p.2.pt.shown).length + ((PyData.shownKv (D.ptk xs)).map (·.length)).sum) + 2 * (xs.length + 1) ≤ 600 * (keyC p.1 + (D.cn p.2 + D.cnk xs))
      have e : ((": " : Str)).length = 2 := by decide +kernel
      rw [Str.length_append, Str.length_append, e]
      omega
end
/-- a thing of at most so many leaves, so deep -/
structure Tg (n k : Nat) (d : D) : Prop where
  fine : d.fine = true
  cn : d.cn ≤ n
  dp : d.pt.depth ≤ k
theorem Tg.mono {n k m j : Nat} {d : D} (h : Tg n k d) (h1 : n ≤ m) (h2 : k ≤ j) : Tg m j d := ⟨h.fine, Nat.le_trans h.cn h1, Nat.le_trans h.dp h2⟩
theorem tg_repr {n k : Nat} {d : D} {kk : W → Prop} (h : Tg n k d) (hn : n ≤ 27000) (hk : k ≤ 50) (hq : kk (.d (.str (rpr d)))) : fRepr [d] kk := by
  obtain ⟨a, b, c⟩ := d.fine_ok h.fine
  refine ⟨d, rfl, a, b, ?_, Nat.le_trans h.dp hk, hq⟩
  have := h.cn
  show d.pt.shown.length ≤ sizeLine
  rw [sizeLine_eq]
  omega
theorem Tg.rok {n k : Nat} {d : D} (h : Tg n k d) : d.rok = true := (d.fine_ok h.fine).1
end Eng

end
section
set_option Elab.async false
set_option linter.all false
set_option maxRecDepth 100000
/-! S8: lots, of any things -/
namespace Eng
open PySem PySem.Spec PyProof.Rows L2
/-- whether things are stretches, each behind the one ahead -/
def isLotL (T : Int) : Int → List D → Bool
  | _, [] => true
  | e, .tup [b, m] :: r => match b, m with
    | .int b, .int m => isPart T b m && (decide (e ≤ b) && isLotL T (b + m) r)
    | _, _ => false
  | _, _ :: _ => false
def isLotD (T : Int) : D → Bool
  | .lst xs => isLotL T 0 xs
  | .tup xs => isLotL T 0 xs
  | _ => false
def sp_is_lot : DSpec := fun ws S Q _ => ∃ (T : Int) (ps : List Pc) (d : D), ws = [.d (encLay T ps), .d d] ∧ d.rok = true ∧ Q (.d (.bl (isLotD T d))) S
def sp__law_is_num : DSpec := fun ws S Q _ => ∃ (d : D) (lo : Int), ws = [.d d, .d (.int lo)] ∧ (tyD d).isSome = true ∧ Q (.d (.bl (isNumD d lo))) S
def sp__law_is_stretch : DSpec := fun ws S Q _ => ∃ (t : Int) (b m : D), ws = [.d (.int t), .d b, .d m] ∧ (tyD b).isSome = true ∧ (tyD m).isSome = true ∧ Q (.d (.bl (isPartD t b m))) S
def sp__law_is_lot : DSpec := fun ws S Q _ => ∃ (T : Int) (d : D), ws = [.d (.int T), .d d] ∧ d.rok = true ∧ Q (.d (.bl (isLotD T d))) S
def sp__law_odd : DSpec := fun ws S Q _ => ∃ (p : Pen) (r : List OV), ws = [.cel 0] ∧ S = penO p :: r ∧ Few p 2 ∧
  ∀ (d : D) (p' : Pen), Tg 20 3 d → p'.turn ≤ p.turn + 2 → Q (.d d) (penO p' :: r)
/-- a number or a short text -/
def Lf : D → Prop
  | .int i => i.natAbs < 2 ^ 1890
  | .str s => PyData.strOk s = true ∧ s.cps.size ≤ 20
  | _ => False
def sp__law_bent_tuple : DSpec := fun ws S Q _ => ∃ (p : Pen) (r : List OV) (row other : List D), ws = [.cel 0, .d (.tup row), .d (.tup other)] ∧ S = penO p :: r ∧ row ≠ [] ∧ row.length ≤ 10 ∧ other.length ≤ 10 ∧ (∀ x ∈ row, Lf x) ∧ (∀ x ∈ other, Lf x) ∧ Few p 20 ∧
  ∀ (d : D) (p' : Pen), Tg 1500 4 d → p'.turn ≤ p.turn + 20 → Q (.d d) (penO p' :: r)
def sp__law_bent_lot : DSpec := fun ws S Q _ => ∃ (p : Pen) (r : List OV) (lot : List (Int × Int)) (T : Int), ws = [.cel 0, .d (.lst (lot.map encS)), .d (.int T)] ∧ S = penO p :: r ∧ lot.length ≤ 10 ∧ (∀ l ∈ lot, l.1.natAbs ≤ 10 ^ 60 ∧ l.2.natAbs ≤ 10 ^ 60) ∧ T.natAbs ≤ 10 ^ 60 ∧ Few p 50 ∧
  ∀ (d : D) (p' : Pen), Tg 3000 6 d → p'.turn ≤ p.turn + 50 → Q (.d d) (penO p' :: r)
end Eng

end
section
set_option Elab.async false
set_option linter.all false
set_option maxRecDepth 100000
/-! M12: things put together -/
namespace Eng
open PySem PySem.Spec PyProof.Rows L2
theorem strOk_of (s : String) : PyData.strOk (Str.ofString s) = true := by
  rw [Str.ofString_eq_toList]
  show (((s.toList.map Char.toNat).toArray).all fun c => decide (c < 1114112)) = true
  rw [← Array.all_toList]
  refine List.all_eq_true.mpr fun c hc => ?_
  have hc' : c ∈ s.toList.map Char.toNat := by simpa using hc
  obtain ⟨ch, _, rfl⟩ := List.mem_map.mp hc'
  refine decide_eq_true ?_
  have hv := ch.valid
  have e : ch.toNat = ch.val.toNat := rfl
  rw [e]
  rcases hv with hv | hv
  · have : ch.val.toNat < 55296 := hv
    omega
  · exact hv.2
theorem size_of (s : String) : (Str.ofString s).cps.size = s.length := PySem.ofString_length s
/-- many things -/
structure TgL (n k : Nat) (xs : List D) : Prop where
  fine : D.fines xs = true
  cn : D.cns xs ≤ n
  dp : ∀ x ∈ xs, x.pt.depth ≤ k
theorem dpa {k : Nat} : ∀ {xs : List D}, (∀ x ∈ xs, x.pt.depth ≤ k) → PyData.depthAll (D.pts xs) ≤ k
  | [], _ => Nat.zero_le _
  | x :: xs, h => by
    show max x.pt.depth (PyData.depthAll (D.pts xs)) ≤ k
    have := h x List.mem_cons_self
    have := dpa fun y hy => h y (List.mem_cons_of_mem x hy)
    omega
theorem TgL.tup {n k : Nat} {xs : List D} (h : TgL n k xs) : Tg (n + 1) (k + 1) (.tup xs) := ⟨h.fine, Nat.succ_le_succ h.cn, Nat.succ_le_succ (dpa h.dp)⟩
theorem TgL.lst {n k : Nat} {xs : List D} (h : TgL n k xs) : Tg (n + 1) (k + 1) (.lst xs) := ⟨h.fine, Nat.succ_le_succ h.cn, Nat.succ_le_succ (dpa h.dp)⟩
theorem TgL.nil {k : Nat} : TgL 0 k [] := ⟨rfl, Nat.le_refl 0, fun x h => nomatch h⟩
theorem TgL.cons {n m k : Nat} {x : D} {xs : List D} (h : Tg n k x) (h2 : TgL m k xs) : TgL (n + m) k (x :: xs) := by
  refine ⟨?_, Nat.add_le_add h.cn h2.cn, fun y hy => ?_⟩
  · show (x.fine && D.fines xs) = true
    rw [h.fine, h2.fine]; rfl
  · rcases List.mem_cons.mp hy with q | q
    · rw [q]; exact h.dp
    · exact h2.dp y q
theorem TgL.mono {n m k j : Nat} {xs : List D} (h : TgL n k xs) (h1 : n ≤ m) (h2 : k ≤ j) : TgL m j xs := ⟨h.fine, Nat.le_trans h.cn h1, fun x hx => Nat.le_trans (h.dp x hx) h2⟩
theorem TgL.append {n m k : Nat} : ∀ {xs ys : List D}, TgL n k xs → TgL m k ys → TgL (n + m) k (xs ++ ys) := by
  intro xs
  induction xs generalizing n with
  | nil => intro ys _ h; exact h.mono (by omega) (Nat.le_refl _)
  | cons x xs ih =>
    intro ys h h2
    have hf : (x.fine && D.fines xs) = true := h.fine
    rw [Bool.and_eq_true] at hf
    have hc : x.cn + D.cns xs ≤ n := h.cn
    have t := ih (n := D.cns xs) ⟨hf.2, Nat.le_refl _, fun y hy => h.dp y (List.mem_cons_of_mem _ hy)⟩ h2
    exact (TgL.cons (n := x.cn) ⟨hf.1, Nat.le_refl _, h.dp x List.mem_cons_self⟩ t).mono (by omega) (Nat.le_refl _)
theorem TgL.of {n k : Nat} : ∀ {xs : List D}, (∀ x ∈ xs, Tg n k x) → TgL (n * xs.length) k xs
  | [], _ => TgL.nil
  | x :: xs, h => (TgL.cons (h x List.mem_cons_self) (TgL.of fun y hy => h y (List.mem_cons_of_mem _ hy))).mono (by rw [List.length_cons, Nat.mul_succ]; omega) (Nat.le_refl _)
theorem Tg.of1 {n k : Nat} {x : D} (h : Tg n k x) : TgL n k [x] := (TgL.cons h TgL.nil).mono (by omega) (Nat.le_refl _)
theorem tg_int {i : Int} (h : i.natAbs < 2 ^ 1900) : Tg 1 0 (.int i) := ⟨decide_eq_true h, Nat.le_refl 1, Nat.le_refl 0⟩
theorem tg_bl (b : Bool) : Tg 1 0 (.bl b) := ⟨rfl, Nat.le_refl 1, Nat.le_refl 0⟩
theorem tg_str {s : Str} (h : PyData.strOk s = true) : Tg (s.cps.size + 1) 0 (.str s) := ⟨h, Nat.le_refl _, Nat.le_refl 0⟩
set_option exponentiation.threshold 4000 in
theorem pow_1890 : 2 ^ 1890 + 2 ^ 1890 + 1 ≤ 2 ^ 1900 := by decide +kernel
set_option exponentiation.threshold 4000 in
theorem pow_60 : 10 ^ 60 + 1 ≤ 2 ^ 1890 := by decide +kernel
theorem Lf.tg {x : D} (h : Lf x) : Tg 21 0 x := by
  cases x with
  | int i =>
    have h' : i.natAbs < 2 ^ 1890 := h
    have := pow_1890
    generalize 2 ^ 1890 = A at *
    exact (tg_int (by omega)).mono (by omega) (Nat.le_refl _)
  | str s => exact (tg_str h.1).mono (by have := h.2; omega) (Nat.le_refl _)
  | _ => exact h.elim
theorem tg_toStr {i : Int} (h : i.natAbs < 2 ^ 1900) : Tg 575 0 (.str (toString i)) := by
  have := int_text_length_le10 (a := i) (k := 572) (by decide) (Nat.lt_of_lt_of_le h pow_1900)
  refine (tg_str (strOk_of (toString i))).mono ?_ (Nat.le_refl _)
  rw [size_of]
  omega
theorem Tg.rep {n k : Nat} {d : D} (h : Tg n k d) (hn : n ≤ 27000) (hk : k ≤ 50) (kk : W → Prop) : fRepr [d] kk = kk (.d (.str (rpr d))) := by
  apply propext
  constructor
  · rintro ⟨d', e, _, _, _, _, h⟩
    cases e
    exact h
  · exact fun q => tg_repr h hn hk q
end Eng

end
section
set_option Elab.async false
set_option linter.all false
set_option maxRecDepth 100000
namespace Eng
open PySem PySem.Spec PyProof.Rows L2
def w__law_odd : WS := (wSeq (wSet 1 (wLst (wCons (wC .non) (wCons (wC (.bl true)) (wCons (wC (.bl false)) (wCons (wC (.int 0)) (wCons (wC (.int 1)) (wCons (wOp1 fNeg (wC (.int 1))) (wCons (wC (.int 2)) (wCons (wOp2 fPow (wC (.int 10)) (wC (.int 30))) (wCons (wC (.str "")) (wCons (wC (.str "piece")) (wCons (wC (.str "then")) (wCons (wC (.str "x")) (wCons (wTup wNil) (wCons (wLst wNil) (wCons wDNew (wCons (wTup (wCons (wC (.int 0)) wNil)) (wCons (wLst (wCons (wC (.int 0)) (wCons (wC (.int 1)) wNil))) (wCons (wTup (wCons (wC (.int 0)) (wCons (wC (.int 1)) wNil))) (wCons (wC (.str "1")) wNil)))))))))))))))))))))
  (wSeq (wRt (wCall sp__law_pick (wCons (wVar 0) (wCons (wOp2 fAdd (wVar 1) (wLst (wCons (wTup (wCons (wC (.str "piece")) wNil)) (wCons (wLst (wCons (wC (.str "piece")) wNil)) (wCons (wTup (wCons (wC (.bl true)) (wCons (wC (.int 1)) wNil))) (wCons (wDisp [((wC (.str "piece")), (wC (.int 1)))]) (wCons (wTup (wCons (wTup wNil) (wCons (wTup wNil) wNil))) (wCons (wLst (wCons (wLst wNil) wNil)) wNil)))))))) wNil))))
  wNx))
def N__law_odd : List Str := ["pen", "some"]
def w__law_bent_tuple : WS := (wSeq (wPar2 3 4 (wCons (wCall sp__law_draw (wCons (wVar 0) (wCons (wCallB fLen (wCons (wVar 1) wNil)) wNil))) (wCons (wCall sp__law_draw (wCons (wVar 0) (wCons (wC (.int 12)) wNil))) wNil)))
  (wSeq (wSet 5 (wOp2 fIx (wVar 1) (wVar 3)))
  (wSeq (wIfS (wTAnd (wAsT (wOp2 (fCmp pLt) (wVar 4) (wC (.int 6)))) (wAsT (wIsi ["int"] (wVar 5))))
  (wSeq (wSet 5 (wOp2 fIx (wLst (wCons (wOp2 fAdd (wVar 5) (wC (.int 1))) (wCons (wOp2 fSub (wVar 5) (wC (.int 1))) (wCons (wOp2 fSub (wC (.int 0)) (wVar 5)) (wCons (wOp2 fAdd (wVar 5) (wC (.int 1))) (wCons (wOp2 fSub (wVar 5) (wC (.int 1))) (wCons (wOp2 fMul (wC (.int 2)) (wVar 5)) wNil))))))) (wVar 4)))
  wNx)
  (wSeq (wIfS (wAsT (wOp2 (fCmp pLt) (wVar 4) (wC (.int 9))))
  (wSeq (wSet 5 (wOp2 fIx (wOp2 fAdd (wVar 2) (wVar 1)) (wCall sp__law_draw (wCons (wVar 0) (wCons (wCallB fLen (wCons (wOp2 fAdd (wVar 2) (wVar 1)) wNil)) wNil)))))
  wNx)
  (wSeq (wIfS (wAsT (wOp2 (fEq false) (wVar 4) (wC (.int 9))))
  (wSeq (wRt (wCall sp__law_pick (wCons (wVar 0) (wCons (wLst (wCons (wOp2 fAdd (wSl (wVar 1) none (some (wVar 3))) (wSl (wVar 1) (some (wOp2 fAdd (wVar 3) (wC (.int 1)))) none)) (wCons (wOp2 fAdd (wVar 1) (wSl (wVar 1) (some (wVar 3)) none)) (wCons (wCallB fListOf (wCons (wVar 1) wNil)) wNil)))) wNil))))
  wNx)
  (wSeq (wSet 5 (wCall sp__law_pick (wCons (wVar 0) (wCons (wLst (wCons (wCall sp__law_odd (wCons (wVar 0) wNil)) (wCons (wAnd (wIsi ["int"] (wVar 5)) (wOp2 (fEq false) (wVar 5) (wC (.int 1)))) (wCons (wCallB fStr (wCons (wVar 5) wNil)) wNil)))) wNil))))
  wNx))
  wNx))
  wNx))
  (wSeq (wRt (wOp2 fAdd (wOp2 fAdd (wSl (wVar 1) none (some (wVar 3))) (wTup (wCons (wVar 5) wNil))) (wSl (wVar 1) (some (wOp2 fAdd (wVar 3) (wC (.int 1)))) none)))
  wNx))))
def N__law_bent_tuple : List Str := ["pen", "row", "other", "at", "way", "thing"]
def w__law_bent_lot : WS := (wSeq (wIfS (wAsT (wOp2 (fEq false) (wVar 1) (wLst wNil)))
  (wSeq (wRt (wLst (wCons (wTup (wCons (wCall sp__law_pick (wCons (wVar 0) (wCons (wLst (wCons (wC (.int 0)) (wCons (wC (.int 1)) (wCons (wOp1 fNeg (wC (.int 1))) (wCons (wVar 2) wNil))))) wNil))) (wCons (wCall sp__law_pick (wCons (wVar 0) (wCons (wLst (wCons (wC (.int 1)) (wCons (wVar 2) (wCons (wOp2 fAdd (wVar 2) (wC (.int 1))) (wCons (wC (.int 0)) wNil))))) wNil))) wNil))) wNil)))
  wNx)
  wNx)
  (wSeq (wPar2 3 4 (wCons (wCall sp__law_draw (wCons (wVar 0) (wCons (wCallB fLen (wCons (wVar 1) wNil)) wNil))) (wCons (wCall sp__law_draw (wCons (wVar 0) (wCons (wC (.int 8)) wNil))) wNil)))
  (wSeq (wPar2 5 6 (wCons (wOp2 fIx (wVar 1) (wVar 3)) (wCons (wSl (wVar 1) (some (wOp2 fAdd (wVar 3) (wC (.int 1)))) none) wNil)))
  (wSeq (wIfS (wAsT (wOp2 (fCmp pLt) (wVar 4) (wC (.int 2))))
  (wSeq (wRt (wOp2 fAdd (wOp2 fAdd (wSl (wVar 1) none (some (wVar 3))) (wLst (wCons (wCall sp__law_bent_tuple (wCons (wVar 0) (wCons (wVar 5) (wCons (wOp2 fIx (wVar 1) (wC (.int 0))) wNil)))) wNil))) (wVar 6)))
  wNx)
  wNx)
  (wSeq (wIfS (wAsT (wOp2 (fEq false) (wVar 4) (wC (.int 2))))
  (wSeq (wRt (wOp2 fAdd (wOp2 fAdd (wSl (wVar 1) none (some (wVar 3))) (wLst (wCons (wTup (wCons (wOp2 fIx (wVar 5) (wC (.int 0))) (wCons (wOp2 fAdd (wOp2 fIx (wVar 5) (wC (.int 1))) (wC (.int 1))) wNil))) wNil))) (wVar 6)))
  wNx)
  wNx)
  (wSeq (wIfS (wAsT (wOp2 (fEq false) (wVar 4) (wC (.int 3))))
  (wSeq (wRt (wOp2 fAdd (wOp2 fAdd (wSl (wVar 1) none (some (wVar 3))) (wLst (wCons (wTup (wCons (wCallB fMax2 (wCons (wC (.int 0)) (wCons (wOp2 fSub (wOp2 fIx (wVar 5) (wC (.int 0))) (wC (.int 1))) wNil))) (wCons (wOp2 fAdd (wOp2 fIx (wVar 5) (wC (.int 1))) (wCallB fInt1 (wCons (wOp2 (fCmp pGt) (wOp2 fIx (wVar 5) (wC (.int 0))) (wC (.int 0))) wNil))) wNil))) wNil))) (wVar 6)))
  wNx)
  wNx)
  (wSeq (wIfS (wAsT (wOp2 (fEq false) (wVar 4) (wC (.int 4))))
  (wSeq (wRt (wOp2 fAdd (wOp2 fAdd (wSl (wVar 1) none (some (wVar 3))) (wLst (wCons (wVar 5) wNil))) (wSl (wVar 1) (some (wVar 3)) none)))
  wNx)
  wNx)
  (wSeq (wIfS (wAsT (wOp2 (fEq false) (wVar 4) (wC (.int 5))))
  (wSeq (wRt (wOp2 fAdd (wOp2 fAdd (wSl (wVar 1) none (some (wVar 3))) (wVar 6)) (wLst (wCons (wVar 5) wNil))))
  wNx)
  wNx)
  (wSeq (wIfS (wAsT (wOp2 (fEq false) (wVar 4) (wC (.int 6))))
  (wSeq (wRt (wOp2 fAdd (wOp2 fAdd (wSl (wVar 1) none (some (wVar 3))) (wLst (wCons (wCall sp__law_pick (wCons (wVar 0) (wCons (wLst (wCons (wCall sp__law_odd (wCons (wVar 0) wNil)) (wCons (wCallB fListOf (wCons (wVar 5) wNil)) (wCons (wOp2 fAdd (wVar 5) (wTup (wCons (wC (.int 1)) wNil))) (wCons (wSl (wVar 5) none (some (wC (.int 1)))) wNil))))) wNil))) wNil))) (wVar 6)))
  wNx)
  wNx)
  (wSeq (wRt (wOp2 fAdd (wVar 1) (wLst (wCons (wTup (wCons (wOp2 fSub (wVar 2) (wC (.int 1))) (wCons (wC (.int 1)) wNil))) wNil))))
  wNx))))))))))
def N__law_bent_lot : List Str := ["pen", "lot", "total", "at", "way", "one", "rest"]
def w__law_is_num : WS := (wSeq (wRt (wAnd (wIsi ["int"] (wVar 0)) (wAnd (wNot (wIsi ["bool"] (wVar 0))) (wOp2 (fCmp pGe) (wVar 0) (wVar 1)))))
  wNx)
def N__law_is_num : List Str := ["thing", "low"]
def w__law_is_stretch : WS := (wSeq (wRt (wAnd (wCall sp__law_is_num (wCons (wVar 1) (wCons (wC (.int 0)) wNil))) (wAnd (wCall sp__law_is_num (wCons (wVar 2) (wCons (wC (.int 1)) wNil))) (wOp2 (fCmp pLe) (wOp2 fAdd (wVar 1) (wVar 2)) (wVar 0)))))
  wNx)
def N__law_is_stretch : List Str := ["total", "begin", "many"]
def w__law_is_lot : WS := (wSeq (wIfS (wTNot (wAsT (wIsi ["list", "tuple"] (wVar 1))))
  (wSeq (wRt (wC (.bl false)))
  wNx)
  wNx)
  (wSeq (wSet 2 (wC (.int 0)))
  (wSeq (wFor (iData (wVar 1)) (gN 3)
  (wSeq (wIfS (wTOr (wTNot (wAsT (wIsi ["tuple"] (wVar 3)))) (wTOr (wAsT (wOp2 (fEq true) (wCallB fLen (wCons (wVar 3) wNil)) (wC (.int 2)))) (wTOr (wTNot (wAsT (wCall sp__law_is_stretch (wCons (wVar 0) (wCons (wOp2 fIx (wVar 3) (wC (.int 0))) (wCons (wOp2 fIx (wVar 3) (wC (.int 1))) wNil)))))) (wAsT (wOp2 (fCmp pLt) (wOp2 fIx (wVar 3) (wC (.int 0))) (wVar 2))))))
  (wSeq (wRt (wC (.bl false)))
  wNx)
  wNx)
  (wSeq (wSet 2 (wOp2 fAdd (wOp2 fIx (wVar 3) (wC (.int 0))) (wOp2 fIx (wVar 3) (wC (.int 1)))))
  wNx)))
  (wSeq (wRt (wC (.bl true)))
  wNx))))
def N__law_is_lot : List Str := ["total", "thing", "end", "one"]
end Eng

end
section
set_option Elab.async false
set_option linter.all false
set_option maxRecDepth 100000
namespace Eng
open PySem PySem.Spec PyProof.Rows L2
def w_is_lot : WS := (wSeq (wIfS (wTNot (wAsT (wIsi ["list", "tuple"] (wVar 1))))
  (wSeq (wRt (wC (.bl false)))
  wNx)
  wNx)
  (wSeq (wSet 2 (wC (.int 0)))
  (wSeq (wFor (iData (wVar 1)) (gN 3)
  (wSeq (wIfS (wTOr (wTNot (wAsT (wIsi ["tuple"] (wVar 3)))) (wTOr (wAsT (wOp2 (fEq true) (wCallB fLen (wCons (wVar 3) wNil)) (wC (.int 2)))) (wTNot (wAsT (wCall sp_is_part (wCons (wMeth "Lay" "spots" sp_Lay_spots (wVar 0) wNil) (wCons (wOp2 fIx (wVar 3) (wC (.int 0))) (wCons (wOp2 fIx (wVar 3) (wC (.int 1))) wNil))))))))
  (wSeq (wRt (wC (.bl false)))
  wNx)
  wNx)
  (wSeq (wIfS (wAsT (wOp2 (fCmp pLt) (wOp2 fIx (wVar 3) (wC (.int 0))) (wVar 2)))
  (wSeq (wRt (wC (.bl false)))
  wNx)
  wNx)
  (wSeq (wSet 2 (wOp2 fAdd (wOp2 fIx (wVar 3) (wC (.int 0))) (wOp2 fIx (wVar 3) (wC (.int 1)))))
  wNx))))
  (wSeq (wRt (wC (.bl true)))
  wNx))))
def N_is_lot : List Str := ["lay", "thing", "end", "one"]
end Eng

end
section
set_option Elab.async false
set_option linter.all false
set_option maxRecDepth 100000
/-! L9a: lots looked at -/
namespace Eng
open PySem PySem.Spec PyProof.Rows L2
variable {S : List OV} {Q : W → List OV → Prop} {R : Exn → List OV → Prop}
theorem rok_ty {d : D} (h : d.rok = true) : (tyD d).isSome = true := by
  cases d <;> first | rfl | cases h
theorem sl__law_is_num : ∀ ws S Qd Rd, sp__law_is_num ws S Qd Rd → w__law_is_num (z0 N__law_is_num ws S) (ed0 S.length Qd) (fun x z => Rd x (z.S.take S.length)) := by
  rintro _ S Q R ⟨d, lo, rfl, hd, h⟩
  cases d with
  | ob _ _ => cases hd
  | int n =>
    simp [w__law_is_num, N__law_is_num]
    exact h
  | bl b =>
    simp [w__law_is_num, N__law_is_num]
    exact h
  | dct kvs =>
    simp [w__law_is_num, N__law_is_num, tyK, tyD, opK, isiB]
    exact h
  | scr kvs =>
    simp [w__law_is_num, N__law_is_num, tyK, tyD, opK, isiB]
    exact h
  | _ =>
    simp [w__law_is_num, N__law_is_num]
    exact h
theorem c__law_is_numD {d : D} {lo : Int} (hd : (tyD d).isSome = true) (h : Q (.d (.bl (isNumD d lo))) S) : sp__law_is_num [.d d, .d (.int lo)] S Q R := ⟨d, lo, rfl, hd, h⟩
theorem sl__law_is_stretch : ∀ ws S Qd Rd, sp__law_is_stretch ws S Qd Rd → w__law_is_stretch (z0 N__law_is_stretch ws S) (ed0 S.length Qd) (fun x z => Rd x (z.S.take S.length)) := by
  rintro _ S Q R ⟨t, b, m, rfl, hb, hm, h⟩
  simp [w__law_is_stretch, N__law_is_stretch]
  refine c__law_is_numD hb ?_
  simp
  by_cases h1 : isNumD b 0 = true
  · simp only [h1, if_true]
    refine c__law_is_numD hm ?_
    simp
    by_cases h2 : isNumD m 1 = true
    · simp only [h2, if_true]
      cases b with
      | int b =>
        cases m with
        | int m =>
          have h1' : 0 ≤ b := of_decide_eq_true h1
          have h2' : 1 ≤ m := of_decide_eq_true h2
          simp [isPartD, isPart, h1', h2'] at h ⊢
          exact h
        | _ => cases h2
      | _ => cases h1
    · have h2' : isNumD m 1 = false := by simpa using h2
      have e : isPartD t b m = false := by
        cases b with
        | int b =>
          cases m with
          | int m =>
            have h3 : ¬ 1 ≤ m := of_decide_eq_false h2'
            simp [isPartD, isPart, h3]
          | _ => rfl
        | _ => rfl
      rw [e] at h
      simp [h2']
      exact h
  · have h1' : isNumD b 0 = false := by simpa using h1
    have e : isPartD t b m = false := by
      cases b with
      | int b =>
        cases m with
        | int m =>
          have h3 : ¬ 0 ≤ b := of_decide_eq_false h1'
          simp [isPartD, isPart, h3]
        | _ => rfl
      | _ => rfl
    rw [e] at h
    simp [h1']
    exact h
theorem c__law_is_stretchD {t : Int} {b m : D} (hb : (tyD b).isSome = true) (hm : (tyD m).isSome = true) (h : Q (.d (.bl (isPartD t b m))) S) : sp__law_is_stretch [.d (.int t), .d b, .d m] S Q R := ⟨t, b, m, rfl, hb, hm, h⟩
/-- what isn't two things in a tuple -/
theorem lot_no {T e : Int} {x : D} {r : List D} (h : ∀ b m, x ≠ .tup [b, m]) : isLotL T e (x :: r) = false := by
  cases x with
  | tup xs =>
    match xs, h with
    | [], _ => rfl
    | [_], _ => rfl
    | [b, m], h => exact absurd rfl (h b m)
    | _ :: _ :: _ :: _, _ => rfl
  | _ => rfl
theorem lot_two {T e : Int} {b m : D} {r : List D} : isLotL T e (.tup [b, m] :: r) = (isPartD T b m && (match b, m with
    | .int b, .int m => decide (e ≤ b) && isLotL T (b + m) r
    | _, _ => false)) := by
  cases b with
  | int b => cases m <;> rfl
  | _ => rfl
theorem part_ints {T : Int} {b m : D} (h : isPartD T b m = true) : ∃ i j, b = .int i ∧ m = .int j := by
  cases b with
  | int b =>
    cases m with
    | int m => exact ⟨b, m, rfl, rfl⟩
    | _ => cases h
  | _ => cases h
/-- the loop of is_lot, of rows of things -/
theorem roks_mem : ∀ {xs : List D}, D.roks xs = true → ∀ x ∈ xs, x.rok = true
  | x :: xs, h, y, hy => by
    have h' : (D.rok x && D.roks xs) = true := h
    rw [Bool.and_eq_true] at h'
    rcases List.mem_cons.mp hy with q | q
    · rw [q]; exact h'.1
    · exact roks_mem h'.2 y q
theorem tyK_dct (kvs : List (Key × D)) (k : String → Prop) : tyK (.dct kvs) k = k "dict" := rfl
theorem isi_dict_int : isiB "dict" "int" = false := by decide
theorem isi_dict_list : isiB "dict" "list" = false := by decide
theorem isi_dict_tuple : isiB "dict" "tuple" = false := by decide
theorem len_tup (xs : List D) (kk : W → Prop) : fLen [.tup xs] kk = kk (.d (.int xs.length)) := rfl
theorem sl__law_is_lot : ∀ ws S Qd Rd, sp__law_is_lot ws S Qd Rd → w__law_is_lot (z0 N__law_is_lot ws S) (ed0 S.length Qd) (fun x z => Rd x (z.S.take S.length)) := by
  rintro _ S Q R ⟨T, d, rfl, hd, h⟩
  unfold w__law_is_lot
  cases d with
  | ob _ _ => cases hd
  | scr _ => cases hd
  | non =>
    refine seqI fun K hK => ?_
    simp [N__law_is_lot]
    exact h
  | bl _ =>
    refine seqI fun K hK => ?_
    simp [N__law_is_lot]
    exact h
  | int _ =>
    refine seqI fun K hK => ?_
    simp [N__law_is_lot]
    exact h
  | str _ =>
    refine seqI fun K hK => ?_
    simp [N__law_is_lot]
    exact h
  | dct _ =>
    refine seqI fun K hK => ?_
    simp [N__law_is_lot, ↓tyK_dct, isi_dict_list, isi_dict_tuple]
    exact h
  | lst xs =>
    refine seqI fun K hK => ?_
    simp [N__law_is_lot, -x_seq]
    apply hK
    refine seqI fun K1 hK1 => ?_
    simp [-x_seq]
    apply hK1
    refine seqI fun K2 hK2 => ?_
    simp [-x_seq]
    refine fLoop_inv (fun rest z => ∃ e a, z = ⟨[.d (.int T), .d (.lst xs), .d (.int e), a], S⟩ ∧ D.roks rest = true ∧ Q (.d (.bl (isLotL T e rest))) S) ?_ ?_ xs _ ⟨0, _, rfl, hd, h⟩
    · rintro z ⟨e, a, rfl, _, hz⟩
      apply hK2
      simp
      exact hz
    · rintro x rest z ⟨e, a, rfl, hr, hz⟩ K3 hK3
      have hr1 : x.rok = true := roks_mem hr x List.mem_cons_self
      have hr2 : D.roks rest = true := by
        have h2 : (D.rok x && D.roks rest) = true := hr
        rw [Bool.and_eq_true] at h2
        exact h2.2
      simp [-x_seq]
      refine seqI fun K4 hK4 => ?_
      by_cases two : ∃ b m, x = .tup [b, m]
      · obtain ⟨b, m, rfl⟩ := two
        have hb := roks_mem (show D.roks [b, m] = true from hr1) b (by simp)
        have hm := roks_mem (show D.roks [b, m] = true from hr1) m (by simp)
        rw [lot_two] at hz
        simp [-x_seq]
        refine c__law_is_stretchD (rok_ty hb) (rok_ty hm) ?_
        by_cases q1 : isPartD T b m = true
        · obtain ⟨i, j, rfl, rfl⟩ := part_ints q1
          have q1' : isPart T i j = true := q1
          simp only [q1, Bool.true_and] at hz
          simp [-x_seq, q1]
          by_cases q2 : i < e
          · have q3 : ¬ e ≤ i := by omega
            simp [q2]
            simp [q3] at hz
            exact hz
          · have q3 : e ≤ i := by omega
            simp [q2, -x_seq]
            simp only [decide_eq_true q3, Bool.true_and] at hz
            apply hK4
            simp
            apply hK3
            exact ⟨_, _, rfl, hr2, hz⟩
        · have q1' : isPartD T b m = false := by simpa using q1
          rw [q1', Bool.false_and] at hz
          simp [q1']
          exact hz
      · rw [lot_no fun b m q => two ⟨b, m, q⟩] at hz
        cases x with
        | ob _ _ => cases hr1
        | scr _ => cases hr1
        | tup ys =>
          have hl : ys.length ≠ 2 := fun q => two (match ys, q with
            | [b, m], _ => ⟨b, m, rfl⟩)
          have hl2 : ¬ (ys.length : Int) = 2 := by omega
          simp [hl2]
          exact hz
        | dct kvs =>
          simp [↓tyK_dct, isi_dict_tuple]
          exact hz
        | _ =>
          simp
          exact hz
  | tup xs =>
    refine seqI fun K hK => ?_
    simp [N__law_is_lot, -x_seq]
    apply hK
    refine seqI fun K1 hK1 => ?_
    simp [-x_seq]
    apply hK1
    refine seqI fun K2 hK2 => ?_
    simp [-x_seq]
    refine fLoop_inv (fun rest z => ∃ e a, z = ⟨[.d (.int T), .d (.tup xs), .d (.int e), a], S⟩ ∧ D.roks rest = true ∧ Q (.d (.bl (isLotL T e rest))) S) ?_ ?_ xs _ ⟨0, _, rfl, hd, h⟩
    · rintro z ⟨e, a, rfl, _, hz⟩
      apply hK2
      simp
      exact hz
    · rintro x rest z ⟨e, a, rfl, hr, hz⟩ K3 hK3
      have hr1 : x.rok = true := roks_mem hr x List.mem_cons_self
      have hr2 : D.roks rest = true := by
        have h2 : (D.rok x && D.roks rest) = true := hr
        rw [Bool.and_eq_true] at h2
        exact h2.2
      simp [-x_seq]
      refine seqI fun K4 hK4 => ?_
      by_cases two : ∃ b m, x = .tup [b, m]
      · obtain ⟨b, m, rfl⟩ := two
        have hb := roks_mem (show D.roks [b, m] = true from hr1) b (by simp)
        have hm := roks_mem (show D.roks [b, m] = true from hr1) m (by simp)
        rw [lot_two] at hz
        simp [-x_seq]
        refine c__law_is_stretchD (rok_ty hb) (rok_ty hm) ?_
        by_cases q1 : isPartD T b m = true
        · obtain ⟨i, j, rfl, rfl⟩ := part_ints q1
          have q1' : isPart T i j = true := q1
          simp only [q1, Bool.true_and] at hz
          simp [-x_seq, q1]
          by_cases q2 : i < e
          · have q3 : ¬ e ≤ i := by omega
            simp [q2]
            simp [q3] at hz
            exact hz
          · have q3 : e ≤ i := by omega
            simp [q2, -x_seq]
            simp only [decide_eq_true q3, Bool.true_and] at hz
            apply hK4
            simp
            apply hK3
            exact ⟨_, _, rfl, hr2, hz⟩
        · have q1' : isPartD T b m = false := by simpa using q1
          rw [q1', Bool.false_and] at hz
          simp [q1']
          exact hz
      · rw [lot_no fun b m q => two ⟨b, m, q⟩] at hz
        cases x with
        | ob _ _ => cases hr1
        | scr _ => cases hr1
        | tup ys =>
          have hl : ys.length ≠ 2 := fun q => two (match ys, q with
            | [b, m], _ => ⟨b, m, rfl⟩)
          have hl2 : ¬ (ys.length : Int) = 2 := by omega
          simp [hl2]
          exact hz
        | dct kvs =>
          simp [↓tyK_dct, isi_dict_tuple]
          exact hz
        | _ =>
          simp
          exact hz
theorem sl_is_lot : ∀ ws S Qd Rd, sp_is_lot ws S Qd Rd → w_is_lot (z0 N_is_lot ws S) (ed0 S.length Qd) (fun x z => Rd x (z.S.take S.length)) := by
  rintro _ S Q R ⟨T, ps, d, rfl, hd, h⟩
  unfold w_is_lot
  cases d with
  | ob _ _ => cases hd
  | scr _ => cases hd
  | non =>
    refine seqI fun K hK => ?_
    simp [N_is_lot]
    exact h
  | bl _ =>
    refine seqI fun K hK => ?_
    simp [N_is_lot]
    exact h
  | int _ =>
    refine seqI fun K hK => ?_
    simp [N_is_lot]
    exact h
  | str _ =>
    refine seqI fun K hK => ?_
    simp [N_is_lot]
    exact h
  | dct _ =>
    refine seqI fun K hK => ?_
    simp [N_is_lot, ↓tyK_dct, isi_dict_list, isi_dict_tuple]
    exact h
  | lst xs =>
    refine seqI fun K hK => ?_
    simp [N_is_lot, -x_seq]
    apply hK
    refine seqI fun K1 hK1 => ?_
    simp [-x_seq]
    apply hK1
    refine seqI fun K2 hK2 => ?_
    simp [-x_seq]
    refine fLoop_inv (fun rest z => ∃ e a, z = ⟨[.d (encLay T ps), .d (.lst xs), .d (.int e), a], S⟩ ∧ D.roks rest = true ∧ Q (.d (.bl (isLotL T e rest))) S) ?_ ?_ xs _ ⟨0, _, rfl, hd, h⟩
    · rintro z ⟨e, a, rfl, _, hz⟩
      apply hK2
      simp
      exact hz
    · rintro x rest z ⟨e, a, rfl, hr, hz⟩ K3 hK3
      have hr1 : x.rok = true := roks_mem hr x List.mem_cons_self
      have hr2 : D.roks rest = true := by
        have h2 : (D.rok x && D.roks rest) = true := hr
        rw [Bool.and_eq_true] at h2
        exact h2.2
      simp [-x_seq]
      refine seqI fun K4 hK4 => ?_
      by_cases two : ∃ b m, x = .tup [b, m]
      · obtain ⟨b, m, rfl⟩ := two
        have hb := roks_mem (show D.roks [b, m] = true from hr1) b (by simp)
        have hm := roks_mem (show D.roks [b, m] = true from hr1) m (by simp)
        rw [lot_two] at hz
        simp [-x_seq]
        refine ⟨by decide, ?_⟩
        apply c_Lay_spots
        simp [-x_seq]
        refine c_is_partD (rok_ty hb) (rok_ty hm) ?_
        by_cases q1 : isPartD T b m = true
        · obtain ⟨i, j, rfl, rfl⟩ := part_ints q1
          have q1' : isPart T i j = true := q1
          simp only [q1, Bool.true_and] at hz
          simp [-x_seq, q1]
          apply hK4
          refine seqI fun K5 hK5 => ?_
          simp [-x_seq]
          by_cases q2 : i < e
          · have q3 : ¬ e ≤ i := by omega
            simp [q2]
            simp [q3] at hz
            exact hz
          · have q3 : e ≤ i := by omega
            simp [q2, -x_seq]
            simp only [decide_eq_true q3, Bool.true_and] at hz
            apply hK5
            simp
            apply hK3
            exact ⟨_, _, rfl, hr2, hz⟩
        · have q1' : isPartD T b m = false := by simpa using q1
          rw [q1', Bool.false_and] at hz
          simp [q1']
          exact hz
      · rw [lot_no fun b m q => two ⟨b, m, q⟩] at hz
        cases x with
        | ob _ _ => cases hr1
        | scr _ => cases hr1
        | tup ys =>
          have hl : ys.length ≠ 2 := fun q => two (match ys, q with
            | [b, m], _ => ⟨b, m, rfl⟩)
          have hl2 : ¬ (ys.length : Int) = 2 := by omega
          simp [hl2]
          exact hz
        | dct kvs =>
          simp [↓tyK_dct, isi_dict_tuple]
          exact hz
        | _ =>
          simp
          exact hz
  | tup xs =>
    refine seqI fun K hK => ?_
    simp [N_is_lot, -x_seq]
    apply hK
    refine seqI fun K1 hK1 => ?_
    simp [-x_seq]
    apply hK1
    refine seqI fun K2 hK2 => ?_
    simp [-x_seq]
    refine fLoop_inv (fun rest z => ∃ e a, z = ⟨[.d (encLay T ps), .d (.tup xs), .d (.int e), a], S⟩ ∧ D.roks rest = true ∧ Q (.d (.bl (isLotL T e rest))) S) ?_ ?_ xs _ ⟨0, _, rfl, hd, h⟩
    · rintro z ⟨e, a, rfl, _, hz⟩
      apply hK2
      simp
      exact hz
    · rintro x rest z ⟨e, a, rfl, hr, hz⟩ K3 hK3
      have hr1 : x.rok = true := roks_mem hr x List.mem_cons_self
      have hr2 : D.roks rest = true := by
        have h2 : (D.rok x && D.roks rest) = true := hr
        rw [Bool.and_eq_true] at h2
        exact h2.2
      simp [-x_seq]
      refine seqI fun K4 hK4 => ?_
      by_cases two : ∃ b m, x = .tup [b, m]
      · obtain ⟨b, m, rfl⟩ := two
        have hb := roks_mem (show D.roks [b, m] = true from hr1) b (by simp)
        have hm := roks_mem (show D.roks [b, m] = true from hr1) m (by simp)
        rw [lot_two] at hz
        simp [-x_seq]
        refine ⟨by decide, ?_⟩
        apply c_Lay_spots
        simp [-x_seq]
        refine c_is_partD (rok_ty hb) (rok_ty hm) ?_
        by_cases q1 : isPartD T b m = true
        · obtain ⟨i, j, rfl, rfl⟩ := part_ints q1
          have q1' : isPart T i j = true := q1
          simp only [q1, Bool.true_and] at hz
          simp [-x_seq, q1]
          apply hK4
          refine seqI fun K5 hK5 => ?_
          simp [-x_seq]
          by_cases q2 : i < e
          · have q3 : ¬ e ≤ i := by omega
            simp [q2]
            simp [q3] at hz
            exact hz
          · have q3 : e ≤ i := by omega
            simp [q2, -x_seq]
            simp only [decide_eq_true q3, Bool.true_and] at hz
            apply hK5
            simp
            apply hK3
            exact ⟨_, _, rfl, hr2, hz⟩
        · have q1' : isPartD T b m = false := by simpa using q1
          rw [q1', Bool.false_and] at hz
          simp [q1']
          exact hz
      · rw [lot_no fun b m q => two ⟨b, m, q⟩] at hz
        cases x with
        | ob _ _ => cases hr1
        | scr _ => cases hr1
        | tup ys =>
          have hl : ys.length ≠ 2 := fun q => two (match ys, q with
            | [b, m], _ => ⟨b, m, rfl⟩)
          have hl2 : ¬ (ys.length : Int) = 2 := by omega
          simp [hl2]
          exact hz
        | dct kvs =>
          simp [↓tyK_dct, isi_dict_tuple]
          exact hz
        | _ =>
          simp
          exact hz
theorem c_is_lot {T : Int} {ps : List Pc} {d : D} (hd : d.rok = true) (h : Q (.d (.bl (isLotD T d))) S) : sp_is_lot [.d (encLay T ps), .d d] S Q R := ⟨T, ps, d, rfl, hd, h⟩
theorem c__law_is_lot {T : Int} {d : D} (hd : d.rok = true) (h : Q (.d (.bl (isLotD T d))) S) : sp__law_is_lot [.d (.int T), .d d] S Q R := ⟨T, d, rfl, hd, h⟩
end Eng

end
section
set_option Elab.async false
set_option linter.all false
set_option maxRecDepth 100000
/-! L9b: odd things, bent tuples -/
namespace Eng
open PySem PySem.Spec PyProof.Rows L2
variable {S : List OV} {Q : W → List OV → Prop} {R : Exn → List OV → Prop}
def oddL : List D := [.non, .bl true, .bl false, .int 0, .int 1, .int (-1), .int 2, .int 1000000000000000000000000000000, .str "", .str "piece", .str "then", .str "x", .tup [], .lst [], .dct [], .tup [.int 0], .lst [.int 0, .int 1], .tup [.int 0, .int 1], .str "1",
  .tup [.str "piece"], .lst [.str "piece"], .tup [.bl true, .int 1], .dct [(.inr "piece", .int 1)], .tup [.tup [], .tup []], .lst [.lst []]]
set_option exponentiation.threshold 4000 in
theorem odd_tg : ∀ x ∈ oddL, Tg 20 3 x := by
  have h : (oddL.all fun x => x.fine && (decide (x.cn ≤ 20) && decide (x.pt.depth ≤ 3))) = true := by decide +kernel
  intro x hx
  have := List.all_eq_true.mp h x hx
  rw [Bool.and_eq_true, Bool.and_eq_true] at this
  exact ⟨this.1, of_decide_eq_true this.2.1, of_decide_eq_true this.2.2⟩
theorem cpow30 : CPow 10 30 := ⟨by decide, by decide, by decide⟩
theorem sl__law_odd : ∀ ws S Qd Rd, sp__law_odd ws S Qd Rd → w__law_odd (z0 N__law_odd ws S) (ed0 S.length Qd) (fun x z => Rd x (z.S.take S.length)) := by
  rintro _ _ Q R ⟨p, r, rfl, rfl, hf, h⟩
  unfold w__law_odd
  refine seqI fun K hK => ?_
  simp [N__law_odd, -x_seq]
  refine ⟨cpow30, ?_⟩
  refine ⟨by rw [sizeLine_eq]; omega, by rw [sizeLine_eq]; omega, ?_⟩
  apply hK
  refine seqI fun K1 hK1 => ?_
  simp [-x_seq]
  refine ⟨by rw [sizeLine_eq]; omega, ?_⟩
  rw [show keyD (D.str "piece") = some (.inr "piece") from rfl]
  simp only [x_opK_s]
  refine ⟨by rw [sizeLine_eq]; omega, by rw [sizeLine_eq]; omega, ?_⟩
  unfold Few at hf
  refine c__law_pick (p := p) (xs := oddL) (by unfold oddL; simp) (by unfold oddL; simp) (by unfold Few; omega) fun x p' hx t => ?_
  simp
  exact h _ _ (odd_tg x hx) (by omega)
theorem ix_tup {xs : List D} {k : Nat} {x : D} (h : xs[k]? = some x) (kk : W → Prop) : fIx (.tup xs) (.int k) kk = kk (.d x) := by
  rw [x_ix_t, atI_n, h]
  rfl
theorem ix_lst {xs : List D} {k : Nat} {x : D} (h : xs[k]? = some x) (kk : W → Prop) : fIx (.lst xs) (.int k) kk = kk (.d x) := by
  rw [x_ix_l, atI_n, h]
  rfl
theorem c__law_odd {p : Pen} {r : List OV} (hf : Few p 2) (h : ∀ (d : D) (p' : Pen), Tg 20 3 d → p'.turn ≤ p.turn + 2 → Q (.d d) (penO p' :: r)) : sp__law_odd [.cel 0] (penO p :: r) Q R := ⟨p, r, rfl, rfl, hf, h⟩
theorem lf_ty {x : D} (h : Lf x) : (∃ i, x = .int i ∧ i.natAbs < 2 ^ 1890) ∨ ∃ s, x = .str s ∧ PyData.strOk s = true ∧ s.cps.size ≤ 20 := by
  cases x with
  | int i => exact .inl ⟨i, rfl, h⟩
  | str s => exact .inr ⟨s, rfl, h⟩
  | _ => exact h.elim
theorem lfs_tg {xs : List D} (h : ∀ x ∈ xs, Lf x) (hl : xs.length ≤ 20) : TgL 420 3 xs := (TgL.of (n := 21) (k := 3) fun x hx => (h x hx).tg.mono (Nat.le_refl _) (by omega)).mono (by omega) (Nat.le_refl _)
theorem six {a b c d e f : D} {w : Int} (h0 : 0 ≤ w) (h1 : w < 6) {P : D → Prop} (ha : P a) (hb : P b) (hc : P c) (hd : P d) (he : P e) (hf : P f) : ∃ (n : Nat) (x : D), w = n ∧ [a, b, c, d, e, f][n]? = some x ∧ P x := by
  obtain ⟨n, rfl⟩ : ∃ n : Nat, w = n := ⟨w.toNat, by omega⟩
  have : n = 0 ∨ n = 1 ∨ n = 2 ∨ n = 3 ∨ n = 4 ∨ n = 5 := by omega
  rcases this with rfl | rfl | rfl | rfl | rfl | rfl
  · exact ⟨0, _, rfl, rfl, ha⟩
  · exact ⟨1, _, rfl, rfl, hb⟩
  · exact ⟨2, _, rfl, rfl, hc⟩
  · exact ⟨3, _, rfl, rfl, hd⟩
  · exact ⟨4, _, rfl, rfl, he⟩
  · exact ⟨5, _, rfl, rfl, hf⟩
set_option exponentiation.threshold 4000 in
theorem pow_20000 : 2 ^ 1900 ≤ 2 ^ 20000 := Nat.pow_le_pow_right (by decide) (by decide)
theorem sl__law_bent_tuple : ∀ ws S Qd Rd, sp__law_bent_tuple ws S Qd Rd → w__law_bent_tuple (z0 N__law_bent_tuple ws S) (ed0 S.length Qd) (fun x z => Rd x (z.S.take S.length)) := by
  rintro _ _ Q R ⟨p, r, row, other, rfl, rfl, hn, hl, hlo, hrow, hoth, hf, h⟩
  have hn' := List.length_pos_iff.mpr hn
  unfold Few at hf
  unfold w__law_bent_tuple
  refine seqI fun K hK => ?_
  simp [N__law_bent_tuple, -x_seq, -x_par2, ↓y_par2]
  refine c__law_draw (p := p) (by omega) (by omega) (by unfold Few; omega) fun d1 p1 d10 d11 t1 => ?_
  simp [-x_seq, -x_par2, ↓y_par2]
  refine c__law_draw (p := p1) (by omega) (by omega) (by unfold Few; omega) fun d2 p2 d20 d21 t2 => ?_
  simp [-x_seq, -x_par2, ↓y_par2]
  apply hK
  obtain ⟨k, rfl⟩ : ∃ k : Nat, d1 = (k : Int) := ⟨d1.toNat, by omega⟩
  have hk : k < row.length := by omega
  obtain ⟨x, hx⟩ : ∃ x, row[k]? = some x := ⟨_, List.getElem?_eq_getElem hk⟩
  have lx := hrow x (List.mem_of_getElem? hx)
  refine seqI fun K1 hK1 => ?_
  simp [-x_seq, ↓ix_tup hx]
  apply hK1
  refine seqI fun K2 hK2 => ?_
  have e1 : cutD row none (some (k : Int)) = row.take k := cut_to row k
  have e2 : cutD row (some ((k : Int) + 1)) none = row.drop (k + 1) := cut_from row (k + 1)
  have e3 : cutD row (some (k : Int)) none = row.drop k := cut_from row k
  have gt : TgL 210 3 (row.take k) := (TgL.of (n := 21) (k := 3) fun y hy => (hrow y (List.mem_of_mem_take hy)).tg.mono (Nat.le_refl _) (by omega)).mono (by rw [List.length_take]; omega) (Nat.le_refl _)
  have gd : TgL 210 3 (row.drop (k + 1)) := (TgL.of (n := 21) (k := 3) fun y hy => (hrow y (List.mem_of_mem_drop hy)).tg.mono (Nat.le_refl _) (by omega)).mono (by rw [List.length_drop]; omega) (Nat.le_refl _)
  have gd0 : TgL 210 3 (row.drop k) := (TgL.of (n := 21) (k := 3) fun y hy => (hrow y (List.mem_of_mem_drop hy)).tg.mono (Nat.le_refl _) (by omega)).mono (by rw [List.length_drop]; omega) (Nat.le_refl _)
  have gr : TgL 210 3 row := (TgL.of (n := 21) (k := 3) fun y hy => (hrow y hy).tg.mono (Nat.le_refl _) (by omega)).mono (by omega) (Nat.le_refl _)
  have lt : (row.take k).length ≤ 10 := by rw [List.length_take]; omega
  have ld : (row.drop (k + 1)).length ≤ 10 := by rw [List.length_drop]; omega
  have ld0 : (row.drop k).length ≤ 10 := by rw [List.length_drop]; omega
  have hfin : ∀ (t : D) (p' : Pen), Tg 600 3 t → p'.turn ≤ p.turn + 20 → K2 ⟨[.cel 0, .d (.tup row), .d (.tup other), .d (.int k), .d (.int d2), .d t], penO p' :: r⟩ := by
    intro t p' ht hp'
    apply hK2
    simp [e1, e2, -List.length_take, -List.length_drop]
    refine ⟨by rw [sizeLine_eq]; omega, by rw [sizeLine_eq]; omega, by rw [sizeLine_eq]; omega, ?_⟩
    refine h _ _ ?_ hp'
    have := (gt.append (TgL.cons ht gd)).tup
    exact this.mono (by omega) (by omega)
  rcases lf_ty lx with ⟨i, rfl, hi⟩ | ⟨s, rfl, hs1, hs2⟩
  · have hi9 : i.natAbs < 2 ^ 1900 := by
      have := pow_1890
      generalize 2 ^ 1890 = A at *
      omega
    simp [-x_seq]
    by_cases c6 : d2 < 6
    · simp [c6, -x_seq]
      simp
      have hp := pow_1890
      have h1 : (i + 1).natAbs < 2 ^ 1900 ∧ (i - 1).natAbs < 2 ^ 1900 ∧ (-i).natAbs < 2 ^ 1900 ∧ (2 * i).natAbs < 2 ^ 1900 := by
        generalize 2 ^ 1890 = A at *
        generalize 2 ^ 1900 = B at *
        omega
      obtain ⟨a1, a2, a3, a4⟩ := h1
      have up : ∀ j : Int, j.natAbs < 2 ^ 1900 → Tg 600 3 (.int j) := fun j hj => (tg_int hj).mono (by omega) (by omega)
      obtain ⟨n, y, rfl, hy, gy⟩ := six (P := Tg 600 3) d20 c6 (up _ a1) (up _ a2) (up _ a3) (up _ a1) (up _ a2) (up _ a4)
      refine ⟨⟨?_, Nat.lt_of_lt_of_le hi9 pow_20000⟩, ?_⟩
      · show 2 < 2 ^ 20000
        exact Nat.lt_of_lt_of_le (show 2 < 2 ^ 2 by decide) (Nat.pow_le_pow_right (by decide) (by decide))
      rw [atI_n, hy]
      exact hfin y p2 gy (by omega)
    · simp [c6, -x_seq]
      simp only [x_seq, x_nx]
      by_cases c9 : d2 < 9
      · have hlen : 1 ≤ (other.length : Int) + row.length := by omega
        simp [c9, -x_seq]
        simp
        refine ⟨by rw [sizeLine_eq]; omega, ?_⟩
        refine c__law_draw (p := p2) (by omega) (by omega) (by unfold Few; omega) fun d3 p3 d30 d31 t3 => ?_
        obtain ⟨j, rfl⟩ : ∃ j : Nat, d3 = (j : Int) := ⟨d3.toNat, by omega⟩
        have hj : j < (other ++ row).length := by rw [List.length_append]; omega
        obtain ⟨y, hy⟩ : ∃ y, (other ++ row)[j]? = some y := ⟨_, List.getElem?_eq_getElem hj⟩
        have ly : Lf y := by
          rcases List.mem_append.mp (List.mem_of_getElem? hy) with q | q
          · exact hoth y q
          · exact hrow y q
        simp [↓ix_tup hy]
        exact hfin y p3 (ly.tg.mono (by omega) (by omega)) (by omega)
      · simp [c9, -x_seq]
        simp only [x_seq, x_nx]
        by_cases c99 : d2 = 9
        · subst c99
          simp [-x_seq]
          simp [e1, e2, e3, -List.length_take, -List.length_drop]
          refine ⟨by rw [sizeLine_eq]; omega, by rw [sizeLine_eq]; omega, ?_⟩
          refine c__law_pick (p := p2) (xs := [.tup (row.take k ++ row.drop (k + 1)), .tup (row ++ row.drop k), .lst row]) (by simp) (by simp) (by unfold Few; omega) fun y p3 hy t3 => ?_
          simp
          refine h _ _ ?_ (by omega)
          simp at hy
          rcases hy with rfl | rfl | rfl
          · exact (gt.append gd).tup.mono (by omega) (by omega)
          · exact (gr.append gd0).tup.mono (by omega) (by omega)
          · exact gr.lst.mono (by omega) (by omega)
        · simp [c99, -x_seq]
          simp
          refine c__law_odd (p := p2) (by unfold Few; omega) fun y p3 gy t3 => ?_
          simp
          refine ⟨int_bits hi9, ?_⟩
          refine c__law_pick (p := p3) (xs := [y, .bl (decide (i = 1)), .str (toString i)]) (by simp) (by simp) (by unfold Few; omega) fun u p4 hu t4 => ?_
          simp
          refine hfin u p4 ?_ (by omega)
          simp at hu
          rcases hu with rfl | rfl | rfl
          · exact gy.mono (by omega) (by omega)
          · exact (tg_bl _).mono (by omega) (by omega)
          · exact (tg_toStr hi9).mono (by omega) (by omega)
  · simp [-x_seq]
    simp only [x_seq, x_nx]
    by_cases c9 : d2 < 9
    · have hlen : 1 ≤ (other.length : Int) + row.length := by omega
      simp [c9, -x_seq]
      simp
      refine ⟨by rw [sizeLine_eq]; omega, ?_⟩
      refine c__law_draw (p := p2) (by omega) (by omega) (by unfold Few; omega) fun d3 p3 d30 d31 t3 => ?_
      obtain ⟨j, rfl⟩ : ∃ j : Nat, d3 = (j : Int) := ⟨d3.toNat, by omega⟩
      have hj : j < (other ++ row).length := by rw [List.length_append]; omega
      obtain ⟨y, hy⟩ : ∃ y, (other ++ row)[j]? = some y := ⟨_, List.getElem?_eq_getElem hj⟩
      have ly : Lf y := by
        rcases List.mem_append.mp (List.mem_of_getElem? hy) with q | q
        · exact hoth y q
        · exact hrow y q
      simp [↓ix_tup hy]
      exact hfin y p3 (ly.tg.mono (by omega) (by omega)) (by omega)
    · simp [c9, -x_seq]
      simp only [x_seq, x_nx]
      by_cases c99 : d2 = 9
      · subst c99
        simp [-x_seq]
        simp [e1, e2, e3, -List.length_take, -List.length_drop]
        refine ⟨by rw [sizeLine_eq]; omega, by rw [sizeLine_eq]; omega, ?_⟩
        refine c__law_pick (p := p2) (xs := [.tup (row.take k ++ row.drop (k + 1)), .tup (row ++ row.drop k), .lst row]) (by simp) (by simp) (by unfold Few; omega) fun y p3 hy t3 => ?_
        simp
        refine h _ _ ?_ (by omega)
        simp at hy
        rcases hy with rfl | rfl | rfl
        · exact (gt.append gd).tup.mono (by omega) (by omega)
        · exact (gr.append gd0).tup.mono (by omega) (by omega)
        · exact gr.lst.mono (by omega) (by omega)
      · simp [c99, -x_seq]
        simp
        refine c__law_odd (p := p2) (by unfold Few; omega) fun y p3 gy t3 => ?_
        simp
        refine c__law_pick (p := p3) (xs := [y, .bl false, .str s]) (by simp) (by simp) (by unfold Few; omega) fun u p4 hu t4 => ?_
        simp
        refine hfin u p4 ?_ (by omega)
        simp at hu
        rcases hu with rfl | rfl | rfl
        · exact gy.mono (by omega) (by omega)
        · exact (tg_bl _).mono (by omega) (by omega)
        · exact (tg_str hs1).mono (by omega) (by omega)
theorem c__law_bent_tuple {p : Pen} {r : List OV} {row other : List D} (h1 : row ≠ []) (h2 : row.length ≤ 10) (h3 : other.length ≤ 10) (h4 : ∀ x ∈ row, Lf x) (h5 : ∀ x ∈ other, Lf x) (h6 : Few p 20) (h : ∀ (d : D) (p' : Pen), Tg 1500 4 d → p'.turn ≤ p.turn + 20 → Q (.d d) (penO p' :: r)) :
    sp__law_bent_tuple [.cel 0, .d (.tup row), .d (.tup other)] (penO p :: r) Q R := ⟨p, r, row, other, rfl, rfl, h1, h2, h3, h4, h5, h6, h⟩
end Eng

end
section
set_option Elab.async false
set_option linter.all false
set_option maxRecDepth 100000
/-! L9c: bent lots -/
namespace Eng
open PySem PySem.Spec PyProof.Rows L2
variable {S : List OV} {Q : W → List OV → Prop} {R : Exn → List OV → Prop}
theorem eq_lot0 (neg : Bool) (lot : List (Int × Int)) (kk : W → Prop) : fEq neg (.lst (lot.map encS)) (.lst []) kk = kk (.d (.bl (if neg then !lot.isEmpty else lot.isEmpty))) := by
  rw [encS_tup, x_eq_lt0]
  simp
theorem tg_encS {l : Int × Int} (h1 : l.1.natAbs ≤ 10 ^ 60 + 1) (h2 : l.2.natAbs ≤ 10 ^ 60 + 1) : Tg 3 1 (encS l) := by
  have hp := pow_60
  have hq := pow_1890
  have b1 : l.1.natAbs < 2 ^ 1900 := by
    generalize 2 ^ 1890 = A at *
    generalize 2 ^ 1900 = B at *
    omega
  have b2 : l.2.natAbs < 2 ^ 1900 := by
    generalize 2 ^ 1890 = A at *
    generalize 2 ^ 1900 = B at *
    omega
  exact (TgL.cons (tg_int b1) (tg_int b2).of1).tup
theorem lf_int {i : Int} (h : i.natAbs ≤ 10 ^ 60 + 1) : Lf (.int i) := by
  show i.natAbs < 2 ^ 1890
  have hp : 10 ^ 60 + 2 ≤ 2 ^ 1890 := Nat.le_trans (by decide : 10 ^ 60 + 2 ≤ 2 ^ 250) (Nat.pow_le_pow_right (by decide) (by decide))
  generalize 2 ^ 1890 = A at *
  omega
theorem tg_sm {i : Int} (h : i.natAbs ≤ 10 ^ 60 + 1) : Tg 1 0 (.int i) := by
  have hp := pow_60
  have hq := pow_1890
  refine tg_int ?_
  generalize 2 ^ 1890 = A at *
  generalize 2 ^ 1900 = B at *
  omega
theorem sl__law_bent_lot : ∀ ws S Qd Rd, sp__law_bent_lot ws S Qd Rd → w__law_bent_lot (z0 N__law_bent_lot ws S) (ed0 S.length Qd) (fun x z => Rd x (z.S.take S.length)) := by
  rintro _ _ Q R ⟨p, r, lot, T, rfl, rfl, hl, hb, hT, hf, h⟩
  unfold Few at hf
  unfold w__law_bent_lot
  have hret : ∀ (xs : List D) (p' : Pen), TgL 2900 5 xs → p'.turn ≤ p.turn + 50 → Q (.d (.lst xs)) (penO p' :: r) := fun xs p' g hp => h _ _ (g.lst.mono (by omega) (by omega)) hp
  refine seqI fun K hK => ?_
  simp [N__law_bent_lot, -x_seq, ↓eq_lot0]
  by_cases c0 : lot = []
  · subst c0
    simp
    refine c__law_pick (p := p) (xs := [.int 0, .int 1, .int (-1), .int T]) (by simp) (by simp) (by unfold Few; omega) fun x p1 hx t1 => ?_
    simp
    refine c__law_pick (p := p1) (xs := [.int 1, .int T, .int (T + 1), .int 0]) (by simp) (by simp) (by unfold Few; omega) fun y p2 hy t2 => ?_
    simp
    have i0 : ∀ i : Int, i.natAbs ≤ 10 ^ 60 + 1 → Tg 1 4 (.int i) := fun i hi => (tg_sm hi).mono (by omega) (by omega)
    have gx : Tg 1 4 x := by
      simp at hx
      rcases hx with rfl | rfl | rfl | rfl <;> exact i0 _ (by omega)
    have gy : Tg 1 4 y := by
      simp at hy
      rcases hy with rfl | rfl | rfl | rfl <;> exact i0 _ (by omega)
    refine ⟨by rw [sizeLine_eq]; omega, ?_⟩
    exact hret _ p2 ((TgL.cons gx gy.of1).tup.of1.mono (by omega) (by omega)) (by omega)
  · have c0' : lot.isEmpty = false := by simpa using c0
    have hn := List.length_pos_iff.mpr c0
    simp [-x_seq, c0, c0']
    apply hK
    refine seqI fun K1 hK1 => ?_
    simp [-x_seq, -x_par2, ↓y_par2]
    refine c__law_draw (p := p) (by omega) (by omega) (by unfold Few; omega) fun d1 p1 d10 d11 t1 => ?_
    simp [-x_seq, -x_par2, ↓y_par2]
    refine c__law_draw (p := p1) (by omega) (by omega) (by unfold Few; omega) fun d2 p2 d20 d21 t2 => ?_
    simp [-x_seq, -x_par2, ↓y_par2]
    apply hK1
    obtain ⟨k, rfl⟩ : ∃ k : Nat, d1 = (k : Int) := ⟨d1.toNat, by omega⟩
    have hk : k < lot.length := by omega
    obtain ⟨l, hkl⟩ : ∃ l, lot[k]? = some l := ⟨_, List.getElem?_eq_getElem hk⟩
    obtain ⟨l0, hl0⟩ : ∃ l0, lot[0]? = some l0 := ⟨_, List.getElem?_eq_getElem hn⟩
    have bl := hb l (List.mem_of_getElem? hkl)
    have bl0 := hb l0 (List.mem_of_getElem? hl0)
    have ik : (lot.map encS)[k]? = some (.tup [.int l.1, .int l.2]) := by rw [List.getElem?_map, hkl]; rfl
    have i0 : (lot.map encS)[0]? = some (.tup [.int l0.1, .int l0.2]) := by rw [List.getElem?_map, hl0]; rfl
    have g3 : ∀ x ∈ lot.map encS, Tg 3 5 x := fun x hx => by
      obtain ⟨y, hy, rfl⟩ := List.mem_map.mp hx
      exact (tg_encS (Nat.le_succ_of_le (hb y hy).1) (Nat.le_succ_of_le (hb y hy).2)).mono (by omega) (by omega)
    have e1 : cutD (lot.map encS) none (some (k : Int)) = (lot.map encS).take k := cut_to _ k
    have e2 : cutD (lot.map encS) (some ((k : Int) + 1)) none = (lot.map encS).drop (k + 1) := cut_from _ (k + 1)
    have e3 : cutD (lot.map encS) (some (k : Int)) none = (lot.map encS).drop k := cut_from _ k
    have hll : (lot.map encS).length ≤ 10 := by rw [List.length_map]; exact hl
    generalize lot.map encS = LL at *
    have gL : TgL 30 5 LL := (TgL.of g3).mono (by omega) (by omega)
    have gt : TgL 30 5 (LL.take k) := (TgL.of (n := 3) (k := 5) fun y hy => g3 y (List.mem_of_mem_take hy)).mono (by rw [List.length_take]; omega) (Nat.le_refl _)
    have gd : TgL 30 5 (LL.drop (k + 1)) := (TgL.of (n := 3) (k := 5) fun y hy => g3 y (List.mem_of_mem_drop hy)).mono (by rw [List.length_drop]; omega) (Nat.le_refl _)
    have gd0 : TgL 30 5 (LL.drop k) := (TgL.of (n := 3) (k := 5) fun y hy => g3 y (List.mem_of_mem_drop hy)).mono (by rw [List.length_drop]; omega) (Nat.le_refl _)
    have lt : (LL.take k).length ≤ 10 := by rw [List.length_take]; omega
    have ld : (LL.drop (k + 1)).length ≤ 10 := by rw [List.length_drop]; omega
    have ld0 : (LL.drop k).length ≤ 10 := by rw [List.length_drop]; omega
    refine seqI fun K2 hK2 => ?_
    simp [-x_seq, -x_par2, ↓y_par2, ↓ix_lst ik, e2]
    apply hK2
    generalize hdk : LL.drop (k + 1) = dk at *
    generalize htk : LL.take k = tk at *
    generalize hd0 : LL.drop k = d0 at *
    refine seqI fun K3 hK3 => ?_
    simp [-x_seq]
    have gl : Tg 3 5 (.tup [.int l.1, .int l.2]) := (tg_encS (l := l) (by omega) (by omega)).mono (by omega) (by omega)
    have lf2 : ∀ q : Int × Int, q.1.natAbs ≤ 10 ^ 60 ∧ q.2.natAbs ≤ 10 ^ 60 → ∀ x ∈ [D.int q.1, D.int q.2], Lf x := by
      intro q hq x hx
      simp at hx
      rcases hx with rfl | rfl
      · exact lf_int (by omega)
      · exact lf_int (by omega)
    by_cases c1 : d2 < 2
    · simp [c1, -x_seq]
      simp [e1, i0]
      refine c__law_bent_tuple (p := p2) (by simp) (by simp) (by simp) (lf2 l bl) (lf2 l0 bl0) (by unfold Few; omega) fun x p3 gx t3 => ?_
      simp
      refine ⟨by rw [sizeLine_eq]; omega, by rw [sizeLine_eq]; omega, by rw [sizeLine_eq]; omega, ?_⟩
      exact hret _ p3 ((gt.append (TgL.cons (gx.mono (Nat.le_refl _) (by omega)) gd)).mono (by omega) (by omega)) (by omega)
    rw [if_neg c1]
    apply hK3
    refine seqI fun K4 hK4 => ?_
    simp [-x_seq]
    by_cases c2 : d2 = 2
    · simp [c2, -x_seq]
      simp [e1]
      refine ⟨by rw [sizeLine_eq]; omega, by rw [sizeLine_eq]; omega, by rw [sizeLine_eq]; omega, ?_⟩
      exact hret _ p2 ((gt.append (TgL.cons ((tg_encS (l := (l.1, l.2 + 1)) (by simp only; omega) (by simp only; omega)).mono (Nat.le_refl _) (by omega)) gd)).mono (by omega) (by omega)) (by omega)
    simp only [c2, decide_false, Bool.false_eq_true, if_false]
    apply hK4
    refine seqI fun K5 hK5 => ?_
    simp [-x_seq]
    by_cases c3 : d2 = 3
    · simp [c3, -x_seq]
      simp [e1]
      refine ⟨by rw [sizeLine_eq]; omega, by rw [sizeLine_eq]; omega, by rw [sizeLine_eq]; omega, ?_⟩
      have b3 : (if 1 < l.1 then l.1 - 1 else 0).natAbs ≤ 10 ^ 60 + 1 ∧ (l.2 + if 0 < l.1 then 1 else 0).natAbs ≤ 10 ^ 60 + 1 := by
        constructor <;> split <;> omega
      exact hret _ p2 ((gt.append (TgL.cons ((tg_encS (l := (if 1 < l.1 then l.1 - 1 else 0, l.2 + if 0 < l.1 then 1 else 0)) b3.1 b3.2).mono (Nat.le_refl _) (by omega)) gd)).mono (by omega) (by omega)) (by omega)
    simp only [c3, decide_false, Bool.false_eq_true, if_false]
    apply hK5
    refine seqI fun K6 hK6 => ?_
    simp [-x_seq]
    by_cases c4 : d2 = 4
    · simp [c4, -x_seq]
      simp [e1, e3]
      refine ⟨by rw [sizeLine_eq]; omega, by rw [sizeLine_eq]; omega, by rw [sizeLine_eq]; omega, ?_⟩
      exact hret _ p2 ((gt.append (TgL.cons gl gd0)).mono (by omega) (by omega)) (by omega)
    simp only [c4, decide_false, Bool.false_eq_true, if_false]
    apply hK6
    refine seqI fun K7 hK7 => ?_
    simp [-x_seq]
    by_cases c5 : d2 = 5
    · simp [c5, -x_seq]
      simp [e1]
      refine ⟨by rw [sizeLine_eq]; omega, by rw [sizeLine_eq]; omega, by rw [sizeLine_eq]; omega, ?_⟩
      exact hret _ p2 ((gt.append (gd.append gl.of1)).mono (by omega) (by omega)) (by omega)
    simp only [c5, decide_false, Bool.false_eq_true, if_false]
    apply hK7
    refine seqI fun K8 hK8 => ?_
    simp [-x_seq]
    by_cases c6 : d2 = 6
    · simp [c6, -x_seq]
      simp [e1]
      refine c__law_odd (p := p2) (by unfold Few; omega) fun y p3 gy t3 => ?_
      simp
      refine ⟨by rw [sizeLine_eq]; omega, ?_⟩
      rw [show cutD [D.int l.1, D.int l.2] none (some 1) = [D.int l.1] from rfl]
      have t1' : Tg 1 4 (.int l.1) := (tg_sm (by omega)).mono (by omega) (by omega)
      have t2' : Tg 1 4 (.int l.2) := (tg_sm (by omega)).mono (by omega) (by omega)
      have t3' : Tg 1 4 (.int 1) := (tg_sm (by decide)).mono (by omega) (by omega)
      refine c__law_pick (p := p3) (xs := [y, .lst [.int l.1, .int l.2], .tup [.int l.1, .int l.2, .int 1], .tup [.int l.1]]) (by simp) (by simp) (by unfold Few; omega) fun x p4 hx t4 => ?_
      have gx : Tg 20 5 x := by
        simp at hx
        rcases hx with rfl | rfl | rfl | rfl
        · exact gy.mono (by omega) (by omega)
        · exact (TgL.cons t1' t2'.of1).lst.mono (by omega) (by omega)
        · exact (TgL.cons t1' (TgL.cons t2' t3'.of1)).tup.mono (by omega) (by omega)
        · exact t1'.of1.tup.mono (by omega) (by omega)
      simp
      refine ⟨by rw [sizeLine_eq]; omega, by rw [sizeLine_eq]; omega, by rw [sizeLine_eq]; omega, ?_⟩
      exact hret _ p4 ((gt.append (TgL.cons gx gd)).mono (by omega) (by omega)) (by omega)
    simp only [c6, decide_false, Bool.false_eq_true, if_false]
    apply hK8
    simp
    refine ⟨by rw [sizeLine_eq]; omega, by rw [sizeLine_eq]; omega, ?_⟩
    exact hret _ p2 ((gL.append ((tg_encS (l := (T - 1, 1)) (by simp only; omega) (by simp only; omega)).mono (Nat.le_refl _) (by omega)).of1).mono (by omega) (by omega)) (by omega)
theorem c__law_bent_lot {p : Pen} {r : List OV} {lot : List (Int × Int)} {T : Int} (h1 : lot.length ≤ 10) (h2 : ∀ l ∈ lot, l.1.natAbs ≤ 10 ^ 60 ∧ l.2.natAbs ≤ 10 ^ 60) (h3 : T.natAbs ≤ 10 ^ 60) (h4 : Few p 50) (h : ∀ (d : D) (p' : Pen), Tg 3000 6 d → p'.turn ≤ p.turn + 50 → Q (.d d) (penO p' :: r)) :
    sp__law_bent_lot [.cel 0, .d (.lst (lot.map encS)), .d (.int T)] (penO p :: r) Q R := ⟨p, r, lot, T, rfl, rfl, h1, h2, h3, h4, h⟩
end Eng

end
section
set_option Elab.async false
set_option linter.all false
set_option maxRecDepth 100000
namespace Eng
open PySem PySem.Spec PyProof.Rows L2
def w_law : WS := (wSeq (wSetO 1 (wCall sp__law_pen (wCons (wVar 0) wNil)))
  (wPush 1 (wSeq (wFor (iR1 (wCons (wOp2 fAdd (wC (.int 3)) (wCallB fMin2 (wCons (wC (.int 5)) (wCons (wCallB fLen (wCons (wVar 0) wNil)) wNil)))) wNil)) (gN 2)
  (wSeq (wSet 3 (wCall sp__law_pick (wCons (wVar 1) (wCons (wLst (wCons (wCall sp__law_small (wCons (wVar 1) (wCons (wC (.int 24)) wNil))) (wCons (wCall sp__law_long (wCons (wVar 1) wNil)) wNil))) wNil))))
  (wSeq (wSet 4 (wCall sp__law_total (wCons (wVar 3) wNil)))
  (wSeq (wPar2 5 6 (wCons (wMk "Lay" sp_Lay_init (wCons (wVar 4) (wCons (wVar 3) wNil))) (wCons (wCall sp__law_lot (wCons (wVar 1) (wCons (wVar 4) (wCons (wOp2 fAdd (wC (.int 1)) (wCall sp__law_draw (wCons (wVar 1) (wCons (wC (.int 5)) wNil)))) wNil)))) wNil)))
  (wSeq (wSet 7 (wLst (wCons (wVar 6) (wCons (wCallB fTupOf (wCons (wVar 6) wNil)) (wCons (wOp2 fAdd (wVar 6) (wLst (wCons (wTup (wCons (wVar 4) (wCons (wC (.int 1)) wNil))) wNil))) (wCons (wLst (wCons (wTup (wCons (wC (.int 0)) (wCons (wOp2 fAdd (wVar 4) (wC (.int 1))) wNil))) wNil)) (wCons (wCall sp__law_odd (wCons (wVar 1) wNil)) wNil)))))))
  (wSeq (wSet 7 (wOp2 fAdd (wVar 7) (wComp [10] (iR1 (wCons (wC (.int 4)) wNil)) (gN 10) wYes (wCall sp__law_bent_lot (wCons (wVar 1) (wCons (wVar 6) (wCons (wVar 4) wNil)))))))
  (wSeq (wFor (iData (wOp2 fAdd (wVar 7) (wLst (wCons (wCall sp__law_bent_lot (wCons (wVar 1) (wCons (wLst (wCons (wTup (wCons (wC (.int 0)) (wCons (wVar 4) wNil))) wNil)) (wCons (wVar 4) wNil)))) wNil)))) (gN 8)
  (wSeq (wSet 9 (wCallB fRepr (wCons (wVar 8) wNil)))
  (wSeq (wIfS (wTOr (wAsT (wOp2 (fEqS true) (wCallB fRepr (wCons (wCall sp_is_lot (wCons (wVar 5) (wCons (wVar 8) wNil))) wNil)) (wCallB fRepr (wCons (wCall sp__law_is_lot (wCons (wVar 4) (wCons (wVar 8) wNil))) wNil)))) (wAsT (wOp2 (fEqS true) (wCallB fRepr (wCons (wVar 8) wNil)) (wVar 9))))
  (wSeq (wRt (wC (.bl false)))
  wNx)
  wNx)
  wNx)))
  (wSeq (wIfS (wAsT (wOp2 (fIsB true) (wCall sp_is_lot (wCons (wVar 5) (wCons (wVar 6) wNil))) (wC (.bl true))))
  (wSeq (wRt (wC (.bl false)))
  wNx)
  wNx)
  wNx))))))))
  (wSeq (wRt (wAnd (wOp2 (fIsB false) (wCall sp_is_lot (wCons (wMk "Lay" sp_Lay_init (wCons (wC (.int 0)) (wCons (wLst wNil) wNil))) (wCons (wLst wNil) wNil))) (wC (.bl true))) (wOp2 (fIsB false) (wCall sp_is_lot (wCons (wMk "Lay" sp_Lay_init (wCons (wC (.int 0)) (wCons (wLst wNil) wNil))) (wCons (wLst (wCons (wTup (wCons (wC (.int 0)) (wCons (wC (.int 1)) wNil))) wNil)) wNil))) (wC (.bl false)))))
  wNx))))
def N_law : List Str := ["script", "pen", "bout", "pieces", "total", "lay", "lot", "some", "thing", "kept", "k"]
end Eng

end
section
set_option Elab.async false
set_option linter.all false
set_option maxRecDepth 100000
/-! L9d: the law (what is a lot) -/
namespace Eng
open PySem PySem.Spec PyProof.Rows L2
variable {S : List OV} {Q : W → List OV → Prop} {R : Exn → List OV → Prop}
theorem c__law_pen {ns : List Int} (h : Q (.new (penO ⟨ns.take 63, 0, 0⟩)) S) : sp__law_pen [.d (.scr ns)] S Q R := ⟨ns, rfl, h⟩
theorem c__law_total {ps : List Pc} (hl : ps.length < 1000000) (h : Q (.d (.int (ps.map Pc.m).sum)) S) : sp__law_total [.d (.lst (ps.map encP))] S Q R := ⟨ps, rfl, hl, h⟩
theorem lot_ok {T : Int} : ∀ (lot : List (Int × Int)) (e : Int), Disj lot → (∀ l ∈ lot, 0 ≤ l.1 ∧ 1 ≤ l.2 ∧ l.1 + l.2 ≤ T) → (∀ l ∈ lot, e ≤ l.1) → isLotL T e (lot.map encS) = true
  | [], _, _, _, _ => rfl
  | l :: lot, e, hd, hb, he => by
    obtain ⟨d1, d2⟩ := List.pairwise_cons.mp hd
    have b := hb l List.mem_cons_self
    have e1 := he l List.mem_cons_self
    show (isPart T l.1 l.2 && (decide (e ≤ l.1) && isLotL T (l.1 + l.2) (lot.map encS))) = true
    rw [lot_ok lot (l.1 + l.2) d2 (fun k hk => hb k (List.mem_cons_of_mem _ hk)) d1, decide_eq_true e1]
    unfold isPart
    rw [decide_eq_true b.1, decide_eq_true b.2.1, decide_eq_true b.2.2]
    rfl
theorem Tg.reps {n k : Nat} {d : D} (h : Tg n k d) (hn : n ≤ 27000) (hk : k ≤ 50) : d.rok = true ∧ d.pt.showable = true ∧ (rpr d).length ≤ sizeLine ∧ d.pt.depth ≤ 50 := by
  obtain ⟨a, b, c⟩ := d.fine_ok h.fine
  refine ⟨a, b, ?_, Nat.le_trans h.dp hk⟩
  have := h.cn
  show d.pt.shown.length ≤ sizeLine
  rw [sizeLine_eq]
  omega
theorem merge_nil : mergeF [] = [] := rfl
theorem valid_nil : Valid [] 0 := ⟨(fun p h => nomatch h), rfl, [], List.Perm.refl _, rfl⟩
set_option maxHeartbeats 4000000 in
theorem sl_law : ∀ ws S Qd Rd, sp_law ws S Qd Rd → w_law (z0 N_law ws S) (ed0 S.length Qd) (fun x z => Rd x (z.S.take S.length)) := by
  rintro _ _ Q R ⟨ns, rfl, hns, rfl, h⟩
  unfold w_law
  refine seqI fun K hK => ?_
  simp [N_law, -x_seq]
  refine c__law_pen ?_
  simp [-x_seq]
  apply hK
  simp [-x_seq]
  refine seqI fun K1 hK1 => ?_
  simp [-x_seq]
  generalize hm : (3 + if (ns.length : Int) < 5 then (ns.length : Int) else 5) = m
  have m4 : 0 ≤ m ∧ m ≤ 8 := by rw [← hm]; split <;> omega
  refine ⟨by omega, by omega, ?_⟩
  rw [rng_ints]
  refine fLoop_enc D.int (fun rest z => ∃ (p : Pen) (a2 a3 a4 a5 a6 a7 a8 a9 : SV), p.turn + 1000000 * rest.length ≤ 8000000 ∧ z = ⟨[.d (.scr ns), .cel 0, a2, a3, a4, a5, a6, a7, a8, a9, .none], [penO p]⟩) ?_ ?_ _ _ ⟨_, _, _, _, _, _, _, _, _, by rw [upto_len]; simp; omega, rfl⟩
  · rintro z ⟨p, a2, a3, a4, a5, a6, a7, a8, a9, ht, rfl⟩
    apply hK1
    simp
    have efz : ∀ (T : Int) (ps : List Pc), (OV.ins "Lay" [("total", .d (.int T)), ("rows", .d (.lst (ps.map encP)))]).frz = encLay T ps := fun _ _ => rfl
    refine c_Lay_init (S0 := [penO p]) (ps := []) (by simp) valid_nil (by omega) ?_
    refine ⟨rfl, [penO p], _, rfl, ?_⟩
    rw [efz, merge_nil]
    refine c_is_lot rfl ?_
    simp [isLotD, isLotL]
    refine c_Lay_init (S0 := [penO p]) (ps := []) (by simp) valid_nil (by omega) ?_
    refine ⟨rfl, [penO p], _, rfl, ?_⟩
    rw [efz, merge_nil]
    refine ⟨by rw [sizeLine_eq]; omega, ?_⟩
    refine c_is_lot rfl ?_
    simp [isLotD, isLotL, isPart]
    exact h _
  rintro bout rest z ⟨p, a2, a3, a4, a5, a6, a7, a8, a9, ht, rfl⟩ K2 hK2
  rw [List.length_cons] at ht
  simp [-x_seq]
  refine seqI fun K3 hK3 => ?_
  simp [-x_seq]
  refine c__law_small (p := p) (by omega) (by omega) (by unfold Few; omega) fun ps1 T1 p1 hv1 T11 T12 hl1 t1 => ?_
  simp [-x_seq]
  refine c__law_long (p := p1) (by unfold Few; omega) fun psL TL p2 hvL TL1 TL2 hlL t2 => ?_
  simp [-x_seq]
  refine c__law_pick (p := p2) (xs := [.lst (ps1.map encP), .lst (psL.map encP)]) (by simp) (by simp) (by unfold Few; omega) fun x p3 hx t3 => ?_
  obtain ⟨ps, T, rfl, hv, T0, T00, hpl⟩ : ∃ (ps0 : List Pc) (T : Int), x = .lst (ps0.map encP) ∧ Valid ps0 T ∧ 1 ≤ T ∧ T ≤ 1000000000000000000 ∧ ps0.length ≤ 20 := by
    simp at hx
    rcases hx with rfl | rfl
    · exact ⟨ps1, T1, rfl, hv1, T11, by omega, hl1⟩
    · exact ⟨psL, TL, rfl, hvL, by omega, by omega, by omega⟩
  simp [-x_seq]
  apply hK3
  refine seqI fun K4 hK4 => ?_
  simp [-x_seq]
  refine c__law_total (by omega) ?_
  rw [hv.sum]
  simp [-x_seq]
  apply hK4
  refine seqI fun K5 hK5 => ?_
  simp [-x_seq, -x_par2, ↓y_par2]
  refine c_Lay_init (S0 := [penO p3]) (by omega) hv (by omega) ?_
  refine ⟨rfl, [penO p3], _, rfl, ?_⟩
  have efz : ∀ (T : Int) (ps : List Pc), (OV.ins "Lay" [("total", .d (.int T)), ("rows", .d (.lst (ps.map encP)))]).frz = encLay T ps := fun _ _ => rfl
  rw [efz]
  generalize mergeF ps = qs
  refine c__law_draw (p := p3) (by omega) (by omega) (by unfold Few; omega) fun d1 p4 d10 d11 t4 => ?_
  simp [-x_seq, -x_par2, ↓y_par2]
  refine c__law_lot (p := p4) (by omega) (by omega) (by omega) (by omega) (by unfold Few; omega) fun lot p5 hdis hlot hll t5 => ?_
  simp [-x_seq]
  apply hK5
  refine seqI fun K6 hK6 => ?_
  simp [-x_seq]
  refine ⟨by rw [sizeLine_eq]; omega, by rw [sizeLine_eq]; omega, by rw [sizeLine_eq]; omega, ?_⟩
  refine c__law_odd (p := p5) (by unfold Few; omega) fun od p6 god t6 => ?_
  simp [-x_seq]
  refine ⟨by rw [sizeLine_eq]; omega, ?_⟩
  apply hK6
  refine seqI fun K7 hK7 => ?_
  simp [-x_seq]
  have bT : T.natAbs ≤ 10 ^ 60 := by omega
  have blot : ∀ l ∈ lot, l.1.natAbs ≤ 10 ^ 60 ∧ l.2.natAbs ≤ 10 ^ 60 := fun l hl => by
    have := hlot l hl
    omega
  have gS : ∀ x ∈ lot.map encS, Tg 3 1 x := fun x hx => by
    obtain ⟨y, hy, rfl⟩ := List.mem_map.mp hx
    exact tg_encS (Nat.le_succ_of_le (blot y hy).1) (Nat.le_succ_of_le (blot y hy).2)
  have gl : TgL 30 1 (lot.map encS) := (TgL.of gS).mono (by rw [List.length_map]; omega) (Nat.le_refl _)
  have gtt : ∀ a b : Int, a.natAbs ≤ 10 ^ 60 + 1 → b.natAbs ≤ 10 ^ 60 + 1 → Tg 3 1 (.tup [.int a, .int b]) := fun a b ha hb => tg_encS (l := (a, b)) ha hb
  have lotT : isLotD T (.lst (lot.map encS)) = true := lot_ok lot 0 hdis hlot fun l hl => (hlot l hl).1
  have g5 : ∀ x ∈ [D.lst (lot.map encS), D.tup (lot.map encS), D.lst (lot.map encS ++ [D.tup [D.int T, D.int 1]]), D.lst [D.tup [D.int 0, D.int (T + 1)]], od], Tg 3000 6 x := by
    intro x hx
    simp only [List.mem_cons, List.not_mem_nil, or_false] at hx
    rcases hx with rfl | rfl | rfl | rfl | rfl
    · exact gl.lst.mono (by omega) (by omega)
    · exact gl.tup.mono (by omega) (by omega)
    · exact (gl.append (gtt T 1 (by omega) (by decide)).of1).lst.mono (by omega) (by omega)
    · exact (gtt 0 (T + 1) (by decide) (by omega)).of1.lst.mono (by omega) (by omega)
    · exact god.mono (by omega) (by omega)
  generalize hL5 : [D.lst (lot.map encS), D.tup (lot.map encS), D.lst (lot.map encS ++ [D.tup [D.int T, D.int 1]]), D.lst [D.tup [D.int 0, D.int (T + 1)]], od] = L5 at *
  have l5 : L5.length = 5 := by rw [← hL5]; rfl
  have r4 : (rngD 0 4).length = 4 := rfl
  refine cLoop_inv (fun acc rest2 z => ∃ p' : Pen, (∀ x ∈ acc, Tg 3000 6 x) ∧ acc.length + rest2.length = 4 ∧ p'.turn + 50 * rest2.length ≤ p6.turn + 200 ∧
    z = ⟨[.d (.scr ns), .cel 0, .d (.int bout), .d (.lst (ps.map encP)), .d (.int T), .d (encLay T qs), .d (.lst (lot.map encS)), .d (.lst L5), a8, a9, .none], [penO p']⟩) ?_ ?_ _ _ _ ⟨p6, by simp, by rw [r4]; rfl, by rw [r4]; omega, rfl⟩
  · rintro acc z ⟨p7, gacc, lacc, tp7, rfl⟩
    simp at lacc tp7
    refine ⟨trivial, ?_⟩
    refine ⟨by rw [sizeLine_eq]; omega, ?_⟩
    apply hK7
    clear hK7 hK6 hK5 hK4 hK3
    refine seqI fun K8 hK8 => ?_
    simp [-x_seq]
    have e5 : (D.lst (lot.map encS) :: D.tup (lot.map encS) :: D.lst (lot.map encS ++ [D.tup [D.int T, D.int 1]]) :: D.lst [D.tup [D.int 0, D.int (T + 1)]] :: od :: acc) = L5 ++ acc := by rw [← hL5]; rfl
    rw [e5]
    have gall : ∀ x ∈ L5 ++ acc, Tg 3000 6 x := fun x hx => by
      rcases List.mem_append.mp hx with q | q
      · exact g5 x q
      · exact gacc x q
    have lall : (L5 ++ acc).length = 9 := by rw [List.length_append, l5, lacc]
    generalize hL9 : L5 ++ acc = L9 at *
    refine ⟨by rw [sizeLine_eq]; omega, ?_⟩
    refine c__law_bent_lot (p := p7) (lot := [(0, T)]) (by simp) (by simp; exact bT) bT (by unfold Few; omega) fun bd p8 gbd t8 => ?_
    simp [-x_seq]
    refine ⟨by rw [sizeLine_eq]; omega, by rw [sizeLine_eq]; omega, ?_⟩
    have e6 : (D.lst (lot.map encS) :: D.tup (lot.map encS) :: D.lst (lot.map encS ++ [D.tup [D.int T, D.int 1]]) :: D.lst [D.tup [D.int 0, D.int (T + 1)]] :: od :: (acc ++ [bd])) = L9 ++ [bd] := by
      rw [← hL9, ← hL5]; rfl
    rw [e6]
    refine fLoop_inv (fun rest2 z => ∃ (b8 b9 : SV), (∀ x ∈ rest2, Tg 3000 6 x) ∧
      z = ⟨[.d (.scr ns), .cel 0, .d (.int bout), .d (.lst (ps.map encP)), .d (.int T), .d (encLay T qs), .d (.lst (lot.map encS)), .d (.lst L9), b8, b9, .none], [penO p8]⟩) ?_ ?_ _ _ ⟨_, _, ?_, rfl⟩
    · rintro z ⟨b8, b9, _, rfl⟩
      apply hK8
      simp
      refine c_is_lot gl.lst.rok ?_
      rw [lotT]
      simp
      apply hK2
      exact ⟨p8, _, _, _, _, _, _, _, _, by omega, rfl⟩
    · rintro x rest2 z ⟨b8, b9, gr, rfl⟩ K9 hK9
      have gx := gr x List.mem_cons_self
      simp [-x_seq]
      refine seqI fun K10 hK10 => ?_
      simp [-x_seq, ↓gx.rep (by omega) (by omega)]
      apply hK10
      refine seqI fun K11 hK11 => ?_
      simp [-x_seq]
      refine c_is_lot gx.rok ?_
      simp [-x_seq, ↓(tg_bl (isLotD T x)).rep (by omega) (by omega)]
      refine c__law_is_lot gx.rok ?_
      simp [-x_seq, ↓(tg_bl (isLotD T x)).rep (by omega) (by omega), ↓gx.rep (by omega) (by omega)]
      obtain ⟨r1, r2, r3, r4⟩ := gx.reps (by omega) (by omega)
      refine ⟨r1, r2, r3, r4, ?_⟩
      apply hK11
      simp
      apply hK9
      exact ⟨_, _, fun y hy => gr y (List.mem_cons_of_mem _ hy), rfl⟩
    · intro x hx
      rcases List.mem_append.mp hx with q | q
      · exact gall x q
      · rw [List.mem_singleton.mp q]; exact gbd
  · rintro acc x rest2 z ⟨p7, gacc, lacc, tp7, rfl⟩
    rw [List.length_cons] at lacc tp7
    refine ⟨trivial, fun KT KF hKT _ => ?_⟩
    simp [wYes]
    refine c__law_bent_lot (p := p7) (by omega) blot bT (by unfold Few; omega) fun bd p8 gbd t8 => ?_
    simp
    refine hKT _ _ ⟨by rw [sizeLine_eq]; omega, p8, ?_, by rw [List.length_append]; simp; omega, by omega, rfl⟩
    intro y hy
    rcases List.mem_append.mp hy with q | q
    · exact gacc y q
    · rw [List.mem_singleton.mp q]; exact gbd
end Eng

end
section
set_option Elab.async false
set_option linter.all false
set_option maxRecDepth 100000
set_option maxHeartbeats 0
namespace Eng
open PySem PySem.Spec PyProof.Rows L2
theorem ln__law_pen : ∀ ws S Q R, sp__law_pen ws S Q R → ws.length = 1 := by
  rintro _ S Q R ⟨_, rfl, _⟩
  rfl
theorem ln__law_draw : ∀ ws S Q R, sp__law_draw ws S Q R → ws.length = 2 := by
  rintro _ S Q R ⟨_, _, _, rfl, _⟩
  rfl
theorem ln__law_pick : ∀ ws S Q R, sp__law_pick ws S Q R → ws.length = 2 := by
  rintro _ S Q R ⟨_, _, _, rfl, _⟩
  rfl
theorem ln__law_great : ∀ ws S Q R, sp__law_great ws S Q R → ws.length = 2 := by
  rintro _ S Q R ⟨_, _, _, rfl, _⟩
  rfl
theorem ln__law_turned_about : ∀ ws S Q R, sp__law_turned_about ws S Q R → ws.length = 2 := by
  rintro _ S Q R ⟨_, _, _, rfl, _⟩
  rfl
theorem ln__law_pieces : ∀ ws S Q R, sp__law_pieces ws S Q R → ws.length = 2 := by
  rintro _ S Q R ⟨_, _, _, rfl, _⟩
  rfl
theorem ln__law_long : ∀ ws S Q R, sp__law_long ws S Q R → ws.length = 1 := by
  rintro _ S Q R ⟨_, _, rfl, _⟩
  rfl
theorem ln__law_small : ∀ ws S Q R, sp__law_small ws S Q R → ws.length = 2 := by
  rintro _ S Q R ⟨_, _, _, rfl, _⟩
  rfl
theorem ln__law_total : ∀ ws S Q R, sp__law_total ws S Q R → ws.length = 1 := by
  rintro _ S Q R ⟨_, rfl, _⟩
  rfl
theorem ln__law_below : ∀ ws S Q R, sp__law_below ws S Q R → ws.length = 2 := by
  rintro _ S Q R ⟨_, _, _, rfl, _⟩
  rfl
theorem ln__law_lot : ∀ ws S Q R, sp__law_lot ws S Q R → ws.length = 3 := by
  rintro _ S Q R ⟨_, _, _, _, rfl, _⟩
  rfl
theorem ln_is_whole : ∀ ws S Q R, sp_is_whole ws S Q R → ws.length = 3 := by
  rintro _ S Q R ⟨_, _, _, rfl, _⟩
  rfl
theorem ln_is_way : ∀ ws S Q R, sp_is_way ws S Q R → ws.length = 1 := by
  rintro _ S Q R ⟨_, rfl, _⟩
  rfl
theorem ln_is_piece : ∀ ws S Q R, sp_is_piece ws S Q R → ws.length = 2 := by
  rintro _ S Q R ⟨_, _, rfl, _⟩
  rfl
theorem ln_fills : ∀ ws S Q R, sp_fills ws S Q R → ws.length = 2 := by
  rintro _ S Q R ⟨_, _, _, rfl, _⟩
  rfl
theorem ln_need_lay : ∀ ws S Q R, sp_need_lay ws S Q R → ws.length = 2 := by
  rintro _ S Q R ⟨_, _, _, rfl, _⟩
  rfl
theorem ln_in_one_form : ∀ ws S Q R, sp_in_one_form ws S Q R → ws.length = 1 := by
  rintro _ S Q R ⟨_, _, rfl, _⟩
  rfl
theorem ln_Lay_init : ∀ ws S Q R, sp_Lay_init ws S Q R → ws.length = 3 := by
  rintro _ S Q R ⟨_, _, _, _, rfl, _⟩
  rfl
theorem ln__law_odd : ∀ ws S Q R, sp__law_odd ws S Q R → ws.length = 1 := by
  rintro _ S Q R ⟨_, _, rfl, _⟩
  rfl
theorem ln__law_bent_tuple : ∀ ws S Q R, sp__law_bent_tuple ws S Q R → ws.length = 3 := by
  rintro _ S Q R ⟨_, _, _, _, rfl, _⟩
  rfl
theorem ln__law_bent_lot : ∀ ws S Q R, sp__law_bent_lot ws S Q R → ws.length = 3 := by
  rintro _ S Q R ⟨_, _, _, _, rfl, _⟩
  rfl
theorem ln_is_number : ∀ ws S Q R, sp_is_number ws S Q R → ws.length = 2 := by
  rintro _ S Q R ⟨_, _, rfl, _⟩
  rfl
theorem ln_is_part : ∀ ws S Q R, sp_is_part ws S Q R → ws.length = 3 := by
  rintro _ S Q R ⟨_, _, _, rfl, _⟩
  rfl
theorem ln_Lay_spots : ∀ ws S Q R, sp_Lay_spots ws S Q R → ws.length = 1 := by
  rintro _ S Q R ⟨_, _, rfl, _⟩
  rfl
theorem ln_is_lot : ∀ ws S Q R, sp_is_lot ws S Q R → ws.length = 2 := by
  rintro _ S Q R ⟨_, _, _, rfl, _⟩
  rfl
theorem ln__law_is_num : ∀ ws S Q R, sp__law_is_num ws S Q R → ws.length = 2 := by
  rintro _ S Q R ⟨_, _, rfl, _⟩
  rfl
theorem ln__law_is_stretch : ∀ ws S Q R, sp__law_is_stretch ws S Q R → ws.length = 3 := by
  rintro _ S Q R ⟨_, _, _, rfl, _⟩
  rfl
theorem ln__law_is_lot : ∀ ws S Q R, sp__law_is_lot ws S Q R → ws.length = 2 := by
  rintro _ S Q R ⟨_, _, rfl, _⟩
  rfl
theorem ln_law : ∀ ws S Q R, sp_law ws S Q R → ws.length = 1 := by
  rintro _ S Q R ⟨_, rfl, _⟩
  rfl
abbrev top (i : Nat) : Stmt := PySem.Challenge.pw_spoolrounds_k20_what_is_a_lot.main.body.getD i (.Pass ⟨0, 0, 0, 0⟩)
def clsBody : Stmt → List Stmt
  | .ClassDef _ _ _ b _ _ _ _ _ _ _ => b
  | _ => []
abbrev inCls (s : Stmt) (j : Nat) : Stmt := (clsBody s).getD j (.Pass ⟨0, 0, 0, 0⟩)
abbrev s__law_pen : Stmt := top 20
abbrev s__law_draw : Stmt := top 21
abbrev s__law_pick : Stmt := top 22
abbrev s__law_great : Stmt := top 23
abbrev s__law_turned_about : Stmt := top 24
abbrev s__law_pieces : Stmt := top 25
abbrev s__law_long : Stmt := top 27
abbrev s__law_small : Stmt := top 26
abbrev s__law_total : Stmt := top 28
abbrev s__law_below : Stmt := top 30
abbrev s__law_lot : Stmt := top 29
abbrev s_is_whole : Stmt := top 5
abbrev s_is_way : Stmt := top 6
abbrev s_is_piece : Stmt := top 13
abbrev s_fills : Stmt := top 14
abbrev s_need_lay : Stmt := top 15
abbrev s_in_one_form : Stmt := top 17
abbrev s_Lay_init : Stmt := inCls (top 18) 0
abbrev s__law_odd : Stmt := top 34
abbrev s__law_bent_tuple : Stmt := top 35
abbrev s__law_bent_lot : Stmt := top 36
abbrev s_is_number : Stmt := top 8
abbrev s_is_part : Stmt := top 9
abbrev s_Lay_spots : Stmt := inCls (top 18) 4
abbrev s_is_lot : Stmt := top 10
abbrev s__law_is_num : Stmt := top 31
abbrev s__law_is_stretch : Stmt := top 32
abbrev s__law_is_lot : Stmt := top 33
abbrev s_law : Stmt := top 37
structure Fx (G : Gm) where
  a__law_pen : Addr
  fd__law_pen : FuncData
  d__law_pen : FunD G.K "_law_pen" "_law_pen" (defArgs s__law_pen) (defBody s__law_pen) (defScope s__law_pen) [] [] a__law_pen fd__law_pen
  g__law_pen : G.mg "_law_pen" = some (.ref a__law_pen)
  a__law_draw : Addr
  fd__law_draw : FuncData
  d__law_draw : FunD G.K "_law_draw" "_law_draw" (defArgs s__law_draw) (defBody s__law_draw) (defScope s__law_draw) [] [] a__law_draw fd__law_draw
  g__law_draw : G.mg "_law_draw" = some (.ref a__law_draw)
  a__law_pick : Addr
  fd__law_pick : FuncData
  d__law_pick : FunD G.K "_law_pick" "_law_pick" (defArgs s__law_pick) (defBody s__law_pick) (defScope s__law_pick) [] [] a__law_pick fd__law_pick
  g__law_pick : G.mg "_law_pick" = some (.ref a__law_pick)
  a__law_great : Addr
  fd__law_great : FuncData
  d__law_great : FunD G.K "_law_great" "_law_great" (defArgs s__law_great) (defBody s__law_great) (defScope s__law_great) [] [] a__law_great fd__law_great
  g__law_great : G.mg "_law_great" = some (.ref a__law_great)
  a__law_turned_about : Addr
  fd__law_turned_about : FuncData
  d__law_turned_about : FunD G.K "_law_turned_about" "_law_turned_about" (defArgs s__law_turned_about) (defBody s__law_turned_about) (defScope s__law_turned_about) [] [] a__law_turned_about fd__law_turned_about
  g__law_turned_about : G.mg "_law_turned_about" = some (.ref a__law_turned_about)
  a__law_pieces : Addr
  fd__law_pieces : FuncData
  d__law_pieces : FunD G.K "_law_pieces" "_law_pieces" (defArgs s__law_pieces) (defBody s__law_pieces) (defScope s__law_pieces) [] [] a__law_pieces fd__law_pieces
  g__law_pieces : G.mg "_law_pieces" = some (.ref a__law_pieces)
  a__law_long : Addr
  fd__law_long : FuncData
  d__law_long : FunD G.K "_law_long" "_law_long" (defArgs s__law_long) (defBody s__law_long) (defScope s__law_long) [] [] a__law_long fd__law_long
  g__law_long : G.mg "_law_long" = some (.ref a__law_long)
  a__law_small : Addr
  fd__law_small : FuncData
  d__law_small : FunD G.K "_law_small" "_law_small" (defArgs s__law_small) (defBody s__law_small) (defScope s__law_small) [] [] a__law_small fd__law_small
  g__law_small : G.mg "_law_small" = some (.ref a__law_small)
  a__law_total : Addr
  fd__law_total : FuncData
  d__law_total : FunD G.K "_law_total" "_law_total" (defArgs s__law_total) (defBody s__law_total) (defScope s__law_total) [] [] a__law_total fd__law_total
  g__law_total : G.mg "_law_total" = some (.ref a__law_total)
  a__law_below : Addr
  fd__law_below : FuncData
  d__law_below : FunD G.K "_law_below" "_law_below" (defArgs s__law_below) (defBody s__law_below) (defScope s__law_below) [] [] a__law_below fd__law_below
  g__law_below : G.mg "_law_below" = some (.ref a__law_below)
  a__law_lot : Addr
  fd__law_lot : FuncData
  d__law_lot : FunD G.K "_law_lot" "_law_lot" (defArgs s__law_lot) (defBody s__law_lot) (defScope s__law_lot) [] [] a__law_lot fd__law_lot
  g__law_lot : G.mg "_law_lot" = some (.ref a__law_lot)
  a_is_whole : Addr
  fd_is_whole : FuncData
  d_is_whole : FunD G.K "is_whole" "is_whole" (defArgs s_is_whole) (defBody s_is_whole) (defScope s_is_whole) [.int (-1000000000000000000), .int (1000000000000000000)] [] a_is_whole fd_is_whole
  g_is_whole : G.mg "is_whole" = some (.ref a_is_whole)
  a_is_way : Addr
  fd_is_way : FuncData
  d_is_way : FunD G.K "is_way" "is_way" (defArgs s_is_way) (defBody s_is_way) (defScope s_is_way) [] [] a_is_way fd_is_way
  g_is_way : G.mg "is_way" = some (.ref a_is_way)
  a_is_piece : Addr
  fd_is_piece : FuncData
  d_is_piece : FunD G.K "is_piece" "is_piece" (defArgs s_is_piece) (defBody s_is_piece) (defScope s_is_piece) [] [] a_is_piece fd_is_piece
  g_is_piece : G.mg "is_piece" = some (.ref a_is_piece)
  a_fills : Addr
  fd_fills : FuncData
  d_fills : FunD G.K "fills" "fills" (defArgs s_fills) (defBody s_fills) (defScope s_fills) [] [] a_fills fd_fills
  g_fills : G.mg "fills" = some (.ref a_fills)
  a_need_lay : Addr
  fd_need_lay : FuncData
  d_need_lay : FunD G.K "need_lay" "need_lay" (defArgs s_need_lay) (defBody s_need_lay) (defScope s_need_lay) [] [] a_need_lay fd_need_lay
  g_need_lay : G.mg "need_lay" = some (.ref a_need_lay)
  a_in_one_form : Addr
  fd_in_one_form : FuncData
  d_in_one_form : FunD G.K "in_one_form" "in_one_form" (defArgs s_in_one_form) (defBody s_in_one_form) (defScope s_in_one_form) [] [] a_in_one_form fd_in_one_form
  g_in_one_form : G.mg "in_one_form" = some (.ref a_in_one_form)
  a_Lay_init : Addr
  fd_Lay_init : FuncData
  d_Lay_init : FunD G.K "__init__" "Lay.__init__" (defArgs s_Lay_init) (defBody s_Lay_init) (defScope s_Lay_init) [] [] a_Lay_init fd_Lay_init
  a__law_odd : Addr
  fd__law_odd : FuncData
  d__law_odd : FunD G.K "_law_odd" "_law_odd" (defArgs s__law_odd) (defBody s__law_odd) (defScope s__law_odd) [] [] a__law_odd fd__law_odd
  g__law_odd : G.mg "_law_odd" = some (.ref a__law_odd)
  a__law_bent_tuple : Addr
  fd__law_bent_tuple : FuncData
  d__law_bent_tuple : FunD G.K "_law_bent_tuple" "_law_bent_tuple" (defArgs s__law_bent_tuple) (defBody s__law_bent_tuple) (defScope s__law_bent_tuple) [] [] a__law_bent_tuple fd__law_bent_tuple
  g__law_bent_tuple : G.mg "_law_bent_tuple" = some (.ref a__law_bent_tuple)
  a__law_bent_lot : Addr
  fd__law_bent_lot : FuncData
  d__law_bent_lot : FunD G.K "_law_bent_lot" "_law_bent_lot" (defArgs s__law_bent_lot) (defBody s__law_bent_lot) (defScope s__law_bent_lot) [] [] a__law_bent_lot fd__law_bent_lot
  g__law_bent_lot : G.mg "_law_bent_lot" = some (.ref a__law_bent_lot)
  a_is_number : Addr
  fd_is_number : FuncData
  d_is_number : FunD G.K "is_number" "is_number" (defArgs s_is_number) (defBody s_is_number) (defScope s_is_number) [] [] a_is_number fd_is_number
  g_is_number : G.mg "is_number" = some (.ref a_is_number)
  a_is_part : Addr
  fd_is_part : FuncData
  d_is_part : FunD G.K "is_part" "is_part" (defArgs s_is_part) (defBody s_is_part) (defScope s_is_part) [] [] a_is_part fd_is_part
  g_is_part : G.mg "is_part" = some (.ref a_is_part)
  a_Lay_spots : Addr
  fd_Lay_spots : FuncData
  d_Lay_spots : FunD G.K "spots" "Lay.spots" (defArgs s_Lay_spots) (defBody s_Lay_spots) (defScope s_Lay_spots) [] [] a_Lay_spots fd_Lay_spots
  a_is_lot : Addr
  fd_is_lot : FuncData
  d_is_lot : FunD G.K "is_lot" "is_lot" (defArgs s_is_lot) (defBody s_is_lot) (defScope s_is_lot) [] [] a_is_lot fd_is_lot
  g_is_lot : G.mg "is_lot" = some (.ref a_is_lot)
  a__law_is_num : Addr
  fd__law_is_num : FuncData
  d__law_is_num : FunD G.K "_law_is_num" "_law_is_num" (defArgs s__law_is_num) (defBody s__law_is_num) (defScope s__law_is_num) [] [] a__law_is_num fd__law_is_num
  g__law_is_num : G.mg "_law_is_num" = some (.ref a__law_is_num)
  a__law_is_stretch : Addr
  fd__law_is_stretch : FuncData
  d__law_is_stretch : FunD G.K "_law_is_stretch" "_law_is_stretch" (defArgs s__law_is_stretch) (defBody s__law_is_stretch) (defScope s__law_is_stretch) [] [] a__law_is_stretch fd__law_is_stretch
  g__law_is_stretch : G.mg "_law_is_stretch" = some (.ref a__law_is_stretch)
  a__law_is_lot : Addr
  fd__law_is_lot : FuncData
  d__law_is_lot : FunD G.K "_law_is_lot" "_law_is_lot" (defArgs s__law_is_lot) (defBody s__law_is_lot) (defScope s__law_is_lot) [] [] a__law_is_lot fd__law_is_lot
  g__law_is_lot : G.mg "_law_is_lot" = some (.ref a__law_is_lot)
  a_law : Addr
  fd_law : FuncData
  d_law : FunD G.K "law" "law" (defArgs s_law) (defBody s_law) (defScope s_law) [] [] a_law fd_law
  g_law : G.mg "law" = some (.ref a_law)
  n_abs : G.mg "abs" = none
  n_all : G.mg "all" = none
  n_bool : G.mg "bool" = none
  n_int : G.mg "int" = none
  n_isinstance : G.mg "isinstance" = none
  n_len : G.mg "len" = none
  n_list : G.mg "list" = none
  n_max : G.mg "max" = none
  n_min : G.mg "min" = none
  n_range : G.mg "range" = none
  n_repr : G.mg "repr" = none
  n_sorted : G.mg "sorted" = none
  n_str : G.mg "str" = none
  n_sum : G.mg "sum" = none
  n_tuple : G.mg "tuple" = none
  c_MOST_SPOTS : ∃ t, G.mg "MOST_SPOTS" = some (.int 2000000000000000000 t)
  g_Lay : G.mg "Lay" = some (.ref (G.C "Lay"))
  k_Lay : Cls G.K (G.C "Lay")
  f_Lay_rows : NoAttr G.K (G.C "Lay") "rows"
  f_Lay_total : NoAttr G.K (G.C "Lay") "total"
  mk_Lay : Mk G.K (G.C "Lay") a_Lay_init
  m_Lay_spots : Meth G.K (G.C "Lay") "spots" a_Lay_spots
abbrev Gm.at (G : Gm) (N : List Str) (k : Nat) (E : WX) : Gm := { G with N := N, k := k, E := E }
def Ok__law_pen (G : Gm) (x : Fx G) : Prop := FnOkG G.P G.w G.K G.mg G.base (L2.CX G.P G.w) 1 x.a__law_pen x.fd__law_pen ["script"] (toSp G sp__law_pen)
def Ok__law_draw (G : Gm) (x : Fx G) : Prop := FnOkG G.P G.w G.K G.mg G.base (L2.CX G.P G.w) 1 x.a__law_draw x.fd__law_draw ["pen", "many"] (toSp G sp__law_draw)
def Ok__law_pick (G : Gm) (x : Fx G) : Prop := FnOkG G.P G.w G.K G.mg G.base (L2.CX G.P G.w) 2 x.a__law_pick x.fd__law_pick ["pen", "some"] (toSp G sp__law_pick)
def Ok__law_great (G : Gm) (x : Fx G) : Prop := FnOkG G.P G.w G.K G.mg G.base (L2.CX G.P G.w) 2 x.a__law_great x.fd__law_great ["pen", "figures"] (toSp G sp__law_great)
def Ok__law_turned_about (G : Gm) (x : Fx G) : Prop := FnOkG G.P G.w G.K G.mg G.base (L2.CX G.P G.w) 2 x.a__law_turned_about x.fd__law_turned_about ["pen", "some"] (toSp G sp__law_turned_about)
def Ok__law_pieces (G : Gm) (x : Fx G) : Prop := FnOkG G.P G.w G.K G.mg G.base (L2.CX G.P G.w) 3 x.a__law_pieces x.fd__law_pieces ["pen", "lengths"] (toSp G sp__law_pieces)
def Ok__law_long (G : Gm) (x : Fx G) : Prop := FnOkG G.P G.w G.K G.mg G.base (L2.CX G.P G.w) 4 x.a__law_long x.fd__law_long ["pen"] (toSp G sp__law_long)
def Ok__law_small (G : Gm) (x : Fx G) : Prop := FnOkG G.P G.w G.K G.mg G.base (L2.CX G.P G.w) 4 x.a__law_small x.fd__law_small ["pen", "most"] (toSp G sp__law_small)
def Ok__law_total (G : Gm) (x : Fx G) : Prop := FnOkG G.P G.w G.K G.mg G.base (L2.CX G.P G.w) 1 x.a__law_total x.fd__law_total ["pieces"] (toSp G sp__law_total)
def Ok__law_below (G : Gm) (x : Fx G) : Prop := FnOkG G.P G.w G.K G.mg G.base (L2.CX G.P G.w) 3 x.a__law_below x.fd__law_below ["pen", "bound"] (toSp G sp__law_below)
def Ok__law_lot (G : Gm) (x : Fx G) : Prop := FnOkG G.P G.w G.K G.mg G.base (L2.CX G.P G.w) 4 x.a__law_lot x.fd__law_lot ["pen", "total", "most"] (toSp G sp__law_lot)
def Ok_is_whole (G : Gm) (x : Fx G) : Prop := FnOkG G.P G.w G.K G.mg G.base (L2.CX G.P G.w) 1 x.a_is_whole x.fd_is_whole ["thing", "low", "high"] (toSp G sp_is_whole)
def Ok_is_way (G : Gm) (x : Fx G) : Prop := FnOkG G.P G.w G.K G.mg G.base (L2.CX G.P G.w) 2 x.a_is_way x.fd_is_way ["thing"] (toSp G sp_is_way)
def Ok_is_piece (G : Gm) (x : Fx G) : Prop := FnOkG G.P G.w G.K G.mg G.base (L2.CX G.P G.w) 3 x.a_is_piece x.fd_is_piece ["thing", "total"] (toSp G sp_is_piece)
def Ok_fills (G : Gm) (x : Fx G) : Prop := FnOkG G.P G.w G.K G.mg G.base (L2.CX G.P G.w) 1 x.a_fills x.fd_fills ["stretches", "total"] (toSp G sp_fills)
def Ok_need_lay (G : Gm) (x : Fx G) : Prop := FnOkG G.P G.w G.K G.mg G.base (L2.CX G.P G.w) 4 x.a_need_lay x.fd_need_lay ["total", "pieces"] (toSp G sp_need_lay)
def Ok_in_one_form (G : Gm) (x : Fx G) : Prop := FnOkG G.P G.w G.K G.mg G.base (L2.CX G.P G.w) 1 x.a_in_one_form x.fd_in_one_form ["pieces"] (toSp G sp_in_one_form)
def Ok_Lay_init (G : Gm) (x : Fx G) : Prop := FnOkG G.P G.w G.K G.mg G.base (L2.CX G.P G.w) 5 x.a_Lay_init x.fd_Lay_init ["self", "total", "pieces"] (toSp G sp_Lay_init)
def Ok__law_odd (G : Gm) (x : Fx G) : Prop := FnOkG G.P G.w G.K G.mg G.base (L2.CX G.P G.w) 3 x.a__law_odd x.fd__law_odd ["pen"] (toSp G sp__law_odd)
def Ok__law_bent_tuple (G : Gm) (x : Fx G) : Prop := FnOkG G.P G.w G.K G.mg G.base (L2.CX G.P G.w) 4 x.a__law_bent_tuple x.fd__law_bent_tuple ["pen", "row", "other"] (toSp G sp__law_bent_tuple)
def Ok__law_bent_lot (G : Gm) (x : Fx G) : Prop := FnOkG G.P G.w G.K G.mg G.base (L2.CX G.P G.w) 5 x.a__law_bent_lot x.fd__law_bent_lot ["pen", "lot", "total"] (toSp G sp__law_bent_lot)
def Ok_is_number (G : Gm) (x : Fx G) : Prop := FnOkG G.P G.w G.K G.mg G.base (L2.CX G.P G.w) 1 x.a_is_number x.fd_is_number ["thing", "low"] (toSp G sp_is_number)
def Ok_is_part (G : Gm) (x : Fx G) : Prop := FnOkG G.P G.w G.K G.mg G.base (L2.CX G.P G.w) 2 x.a_is_part x.fd_is_part ["total", "begin", "many"] (toSp G sp_is_part)
def Ok_Lay_spots (G : Gm) (x : Fx G) : Prop := FnOkG G.P G.w G.K G.mg G.base (L2.CX G.P G.w) 1 x.a_Lay_spots x.fd_Lay_spots ["self"] (toSp G sp_Lay_spots)
def Ok_is_lot (G : Gm) (x : Fx G) : Prop := FnOkG G.P G.w G.K G.mg G.base (L2.CX G.P G.w) 3 x.a_is_lot x.fd_is_lot ["lay", "thing"] (toSp G sp_is_lot)
def Ok__law_is_num (G : Gm) (x : Fx G) : Prop := FnOkG G.P G.w G.K G.mg G.base (L2.CX G.P G.w) 1 x.a__law_is_num x.fd__law_is_num ["thing", "low"] (toSp G sp__law_is_num)
def Ok__law_is_stretch (G : Gm) (x : Fx G) : Prop := FnOkG G.P G.w G.K G.mg G.base (L2.CX G.P G.w) 2 x.a__law_is_stretch x.fd__law_is_stretch ["total", "begin", "many"] (toSp G sp__law_is_stretch)
def Ok__law_is_lot (G : Gm) (x : Fx G) : Prop := FnOkG G.P G.w G.K G.mg G.base (L2.CX G.P G.w) 3 x.a__law_is_lot x.fd__law_is_lot ["total", "thing"] (toSp G sp__law_is_lot)
def Ok_law (G : Gm) (x : Fx G) : Prop := FnOkG G.P G.w G.K G.mg G.base (L2.CX G.P G.w) 7 x.a_law x.fd_law ["script"] (toSp G sp_law)
theorem kw_is_whole (G : Gm) (x : Fx G) : ∃ its : List Value, KBn G.K x.fd_is_whole ["thing", "low", "high"] 1 ["low", "high"] (fun us ws => us ++ ws) (fun vs zs => vs ++ zs) :=
  FunD.kbindsD x.d_is_whole 1 ["low", "high"] (fun us ds ws => us ++ ws) (by simp) (fun r1 r2 r3 => r1.append r3) (fun T kV doc pm an cdv ct us its ws l1 l2 l3 => match us, its, ws, l1, l2, l3 with | [_], [_, _], [_, _], _, _, _ => ⟨_, rfl, rfl⟩)
theorem df_is_whole (G : Gm) (x : Fx G) : ∃ its : List Value, KBn G.K x.fd_is_whole ["thing", "low", "high"] 1 [] (fun us ws => us ++ its) (fun vs zs => vs ++ [-1000000000000000000, 1000000000000000000].map V.int) :=
  FunD.kbindsD x.d_is_whole 1 [] (fun us ds ws => us ++ ds) (by simp) (fun r1 r2 r3 => r1.append r2) (fun T kV doc pm an cdv ct us its ws l1 l2 l3 => match us, its, ws, l1, l2, l3 with | [_], [_, _], [], _, _, _ => ⟨_, rfl, rfl⟩)
theorem b__law_pen (G : Gm) (x : Fx G) (E : WX)  : SSs (Gm.at G N__law_pen 0 E) (defScope s__law_pen) (defScope s__law_pen).names (defBody s__law_pen) w__law_pen :=
  (sss_cons (ss_retO (se_disp (sps_cons se_str (se_bty (f := fListOf) cListOf rn_list (by decide +kernel) x.n_list boot_list (by decide +kernel) (sa_cons (se_sl (se_var (i := 0) rfl (by decide +kernel)) so_none (so_some se_int)) sa_nil (fun _ => rfl)) (fun _ => rfl) (fun _ => rfl)) (sps_cons se_str se_int (sps_cons se_str se_int sps_nil))) rfl rfl (by intro h; cases h) (by decide)))
  sss_nil)
theorem b__law_draw (G : Gm) (x : Fx G) (E : WX)  : SSs (Gm.at G N__law_draw 0 E) (defScope s__law_draw) (defScope s__law_draw).names (defBody s__law_draw) w__law_draw :=
  (sss_cons (ss_if (st_gt (se_dget (se_var (i := 0) rfl (by decide +kernel)) se_str (fun _ _ => rfl)) se_int)
  (sss_cons (ss_set (i := 2) rfl (by decide +kernel) (se_mod (se_dget (se_var (i := 0) rfl (by decide +kernel)) se_str (fun _ _ => rfl)) (se_var (i := 1) rfl (by decide +kernel))) (fun _ => rfl))
  (sss_cons (ss_dput (se_var (i := 0) rfl (by decide +kernel)) se_str (se_fdiv (se_dget (se_var (i := 0) rfl (by decide +kernel)) se_str (fun _ _ => rfl)) (se_var (i := 1) rfl (by decide +kernel))) (fun _ => rfl))
  (sss_cons (ss_ret (se_var (i := 2) rfl (by decide +kernel)))
  sss_nil)))
  sss_nil)
  (sss_cons (ss_set (i := 3) rfl (by decide +kernel) (se_dget (se_var (i := 0) rfl (by decide +kernel)) se_str (fun _ _ => rfl)) (fun _ => rfl))
  (sss_cons (ss_dput (se_var (i := 0) rfl (by decide +kernel)) se_str (se_add (se_var (i := 3) rfl (by decide +kernel)) se_int) (fun _ => rfl))
  (sss_cons (ss_set (i := 4) rfl (by decide +kernel) (se_add (se_mul se_int (se_var (i := 3) rfl (by decide +kernel))) se_int) (fun _ => rfl))
  (sss_cons (ss_if (st_ne (se_dget (se_var (i := 0) rfl (by decide +kernel)) se_str (fun _ _ => rfl)) (se_lst sa_nil))
  (sss_cons (ss_set (i := 4) rfl (by decide +kernel) (se_ix (se_dget (se_var (i := 0) rfl (by decide +kernel)) se_str (fun _ _ => rfl)) (se_mod (se_var (i := 3) rfl (by decide +kernel)) (se_blt (f := fLen) cLen rn_len (by decide +kernel) x.n_len boot_len (by decide +kernel) (sa_cons (se_dget (se_var (i := 0) rfl (by decide +kernel)) se_str (fun _ _ => rfl)) sa_nil (fun _ => rfl)) (fun _ => rfl) (fun _ => rfl))) (fun _ _ => rfl)) (fun _ => rfl))
  sss_nil)
  sss_nil)
  (sss_cons (ss_if (SW.toT (sw_and (st_lt (se_var (i := 3) rfl (by decide +kernel)) (se_blt (f := fLen) cLen rn_len (by decide +kernel) x.n_len boot_len (by decide +kernel) (sa_cons (se_dget (se_var (i := 0) rfl (by decide +kernel)) se_str (fun _ _ => rfl)) sa_nil (fun _ => rfl)) (fun _ => rfl) (fun _ => rfl))) (sw_and1 (st_ge (se_blt (f := fAbs) cAbs rn_abs (by decide +kernel) x.n_abs boot_abs (by decide +kernel) (sa_cons (se_var (i := 4) rfl (by decide +kernel)) sa_nil (fun _ => rfl)) (fun _ => rfl) (fun _ => rfl)) (se_pow se_int se_int)))))
  (sss_cons (ss_dput (se_var (i := 0) rfl (by decide +kernel)) se_str (se_fdiv (se_sub (se_blt (f := fAbs) cAbs rn_abs (by decide +kernel) x.n_abs boot_abs (by decide +kernel) (sa_cons (se_var (i := 4) rfl (by decide +kernel)) sa_nil (fun _ => rfl)) (fun _ => rfl) (fun _ => rfl)) (se_pow se_int se_int)) (se_var (i := 1) rfl (by decide +kernel))) (fun _ => rfl))
  (sss_cons (ss_ret (se_mod (se_sub (se_blt (f := fAbs) cAbs rn_abs (by decide +kernel) x.n_abs boot_abs (by decide +kernel) (sa_cons (se_var (i := 4) rfl (by decide +kernel)) sa_nil (fun _ => rfl)) (fun _ => rfl) (fun _ => rfl)) (se_pow se_int se_int)) (se_var (i := 1) rfl (by decide +kernel))))
  sss_nil))
  sss_nil)
  (sss_cons (ss_set (i := 5) rfl (by decide +kernel) (se_lst (sa_cons se_int (sa_cons se_int (sa_cons se_int (sa_cons se_int (sa_cons se_int sa_nil (fun _ => rfl)) (fun _ => rfl)) (fun _ => rfl)) (fun _ => rfl)) (fun _ => rfl))) (fun _ => rfl))
  (sss_cons (ss_set (i := 6) rfl (by decide +kernel) (se_ix (se_var (i := 5) rfl (by decide +kernel)) (se_mod (se_var (i := 3) rfl (by decide +kernel)) se_int) (fun _ _ => rfl)) (fun _ => rfl))
  (sss_cons (ss_set (i := 7) rfl (by decide +kernel) (se_mod (se_add (se_add (se_mul (se_mod (se_var (i := 4) rfl (by decide +kernel)) (se_var (i := 6) rfl (by decide +kernel))) se_int) (se_mul (se_mul se_int (se_var (i := 3) rfl (by decide +kernel))) (se_var (i := 3) rfl (by decide +kernel)))) se_int) (se_var (i := 6) rfl (by decide +kernel))) (fun _ => rfl))
  (sss_cons (ss_set (i := 7) rfl (by decide +kernel) (se_mod (se_mul (se_var (i := 7) rfl (by decide +kernel)) (se_add (se_var (i := 7) rfl (by decide +kernel)) se_int)) (se_ix (se_var (i := 5) rfl (by decide +kernel)) (se_mod (se_add (se_var (i := 3) rfl (by decide +kernel)) se_int) se_int) (fun _ _ => rfl))) (fun _ => rfl))
  (sss_cons (ss_ret (se_mod (se_fdiv (se_mod (se_mul (se_var (i := 7) rfl (by decide +kernel)) (se_var (i := 7) rfl (by decide +kernel))) se_int) se_int) (se_var (i := 1) rfl (by decide +kernel))))
  sss_nil)))))))))))
theorem b__law_pick (G : Gm) (x : Fx G) (E : WX) (o__law_draw : Ok__law_draw G x) : SSs (Gm.at G N__law_pick 1 E) (defScope s__law_pick) (defScope s__law_pick).names (defBody s__law_pick) w__law_pick :=
  have r__law_draw : ∀ (E : WX) (n : Nat), RunOk (Gm.at G N__law_pick 1 E) x.a__law_draw n [] sp__law_draw := fun E n => run_plain o__law_draw (show 1 ≤ 1 by decide) (FunD.bindsN x.d__law_draw (fun _ _ _ _ _ _ us hl => match us, hl with | [_, _], _ => rfl)) x.d__law_draw.kp
  (sss_cons (ss_ret (se_ix (se_var (i := 1) rfl (by decide +kernel)) (se_call (by decide +kernel) x.g__law_draw (r__law_draw _ 2) (sa_cons (se_var (i := 0) rfl (by decide +kernel)) (sa_cons (se_blt (f := fLen) cLen rn_len (by decide +kernel) x.n_len boot_len (by decide +kernel) (sa_cons (se_var (i := 1) rfl (by decide +kernel)) sa_nil (fun _ => rfl)) (fun _ => rfl) (fun _ => rfl)) sa_nil (fun _ => rfl)) (fun _ => rfl)) (fun _ => rfl) (fun _ => rfl)) (fun _ _ => rfl)))
  sss_nil)
theorem b__law_great (G : Gm) (x : Fx G) (E : WX) (o__law_draw : Ok__law_draw G x) : SSs (Gm.at G N__law_great 1 E) (defScope s__law_great) (defScope s__law_great).names (defBody s__law_great) w__law_great :=
  have r__law_draw : ∀ (E : WX) (n : Nat), RunOk (Gm.at G N__law_great 1 E) x.a__law_draw n [] sp__law_draw := fun E n => run_plain o__law_draw (show 1 ≤ 1 by decide) (FunD.bindsN x.d__law_draw (fun _ _ _ _ _ _ us hl => match us, hl with | [_, _], _ => rfl)) x.d__law_draw.kp
  (sss_cons (ss_set (i := 2) rfl (by decide +kernel) se_int (fun _ => rfl))
  (sss_cons (ss_for (si_r1 (by decide +kernel) x.n_range (sa_cons (se_var (i := 1) rfl (by decide +kernel)) sa_nil (fun _ => rfl)) (fun _ => rfl)) (sg_name (i := 3) rfl (by decide +kernel))
  (sss_cons (ss_set (i := 2) rfl (by decide +kernel) (se_add (se_mul se_int (se_var (i := 2) rfl (by decide +kernel))) (se_call (by decide +kernel) x.g__law_draw (r__law_draw _ 2) (sa_cons (se_var (i := 0) rfl (by decide +kernel)) (sa_cons se_int sa_nil (fun _ => rfl)) (fun _ => rfl)) (fun _ => rfl) (fun _ => rfl))) (fun _ => rfl))
  sss_nil) (fun _ _ => rfl))
  (sss_cons (ss_ret (se_var (i := 2) rfl (by decide +kernel)))
  sss_nil)))
theorem b__law_turned_about (G : Gm) (x : Fx G) (E : WX) (o__law_draw : Ok__law_draw G x) : SSs (Gm.at G N__law_turned_about 1 E) (defScope s__law_turned_about) (defScope s__law_turned_about).names (defBody s__law_turned_about) w__law_turned_about :=
  have r__law_draw : ∀ (E : WX) (n : Nat), RunOk (Gm.at G N__law_turned_about 1 E) x.a__law_draw n [] sp__law_draw := fun E n => run_plain o__law_draw (show 1 ≤ 1 by decide) (FunD.bindsN x.d__law_draw (fun _ _ _ _ _ _ us hl => match us, hl with | [_, _], _ => rfl)) x.d__law_draw.kp
  (sss_cons (ss_setO (i := 2) rfl (by decide +kernel) (se_bty (f := fListOf) cListOf rn_list (by decide +kernel) x.n_list boot_list (by decide +kernel) (sa_cons (se_var (i := 1) rfl (by decide +kernel)) sa_nil (fun _ => rfl)) (fun _ => rfl) (fun _ => rfl)) (fun _ => rfl))
  (sss_cons (ss_ret (se_lc (own := [("k", 3)]) (show BlkOk N__law_turned_about _ _ [("k", 3)] from ⟨rfl, by decide +kernel, by decide +kernel, by decide +kernel, by decide +kernel⟩) (si_r1 (by decide +kernel) x.n_range (sa_cons (se_blt (f := fLen) cLen rn_len (by decide +kernel) x.n_len boot_len (by decide +kernel) (sa_cons (se_var (i := 2) rfl (by decide +kernel)) sa_nil (fun _ => rfl)) (fun _ => rfl) (fun _ => rfl)) sa_nil (fun _ => rfl)) (fun _ => rfl)) (sg_name (i := 3) rfl (by decide +kernel)) sif_nil (se_pop (se_var (i := 2) rfl (by decide +kernel)) (sa_cons (se_call (by decide +kernel) x.g__law_draw (r__law_draw _ 2) (sa_cons (se_var (i := 0) rfl (by decide +kernel)) (sa_cons (se_blt (f := fLen) cLen rn_len (by decide +kernel) x.n_len boot_len (by decide +kernel) (sa_cons (se_var (i := 2) rfl (by decide +kernel)) sa_nil (fun _ => rfl)) (fun _ => rfl) (fun _ => rfl)) sa_nil (fun _ => rfl)) (fun _ => rfl)) (fun _ => rfl) (fun _ => rfl)) sa_nil (fun _ => rfl)) (fun _ => rfl) rfl (fun _ => rfl)) (fun _ _ => rfl)))
  sss_nil))
theorem b__law_pieces (G : Gm) (x : Fx G) (E : WX) (o__law_turned_about : Ok__law_turned_about G x) (o__law_pick : Ok__law_pick G x) : SSs (Gm.at G N__law_pieces 2 E) (defScope s__law_pieces) (defScope s__law_pieces).names (defBody s__law_pieces) w__law_pieces :=
  have r__law_turned_about : ∀ (E : WX) (n : Nat), RunOk (Gm.at G N__law_pieces 2 E) x.a__law_turned_about n [] sp__law_turned_about := fun E n => run_plain o__law_turned_about (show 2 ≤ 2 by decide) (FunD.bindsN x.d__law_turned_about (fun _ _ _ _ _ _ us hl => match us, hl with | [_, _], _ => rfl)) x.d__law_turned_about.kp
  have r__law_pick : ∀ (E : WX) (n : Nat), RunOk (Gm.at G N__law_pieces 2 E) x.a__law_pick n [] sp__law_pick := fun E n => run_plain o__law_pick (show 2 ≤ 2 by decide) (FunD.bindsN x.d__law_pick (fun _ _ _ _ _ _ us hl => match us, hl with | [_, _], _ => rfl)) x.d__law_pick.kp
  (sss_cons (ss_par3 (i := 2) (j := 3) (l := 4) rfl rfl rfl  (by decide) (by decide) (by decide)  (by decide +kernel) (by decide +kernel) (by decide +kernel)  (sp_d (se_call (by decide +kernel) x.g__law_turned_about (r__law_turned_about _ 2) (sa_cons (se_var (i := 0) rfl (by decide +kernel)) (sa_cons (se_listRg (by decide +kernel) x.n_list (by decide +kernel) x.n_range (se_blt (f := fLen) cLen rn_len (by decide +kernel) x.n_len boot_len (by decide +kernel) (sa_cons (se_var (i := 1) rfl (by decide +kernel)) sa_nil (fun _ => rfl)) (fun _ => rfl) (fun _ => rfl)) (fun _ => rfl) (fun _ => rfl)) sa_nil (fun _ => rfl)) (fun _ => rfl)) (fun _ => rfl) (fun _ => rfl)) (sp_o se_dnew (sp_d se_int sp_nil (fun _ => rfl)) (fun _ => rfl)) (fun _ => rfl)) (fun X C => sw_at C fun _ => by with_unfolding_all rfl) (fun _ => rfl))
  (sss_cons (ss_for (si_data (se_var (i := 2) rfl (by decide +kernel))) (sg_name (i := 5) rfl (by decide +kernel))
  (sss_cons (ss_dput (se_var (i := 3) rfl (by decide +kernel)) (se_var (i := 5) rfl (by decide +kernel)) (se_var (i := 4) rfl (by decide +kernel)) (fun _ => rfl))
  (sss_cons (ss_set (i := 4) rfl (by decide +kernel) (se_add (se_var (i := 4) rfl (by decide +kernel)) (se_ix (se_var (i := 1) rfl (by decide +kernel)) (se_var (i := 5) rfl (by decide +kernel)) (fun _ _ => rfl))) (fun _ => rfl))
  sss_nil)) (fun _ _ => rfl))
  (sss_cons (ss_par2 (i := 6) (j := 4) rfl rfl  (by decide)  (by decide +kernel) (by decide +kernel)  (sp_o (se_lst sa_nil) (sp_d se_int sp_nil (fun _ => rfl)) (fun _ => rfl)) (fun X C => sw_at C fun _ => by with_unfolding_all rfl) (fun _ => rfl))
  (sss_cons (ss_for (si_r1 (by decide +kernel) x.n_range (sa_cons (se_blt (f := fLen) cLen rn_len (by decide +kernel) x.n_len boot_len (by decide +kernel) (sa_cons (se_var (i := 1) rfl (by decide +kernel)) sa_nil (fun _ => rfl)) (fun _ => rfl) (fun _ => rfl)) sa_nil (fun _ => rfl)) (fun _ => rfl)) (sg_name (i := 5) rfl (by decide +kernel))
  (sss_cons (ss_ex (se_append (se_var (i := 6) rfl (by decide +kernel)) (sa_cons (se_tup (sa_cons (se_var (i := 4) rfl (by decide +kernel)) (sa_cons (se_ix (se_var (i := 1) rfl (by decide +kernel)) (se_var (i := 5) rfl (by decide +kernel)) (fun _ _ => rfl)) (sa_cons (se_dget (se_var (i := 3) rfl (by decide +kernel)) (se_var (i := 5) rfl (by decide +kernel)) (fun _ _ => rfl)) (sa_cons (se_call (by decide +kernel) x.g__law_pick (r__law_pick _ 2) (sa_cons (se_var (i := 0) rfl (by decide +kernel)) (sa_cons (se_lst (sa_cons se_int (sa_cons se_int (sa_cons (se_neg se_int) sa_nil (fun _ => rfl)) (fun _ => rfl)) (fun _ => rfl))) sa_nil (fun _ => rfl)) (fun _ => rfl)) (fun _ => rfl) (fun _ => rfl)) sa_nil (fun _ => rfl)) (fun _ => rfl)) (fun _ => rfl)) (fun _ => rfl))) sa_nil (fun _ => rfl)) (fun _ => rfl) rfl (fun _ => rfl)) (fun _ => rfl))
  (sss_cons (ss_set (i := 4) rfl (by decide +kernel) (se_add (se_var (i := 4) rfl (by decide +kernel)) (se_ix (se_var (i := 1) rfl (by decide +kernel)) (se_var (i := 5) rfl (by decide +kernel)) (fun _ _ => rfl))) (fun _ => rfl))
  sss_nil)) (fun _ _ => rfl))
  (sss_cons (ss_ret (se_take (i := 6) rfl (by decide +kernel)))
  sss_nil)))))
theorem b__law_long (G : Gm) (x : Fx G) (E : WX) (o__law_draw : Ok__law_draw G x) (o__law_great : Ok__law_great G x) (o__law_pieces : Ok__law_pieces G x) : SSs (Gm.at G N__law_long 3 E) (defScope s__law_long) (defScope s__law_long).names (defBody s__law_long) w__law_long :=
  have r__law_draw : ∀ (E : WX) (n : Nat), RunOk (Gm.at G N__law_long 3 E) x.a__law_draw n [] sp__law_draw := fun E n => run_plain o__law_draw (show 1 ≤ 3 by decide) (FunD.bindsN x.d__law_draw (fun _ _ _ _ _ _ us hl => match us, hl with | [_, _], _ => rfl)) x.d__law_draw.kp
  have r__law_great : ∀ (E : WX) (n : Nat), RunOk (Gm.at G N__law_long 3 E) x.a__law_great n [] sp__law_great := fun E n => run_plain o__law_great (show 2 ≤ 3 by decide) (FunD.bindsN x.d__law_great (fun _ _ _ _ _ _ us hl => match us, hl with | [_, _], _ => rfl)) x.d__law_great.kp
  have r__law_pieces : ∀ (E : WX) (n : Nat), RunOk (Gm.at G N__law_long 3 E) x.a__law_pieces n [] sp__law_pieces := fun E n => run_plain o__law_pieces (show 3 ≤ 3 by decide) (FunD.bindsN x.d__law_pieces (fun _ _ _ _ _ _ us hl => match us, hl with | [_, _], _ => rfl)) x.d__law_pieces.kp
  (sss_cons (ss_parT2 (i := 1) (j := 2) rfl rfl  (by decide +kernel) (by decide +kernel)  (sp_o (se_lst sa_nil) (sp_d (se_call (by decide +kernel) x.g__law_draw (r__law_draw _ 2) (sa_cons (se_var (i := 0) rfl (by decide +kernel)) (sa_cons se_int sa_nil (fun _ => rfl)) (fun _ => rfl)) (fun _ => rfl) (fun _ => rfl)) sp_nil (fun _ => rfl)) (fun _ => rfl)) (fun _ => rfl) (fun X C => sw_at C fun _ => by with_unfolding_all rfl))
  (sss_cons (ss_for (si_r1 (by decide +kernel) x.n_range (sa_cons (se_add se_int (se_call (by decide +kernel) x.g__law_draw (r__law_draw _ 2) (sa_cons (se_var (i := 0) rfl (by decide +kernel)) (sa_cons se_int sa_nil (fun _ => rfl)) (fun _ => rfl)) (fun _ => rfl) (fun _ => rfl))) sa_nil (fun _ => rfl)) (fun _ => rfl)) (sg_name (i := 3) rfl (by decide +kernel))
  (sss_cons (ss_set (i := 4) rfl (by decide +kernel) (se_ix (se_lst (sa_cons se_int (sa_cons se_int (sa_cons se_int (sa_cons se_int (sa_cons se_int (sa_cons se_int sa_nil (fun _ => rfl)) (fun _ => rfl)) (fun _ => rfl)) (fun _ => rfl)) (fun _ => rfl)) (fun _ => rfl))) (se_call (by decide +kernel) x.g__law_draw (r__law_draw _ 2) (sa_cons (se_var (i := 0) rfl (by decide +kernel)) (sa_cons se_int sa_nil (fun _ => rfl)) (fun _ => rfl)) (fun _ => rfl) (fun _ => rfl)) (fun _ _ => rfl)) (fun _ => rfl))
  (sss_cons (ss_ex (se_append (se_var (i := 1) rfl (by decide +kernel)) (sa_cons (se_add se_int (se_call (by decide +kernel) x.g__law_great (r__law_great _ 2) (sa_cons (se_var (i := 0) rfl (by decide +kernel)) (sa_cons (se_var (i := 4) rfl (by decide +kernel)) sa_nil (fun _ => rfl)) (fun _ => rfl)) (fun _ => rfl) (fun _ => rfl))) sa_nil (fun _ => rfl)) (fun _ => rfl) rfl (fun _ => rfl)) (fun _ => rfl))
  sss_nil)) (fun _ _ => rfl))
  (sss_cons (ss_if (st_eq (se_var (i := 2) rfl (by decide +kernel)) se_int)
  (sss_cons (ss_setOE (i := 1) rfl (by decide +kernel) (se_lc (own := [("k", 3)]) (show BlkOk N__law_long _ _ [("k", 3)] from ⟨rfl, by decide +kernel, by decide +kernel, by decide +kernel, by decide +kernel⟩) (si_data (se_var (i := 1) rfl (by decide +kernel))) (sg_name (i := 3) rfl (by decide +kernel)) sif_nil (se_add (se_ix (se_var (i := 1) rfl (by decide +kernel)) se_int (fun _ _ => rfl)) (se_call (by decide +kernel) x.g__law_draw (r__law_draw _ 2) (sa_cons (se_var (i := 0) rfl (by decide +kernel)) (sa_cons se_int sa_nil (fun _ => rfl)) (fun _ => rfl)) (fun _ => rfl) (fun _ => rfl))) (fun _ _ => rfl)) (fun X C => sw_cell C (by decide +kernel)))
  sss_nil)
  sss_nil)
  (sss_cons (ss_if (st_eq (se_var (i := 2) rfl (by decide +kernel)) se_int)
  (sss_cons (ss_setOE (i := 1) rfl (by decide +kernel) (se_lc (own := [("k", 3)]) (show BlkOk N__law_long _ _ [("k", 3)] from ⟨rfl, by decide +kernel, by decide +kernel, by decide +kernel, by decide +kernel⟩) (si_r1 (by decide +kernel) x.n_range (sa_cons (se_add se_int (se_call (by decide +kernel) x.g__law_draw (r__law_draw _ 2) (sa_cons (se_var (i := 0) rfl (by decide +kernel)) (sa_cons se_int sa_nil (fun _ => rfl)) (fun _ => rfl)) (fun _ => rfl) (fun _ => rfl))) sa_nil (fun _ => rfl)) (fun _ => rfl)) (sg_name (i := 3) rfl (by decide +kernel)) sif_nil (se_add se_int (se_call (by decide +kernel) x.g__law_great (r__law_great _ 2) (sa_cons (se_var (i := 0) rfl (by decide +kernel)) (sa_cons (se_add se_int (se_call (by decide +kernel) x.g__law_draw (r__law_draw _ 2) (sa_cons (se_var (i := 0) rfl (by decide +kernel)) (sa_cons se_int sa_nil (fun _ => rfl)) (fun _ => rfl)) (fun _ => rfl) (fun _ => rfl))) sa_nil (fun _ => rfl)) (fun _ => rfl)) (fun _ => rfl) (fun _ => rfl))) (fun _ _ => rfl)) (fun X C => sw_cell C (by decide +kernel)))
  sss_nil)
  sss_nil)
  (sss_cons (ss_if (st_eq (se_var (i := 2) rfl (by decide +kernel)) se_int)
  (sss_cons (ss_par2 (i := 5) (j := 6) rfl rfl  (by decide)  (by decide +kernel) (by decide +kernel)  (sp_d (se_add se_int (se_call (by decide +kernel) x.g__law_draw (r__law_draw _ 2) (sa_cons (se_var (i := 0) rfl (by decide +kernel)) (sa_cons se_int sa_nil (fun _ => rfl)) (fun _ => rfl)) (fun _ => rfl) (fun _ => rfl))) (sp_d (se_add se_int (se_call (by decide +kernel) x.g__law_draw (r__law_draw _ 2) (sa_cons (se_var (i := 0) rfl (by decide +kernel)) (sa_cons se_int sa_nil (fun _ => rfl)) (fun _ => rfl)) (fun _ => rfl) (fun _ => rfl))) sp_nil (fun _ => rfl)) (fun _ => rfl)) (fun X C => sw_at C fun _ => by with_unfolding_all rfl) (fun _ => rfl))
  (sss_cons (ss_for (si_r1 (by decide +kernel) x.n_range (sa_cons (se_add se_int (se_call (by decide +kernel) x.g__law_draw (r__law_draw _ 2) (sa_cons (se_var (i := 0) rfl (by decide +kernel)) (sa_cons se_int sa_nil (fun _ => rfl)) (fun _ => rfl)) (fun _ => rfl) (fun _ => rfl))) sa_nil (fun _ => rfl)) (fun _ => rfl)) (sg_name (i := 3) rfl (by decide +kernel))
  (sss_cons (ss_par2 (i := 5) (j := 6) rfl rfl  (by decide)  (by decide +kernel) (by decide +kernel)  (sp_d (se_var (i := 6) rfl (by decide +kernel)) (sp_d (se_add (se_var (i := 5) rfl (by decide +kernel)) (se_var (i := 6) rfl (by decide +kernel))) sp_nil (fun _ => rfl)) (fun _ => rfl)) (fun X C => sw_at C fun _ => by with_unfolding_all rfl) (fun _ => rfl))
  sss_nil) (fun _ _ => rfl))
  (sss_cons (ss_setO (i := 1) rfl (by decide +kernel) (se_sl (se_add (se_lst (sa_cons (se_var (i := 5) rfl (by decide +kernel)) (sa_cons (se_var (i := 6) rfl (by decide +kernel)) sa_nil (fun _ => rfl)) (fun _ => rfl))) (se_var (i := 1) rfl (by decide +kernel))) so_none (so_some (se_blt (f := fLen) cLen rn_len (by decide +kernel) x.n_len boot_len (by decide +kernel) (sa_cons (se_var (i := 1) rfl (by decide +kernel)) sa_nil (fun _ => rfl)) (fun _ => rfl) (fun _ => rfl)))) (fun _ => rfl))
  sss_nil)))
  sss_nil)
  (sss_cons (ss_ret (se_call (by decide +kernel) x.g__law_pieces (r__law_pieces _ 2) (sa_cons (se_var (i := 0) rfl (by decide +kernel)) (sa_cons (se_take (i := 1) rfl (by decide +kernel)) sa_nil (fun _ => rfl)) (fun _ => rfl)) (fun _ => rfl) (fun _ => rfl)))
  sss_nil))))))
theorem b__law_small (G : Gm) (x : Fx G) (E : WX) (o__law_draw : Ok__law_draw G x) (o__law_pieces : Ok__law_pieces G x) : SSs (Gm.at G N__law_small 3 E) (defScope s__law_small) (defScope s__law_small).names (defBody s__law_small) w__law_small :=
  have r__law_draw : ∀ (E : WX) (n : Nat), RunOk (Gm.at G N__law_small 3 E) x.a__law_draw n [] sp__law_draw := fun E n => run_plain o__law_draw (show 1 ≤ 3 by decide) (FunD.bindsN x.d__law_draw (fun _ _ _ _ _ _ us hl => match us, hl with | [_, _], _ => rfl)) x.d__law_draw.kp
  have r__law_pieces : ∀ (E : WX) (n : Nat), RunOk (Gm.at G N__law_small 3 E) x.a__law_pieces n [] sp__law_pieces := fun E n => run_plain o__law_pieces (show 3 ≤ 3 by decide) (FunD.bindsN x.d__law_pieces (fun _ _ _ _ _ _ us hl => match us, hl with | [_, _], _ => rfl)) x.d__law_pieces.kp
  (sss_cons (ss_par3 (i := 2) (j := 3) (l := 4) rfl rfl rfl  (by decide) (by decide) (by decide)  (by decide +kernel) (by decide +kernel) (by decide +kernel)  (sp_o (se_lst (sa_cons (se_blt (f := fMin2) cMin2 rn_min2 (by decide +kernel) x.n_min boot_min (by decide +kernel) (sa_cons (se_var (i := 1) rfl (by decide +kernel)) (sa_cons (se_add se_int (se_call (by decide +kernel) x.g__law_draw (r__law_draw _ 2) (sa_cons (se_var (i := 0) rfl (by decide +kernel)) (sa_cons (se_add se_int (se_call (by decide +kernel) x.g__law_draw (r__law_draw _ 2) (sa_cons (se_var (i := 0) rfl (by decide +kernel)) (sa_cons se_int sa_nil (fun _ => rfl)) (fun _ => rfl)) (fun _ => rfl) (fun _ => rfl))) sa_nil (fun _ => rfl)) (fun _ => rfl)) (fun _ => rfl) (fun _ => rfl))) sa_nil (fun _ => rfl)) (fun _ => rfl)) (fun _ => rfl) (fun _ => rfl)) sa_nil (fun _ => rfl))) (sp_d (se_call (by decide +kernel) x.g__law_draw (r__law_draw _ 2) (sa_cons (se_var (i := 0) rfl (by decide +kernel)) (sa_cons se_int sa_nil (fun _ => rfl)) (fun _ => rfl)) (fun _ => rfl) (fun _ => rfl)) (sp_d se_int sp_nil (fun _ => rfl)) (fun _ => rfl)) (fun _ => rfl)) (fun X C => sw_at C fun _ => by with_unfolding_all rfl) (fun _ => rfl))
  (sss_cons (ss_if (st_eq (se_call (by decide +kernel) x.g__law_draw (r__law_draw _ 2) (sa_cons (se_var (i := 0) rfl (by decide +kernel)) (sa_cons se_int sa_nil (fun _ => rfl)) (fun _ => rfl)) (fun _ => rfl) (fun _ => rfl)) se_int)
  (sss_cons (ss_par3 (i := 2) (j := 3) (l := 4) rfl rfl rfl  (by decide) (by decide) (by decide)  (by decide +kernel) (by decide +kernel) (by decide +kernel)  (sp_o (se_lst (sa_cons se_int sa_nil (fun _ => rfl))) (sp_d se_int (sp_d (se_add se_int (se_call (by decide +kernel) x.g__law_draw (r__law_draw _ 2) (sa_cons (se_var (i := 0) rfl (by decide +kernel)) (sa_cons se_int sa_nil (fun _ => rfl)) (fun _ => rfl)) (fun _ => rfl) (fun _ => rfl))) sp_nil (fun _ => rfl)) (fun _ => rfl)) (fun _ => rfl)) (fun X C => sw_at C fun _ => by with_unfolding_all rfl) (fun _ => rfl))
  sss_nil)
  sss_nil)
  (sss_cons (ss_for (si_r1 (by decide +kernel) x.n_range (sa_cons (se_var (i := 3) rfl (by decide +kernel)) sa_nil (fun _ => rfl)) (fun _ => rfl)) (sg_name (i := 5) rfl (by decide +kernel))
  (sss_cons (ss_set (i := 6) rfl (by decide +kernel) (se_add se_int (se_call (by decide +kernel) x.g__law_draw (r__law_draw _ 2) (sa_cons (se_var (i := 0) rfl (by decide +kernel)) (sa_cons (se_var (i := 4) rfl (by decide +kernel)) sa_nil (fun _ => rfl)) (fun _ => rfl)) (fun _ => rfl) (fun _ => rfl))) (fun _ => rfl))
  (sss_cons (ss_if (st_le (se_add (se_blt (f := fSum) cSum rn_sum (by decide +kernel) x.n_sum boot_sum (by decide +kernel) (sa_cons (se_var (i := 2) rfl (by decide +kernel)) sa_nil (fun _ => rfl)) (fun _ => rfl) (fun _ => rfl)) (se_var (i := 6) rfl (by decide +kernel))) (se_var (i := 1) rfl (by decide +kernel)))
  (sss_cons (ss_ex (se_append (se_var (i := 2) rfl (by decide +kernel)) (sa_cons (se_var (i := 6) rfl (by decide +kernel)) sa_nil (fun _ => rfl)) (fun _ => rfl) rfl (fun _ => rfl)) (fun _ => rfl))
  sss_nil)
  sss_nil)
  sss_nil)) (fun _ _ => rfl))
  (sss_cons (ss_ret (se_call (by decide +kernel) x.g__law_pieces (r__law_pieces _ 2) (sa_cons (se_var (i := 0) rfl (by decide +kernel)) (sa_cons (se_take (i := 2) rfl (by decide +kernel)) sa_nil (fun _ => rfl)) (fun _ => rfl)) (fun _ => rfl) (fun _ => rfl)))
  sss_nil))))
theorem b__law_total (G : Gm) (x : Fx G) (E : WX)  : SSs (Gm.at G N__law_total 0 E) (defScope s__law_total) (defScope s__law_total).names (defBody s__law_total) w__law_total :=
  (sss_cons (ss_ret (se_blt (f := fSum) cSum rn_sum (by decide +kernel) x.n_sum boot_sum (by decide +kernel) (sa_cons (se_lc (own := [("piece", 1)]) (show BlkOk N__law_total _ _ [("piece", 1)] from ⟨rfl, by decide +kernel, by decide +kernel, by decide +kernel, by decide +kernel⟩) (si_data (se_var (i := 0) rfl (by decide +kernel))) (sg_name (i := 1) rfl (by decide +kernel)) sif_nil (se_ix (se_var (i := 1) rfl (by decide +kernel)) se_int (fun _ _ => rfl)) (fun _ _ => rfl)) sa_nil (fun _ => rfl)) (fun _ => rfl) (fun _ => rfl)))
  sss_nil)
theorem b__law_below (G : Gm) (x : Fx G) (E : WX) (o__law_draw : Ok__law_draw G x) (o__law_great : Ok__law_great G x) : SSs (Gm.at G N__law_below 2 E) (defScope s__law_below) (defScope s__law_below).names (defBody s__law_below) w__law_below :=
  have r__law_draw : ∀ (E : WX) (n : Nat), RunOk (Gm.at G N__law_below 2 E) x.a__law_draw n [] sp__law_draw := fun E n => run_plain o__law_draw (show 1 ≤ 2 by decide) (FunD.bindsN x.d__law_draw (fun _ _ _ _ _ _ us hl => match us, hl with | [_, _], _ => rfl)) x.d__law_draw.kp
  have r__law_great : ∀ (E : WX) (n : Nat), RunOk (Gm.at G N__law_below 2 E) x.a__law_great n [] sp__law_great := fun E n => run_plain o__law_great (show 2 ≤ 2 by decide) (FunD.bindsN x.d__law_great (fun _ _ _ _ _ _ us hl => match us, hl with | [_, _], _ => rfl)) x.d__law_great.kp
  (sss_cons (ss_set (i := 2) rfl (by decide +kernel) (se_call (by decide +kernel) x.g__law_draw (r__law_draw _ 2) (sa_cons (se_var (i := 0) rfl (by decide +kernel)) (sa_cons se_int sa_nil (fun _ => rfl)) (fun _ => rfl)) (fun _ => rfl) (fun _ => rfl)) (fun _ => rfl))
  (sss_cons (ss_if (st_eq (se_var (i := 2) rfl (by decide +kernel)) se_int)
  (sss_cons (ss_ret (se_blt (f := fMin2) cMin2 rn_min2 (by decide +kernel) x.n_min boot_min (by decide +kernel) (sa_cons (se_call (by decide +kernel) x.g__law_draw (r__law_draw _ 2) (sa_cons (se_var (i := 0) rfl (by decide +kernel)) (sa_cons se_int sa_nil (fun _ => rfl)) (fun _ => rfl)) (fun _ => rfl) (fun _ => rfl)) (sa_cons (se_sub (se_var (i := 1) rfl (by decide +kernel)) se_int) sa_nil (fun _ => rfl)) (fun _ => rfl)) (fun _ => rfl) (fun _ => rfl)))
  sss_nil)
  sss_nil)
  (sss_cons (ss_if (st_eq (se_var (i := 2) rfl (by decide +kernel)) se_int)
  (sss_cons (ss_ret (se_blt (f := fMax2) cMax2 rn_max2 (by decide +kernel) x.n_max boot_max (by decide +kernel) (sa_cons se_int (sa_cons (se_sub (se_sub (se_var (i := 1) rfl (by decide +kernel)) se_int) (se_call (by decide +kernel) x.g__law_draw (r__law_draw _ 2) (sa_cons (se_var (i := 0) rfl (by decide +kernel)) (sa_cons se_int sa_nil (fun _ => rfl)) (fun _ => rfl)) (fun _ => rfl) (fun _ => rfl))) sa_nil (fun _ => rfl)) (fun _ => rfl)) (fun _ => rfl) (fun _ => rfl)))
  sss_nil)
  sss_nil)
  (sss_cons (ss_ret (se_mod (se_call (by decide +kernel) x.g__law_great (r__law_great _ 2) (sa_cons (se_var (i := 0) rfl (by decide +kernel)) (sa_cons (se_blt (f := fLen) cLen rn_len (by decide +kernel) x.n_len boot_len (by decide +kernel) (sa_cons (se_bty (f := fStrI) cStrI rn_strI (by decide +kernel) x.n_str boot_str (by decide +kernel) (sa_cons (se_var (i := 1) rfl (by decide +kernel)) sa_nil (fun _ => rfl)) (fun _ => rfl) (fun _ => rfl)) sa_nil (fun _ => rfl)) (fun _ => rfl) (fun _ => rfl)) sa_nil (fun _ => rfl)) (fun _ => rfl)) (fun _ => rfl) (fun _ => rfl)) (se_var (i := 1) rfl (by decide +kernel))))
  sss_nil))))
theorem b__law_lot (G : Gm) (x : Fx G) (E : WX) (o__law_draw : Ok__law_draw G x) (o__law_below : Ok__law_below G x) : SSs (Gm.at G N__law_lot 3 E) (defScope s__law_lot) (defScope s__law_lot).names (defBody s__law_lot) w__law_lot :=
  have r__law_draw : ∀ (E : WX) (n : Nat), RunOk (Gm.at G N__law_lot 3 E) x.a__law_draw n [] sp__law_draw := fun E n => run_plain o__law_draw (show 1 ≤ 3 by decide) (FunD.bindsN x.d__law_draw (fun _ _ _ _ _ _ us hl => match us, hl with | [_, _], _ => rfl)) x.d__law_draw.kp
  have r__law_below : ∀ (E : WX) (n : Nat), RunOk (Gm.at G N__law_lot 3 E) x.a__law_below n [] sp__law_below := fun E n => run_plain o__law_below (show 3 ≤ 3 by decide) (FunD.bindsN x.d__law_below (fun _ _ _ _ _ _ us hl => match us, hl with | [_, _], _ => rfl)) x.d__law_below.kp
  (sss_cons (ss_if (st_eq (se_call (by decide +kernel) x.g__law_draw (r__law_draw _ 2) (sa_cons (se_var (i := 0) rfl (by decide +kernel)) (sa_cons se_int sa_nil (fun _ => rfl)) (fun _ => rfl)) (fun _ => rfl) (fun _ => rfl)) se_int)
  (sss_cons (ss_ret (se_if (SW.toT (sw_and (st_gt (se_var (i := 1) rfl (by decide +kernel)) se_int) (sw_and1 (st_eq (se_call (by decide +kernel) x.g__law_draw (r__law_draw _ 2) (sa_cons (se_var (i := 0) rfl (by decide +kernel)) (sa_cons se_int sa_nil (fun _ => rfl)) (fun _ => rfl)) (fun _ => rfl) (fun _ => rfl)) se_int)))) (se_lst (sa_cons (se_tup (sa_cons se_int (sa_cons (se_var (i := 1) rfl (by decide +kernel)) sa_nil (fun _ => rfl)) (fun _ => rfl))) sa_nil (fun _ => rfl))) (se_lst sa_nil)))
  sss_nil)
  sss_nil)
  (sss_cons (ss_set (i := 3) rfl (by decide +kernel) (se_blt (f := fSortI) cSortI rn_sortI (by decide +kernel) x.n_sorted boot_sorted (by decide +kernel) (sa_cons (se_lc (own := [("k", 5)]) (show BlkOk N__law_lot _ _ [("k", 5)] from ⟨rfl, by decide +kernel, by decide +kernel, by decide +kernel, by decide +kernel⟩) (si_r1 (by decide +kernel) x.n_range (sa_cons (se_mul se_int (se_var (i := 2) rfl (by decide +kernel))) sa_nil (fun _ => rfl)) (fun _ => rfl)) (sg_name (i := 5) rfl (by decide +kernel)) sif_nil (se_call (by decide +kernel) x.g__law_below (r__law_below _ 2) (sa_cons (se_var (i := 0) rfl (by decide +kernel)) (sa_cons (se_add (se_var (i := 1) rfl (by decide +kernel)) se_int) sa_nil (fun _ => rfl)) (fun _ => rfl)) (fun _ => rfl) (fun _ => rfl)) (fun _ _ => rfl)) sa_nil (fun _ => rfl)) (fun _ => rfl) (fun _ => rfl)) (fun _ => rfl))
  (sss_cons (ss_setO (i := 4) rfl (by decide +kernel) (se_lst sa_nil) (fun _ => rfl))
  (sss_cons (ss_for (si_r1 (by decide +kernel) x.n_range (sa_cons (se_var (i := 2) rfl (by decide +kernel)) sa_nil (fun _ => rfl)) (fun _ => rfl)) (sg_name (i := 5) rfl (by decide +kernel))
  (sss_cons (ss_if (st_lt (se_ix (se_var (i := 3) rfl (by decide +kernel)) (se_mul se_int (se_var (i := 5) rfl (by decide +kernel))) (fun _ _ => rfl)) (se_ix (se_var (i := 3) rfl (by decide +kernel)) (se_add (se_mul se_int (se_var (i := 5) rfl (by decide +kernel))) se_int) (fun _ _ => rfl)))
  (sss_cons (ss_ex (se_append (se_var (i := 4) rfl (by decide +kernel)) (sa_cons (se_tup (sa_cons (se_ix (se_var (i := 3) rfl (by decide +kernel)) (se_mul se_int (se_var (i := 5) rfl (by decide +kernel))) (fun _ _ => rfl)) (sa_cons (se_sub (se_ix (se_var (i := 3) rfl (by decide +kernel)) (se_add (se_mul se_int (se_var (i := 5) rfl (by decide +kernel))) se_int) (fun _ _ => rfl)) (se_ix (se_var (i := 3) rfl (by decide +kernel)) (se_mul se_int (se_var (i := 5) rfl (by decide +kernel))) (fun _ _ => rfl))) sa_nil (fun _ => rfl)) (fun _ => rfl))) sa_nil (fun _ => rfl)) (fun _ => rfl) rfl (fun _ => rfl)) (fun _ => rfl))
  sss_nil)
  sss_nil)
  sss_nil) (fun _ _ => rfl))
  (sss_cons (ss_ret (se_take (i := 4) rfl (by decide +kernel)))
  sss_nil)))))
theorem b_is_whole (G : Gm) (x : Fx G) (E : WX)  : SSs (Gm.at G N_is_whole 0 E) (defScope s_is_whole) (defScope s_is_whole).names (defBody s_is_whole) w_is_whole :=
  (sss_cons (ss_ret (SV'.se (sv_and (se_isi (by decide +kernel) x.n_isinstance (by decide +kernel) x.n_int boot_int (by decide +kernel) (by decide +kernel) (se_var (i := 0) rfl (by decide +kernel)) (fun _ => rfl)) (sv_and (se_not (se_isi (by decide +kernel) x.n_isinstance (by decide +kernel) x.n_bool boot_bool (by decide +kernel) (by decide +kernel) (se_var (i := 0) rfl (by decide +kernel)) (fun _ => rfl))) (sv_one (se_chain (p := pLe) (p' := pLe) oLe oLe (se_var (i := 1) rfl (by decide +kernel)) (se_var (i := 0) rfl (by decide +kernel)) (se_var (i := 2) rfl (by decide +kernel)) (by with_unfolding_all rfl)))))))
  sss_nil)
theorem b_is_way (G : Gm) (x : Fx G) (E : WX) (o_is_whole : Ok_is_whole G x) : SSs (Gm.at G N_is_way 1 E) (defScope s_is_way) (defScope s_is_way).names (defBody s_is_way) w_is_way :=
  have d_is_whole : ∀ (E : WX), RunOk (Gm.at G N_is_way 1 E) x.a_is_whole 1 [] sd_is_whole := fun E => (df_is_whole G x).elim fun its hb => run_dfl (Γ := Gm.at G N_is_way 1 E) (is := [-1000000000000000000, 1000000000000000000]) o_is_whole (show 1 ≤ 1 by decide) hb x.d_is_whole.kp
  (sss_cons (ss_ret (SV'.se (sv_and (se_call (by decide +kernel) x.g_is_whole (d_is_whole _) (sa_cons (se_var (i := 0) rfl (by decide +kernel)) sa_nil (fun _ => rfl)) (fun _ => rfl) (fun _ => rfl)) (sv_one (se_in (se_var (i := 0) rfl (by decide +kernel)) (se_tup (sa_cons se_int (sa_cons (se_neg se_int) sa_nil (fun _ => rfl)) (fun _ => rfl))) (by with_unfolding_all rfl))))))
  sss_nil)
theorem b_is_piece (G : Gm) (x : Fx G) (E : WX) (o_is_way : Ok_is_way G x) (o_is_whole : Ok_is_whole G x) : SSs (Gm.at G N_is_piece 2 E) (defScope s_is_piece) (defScope s_is_piece).names (defBody s_is_piece) w_is_piece :=
  have r_is_way : ∀ (E : WX) (n : Nat), RunOk (Gm.at G N_is_piece 2 E) x.a_is_way n [] sp_is_way := fun E n => run_plain o_is_way (show 2 ≤ 2 by decide) (FunD.bindsN x.d_is_way (fun _ _ _ _ _ _ us hl => match us, hl with | [_], _ => rfl)) x.d_is_way.kp
  have k_is_whole : ∀ (E : WX), RunOk (Gm.at G N_is_piece 2 E) x.a_is_whole 1 ["low", "high"] sp_is_whole := fun E => (kw_is_whole G x).elim fun its hb => run_kw o_is_whole (show 1 ≤ 2 by decide) hb x.d_is_whole.kp
  (sss_cons (ss_if (SW.toT (sw_or (st_not (st_val (se_isi (by decide +kernel) x.n_isinstance (by decide +kernel) x.n_tuple boot_tuple (by decide +kernel) (by decide +kernel) (se_var (i := 0) rfl (by decide +kernel)) (fun _ => rfl)) (fun _ _ => rfl))) (sw_or (st_ne (se_blt (f := fLen) cLen rn_len (by decide +kernel) x.n_len boot_len (by decide +kernel) (sa_cons (se_var (i := 0) rfl (by decide +kernel)) sa_nil (fun _ => rfl)) (fun _ => rfl) (fun _ => rfl)) se_int) (sw_or1 (st_not (st_val (se_call (by decide +kernel) x.g_is_way (r_is_way _ 1) (sa_cons (se_ix (se_var (i := 0) rfl (by decide +kernel)) se_int (fun _ _ => rfl)) sa_nil (fun _ => rfl)) (fun _ => rfl) (fun _ => rfl)) (fun _ _ => rfl)))))))
  (sss_cons (ss_ret se_bool)
  sss_nil)
  sss_nil)
  (sss_cons (ss_asg (se_var (i := 0) rfl (by decide +kernel)) (sg_tup (n := 4) (sgs_cons (sg_name (i := 2) rfl (by decide +kernel)) (sgs_cons (sg_name (i := 3) rfl (by decide +kernel)) (sgs_cons (sg_name (i := 4) rfl (by decide +kernel)) (sgs_cons (sg_name (i := 5) rfl (by decide +kernel)) sgs_nil (fun _ => rfl)) (fun _ => rfl)) (fun _ => rfl)) (fun _ => rfl)) (fun _ => rfl) (fun _ => rfl)) (fun _ => rfl) (fun _ _ => rfl) (fun _ => rfl))
  (sss_cons (ss_if (SW.toT (sw_or (st_not (st_val (se_callK (ks := ["low", "high"]) (by decide +kernel) x.g_is_whole (k_is_whole _) rfl (sa_cons (se_var (i := 3) rfl (by decide +kernel)) sa_nil (fun _ => rfl)) (sk_cons se_int (sk_cons (se_var (i := 1) rfl (by decide +kernel)) sk_nil)) (fun _ => rfl) (fun _ => rfl) (fun _ => rfl) (fun _ => rfl)) (fun _ _ => rfl))) (sw_or1 (st_not (st_val (se_callK (ks := ["low", "high"]) (by decide +kernel) x.g_is_whole (k_is_whole _) rfl (sa_cons (se_var (i := 2) rfl (by decide +kernel)) sa_nil (fun _ => rfl)) (sk_cons se_int (sk_cons (se_sub (se_var (i := 1) rfl (by decide +kernel)) (se_var (i := 3) rfl (by decide +kernel))) sk_nil)) (fun _ => rfl) (fun _ => rfl) (fun _ => rfl) (fun _ => rfl)) (fun _ _ => rfl))))))
  (sss_cons (ss_ret se_bool)
  sss_nil)
  sss_nil)
  (sss_cons (ss_ret (se_callK (ks := ["low", "high"]) (by decide +kernel) x.g_is_whole (k_is_whole _) rfl (sa_cons (se_var (i := 4) rfl (by decide +kernel)) sa_nil (fun _ => rfl)) (sk_cons se_int (sk_cons (se_sub (se_var (i := 1) rfl (by decide +kernel)) (se_var (i := 3) rfl (by decide +kernel))) sk_nil)) (fun _ => rfl) (fun _ => rfl) (fun _ => rfl) (fun _ => rfl)))
  sss_nil))))
theorem b_fills (G : Gm) (x : Fx G) (E : WX)  : SSs (Gm.at G N_fills 0 E) (defScope s_fills) (defScope s_fills).names (defBody s_fills) w_fills :=
  (sss_cons (ss_set (i := 2) rfl (by decide +kernel) se_int (fun _ => rfl))
  (sss_cons (ss_for (si_data (se_blt (f := fSortN) cSortN rn_sortN (by decide +kernel) x.n_sorted boot_sorted (by decide +kernel) (sa_cons (se_var (i := 0) rfl (by decide +kernel)) sa_nil (fun _ => rfl)) (fun _ => rfl) (fun _ => rfl))) (sg_tup (n := 2) (sgs_cons (sg_name (i := 3) rfl (by decide +kernel)) (sgs_cons (sg_name (i := 4) rfl (by decide +kernel)) sgs_nil (fun _ => rfl)) (fun _ => rfl)) (fun _ => rfl) (fun _ => rfl))
  (sss_cons (ss_if (st_ne (se_var (i := 3) rfl (by decide +kernel)) (se_var (i := 2) rfl (by decide +kernel)))
  (sss_cons (ss_ret se_bool)
  sss_nil)
  sss_nil)
  (sss_cons (ss_iadd (i := 2) rfl (by decide +kernel) (se_var (i := 4) rfl (by decide +kernel)))
  sss_nil)) (fun _ _ => rfl))
  (sss_cons (ss_ret (se_eq (se_var (i := 2) rfl (by decide +kernel)) (se_var (i := 1) rfl (by decide +kernel))))
  sss_nil)))
theorem b_need_lay (G : Gm) (x : Fx G) (E : WX) (o_is_whole : Ok_is_whole G x) (o_is_piece : Ok_is_piece G x) (o_fills : Ok_fills G x) : SSs (Gm.at G N_need_lay 3 E) (defScope s_need_lay) (defScope s_need_lay).names (defBody s_need_lay) w_need_lay :=
  have k_is_whole : ∀ (E : WX), RunOk (Gm.at G N_need_lay 3 E) x.a_is_whole 1 ["low", "high"] sp_is_whole := fun E => (kw_is_whole G x).elim fun its hb => run_kw o_is_whole (show 1 ≤ 3 by decide) hb x.d_is_whole.kp
  have r_is_piece : ∀ (E : WX) (n : Nat), RunOk (Gm.at G N_need_lay 3 E) x.a_is_piece n [] sp_is_piece := fun E n => run_plain o_is_piece (show 3 ≤ 3 by decide) (FunD.bindsN x.d_is_piece (fun _ _ _ _ _ _ us hl => match us, hl with | [_, _], _ => rfl)) x.d_is_piece.kp
  have r_fills : ∀ (E : WX) (n : Nat), RunOk (Gm.at G N_need_lay 3 E) x.a_fills n [] sp_fills := fun E n => run_plain o_fills (show 1 ≤ 3 by decide) (FunD.bindsN x.d_fills (fun _ _ _ _ _ _ us hl => match us, hl with | [_, _], _ => rfl)) x.d_fills.kp
  (sss_cons (ss_if (st_not (st_val (se_callK (ks := ["low", "high"]) (by decide +kernel) x.g_is_whole (k_is_whole _) rfl (sa_cons (se_var (i := 0) rfl (by decide +kernel)) sa_nil (fun _ => rfl)) (sk_cons se_int (sk_cons (se_gloI (by decide +kernel) x.c_MOST_SPOTS) sk_nil)) (fun _ => rfl) (fun _ => rfl) (fun _ => rfl) (fun _ => rfl)) (fun _ _ => rfl)))
  (sss_cons ss_never
  sss_nil)
  sss_nil)
  (sss_cons (ss_if (SW.toT (sw_or (st_not (st_val (se_isi2 (by decide +kernel) x.n_isinstance (by decide +kernel) x.n_list boot_list (by decide +kernel) (by decide +kernel) (by decide +kernel) x.n_tuple boot_tuple (by decide +kernel) (by decide +kernel) (se_var (i := 1) rfl (by decide +kernel)) (fun _ => rfl)) (fun _ _ => rfl))) (sw_or1 (st_not (st_val (se_blt (f := fAll) cAll rn_all (by decide +kernel) x.n_all boot_all (by decide +kernel) (sa_cons (se_lc (own := [("piece", 3)]) (show BlkOk N_need_lay _ _ [("piece", 3)] from ⟨rfl, by decide +kernel, by decide +kernel, by decide +kernel, by decide +kernel⟩) (si_data (se_var (i := 1) rfl (by decide +kernel))) (sg_name (i := 3) rfl (by decide +kernel)) sif_nil (se_call (by decide +kernel) x.g_is_piece (r_is_piece _ 2) (sa_cons (se_var (i := 3) rfl (by decide +kernel)) (sa_cons (se_var (i := 0) rfl (by decide +kernel)) sa_nil (fun _ => rfl)) (fun _ => rfl)) (fun _ => rfl) (fun _ => rfl)) (fun _ _ => rfl)) sa_nil (fun _ => rfl)) (fun _ => rfl) (fun _ => rfl)) (fun _ _ => rfl))))))
  (sss_cons ss_never
  sss_nil)
  sss_nil)
  (sss_cons (ss_setLc (own' := false) (i := 2) rfl (by decide +kernel) (own := [("begin", 4), ("many", 5), ("to", 6), ("way", 7)]) (show BlkOk N_need_lay _ _ [("begin", 4), ("many", 5), ("to", 6), ("way", 7)] from ⟨rfl, by decide +kernel, by decide +kernel, by decide +kernel, by decide +kernel⟩) (si_data (se_var (i := 1) rfl (by decide +kernel))) (sg_tup (n := 4) (sgs_cons (sg_name (i := 4) rfl (by decide +kernel)) (sgs_cons (sg_name (i := 5) rfl (by decide +kernel)) (sgs_cons (sg_name (i := 6) rfl (by decide +kernel)) (sgs_cons (sg_name (i := 7) rfl (by decide +kernel)) sgs_nil (fun _ => rfl)) (fun _ => rfl)) (fun _ => rfl)) (fun _ => rfl)) (fun _ => rfl) (fun _ => rfl)) sif_nil (se_tup (sa_cons (se_var (i := 6) rfl (by decide +kernel)) (sa_cons (se_var (i := 5) rfl (by decide +kernel)) sa_nil (fun _ => rfl)) (fun _ => rfl))) (fun _ _ => rfl) rfl (by decide +kernel))
  (sss_cons (ss_if (SW.toT (sw_or (st_not (st_val (se_call (by decide +kernel) x.g_fills (r_fills _ 2) (sa_cons (se_lc (own := [("piece", 3)]) (show BlkOk N_need_lay _ _ [("piece", 3)] from ⟨rfl, by decide +kernel, by decide +kernel, by decide +kernel, by decide +kernel⟩) (si_data (se_var (i := 1) rfl (by decide +kernel))) (sg_name (i := 3) rfl (by decide +kernel)) sif_nil (se_sl (se_var (i := 3) rfl (by decide +kernel)) so_none (so_some se_int)) (fun _ _ => rfl)) (sa_cons (se_var (i := 0) rfl (by decide +kernel)) sa_nil (fun _ => rfl)) (fun _ => rfl)) (fun _ => rfl) (fun _ => rfl)) (fun _ _ => rfl))) (sw_or1 (st_not (st_val (se_call (by decide +kernel) x.g_fills (r_fills _ 2) (sa_cons (se_var (i := 2) rfl (by decide +kernel)) (sa_cons (se_var (i := 0) rfl (by decide +kernel)) sa_nil (fun _ => rfl)) (fun _ => rfl)) (fun _ => rfl) (fun _ => rfl)) (fun _ _ => rfl))))))
  (sss_cons ss_never
  sss_nil)
  sss_nil)
  sss_nil))))
theorem b_in_one_form (G : Gm) (x : Fx G) (E : WX)  : SSs (Gm.at G N_in_one_form 0 E) (defScope s_in_one_form) (defScope s_in_one_form).names (defBody s_in_one_form) w_in_one_form :=
  (sss_cons (ss_setO (i := 1) rfl (by decide +kernel) (se_lst sa_nil) (fun _ => rfl))
  (sss_cons (ss_for (si_data (se_blt (f := fSortN) cSortN rn_sortN (by decide +kernel) x.n_sorted boot_sorted (by decide +kernel) (sa_cons (se_var (i := 0) rfl (by decide +kernel)) sa_nil (fun _ => rfl)) (fun _ => rfl) (fun _ => rfl))) (sg_name (i := 2) rfl (by decide +kernel))
  (sss_cons (ss_if (SW.toT (sw_and (st_ne (se_var (i := 1) rfl (by decide +kernel)) (se_lst sa_nil)) (sw_and1 (st_eq (se_ix (se_ix (se_var (i := 1) rfl (by decide +kernel)) (se_neg se_int) (fun _ _ => rfl)) se_int (fun _ _ => rfl)) (se_ix (se_var (i := 2) rfl (by decide +kernel)) se_int (fun _ _ => rfl))))))
  (sss_cons (ss_asg (se_ix (se_var (i := 1) rfl (by decide +kernel)) (se_neg se_int) (fun _ _ => rfl)) (sg_tup (n := 4) (sgs_cons (sg_name (i := 3) rfl (by decide +kernel)) (sgs_cons (sg_name (i := 4) rfl (by decide +kernel)) (sgs_cons (sg_name (i := 5) rfl (by decide +kernel)) (sgs_cons (sg_name (i := 6) rfl (by decide +kernel)) sgs_nil (fun _ => rfl)) (fun _ => rfl)) (fun _ => rfl)) (fun _ => rfl)) (fun _ => rfl) (fun _ => rfl)) (fun _ => rfl) (fun _ _ => rfl) (fun _ => rfl))
  (sss_cons (ss_if (SW.toT (sw_or (SW.toT (sw_and (st_eq (se_ix (se_var (i := 2) rfl (by decide +kernel)) se_int (fun _ _ => rfl)) (se_add (se_var (i := 5) rfl (by decide +kernel)) (se_var (i := 4) rfl (by decide +kernel)))) (sw_and1 (st_eq (se_var (i := 6) rfl (by decide +kernel)) se_int)))) (sw_or1 (SW.toT (sw_and (st_eq (se_add (se_ix (se_var (i := 2) rfl (by decide +kernel)) se_int (fun _ _ => rfl)) (se_ix (se_var (i := 2) rfl (by decide +kernel)) se_int (fun _ _ => rfl))) (se_var (i := 5) rfl (by decide +kernel))) (sw_and1 (st_eq (se_var (i := 6) rfl (by decide +kernel)) (se_neg se_int))))))))
  (sss_cons (ss_asg (se_tup (sa_cons (se_var (i := 3) rfl (by decide +kernel)) (sa_cons (se_add (se_var (i := 4) rfl (by decide +kernel)) (se_ix (se_var (i := 2) rfl (by decide +kernel)) se_int (fun _ _ => rfl))) (sa_cons (se_blt (f := fMin2) cMin2 rn_min2 (by decide +kernel) x.n_min boot_min (by decide +kernel) (sa_cons (se_var (i := 5) rfl (by decide +kernel)) (sa_cons (se_ix (se_var (i := 2) rfl (by decide +kernel)) se_int (fun _ _ => rfl)) sa_nil (fun _ => rfl)) (fun _ => rfl)) (fun _ => rfl) (fun _ => rfl)) (sa_cons (se_var (i := 6) rfl (by decide +kernel)) sa_nil (fun _ => rfl)) (fun _ => rfl)) (fun _ => rfl)) (fun _ => rfl))) (sg_ix (se_var (i := 1) rfl (by decide +kernel)) (se_neg se_int) (fun _ _ => rfl)) (fun _ => rfl) (fun _ _ => rfl) (fun _ => rfl))
  (sss_cons ss_cont
  sss_nil))
  sss_nil)
  sss_nil))
  sss_nil)
  (sss_cons (ss_ex (se_append (se_var (i := 1) rfl (by decide +kernel)) (sa_cons (se_var (i := 2) rfl (by decide +kernel)) sa_nil (fun _ => rfl)) (fun _ => rfl) rfl (fun _ => rfl)) (fun _ => rfl))
  sss_nil)) (fun _ _ => rfl))
  (sss_cons (ss_ret (se_take (i := 1) rfl (by decide +kernel)))
  sss_nil)))
theorem b_Lay_init (G : Gm) (x : Fx G) (E : WX) (o_need_lay : Ok_need_lay G x) (o_in_one_form : Ok_in_one_form G x) : SSs (Gm.at G N_Lay_init 4 E) (defScope s_Lay_init) (defScope s_Lay_init).names (defBody s_Lay_init) w_Lay_init :=
  have r_need_lay : ∀ (E : WX) (n : Nat), RunOk (Gm.at G N_Lay_init 4 E) x.a_need_lay n [] sp_need_lay := fun E n => run_plain o_need_lay (show 4 ≤ 4 by decide) (FunD.bindsN x.d_need_lay (fun _ _ _ _ _ _ us hl => match us, hl with | [_, _], _ => rfl)) x.d_need_lay.kp
  have r_in_one_form : ∀ (E : WX) (n : Nat), RunOk (Gm.at G N_Lay_init 4 E) x.a_in_one_form n [] sp_in_one_form := fun E n => run_plain o_in_one_form (show 1 ≤ 4 by decide) (FunD.bindsN x.d_in_one_form (fun _ _ _ _ _ _ us hl => match us, hl with | [_], _ => rfl)) x.d_in_one_form.kp
  (sss_cons (ss_ex (se_call (by decide +kernel) x.g_need_lay (r_need_lay _ 2) (sa_cons (se_var (i := 1) rfl (by decide +kernel)) (sa_cons (se_var (i := 2) rfl (by decide +kernel)) sa_nil (fun _ => rfl)) (fun _ => rfl)) (fun _ => rfl) (fun _ => rfl)) (fun _ => rfl))
  (sss_cons (ss_fld ⟨x.k_Lay, x.f_Lay_total⟩ (se_var (i := 0) rfl (by decide +kernel)) (se_var (i := 1) rfl (by decide +kernel)) (fun _ => rfl))
  (sss_cons (ss_fld ⟨x.k_Lay, x.f_Lay_rows⟩ (se_var (i := 0) rfl (by decide +kernel)) (se_call (by decide +kernel) x.g_in_one_form (r_in_one_form _ 1) (sa_cons (se_var (i := 2) rfl (by decide +kernel)) sa_nil (fun _ => rfl)) (fun _ => rfl) (fun _ => rfl)) (fun _ => rfl))
  sss_nil)))
theorem b__law_odd (G : Gm) (x : Fx G) (E : WX) (o__law_pick : Ok__law_pick G x) : SSs (Gm.at G N__law_odd 2 E) (defScope s__law_odd) (defScope s__law_odd).names (defBody s__law_odd) w__law_odd :=
  have r__law_pick : ∀ (E : WX) (n : Nat), RunOk (Gm.at G N__law_odd 2 E) x.a__law_pick n [] sp__law_pick := fun E n => run_plain o__law_pick (show 2 ≤ 2 by decide) (FunD.bindsN x.d__law_pick (fun _ _ _ _ _ _ us hl => match us, hl with | [_, _], _ => rfl)) x.d__law_pick.kp
  (sss_cons (ss_set (i := 1) rfl (by decide +kernel) (se_lst (sa_cons se_none (sa_cons se_bool (sa_cons se_bool (sa_cons se_int (sa_cons se_int (sa_cons (se_neg se_int) (sa_cons se_int (sa_cons (se_pow se_int se_int) (sa_cons se_str (sa_cons se_str (sa_cons se_str (sa_cons se_str (sa_cons (se_tup sa_nil) (sa_cons (se_lst sa_nil) (sa_cons se_dnew (sa_cons (se_tup (sa_cons se_int sa_nil (fun _ => rfl))) (sa_cons (se_lst (sa_cons se_int (sa_cons se_int sa_nil (fun _ => rfl)) (fun _ => rfl))) (sa_cons (se_tup (sa_cons se_int (sa_cons se_int sa_nil (fun _ => rfl)) (fun _ => rfl))) (sa_cons se_str sa_nil (fun _ => rfl)) (fun _ => rfl)) (fun _ => rfl)) (fun _ => rfl)) (fun _ => rfl)) (fun _ => rfl)) (fun _ => rfl)) (fun _ => rfl)) (fun _ => rfl)) (fun _ => rfl)) (fun _ => rfl)) (fun _ => rfl)) (fun _ => rfl)) (fun _ => rfl)) (fun _ => rfl)) (fun _ => rfl)) (fun _ => rfl)) (fun _ => rfl)) (fun _ => rfl))) (fun _ => rfl))
  (sss_cons (ss_ret (se_call (by decide +kernel) x.g__law_pick (r__law_pick _ 2) (sa_cons (se_var (i := 0) rfl (by decide +kernel)) (sa_cons (se_add (se_var (i := 1) rfl (by decide +kernel)) (se_lst (sa_cons (se_tup (sa_cons se_str sa_nil (fun _ => rfl))) (sa_cons (se_lst (sa_cons se_str sa_nil (fun _ => rfl))) (sa_cons (se_tup (sa_cons se_bool (sa_cons se_int sa_nil (fun _ => rfl)) (fun _ => rfl))) (sa_cons (se_disp (sps_cons se_str se_int sps_nil) rfl rfl (by intro h; cases h) (by decide)) (sa_cons (se_tup (sa_cons (se_tup sa_nil) (sa_cons (se_tup sa_nil) sa_nil (fun _ => rfl)) (fun _ => rfl))) (sa_cons (se_lst (sa_cons (se_lst sa_nil) sa_nil (fun _ => rfl))) sa_nil (fun _ => rfl)) (fun _ => rfl)) (fun _ => rfl)) (fun _ => rfl)) (fun _ => rfl)) (fun _ => rfl)))) sa_nil (fun _ => rfl)) (fun _ => rfl)) (fun _ => rfl) (fun _ => rfl)))
  sss_nil))
theorem b__law_bent_tuple (G : Gm) (x : Fx G) (E : WX) (o__law_draw : Ok__law_draw G x) (o__law_pick : Ok__law_pick G x) (o__law_odd : Ok__law_odd G x) : SSs (Gm.at G N__law_bent_tuple 3 E) (defScope s__law_bent_tuple) (defScope s__law_bent_tuple).names (defBody s__law_bent_tuple) w__law_bent_tuple :=
  have r__law_draw : ∀ (E : WX) (n : Nat), RunOk (Gm.at G N__law_bent_tuple 3 E) x.a__law_draw n [] sp__law_draw := fun E n => run_plain o__law_draw (show 1 ≤ 3 by decide) (FunD.bindsN x.d__law_draw (fun _ _ _ _ _ _ us hl => match us, hl with | [_, _], _ => rfl)) x.d__law_draw.kp
  have r__law_pick : ∀ (E : WX) (n : Nat), RunOk (Gm.at G N__law_bent_tuple 3 E) x.a__law_pick n [] sp__law_pick := fun E n => run_plain o__law_pick (show 2 ≤ 3 by decide) (FunD.bindsN x.d__law_pick (fun _ _ _ _ _ _ us hl => match us, hl with | [_, _], _ => rfl)) x.d__law_pick.kp
  have r__law_odd : ∀ (E : WX) (n : Nat), RunOk (Gm.at G N__law_bent_tuple 3 E) x.a__law_odd n [] sp__law_odd := fun E n => run_plain o__law_odd (show 3 ≤ 3 by decide) (FunD.bindsN x.d__law_odd (fun _ _ _ _ _ _ us hl => match us, hl with | [_], _ => rfl)) x.d__law_odd.kp
  (sss_cons (ss_par2 (i := 3) (j := 4) rfl rfl  (by decide)  (by decide +kernel) (by decide +kernel)  (sp_d (se_call (by decide +kernel) x.g__law_draw (r__law_draw _ 2) (sa_cons (se_var (i := 0) rfl (by decide +kernel)) (sa_cons (se_blt (f := fLen) cLen rn_len (by decide +kernel) x.n_len boot_len (by decide +kernel) (sa_cons (se_var (i := 1) rfl (by decide +kernel)) sa_nil (fun _ => rfl)) (fun _ => rfl) (fun _ => rfl)) sa_nil (fun _ => rfl)) (fun _ => rfl)) (fun _ => rfl) (fun _ => rfl)) (sp_d (se_call (by decide +kernel) x.g__law_draw (r__law_draw _ 2) (sa_cons (se_var (i := 0) rfl (by decide +kernel)) (sa_cons se_int sa_nil (fun _ => rfl)) (fun _ => rfl)) (fun _ => rfl) (fun _ => rfl)) sp_nil (fun _ => rfl)) (fun _ => rfl)) (fun X C => sw_at C fun _ => by with_unfolding_all rfl) (fun _ => rfl))
  (sss_cons (ss_set (i := 5) rfl (by decide +kernel) (se_ix (se_var (i := 1) rfl (by decide +kernel)) (se_var (i := 3) rfl (by decide +kernel)) (fun _ _ => rfl)) (fun _ => rfl))
  (sss_cons (ss_if (SW.toT (sw_and (st_lt (se_var (i := 4) rfl (by decide +kernel)) se_int) (sw_and1 (st_val (se_isi (by decide +kernel) x.n_isinstance (by decide +kernel) x.n_int boot_int (by decide +kernel) (by decide +kernel) (se_var (i := 5) rfl (by decide +kernel)) (fun _ => rfl)) (fun _ _ => rfl)))))
  (sss_cons (ss_set (i := 5) rfl (by decide +kernel) (se_ix (se_lst (sa_cons (se_add (se_var (i := 5) rfl (by decide +kernel)) se_int) (sa_cons (se_sub (se_var (i := 5) rfl (by decide +kernel)) se_int) (sa_cons (se_sub se_int (se_var (i := 5) rfl (by decide +kernel))) (sa_cons (se_add (se_var (i := 5) rfl (by decide +kernel)) se_int) (sa_cons (se_sub (se_var (i := 5) rfl (by decide +kernel)) se_int) (sa_cons (se_mul se_int (se_var (i := 5) rfl (by decide +kernel))) sa_nil (fun _ => rfl)) (fun _ => rfl)) (fun _ => rfl)) (fun _ => rfl)) (fun _ => rfl)) (fun _ => rfl))) (se_var (i := 4) rfl (by decide +kernel)) (fun _ _ => rfl)) (fun _ => rfl))
  sss_nil)
  (sss_cons (ss_if (st_lt (se_var (i := 4) rfl (by decide +kernel)) se_int)
  (sss_cons (ss_set (i := 5) rfl (by decide +kernel) (se_ix (se_add (se_var (i := 2) rfl (by decide +kernel)) (se_var (i := 1) rfl (by decide +kernel))) (se_call (by decide +kernel) x.g__law_draw (r__law_draw _ 2) (sa_cons (se_var (i := 0) rfl (by decide +kernel)) (sa_cons (se_blt (f := fLen) cLen rn_len (by decide +kernel) x.n_len boot_len (by decide +kernel) (sa_cons (se_add (se_var (i := 2) rfl (by decide +kernel)) (se_var (i := 1) rfl (by decide +kernel))) sa_nil (fun _ => rfl)) (fun _ => rfl) (fun _ => rfl)) sa_nil (fun _ => rfl)) (fun _ => rfl)) (fun _ => rfl) (fun _ => rfl)) (fun _ _ => rfl)) (fun _ => rfl))
  sss_nil)
  (sss_cons (ss_if (st_eq (se_var (i := 4) rfl (by decide +kernel)) se_int)
  (sss_cons (ss_ret (se_call (by decide +kernel) x.g__law_pick (r__law_pick _ 2) (sa_cons (se_var (i := 0) rfl (by decide +kernel)) (sa_cons (se_lst (sa_cons (se_add (se_sl (se_var (i := 1) rfl (by decide +kernel)) so_none (so_some (se_var (i := 3) rfl (by decide +kernel)))) (se_sl (se_var (i := 1) rfl (by decide +kernel)) (so_some (se_add (se_var (i := 3) rfl (by decide +kernel)) se_int)) so_none)) (sa_cons (se_add (se_var (i := 1) rfl (by decide +kernel)) (se_sl (se_var (i := 1) rfl (by decide +kernel)) (so_some (se_var (i := 3) rfl (by decide +kernel))) so_none)) (sa_cons (se_bty (f := fListOf) cListOf rn_list (by decide +kernel) x.n_list boot_list (by decide +kernel) (sa_cons (se_var (i := 1) rfl (by decide +kernel)) sa_nil (fun _ => rfl)) (fun _ => rfl) (fun _ => rfl)) sa_nil (fun _ => rfl)) (fun _ => rfl)) (fun _ => rfl))) sa_nil (fun _ => rfl)) (fun _ => rfl)) (fun _ => rfl) (fun _ => rfl)))
  sss_nil)
  (sss_cons (ss_set (i := 5) rfl (by decide +kernel) (se_call (by decide +kernel) x.g__law_pick (r__law_pick _ 2) (sa_cons (se_var (i := 0) rfl (by decide +kernel)) (sa_cons (se_lst (sa_cons (se_call (by decide +kernel) x.g__law_odd (r__law_odd _ 1) (sa_cons (se_var (i := 0) rfl (by decide +kernel)) sa_nil (fun _ => rfl)) (fun _ => rfl) (fun _ => rfl)) (sa_cons (SV'.se (sv_and (se_isi (by decide +kernel) x.n_isinstance (by decide +kernel) x.n_int boot_int (by decide +kernel) (by decide +kernel) (se_var (i := 5) rfl (by decide +kernel)) (fun _ => rfl)) (sv_one (se_eq (se_var (i := 5) rfl (by decide +kernel)) se_int)))) (sa_cons (se_bty (f := fStr) cStr rn_str (by decide +kernel) x.n_str boot_str (by decide +kernel) (sa_cons (se_var (i := 5) rfl (by decide +kernel)) sa_nil (fun _ => rfl)) (fun _ => rfl) (fun _ => rfl)) sa_nil (fun _ => rfl)) (fun _ => rfl)) (fun _ => rfl))) sa_nil (fun _ => rfl)) (fun _ => rfl)) (fun _ => rfl) (fun _ => rfl)) (fun _ => rfl))
  sss_nil))
  sss_nil))
  sss_nil))
  (sss_cons (ss_ret (se_add (se_add (se_sl (se_var (i := 1) rfl (by decide +kernel)) so_none (so_some (se_var (i := 3) rfl (by decide +kernel)))) (se_tup (sa_cons (se_var (i := 5) rfl (by decide +kernel)) sa_nil (fun _ => rfl)))) (se_sl (se_var (i := 1) rfl (by decide +kernel)) (so_some (se_add (se_var (i := 3) rfl (by decide +kernel)) se_int)) so_none)))
  sss_nil))))
theorem b__law_bent_lot (G : Gm) (x : Fx G) (E : WX) (o__law_pick : Ok__law_pick G x) (o__law_draw : Ok__law_draw G x) (o__law_bent_tuple : Ok__law_bent_tuple G x) (o__law_odd : Ok__law_odd G x) : SSs (Gm.at G N__law_bent_lot 4 E) (defScope s__law_bent_lot) (defScope s__law_bent_lot).names (defBody s__law_bent_lot) w__law_bent_lot :=
  have r__law_pick : ∀ (E : WX) (n : Nat), RunOk (Gm.at G N__law_bent_lot 4 E) x.a__law_pick n [] sp__law_pick := fun E n => run_plain o__law_pick (show 2 ≤ 4 by decide) (FunD.bindsN x.d__law_pick (fun _ _ _ _ _ _ us hl => match us, hl with | [_, _], _ => rfl)) x.d__law_pick.kp
  have r__law_draw : ∀ (E : WX) (n : Nat), RunOk (Gm.at G N__law_bent_lot 4 E) x.a__law_draw n [] sp__law_draw := fun E n => run_plain o__law_draw (show 1 ≤ 4 by decide) (FunD.bindsN x.d__law_draw (fun _ _ _ _ _ _ us hl => match us, hl with | [_, _], _ => rfl)) x.d__law_draw.kp
  have r__law_bent_tuple : ∀ (E : WX) (n : Nat), RunOk (Gm.at G N__law_bent_lot 4 E) x.a__law_bent_tuple n [] sp__law_bent_tuple := fun E n => run_plain o__law_bent_tuple (show 4 ≤ 4 by decide) (FunD.bindsN x.d__law_bent_tuple (fun _ _ _ _ _ _ us hl => match us, hl with | [_, _, _], _ => rfl)) x.d__law_bent_tuple.kp
  have r__law_odd : ∀ (E : WX) (n : Nat), RunOk (Gm.at G N__law_bent_lot 4 E) x.a__law_odd n [] sp__law_odd := fun E n => run_plain o__law_odd (show 3 ≤ 4 by decide) (FunD.bindsN x.d__law_odd (fun _ _ _ _ _ _ us hl => match us, hl with | [_], _ => rfl)) x.d__law_odd.kp
  (sss_cons (ss_if (st_eq (se_var (i := 1) rfl (by decide +kernel)) (se_lst sa_nil))
  (sss_cons (ss_ret (se_lst (sa_cons (se_tup (sa_cons (se_call (by decide +kernel) x.g__law_pick (r__law_pick _ 2) (sa_cons (se_var (i := 0) rfl (by decide +kernel)) (sa_cons (se_lst (sa_cons se_int (sa_cons se_int (sa_cons (se_neg se_int) (sa_cons (se_var (i := 2) rfl (by decide +kernel)) sa_nil (fun _ => rfl)) (fun _ => rfl)) (fun _ => rfl)) (fun _ => rfl))) sa_nil (fun _ => rfl)) (fun _ => rfl)) (fun _ => rfl) (fun _ => rfl)) (sa_cons (se_call (by decide +kernel) x.g__law_pick (r__law_pick _ 2) (sa_cons (se_var (i := 0) rfl (by decide +kernel)) (sa_cons (se_lst (sa_cons se_int (sa_cons (se_var (i := 2) rfl (by decide +kernel)) (sa_cons (se_add (se_var (i := 2) rfl (by decide +kernel)) se_int) (sa_cons se_int sa_nil (fun _ => rfl)) (fun _ => rfl)) (fun _ => rfl)) (fun _ => rfl))) sa_nil (fun _ => rfl)) (fun _ => rfl)) (fun _ => rfl) (fun _ => rfl)) sa_nil (fun _ => rfl)) (fun _ => rfl))) sa_nil (fun _ => rfl))))
  sss_nil)
  sss_nil)
  (sss_cons (ss_par2 (i := 3) (j := 4) rfl rfl  (by decide)  (by decide +kernel) (by decide +kernel)  (sp_d (se_call (by decide +kernel) x.g__law_draw (r__law_draw _ 2) (sa_cons (se_var (i := 0) rfl (by decide +kernel)) (sa_cons (se_blt (f := fLen) cLen rn_len (by decide +kernel) x.n_len boot_len (by decide +kernel) (sa_cons (se_var (i := 1) rfl (by decide +kernel)) sa_nil (fun _ => rfl)) (fun _ => rfl) (fun _ => rfl)) sa_nil (fun _ => rfl)) (fun _ => rfl)) (fun _ => rfl) (fun _ => rfl)) (sp_d (se_call (by decide +kernel) x.g__law_draw (r__law_draw _ 2) (sa_cons (se_var (i := 0) rfl (by decide +kernel)) (sa_cons se_int sa_nil (fun _ => rfl)) (fun _ => rfl)) (fun _ => rfl) (fun _ => rfl)) sp_nil (fun _ => rfl)) (fun _ => rfl)) (fun X C => sw_at C fun _ => by with_unfolding_all rfl) (fun _ => rfl))
  (sss_cons (ss_par2 (i := 5) (j := 6) rfl rfl  (by decide)  (by decide +kernel) (by decide +kernel)  (sp_d (se_ix (se_var (i := 1) rfl (by decide +kernel)) (se_var (i := 3) rfl (by decide +kernel)) (fun _ _ => rfl)) (sp_d (se_sl (se_var (i := 1) rfl (by decide +kernel)) (so_some (se_add (se_var (i := 3) rfl (by decide +kernel)) se_int)) so_none) sp_nil (fun _ => rfl)) (fun _ => rfl)) (fun X C => sw_at C fun _ => by with_unfolding_all rfl) (fun _ => rfl))
  (sss_cons (ss_if (st_lt (se_var (i := 4) rfl (by decide +kernel)) se_int)
  (sss_cons (ss_ret (se_add (se_add (se_sl (se_var (i := 1) rfl (by decide +kernel)) so_none (so_some (se_var (i := 3) rfl (by decide +kernel)))) (se_lst (sa_cons (se_call (by decide +kernel) x.g__law_bent_tuple (r__law_bent_tuple _ 3) (sa_cons (se_var (i := 0) rfl (by decide +kernel)) (sa_cons (se_var (i := 5) rfl (by decide +kernel)) (sa_cons (se_ix (se_var (i := 1) rfl (by decide +kernel)) se_int (fun _ _ => rfl)) sa_nil (fun _ => rfl)) (fun _ => rfl)) (fun _ => rfl)) (fun _ => rfl) (fun _ => rfl)) sa_nil (fun _ => rfl)))) (se_var (i := 6) rfl (by decide +kernel))))
  sss_nil)
  sss_nil)
  (sss_cons (ss_if (st_eq (se_var (i := 4) rfl (by decide +kernel)) se_int)
  (sss_cons (ss_ret (se_add (se_add (se_sl (se_var (i := 1) rfl (by decide +kernel)) so_none (so_some (se_var (i := 3) rfl (by decide +kernel)))) (se_lst (sa_cons (se_tup (sa_cons (se_ix (se_var (i := 5) rfl (by decide +kernel)) se_int (fun _ _ => rfl)) (sa_cons (se_add (se_ix (se_var (i := 5) rfl (by decide +kernel)) se_int (fun _ _ => rfl)) se_int) sa_nil (fun _ => rfl)) (fun _ => rfl))) sa_nil (fun _ => rfl)))) (se_var (i := 6) rfl (by decide +kernel))))
  sss_nil)
  sss_nil)
  (sss_cons (ss_if (st_eq (se_var (i := 4) rfl (by decide +kernel)) se_int)
  (sss_cons (ss_ret (se_add (se_add (se_sl (se_var (i := 1) rfl (by decide +kernel)) so_none (so_some (se_var (i := 3) rfl (by decide +kernel)))) (se_lst (sa_cons (se_tup (sa_cons (se_blt (f := fMax2) cMax2 rn_max2 (by decide +kernel) x.n_max boot_max (by decide +kernel) (sa_cons se_int (sa_cons (se_sub (se_ix (se_var (i := 5) rfl (by decide +kernel)) se_int (fun _ _ => rfl)) se_int) sa_nil (fun _ => rfl)) (fun _ => rfl)) (fun _ => rfl) (fun _ => rfl)) (sa_cons (se_add (se_ix (se_var (i := 5) rfl (by decide +kernel)) se_int (fun _ _ => rfl)) (se_bty (f := fInt1) cInt1 rn_int1 (by decide +kernel) x.n_int boot_int (by decide +kernel) (sa_cons (se_gt (se_ix (se_var (i := 5) rfl (by decide +kernel)) se_int (fun _ _ => rfl)) se_int) sa_nil (fun _ => rfl)) (fun _ => rfl) (fun _ => rfl))) sa_nil (fun _ => rfl)) (fun _ => rfl))) sa_nil (fun _ => rfl)))) (se_var (i := 6) rfl (by decide +kernel))))
  sss_nil)
  sss_nil)
  (sss_cons (ss_if (st_eq (se_var (i := 4) rfl (by decide +kernel)) se_int)
  (sss_cons (ss_ret (se_add (se_add (se_sl (se_var (i := 1) rfl (by decide +kernel)) so_none (so_some (se_var (i := 3) rfl (by decide +kernel)))) (se_lst (sa_cons (se_var (i := 5) rfl (by decide +kernel)) sa_nil (fun _ => rfl)))) (se_sl (se_var (i := 1) rfl (by decide +kernel)) (so_some (se_var (i := 3) rfl (by decide +kernel))) so_none)))
  sss_nil)
  sss_nil)
  (sss_cons (ss_if (st_eq (se_var (i := 4) rfl (by decide +kernel)) se_int)
  (sss_cons (ss_ret (se_add (se_add (se_sl (se_var (i := 1) rfl (by decide +kernel)) so_none (so_some (se_var (i := 3) rfl (by decide +kernel)))) (se_var (i := 6) rfl (by decide +kernel))) (se_lst (sa_cons (se_var (i := 5) rfl (by decide +kernel)) sa_nil (fun _ => rfl)))))
  sss_nil)
  sss_nil)
  (sss_cons (ss_if (st_eq (se_var (i := 4) rfl (by decide +kernel)) se_int)
  (sss_cons (ss_ret (se_add (se_add (se_sl (se_var (i := 1) rfl (by decide +kernel)) so_none (so_some (se_var (i := 3) rfl (by decide +kernel)))) (se_lst (sa_cons (se_call (by decide +kernel) x.g__law_pick (r__law_pick _ 2) (sa_cons (se_var (i := 0) rfl (by decide +kernel)) (sa_cons (se_lst (sa_cons (se_call (by decide +kernel) x.g__law_odd (r__law_odd _ 1) (sa_cons (se_var (i := 0) rfl (by decide +kernel)) sa_nil (fun _ => rfl)) (fun _ => rfl) (fun _ => rfl)) (sa_cons (se_bty (f := fListOf) cListOf rn_list (by decide +kernel) x.n_list boot_list (by decide +kernel) (sa_cons (se_var (i := 5) rfl (by decide +kernel)) sa_nil (fun _ => rfl)) (fun _ => rfl) (fun _ => rfl)) (sa_cons (se_add (se_var (i := 5) rfl (by decide +kernel)) (se_tup (sa_cons se_int sa_nil (fun _ => rfl)))) (sa_cons (se_sl (se_var (i := 5) rfl (by decide +kernel)) so_none (so_some se_int)) sa_nil (fun _ => rfl)) (fun _ => rfl)) (fun _ => rfl)) (fun _ => rfl))) sa_nil (fun _ => rfl)) (fun _ => rfl)) (fun _ => rfl) (fun _ => rfl)) sa_nil (fun _ => rfl)))) (se_var (i := 6) rfl (by decide +kernel))))
  sss_nil)
  sss_nil)
  (sss_cons (ss_ret (se_add (se_var (i := 1) rfl (by decide +kernel)) (se_lst (sa_cons (se_tup (sa_cons (se_sub (se_var (i := 2) rfl (by decide +kernel)) se_int) (sa_cons se_int sa_nil (fun _ => rfl)) (fun _ => rfl))) sa_nil (fun _ => rfl)))))
  sss_nil))))))))))
theorem b_is_number (G : Gm) (x : Fx G) (E : WX)  : SSs (Gm.at G N_is_number 0 E) (defScope s_is_number) (defScope s_is_number).names (defBody s_is_number) w_is_number :=
  (sss_cons (ss_ret (SV'.se (sv_and (se_isi (by decide +kernel) x.n_isinstance (by decide +kernel) x.n_int boot_int (by decide +kernel) (by decide +kernel) (se_var (i := 0) rfl (by decide +kernel)) (fun _ => rfl)) (sv_and (se_not (se_isi (by decide +kernel) x.n_isinstance (by decide +kernel) x.n_bool boot_bool (by decide +kernel) (by decide +kernel) (se_var (i := 0) rfl (by decide +kernel)) (fun _ => rfl))) (sv_one (se_ge (se_var (i := 0) rfl (by decide +kernel)) (se_var (i := 1) rfl (by decide +kernel))))))))
  sss_nil)
theorem b_is_part (G : Gm) (x : Fx G) (E : WX) (o_is_number : Ok_is_number G x) : SSs (Gm.at G N_is_part 1 E) (defScope s_is_part) (defScope s_is_part).names (defBody s_is_part) w_is_part :=
  have r_is_number : ∀ (E : WX) (n : Nat), RunOk (Gm.at G N_is_part 1 E) x.a_is_number n [] sp_is_number := fun E n => run_plain o_is_number (show 1 ≤ 1 by decide) (FunD.bindsN x.d_is_number (fun _ _ _ _ _ _ us hl => match us, hl with | [_, _], _ => rfl)) x.d_is_number.kp
  (sss_cons (ss_ret (SV'.se (sv_and (se_call (by decide +kernel) x.g_is_number (r_is_number _ 2) (sa_cons (se_var (i := 1) rfl (by decide +kernel)) (sa_cons se_int sa_nil (fun _ => rfl)) (fun _ => rfl)) (fun _ => rfl) (fun _ => rfl)) (sv_and (se_call (by decide +kernel) x.g_is_number (r_is_number _ 2) (sa_cons (se_var (i := 2) rfl (by decide +kernel)) (sa_cons se_int sa_nil (fun _ => rfl)) (fun _ => rfl)) (fun _ => rfl) (fun _ => rfl)) (sv_one (se_le (se_add (se_var (i := 1) rfl (by decide +kernel)) (se_var (i := 2) rfl (by decide +kernel))) (se_var (i := 0) rfl (by decide +kernel))))))))
  sss_nil)
theorem b_Lay_spots (G : Gm) (x : Fx G) (E : WX)  : SSs (Gm.at G N_Lay_spots 0 E) (defScope s_Lay_spots) (defScope s_Lay_spots).names (defBody s_Lay_spots) w_Lay_spots :=
  (sss_cons (ss_ret (se_fld ⟨x.k_Lay, x.f_Lay_total⟩ (se_var (i := 0) rfl (by decide +kernel)) rfl))
  sss_nil)
theorem b_is_lot (G : Gm) (x : Fx G) (E : WX) (o_is_part : Ok_is_part G x) (o_Lay_spots : Ok_Lay_spots G x) : SSs (Gm.at G N_is_lot 2 E) (defScope s_is_lot) (defScope s_is_lot).names (defBody s_is_lot) w_is_lot :=
  have r_is_part : ∀ (E : WX) (n : Nat), RunOk (Gm.at G N_is_lot 2 E) x.a_is_part n [] sp_is_part := fun E n => run_plain o_is_part (show 2 ≤ 2 by decide) (FunD.bindsN x.d_is_part (fun _ _ _ _ _ _ us hl => match us, hl with | [_, _, _], _ => rfl)) x.d_is_part.kp
  have r_Lay_spots : ∀ (E : WX) (n : Nat), RunOk (Gm.at G N_is_lot 2 E) x.a_Lay_spots n [] sp_Lay_spots := fun E n => run_plain o_Lay_spots (show 1 ≤ 2 by decide) (FunD.bindsN x.d_Lay_spots (fun _ _ _ _ _ _ us hl => match us, hl with | [_], _ => rfl)) x.d_Lay_spots.kp
  (sss_cons (ss_if (st_not (st_val (se_isi2 (by decide +kernel) x.n_isinstance (by decide +kernel) x.n_list boot_list (by decide +kernel) (by decide +kernel) (by decide +kernel) x.n_tuple boot_tuple (by decide +kernel) (by decide +kernel) (se_var (i := 1) rfl (by decide +kernel)) (fun _ => rfl)) (fun _ _ => rfl)))
  (sss_cons (ss_ret se_bool)
  sss_nil)
  sss_nil)
  (sss_cons (ss_set (i := 2) rfl (by decide +kernel) se_int (fun _ => rfl))
  (sss_cons (ss_for (si_data (se_var (i := 1) rfl (by decide +kernel))) (sg_name (i := 3) rfl (by decide +kernel))
  (sss_cons (ss_if (SW.toT (sw_or (st_not (st_val (se_isi (by decide +kernel) x.n_isinstance (by decide +kernel) x.n_tuple boot_tuple (by decide +kernel) (by decide +kernel) (se_var (i := 3) rfl (by decide +kernel)) (fun _ => rfl)) (fun _ _ => rfl))) (sw_or (st_ne (se_blt (f := fLen) cLen rn_len (by decide +kernel) x.n_len boot_len (by decide +kernel) (sa_cons (se_var (i := 3) rfl (by decide +kernel)) sa_nil (fun _ => rfl)) (fun _ => rfl) (fun _ => rfl)) se_int) (sw_or1 (st_not (st_val (se_call (by decide +kernel) x.g_is_part (r_is_part _ 3) (sa_cons (se_meth0 ⟨x.k_Lay, x.m_Lay_spots⟩ (r_Lay_spots _ 1) (se_var (i := 0) rfl (by decide +kernel)) rfl rfl (fun _ => rfl)) (sa_cons (se_ix (se_var (i := 3) rfl (by decide +kernel)) se_int (fun _ _ => rfl)) (sa_cons (se_ix (se_var (i := 3) rfl (by decide +kernel)) se_int (fun _ _ => rfl)) sa_nil (fun _ => rfl)) (fun _ => rfl)) (fun _ => rfl)) (fun _ => rfl) (fun _ => rfl)) (fun _ _ => rfl)))))))
  (sss_cons (ss_ret se_bool)
  sss_nil)
  sss_nil)
  (sss_cons (ss_if (st_lt (se_ix (se_var (i := 3) rfl (by decide +kernel)) se_int (fun _ _ => rfl)) (se_var (i := 2) rfl (by decide +kernel)))
  (sss_cons (ss_ret se_bool)
  sss_nil)
  sss_nil)
  (sss_cons (ss_set (i := 2) rfl (by decide +kernel) (se_add (se_ix (se_var (i := 3) rfl (by decide +kernel)) se_int (fun _ _ => rfl)) (se_ix (se_var (i := 3) rfl (by decide +kernel)) se_int (fun _ _ => rfl))) (fun _ => rfl))
  sss_nil))) (fun _ _ => rfl))
  (sss_cons (ss_ret se_bool)
  sss_nil))))
theorem b__law_is_num (G : Gm) (x : Fx G) (E : WX)  : SSs (Gm.at G N__law_is_num 0 E) (defScope s__law_is_num) (defScope s__law_is_num).names (defBody s__law_is_num) w__law_is_num :=
  (sss_cons (ss_ret (SV'.se (sv_and (se_isi (by decide +kernel) x.n_isinstance (by decide +kernel) x.n_int boot_int (by decide +kernel) (by decide +kernel) (se_var (i := 0) rfl (by decide +kernel)) (fun _ => rfl)) (sv_and (se_not (se_isi (by decide +kernel) x.n_isinstance (by decide +kernel) x.n_bool boot_bool (by decide +kernel) (by decide +kernel) (se_var (i := 0) rfl (by decide +kernel)) (fun _ => rfl))) (sv_one (se_ge (se_var (i := 0) rfl (by decide +kernel)) (se_var (i := 1) rfl (by decide +kernel))))))))
  sss_nil)
theorem b__law_is_stretch (G : Gm) (x : Fx G) (E : WX) (o__law_is_num : Ok__law_is_num G x) : SSs (Gm.at G N__law_is_stretch 1 E) (defScope s__law_is_stretch) (defScope s__law_is_stretch).names (defBody s__law_is_stretch) w__law_is_stretch :=
  have r__law_is_num : ∀ (E : WX) (n : Nat), RunOk (Gm.at G N__law_is_stretch 1 E) x.a__law_is_num n [] sp__law_is_num := fun E n => run_plain o__law_is_num (show 1 ≤ 1 by decide) (FunD.bindsN x.d__law_is_num (fun _ _ _ _ _ _ us hl => match us, hl with | [_, _], _ => rfl)) x.d__law_is_num.kp
  (sss_cons (ss_ret (SV'.se (sv_and (se_call (by decide +kernel) x.g__law_is_num (r__law_is_num _ 2) (sa_cons (se_var (i := 1) rfl (by decide +kernel)) (sa_cons se_int sa_nil (fun _ => rfl)) (fun _ => rfl)) (fun _ => rfl) (fun _ => rfl)) (sv_and (se_call (by decide +kernel) x.g__law_is_num (r__law_is_num _ 2) (sa_cons (se_var (i := 2) rfl (by decide +kernel)) (sa_cons se_int sa_nil (fun _ => rfl)) (fun _ => rfl)) (fun _ => rfl) (fun _ => rfl)) (sv_one (se_le (se_add (se_var (i := 1) rfl (by decide +kernel)) (se_var (i := 2) rfl (by decide +kernel))) (se_var (i := 0) rfl (by decide +kernel))))))))
  sss_nil)
theorem b__law_is_lot (G : Gm) (x : Fx G) (E : WX) (o__law_is_stretch : Ok__law_is_stretch G x) : SSs (Gm.at G N__law_is_lot 2 E) (defScope s__law_is_lot) (defScope s__law_is_lot).names (defBody s__law_is_lot) w__law_is_lot :=
  have r__law_is_stretch : ∀ (E : WX) (n : Nat), RunOk (Gm.at G N__law_is_lot 2 E) x.a__law_is_stretch n [] sp__law_is_stretch := fun E n => run_plain o__law_is_stretch (show 2 ≤ 2 by decide) (FunD.bindsN x.d__law_is_stretch (fun _ _ _ _ _ _ us hl => match us, hl with | [_, _, _], _ => rfl)) x.d__law_is_stretch.kp
  (sss_cons (ss_if (st_not (st_val (se_isi2 (by decide +kernel) x.n_isinstance (by decide +kernel) x.n_list boot_list (by decide +kernel) (by decide +kernel) (by decide +kernel) x.n_tuple boot_tuple (by decide +kernel) (by decide +kernel) (se_var (i := 1) rfl (by decide +kernel)) (fun _ => rfl)) (fun _ _ => rfl)))
  (sss_cons (ss_ret se_bool)
  sss_nil)
  sss_nil)
  (sss_cons (ss_set (i := 2) rfl (by decide +kernel) se_int (fun _ => rfl))
  (sss_cons (ss_for (si_data (se_var (i := 1) rfl (by decide +kernel))) (sg_name (i := 3) rfl (by decide +kernel))
  (sss_cons (ss_if (SW.toT (sw_or (st_not (st_val (se_isi (by decide +kernel) x.n_isinstance (by decide +kernel) x.n_tuple boot_tuple (by decide +kernel) (by decide +kernel) (se_var (i := 3) rfl (by decide +kernel)) (fun _ => rfl)) (fun _ _ => rfl))) (sw_or (st_ne (se_blt (f := fLen) cLen rn_len (by decide +kernel) x.n_len boot_len (by decide +kernel) (sa_cons (se_var (i := 3) rfl (by decide +kernel)) sa_nil (fun _ => rfl)) (fun _ => rfl) (fun _ => rfl)) se_int) (sw_or (st_not (st_val (se_call (by decide +kernel) x.g__law_is_stretch (r__law_is_stretch _ 3) (sa_cons (se_var (i := 0) rfl (by decide +kernel)) (sa_cons (se_ix (se_var (i := 3) rfl (by decide +kernel)) se_int (fun _ _ => rfl)) (sa_cons (se_ix (se_var (i := 3) rfl (by decide +kernel)) se_int (fun _ _ => rfl)) sa_nil (fun _ => rfl)) (fun _ => rfl)) (fun _ => rfl)) (fun _ => rfl) (fun _ => rfl)) (fun _ _ => rfl))) (sw_or1 (st_lt (se_ix (se_var (i := 3) rfl (by decide +kernel)) se_int (fun _ _ => rfl)) (se_var (i := 2) rfl (by decide +kernel))))))))
  (sss_cons (ss_ret se_bool)
  sss_nil)
  sss_nil)
  (sss_cons (ss_set (i := 2) rfl (by decide +kernel) (se_add (se_ix (se_var (i := 3) rfl (by decide +kernel)) se_int (fun _ _ => rfl)) (se_ix (se_var (i := 3) rfl (by decide +kernel)) se_int (fun _ _ => rfl))) (fun _ => rfl))
  sss_nil)) (fun _ _ => rfl))
  (sss_cons (ss_ret se_bool)
  sss_nil))))
theorem b_law (G : Gm) (x : Fx G) (E : WX) (o__law_pen : Ok__law_pen G x) (o__law_pick : Ok__law_pick G x) (o__law_long : Ok__law_long G x) (o__law_small : Ok__law_small G x) (o__law_total : Ok__law_total G x) (o__law_lot : Ok__law_lot G x) (o__law_draw : Ok__law_draw G x) (o_Lay_init : Ok_Lay_init G x) (o__law_odd : Ok__law_odd G x) (o__law_bent_lot : Ok__law_bent_lot G x) (o_is_lot : Ok_is_lot G x) (o__law_is_lot : Ok__law_is_lot G x) : SSs (Gm.at G N_law 6 E) (defScope s_law) (defScope s_law).names (defBody s_law) w_law :=
  have r__law_pen : ∀ (E : WX) (n : Nat), RunOk (Gm.at G N_law 6 E) x.a__law_pen n [] sp__law_pen := fun E n => run_plain o__law_pen (show 1 ≤ 6 by decide) (FunD.bindsN x.d__law_pen (fun _ _ _ _ _ _ us hl => match us, hl with | [_], _ => rfl)) x.d__law_pen.kp
  have r__law_pick : ∀ (E : WX) (n : Nat), RunOk (Gm.at G N_law 6 E) x.a__law_pick n [] sp__law_pick := fun E n => run_plain o__law_pick (show 2 ≤ 6 by decide) (FunD.bindsN x.d__law_pick (fun _ _ _ _ _ _ us hl => match us, hl with | [_, _], _ => rfl)) x.d__law_pick.kp
  have r__law_long : ∀ (E : WX) (n : Nat), RunOk (Gm.at G N_law 6 E) x.a__law_long n [] sp__law_long := fun E n => run_plain o__law_long (show 4 ≤ 6 by decide) (FunD.bindsN x.d__law_long (fun _ _ _ _ _ _ us hl => match us, hl with | [_], _ => rfl)) x.d__law_long.kp
  have r__law_small : ∀ (E : WX) (n : Nat), RunOk (Gm.at G N_law 6 E) x.a__law_small n [] sp__law_small := fun E n => run_plain o__law_small (show 4 ≤ 6 by decide) (FunD.bindsN x.d__law_small (fun _ _ _ _ _ _ us hl => match us, hl with | [_, _], _ => rfl)) x.d__law_small.kp
  have r__law_total : ∀ (E : WX) (n : Nat), RunOk (Gm.at G N_law 6 E) x.a__law_total n [] sp__law_total := fun E n => run_plain o__law_total (show 1 ≤ 6 by decide) (FunD.bindsN x.d__law_total (fun _ _ _ _ _ _ us hl => match us, hl with | [_], _ => rfl)) x.d__law_total.kp
  have r__law_lot : ∀ (E : WX) (n : Nat), RunOk (Gm.at G N_law 6 E) x.a__law_lot n [] sp__law_lot := fun E n => run_plain o__law_lot (show 4 ≤ 6 by decide) (FunD.bindsN x.d__law_lot (fun _ _ _ _ _ _ us hl => match us, hl with | [_, _, _], _ => rfl)) x.d__law_lot.kp
  have r__law_draw : ∀ (E : WX) (n : Nat), RunOk (Gm.at G N_law 6 E) x.a__law_draw n [] sp__law_draw := fun E n => run_plain o__law_draw (show 1 ≤ 6 by decide) (FunD.bindsN x.d__law_draw (fun _ _ _ _ _ _ us hl => match us, hl with | [_, _], _ => rfl)) x.d__law_draw.kp
  have m_Lay_init : ∀ (E : WX), MakeOk (Gm.at G N_law 6 E) "Lay" sp_Lay_init := fun E => ⟨5, x.a_Lay_init, x.fd_Lay_init, ["self", "total", "pieces"], o_Lay_init, (show 5 + 1 ≤ 6 by decide), FunD.bindsN x.d_Lay_init (fun _ _ _ _ _ _ us hl => match us, hl with | [_, _, _], _ => rfl), x.mk_Lay⟩
  have r__law_odd : ∀ (E : WX) (n : Nat), RunOk (Gm.at G N_law 6 E) x.a__law_odd n [] sp__law_odd := fun E n => run_plain o__law_odd (show 3 ≤ 6 by decide) (FunD.bindsN x.d__law_odd (fun _ _ _ _ _ _ us hl => match us, hl with | [_], _ => rfl)) x.d__law_odd.kp
  have r__law_bent_lot : ∀ (E : WX) (n : Nat), RunOk (Gm.at G N_law 6 E) x.a__law_bent_lot n [] sp__law_bent_lot := fun E n => run_plain o__law_bent_lot (show 5 ≤ 6 by decide) (FunD.bindsN x.d__law_bent_lot (fun _ _ _ _ _ _ us hl => match us, hl with | [_, _, _], _ => rfl)) x.d__law_bent_lot.kp
  have r_is_lot : ∀ (E : WX) (n : Nat), RunOk (Gm.at G N_law 6 E) x.a_is_lot n [] sp_is_lot := fun E n => run_plain o_is_lot (show 3 ≤ 6 by decide) (FunD.bindsN x.d_is_lot (fun _ _ _ _ _ _ us hl => match us, hl with | [_, _], _ => rfl)) x.d_is_lot.kp
  have r__law_is_lot : ∀ (E : WX) (n : Nat), RunOk (Gm.at G N_law 6 E) x.a__law_is_lot n [] sp__law_is_lot := fun E n => run_plain o__law_is_lot (show 3 ≤ 6 by decide) (FunD.bindsN x.d__law_is_lot (fun _ _ _ _ _ _ us hl => match us, hl with | [_, _], _ => rfl)) x.d__law_is_lot.kp
  (sss_cons (ss_setO (i := 1) rfl (by decide +kernel) (se_call (by decide +kernel) x.g__law_pen (r__law_pen _ 1) (sa_cons (se_var (i := 0) rfl (by decide +kernel)) sa_nil (fun _ => rfl)) (fun _ => rfl) (fun _ => rfl)) (fun _ => rfl))
  (sss_push (i := 1) (sss_cons (ss_for (si_r1 (by decide +kernel) x.n_range (sa_cons (se_add se_int (se_blt (f := fMin2) cMin2 rn_min2 (by decide +kernel) x.n_min boot_min (by decide +kernel) (sa_cons se_int (sa_cons (se_blt (f := fLen) cLen rn_len (by decide +kernel) x.n_len boot_len (by decide +kernel) (sa_cons (se_var (i := 0) rfl (by decide +kernel)) sa_nil (fun _ => rfl)) (fun _ => rfl) (fun _ => rfl)) sa_nil (fun _ => rfl)) (fun _ => rfl)) (fun _ => rfl) (fun _ => rfl))) sa_nil (fun _ => rfl)) (fun _ => rfl)) (sg_name (i := 2) rfl (by decide +kernel))
  (sss_cons (ss_set (i := 3) rfl (by decide +kernel) (se_call (by decide +kernel) x.g__law_pick (r__law_pick _ 2) (sa_cons (se_var (i := 1) rfl (by decide +kernel)) (sa_cons (se_lst (sa_cons (se_call (by decide +kernel) x.g__law_small (r__law_small _ 2) (sa_cons (se_var (i := 1) rfl (by decide +kernel)) (sa_cons se_int sa_nil (fun _ => rfl)) (fun _ => rfl)) (fun _ => rfl) (fun _ => rfl)) (sa_cons (se_call (by decide +kernel) x.g__law_long (r__law_long _ 1) (sa_cons (se_var (i := 1) rfl (by decide +kernel)) sa_nil (fun _ => rfl)) (fun _ => rfl) (fun _ => rfl)) sa_nil (fun _ => rfl)) (fun _ => rfl))) sa_nil (fun _ => rfl)) (fun _ => rfl)) (fun _ => rfl) (fun _ => rfl)) (fun _ => rfl))
  (sss_cons (ss_set (i := 4) rfl (by decide +kernel) (se_call (by decide +kernel) x.g__law_total (r__law_total _ 1) (sa_cons (se_var (i := 3) rfl (by decide +kernel)) sa_nil (fun _ => rfl)) (fun _ => rfl) (fun _ => rfl)) (fun _ => rfl))
  (sss_cons (ss_parT2 (i := 5) (j := 6) rfl rfl  (by decide +kernel) (by decide +kernel)  (sp_d (se_mk (by decide +kernel) x.g_Lay (m_Lay_init _) (sa_cons (se_var (i := 4) rfl (by decide +kernel)) (sa_cons (se_var (i := 3) rfl (by decide +kernel)) sa_nil (fun _ => rfl)) (fun _ => rfl)) (fun _ => rfl) (fun _ => rfl)) (sp_d (se_call (by decide +kernel) x.g__law_lot (r__law_lot _ 3) (sa_cons (se_var (i := 1) rfl (by decide +kernel)) (sa_cons (se_var (i := 4) rfl (by decide +kernel)) (sa_cons (se_add se_int (se_call (by decide +kernel) x.g__law_draw (r__law_draw _ 2) (sa_cons (se_var (i := 1) rfl (by decide +kernel)) (sa_cons se_int sa_nil (fun _ => rfl)) (fun _ => rfl)) (fun _ => rfl) (fun _ => rfl))) sa_nil (fun _ => rfl)) (fun _ => rfl)) (fun _ => rfl)) (fun _ => rfl) (fun _ => rfl)) sp_nil (fun _ => rfl)) (fun _ => rfl)) (fun _ => rfl) (fun X C => sw_at C fun _ => by with_unfolding_all rfl))
  (sss_cons (ss_set (i := 7) rfl (by decide +kernel) (se_lst (sa_cons (se_var (i := 6) rfl (by decide +kernel)) (sa_cons (se_bty (f := fTupOf) cTupOf rn_tuple (by decide +kernel) x.n_tuple boot_tuple (by decide +kernel) (sa_cons (se_var (i := 6) rfl (by decide +kernel)) sa_nil (fun _ => rfl)) (fun _ => rfl) (fun _ => rfl)) (sa_cons (se_add (se_var (i := 6) rfl (by decide +kernel)) (se_lst (sa_cons (se_tup (sa_cons (se_var (i := 4) rfl (by decide +kernel)) (sa_cons se_int sa_nil (fun _ => rfl)) (fun _ => rfl))) sa_nil (fun _ => rfl)))) (sa_cons (se_lst (sa_cons (se_tup (sa_cons se_int (sa_cons (se_add (se_var (i := 4) rfl (by decide +kernel)) se_int) sa_nil (fun _ => rfl)) (fun _ => rfl))) sa_nil (fun _ => rfl))) (sa_cons (se_call (by decide +kernel) x.g__law_odd (r__law_odd _ 1) (sa_cons (se_var (i := 1) rfl (by decide +kernel)) sa_nil (fun _ => rfl)) (fun _ => rfl) (fun _ => rfl)) sa_nil (fun _ => rfl)) (fun _ => rfl)) (fun _ => rfl)) (fun _ => rfl)) (fun _ => rfl))) (fun _ => rfl))
  (sss_cons (ss_set (i := 7) rfl (by decide +kernel) (se_add (se_var (i := 7) rfl (by decide +kernel)) (se_lc (own := [("k", 10)]) (show BlkOk N_law _ _ [("k", 10)] from ⟨rfl, by decide +kernel, by decide +kernel, by decide +kernel, by decide +kernel⟩) (si_r1 (by decide +kernel) x.n_range (sa_cons se_int sa_nil (fun _ => rfl)) (fun _ => rfl)) (sg_name (i := 10) rfl (by decide +kernel)) sif_nil (se_call (by decide +kernel) x.g__law_bent_lot (r__law_bent_lot _ 3) (sa_cons (se_var (i := 1) rfl (by decide +kernel)) (sa_cons (se_var (i := 6) rfl (by decide +kernel)) (sa_cons (se_var (i := 4) rfl (by decide +kernel)) sa_nil (fun _ => rfl)) (fun _ => rfl)) (fun _ => rfl)) (fun _ => rfl) (fun _ => rfl)) (fun _ _ => rfl))) (fun _ => rfl))
  (sss_cons (ss_for (si_data (se_add (se_var (i := 7) rfl (by decide +kernel)) (se_lst (sa_cons (se_call (by decide +kernel) x.g__law_bent_lot (r__law_bent_lot _ 3) (sa_cons (se_var (i := 1) rfl (by decide +kernel)) (sa_cons (se_lst (sa_cons (se_tup (sa_cons se_int (sa_cons (se_var (i := 4) rfl (by decide +kernel)) sa_nil (fun _ => rfl)) (fun _ => rfl))) sa_nil (fun _ => rfl))) (sa_cons (se_var (i := 4) rfl (by decide +kernel)) sa_nil (fun _ => rfl)) (fun _ => rfl)) (fun _ => rfl)) (fun _ => rfl) (fun _ => rfl)) sa_nil (fun _ => rfl))))) (sg_name (i := 8) rfl (by decide +kernel))
  (sss_cons (ss_set (i := 9) rfl (by decide +kernel) (se_blt (f := fRepr) cRepr rn_repr (by decide +kernel) x.n_repr boot_repr (by decide +kernel) (sa_cons (se_var (i := 8) rfl (by decide +kernel)) sa_nil (fun _ => rfl)) (fun _ => rfl) (fun _ => rfl)) (fun _ => rfl))
  (sss_cons (ss_if (SW.toT (sw_or (st_neS (se_blt (f := fRepr) cRepr rn_repr (by decide +kernel) x.n_repr boot_repr (by decide +kernel) (sa_cons (se_call (by decide +kernel) x.g_is_lot (r_is_lot _ 2) (sa_cons (se_var (i := 5) rfl (by decide +kernel)) (sa_cons (se_var (i := 8) rfl (by decide +kernel)) sa_nil (fun _ => rfl)) (fun _ => rfl)) (fun _ => rfl) (fun _ => rfl)) sa_nil (fun _ => rfl)) (fun _ => rfl) (fun _ => rfl)) (se_blt (f := fRepr) cRepr rn_repr (by decide +kernel) x.n_repr boot_repr (by decide +kernel) (sa_cons (se_call (by decide +kernel) x.g__law_is_lot (r__law_is_lot _ 2) (sa_cons (se_var (i := 4) rfl (by decide +kernel)) (sa_cons (se_var (i := 8) rfl (by decide +kernel)) sa_nil (fun _ => rfl)) (fun _ => rfl)) (fun _ => rfl) (fun _ => rfl)) sa_nil (fun _ => rfl)) (fun _ => rfl) (fun _ => rfl))) (sw_or1 (st_neS (se_blt (f := fRepr) cRepr rn_repr (by decide +kernel) x.n_repr boot_repr (by decide +kernel) (sa_cons (se_var (i := 8) rfl (by decide +kernel)) sa_nil (fun _ => rfl)) (fun _ => rfl) (fun _ => rfl)) (se_var (i := 9) rfl (by decide +kernel))))))
  (sss_cons (ss_ret se_bool)
  sss_nil)
  sss_nil)
  sss_nil)) (fun _ _ => rfl))
  (sss_cons (ss_if (st_ntB (se_call (by decide +kernel) x.g_is_lot (r_is_lot _ 2) (sa_cons (se_var (i := 5) rfl (by decide +kernel)) (sa_cons (se_var (i := 6) rfl (by decide +kernel)) sa_nil (fun _ => rfl)) (fun _ => rfl)) (fun _ => rfl) (fun _ => rfl)) se_bool)
  (sss_cons (ss_ret se_bool)
  sss_nil)
  sss_nil)
  sss_nil))))))) (fun _ _ => rfl))
  (sss_cons (ss_ret (SV'.se (sv_and (se_isB (se_call (by decide +kernel) x.g_is_lot (r_is_lot _ 2) (sa_cons (se_mk (by decide +kernel) x.g_Lay (m_Lay_init _) (sa_cons se_int (sa_cons (se_lst sa_nil) sa_nil (fun _ => rfl)) (fun _ => rfl)) (fun _ => rfl) (fun _ => rfl)) (sa_cons (se_lst sa_nil) sa_nil (fun _ => rfl)) (fun _ => rfl)) (fun _ => rfl) (fun _ => rfl)) se_bool) (sv_one (se_isB (se_call (by decide +kernel) x.g_is_lot (r_is_lot _ 2) (sa_cons (se_mk (by decide +kernel) x.g_Lay (m_Lay_init _) (sa_cons se_int (sa_cons (se_lst sa_nil) sa_nil (fun _ => rfl)) (fun _ => rfl)) (fun _ => rfl) (fun _ => rfl)) (sa_cons (se_lst (sa_cons (se_tup (sa_cons se_int (sa_cons se_int sa_nil (fun _ => rfl)) (fun _ => rfl))) sa_nil (fun _ => rfl))) sa_nil (fun _ => rfl)) (fun _ => rfl)) (fun _ => rfl) (fun _ => rfl)) se_bool)))))
  sss_nil))))
end Eng

end
set_option Elab.async false
set_option linter.all false
set_option maxRecDepth 100000
set_option maxHeartbeats 0
namespace Eng
open PySem PySem.Spec PyProof.Rows L2
theorem sc__law_pen : FnScope N__law_pen ["script"] (defScope s__law_pen) := ⟨rfl, rfl, rfl, by decide +kernel, rfl, by decide +kernel, by decide +kernel⟩
theorem ok__law_pen (G : Gm) (x : Fx G) : Ok__law_pen G x :=
  fn_ok (Γ := Gm.at G N__law_pen 0 (fun _ _ _ _ => False)) x.d__law_pen sc__law_pen ln__law_pen (fun E => b__law_pen G x E ) sl__law_pen
theorem sc__law_draw : FnScope N__law_draw ["pen", "many"] (defScope s__law_draw) := ⟨rfl, rfl, rfl, by decide +kernel, rfl, by decide +kernel, by decide +kernel⟩
theorem ok__law_draw (G : Gm) (x : Fx G) : Ok__law_draw G x :=
  fn_ok (Γ := Gm.at G N__law_draw 0 (fun _ _ _ _ => False)) x.d__law_draw sc__law_draw ln__law_draw (fun E => b__law_draw G x E ) sl__law_draw
theorem sc__law_pick : FnScope N__law_pick ["pen", "some"] (defScope s__law_pick) := ⟨rfl, rfl, rfl, by decide +kernel, rfl, by decide +kernel, by decide +kernel⟩
theorem ok__law_pick (G : Gm) (x : Fx G) : Ok__law_pick G x :=
  fn_ok (Γ := Gm.at G N__law_pick 1 (fun _ _ _ _ => False)) x.d__law_pick sc__law_pick ln__law_pick (fun E => b__law_pick G x E (ok__law_draw G x)) sl__law_pick
theorem sc__law_great : FnScope N__law_great ["pen", "figures"] (defScope s__law_great) := ⟨rfl, rfl, rfl, by decide +kernel, rfl, by decide +kernel, by decide +kernel⟩
theorem ok__law_great (G : Gm) (x : Fx G) : Ok__law_great G x :=
  fn_ok (Γ := Gm.at G N__law_great 1 (fun _ _ _ _ => False)) x.d__law_great sc__law_great ln__law_great (fun E => b__law_great G x E (ok__law_draw G x)) sl__law_great
theorem sc__law_turned_about : FnScope N__law_turned_about ["pen", "some"] (defScope s__law_turned_about) := ⟨rfl, rfl, rfl, by decide +kernel, rfl, by decide +kernel, by decide +kernel⟩
theorem ok__law_turned_about (G : Gm) (x : Fx G) : Ok__law_turned_about G x :=
  fn_ok (Γ := Gm.at G N__law_turned_about 1 (fun _ _ _ _ => False)) x.d__law_turned_about sc__law_turned_about ln__law_turned_about (fun E => b__law_turned_about G x E (ok__law_draw G x)) sl__law_turned_about
theorem sc__law_pieces : FnScope N__law_pieces ["pen", "lengths"] (defScope s__law_pieces) := ⟨rfl, rfl, rfl, by decide +kernel, rfl, by decide +kernel, by decide +kernel⟩
theorem ok__law_pieces (G : Gm) (x : Fx G) : Ok__law_pieces G x :=
  fn_ok (Γ := Gm.at G N__law_pieces 2 (fun _ _ _ _ => False)) x.d__law_pieces sc__law_pieces ln__law_pieces (fun E => b__law_pieces G x E (ok__law_turned_about G x) (ok__law_pick G x)) sl__law_pieces
theorem sc__law_long : FnScope N__law_long ["pen"] (defScope s__law_long) := ⟨rfl, rfl, rfl, by decide +kernel, rfl, by decide +kernel, by decide +kernel⟩
theorem ok__law_long (G : Gm) (x : Fx G) : Ok__law_long G x :=
  fn_ok (Γ := Gm.at G N__law_long 3 (fun _ _ _ _ => False)) x.d__law_long sc__law_long ln__law_long (fun E => b__law_long G x E (ok__law_draw G x) (ok__law_great G x) (ok__law_pieces G x)) sl__law_long
theorem sc__law_small : FnScope N__law_small ["pen", "most"] (defScope s__law_small) := ⟨rfl, rfl, rfl, by decide +kernel, rfl, by decide +kernel, by decide +kernel⟩
theorem ok__law_small (G : Gm) (x : Fx G) : Ok__law_small G x :=
  fn_ok (Γ := Gm.at G N__law_small 3 (fun _ _ _ _ => False)) x.d__law_small sc__law_small ln__law_small (fun E => b__law_small G x E (ok__law_draw G x) (ok__law_pieces G x)) sl__law_small
theorem sc__law_total : FnScope N__law_total ["pieces"] (defScope s__law_total) := ⟨rfl, rfl, rfl, by decide +kernel, rfl, by decide +kernel, by decide +kernel⟩
theorem ok__law_total (G : Gm) (x : Fx G) : Ok__law_total G x :=
  fn_ok (Γ := Gm.at G N__law_total 0 (fun _ _ _ _ => False)) x.d__law_total sc__law_total ln__law_total (fun E => b__law_total G x E ) sl__law_total
theorem sc__law_below : FnScope N__law_below ["pen", "bound"] (defScope s__law_below) := ⟨rfl, rfl, rfl, by decide +kernel, rfl, by decide +kernel, by decide +kernel⟩
theorem ok__law_below (G : Gm) (x : Fx G) : Ok__law_below G x :=
  fn_ok (Γ := Gm.at G N__law_below 2 (fun _ _ _ _ => False)) x.d__law_below sc__law_below ln__law_below (fun E => b__law_below G x E (ok__law_draw G x) (ok__law_great G x)) sl__law_below
theorem sc__law_lot : FnScope N__law_lot ["pen", "total", "most"] (defScope s__law_lot) := ⟨rfl, rfl, rfl, by decide +kernel, rfl, by decide +kernel, by decide +kernel⟩
theorem ok__law_lot (G : Gm) (x : Fx G) : Ok__law_lot G x :=
  fn_ok (Γ := Gm.at G N__law_lot 3 (fun _ _ _ _ => False)) x.d__law_lot sc__law_lot ln__law_lot (fun E => b__law_lot G x E (ok__law_draw G x) (ok__law_below G x)) sl__law_lot
theorem sc_is_whole : FnScope N_is_whole ["thing", "low", "high"] (defScope s_is_whole) := ⟨rfl, rfl, rfl, by decide +kernel, rfl, by decide +kernel, by decide +kernel⟩
theorem ok_is_whole (G : Gm) (x : Fx G) : Ok_is_whole G x :=
  fn_ok (Γ := Gm.at G N_is_whole 0 (fun _ _ _ _ => False)) x.d_is_whole sc_is_whole ln_is_whole (fun E => b_is_whole G x E ) sl_is_whole
theorem sc_is_way : FnScope N_is_way ["thing"] (defScope s_is_way) := ⟨rfl, rfl, rfl, by decide +kernel, rfl, by decide +kernel, by decide +kernel⟩
theorem ok_is_way (G : Gm) (x : Fx G) : Ok_is_way G x :=
  fn_ok (Γ := Gm.at G N_is_way 1 (fun _ _ _ _ => False)) x.d_is_way sc_is_way ln_is_way (fun E => b_is_way G x E (ok_is_whole G x)) sl_is_way
theorem sc_is_piece : FnScope N_is_piece ["thing", "total"] (defScope s_is_piece) := ⟨rfl, rfl, rfl, by decide +kernel, rfl, by decide +kernel, by decide +kernel⟩
theorem ok_is_piece (G : Gm) (x : Fx G) : Ok_is_piece G x :=
  fn_ok (Γ := Gm.at G N_is_piece 2 (fun _ _ _ _ => False)) x.d_is_piece sc_is_piece ln_is_piece (fun E => b_is_piece G x E (ok_is_way G x) (ok_is_whole G x)) sl_is_piece
theorem sc_fills : FnScope N_fills ["stretches", "total"] (defScope s_fills) := ⟨rfl, rfl, rfl, by decide +kernel, rfl, by decide +kernel, by decide +kernel⟩
theorem ok_fills (G : Gm) (x : Fx G) : Ok_fills G x :=
  fn_ok (Γ := Gm.at G N_fills 0 (fun _ _ _ _ => False)) x.d_fills sc_fills ln_fills (fun E => b_fills G x E ) sl_fills
theorem sc_need_lay : FnScope N_need_lay ["total", "pieces"] (defScope s_need_lay) := ⟨rfl, rfl, rfl, by decide +kernel, rfl, by decide +kernel, by decide +kernel⟩
theorem ok_need_lay (G : Gm) (x : Fx G) : Ok_need_lay G x :=
  fn_ok (Γ := Gm.at G N_need_lay 3 (fun _ _ _ _ => False)) x.d_need_lay sc_need_lay ln_need_lay (fun E => b_need_lay G x E (ok_is_whole G x) (ok_is_piece G x) (ok_fills G x)) sl_need_lay
theorem sc_in_one_form : FnScope N_in_one_form ["pieces"] (defScope s_in_one_form) := ⟨rfl, rfl, rfl, by decide +kernel, rfl, by decide +kernel, by decide +kernel⟩
theorem ok_in_one_form (G : Gm) (x : Fx G) : Ok_in_one_form G x :=
  fn_ok (Γ := Gm.at G N_in_one_form 0 (fun _ _ _ _ => False)) x.d_in_one_form sc_in_one_form ln_in_one_form (fun E => b_in_one_form G x E ) sl_in_one_form
theorem sc_Lay_init : FnScope N_Lay_init ["self", "total", "pieces"] (defScope s_Lay_init) := ⟨rfl, rfl, rfl, by decide +kernel, rfl, by decide +kernel, by decide +kernel⟩
theorem ok_Lay_init (G : Gm) (x : Fx G) : Ok_Lay_init G x :=
  fn_ok (Γ := Gm.at G N_Lay_init 4 (fun _ _ _ _ => False)) x.d_Lay_init sc_Lay_init ln_Lay_init (fun E => b_Lay_init G x E (ok_need_lay G x) (ok_in_one_form G x)) sl_Lay_init
theorem sc__law_odd : FnScope N__law_odd ["pen"] (defScope s__law_odd) := ⟨rfl, rfl, rfl, by decide +kernel, rfl, by decide +kernel, by decide +kernel⟩
theorem ok__law_odd (G : Gm) (x : Fx G) : Ok__law_odd G x :=
  fn_ok (Γ := Gm.at G N__law_odd 2 (fun _ _ _ _ => False)) x.d__law_odd sc__law_odd ln__law_odd (fun E => b__law_odd G x E (ok__law_pick G x)) sl__law_odd
theorem sc__law_bent_tuple : FnScope N__law_bent_tuple ["pen", "row", "other"] (defScope s__law_bent_tuple) := ⟨rfl, rfl, rfl, by decide +kernel, rfl, by decide +kernel, by decide +kernel⟩
theorem ok__law_bent_tuple (G : Gm) (x : Fx G) : Ok__law_bent_tuple G x :=
  fn_ok (Γ := Gm.at G N__law_bent_tuple 3 (fun _ _ _ _ => False)) x.d__law_bent_tuple sc__law_bent_tuple ln__law_bent_tuple (fun E => b__law_bent_tuple G x E (ok__law_draw G x) (ok__law_pick G x) (ok__law_odd G x)) sl__law_bent_tuple
theorem sc__law_bent_lot : FnScope N__law_bent_lot ["pen", "lot", "total"] (defScope s__law_bent_lot) := ⟨rfl, rfl, rfl, by decide +kernel, rfl, by decide +kernel, by decide +kernel⟩
theorem ok__law_bent_lot (G : Gm) (x : Fx G) : Ok__law_bent_lot G x :=
  fn_ok (Γ := Gm.at G N__law_bent_lot 4 (fun _ _ _ _ => False)) x.d__law_bent_lot sc__law_bent_lot ln__law_bent_lot (fun E => b__law_bent_lot G x E (ok__law_pick G x) (ok__law_draw G x) (ok__law_bent_tuple G x) (ok__law_odd G x)) sl__law_bent_lot
theorem sc_is_number : FnScope N_is_number ["thing", "low"] (defScope s_is_number) := ⟨rfl, rfl, rfl, by decide +kernel, rfl, by decide +kernel, by decide +kernel⟩
theorem ok_is_number (G : Gm) (x : Fx G) : Ok_is_number G x :=
  fn_ok (Γ := Gm.at G N_is_number 0 (fun _ _ _ _ => False)) x.d_is_number sc_is_number ln_is_number (fun E => b_is_number G x E ) sl_is_number
theorem sc_is_part : FnScope N_is_part ["total", "begin", "many"] (defScope s_is_part) := ⟨rfl, rfl, rfl, by decide +kernel, rfl, by decide +kernel, by decide +kernel⟩
theorem ok_is_part (G : Gm) (x : Fx G) : Ok_is_part G x :=
  fn_ok (Γ := Gm.at G N_is_part 1 (fun _ _ _ _ => False)) x.d_is_part sc_is_part ln_is_part (fun E => b_is_part G x E (ok_is_number G x)) sl_is_part
theorem sc_Lay_spots : FnScope N_Lay_spots ["self"] (defScope s_Lay_spots) := ⟨rfl, rfl, rfl, by decide +kernel, rfl, by decide +kernel, by decide +kernel⟩
theorem ok_Lay_spots (G : Gm) (x : Fx G) : Ok_Lay_spots G x :=
  fn_ok (Γ := Gm.at G N_Lay_spots 0 (fun _ _ _ _ => False)) x.d_Lay_spots sc_Lay_spots ln_Lay_spots (fun E => b_Lay_spots G x E ) sl_Lay_spots
theorem sc_is_lot : FnScope N_is_lot ["lay", "thing"] (defScope s_is_lot) := ⟨rfl, rfl, rfl, by decide +kernel, rfl, by decide +kernel, by decide +kernel⟩
theorem ok_is_lot (G : Gm) (x : Fx G) : Ok_is_lot G x :=
  fn_ok (Γ := Gm.at G N_is_lot 2 (fun _ _ _ _ => False)) x.d_is_lot sc_is_lot ln_is_lot (fun E => b_is_lot G x E (ok_is_part G x) (ok_Lay_spots G x)) sl_is_lot
theorem sc__law_is_num : FnScope N__law_is_num ["thing", "low"] (defScope s__law_is_num) := ⟨rfl, rfl, rfl, by decide +kernel, rfl, by decide +kernel, by decide +kernel⟩
theorem ok__law_is_num (G : Gm) (x : Fx G) : Ok__law_is_num G x :=
  fn_ok (Γ := Gm.at G N__law_is_num 0 (fun _ _ _ _ => False)) x.d__law_is_num sc__law_is_num ln__law_is_num (fun E => b__law_is_num G x E ) sl__law_is_num
theorem sc__law_is_stretch : FnScope N__law_is_stretch ["total", "begin", "many"] (defScope s__law_is_stretch) := ⟨rfl, rfl, rfl, by decide +kernel, rfl, by decide +kernel, by decide +kernel⟩
theorem ok__law_is_stretch (G : Gm) (x : Fx G) : Ok__law_is_stretch G x :=
  fn_ok (Γ := Gm.at G N__law_is_stretch 1 (fun _ _ _ _ => False)) x.d__law_is_stretch sc__law_is_stretch ln__law_is_stretch (fun E => b__law_is_stretch G x E (ok__law_is_num G x)) sl__law_is_stretch
theorem sc__law_is_lot : FnScope N__law_is_lot ["total", "thing"] (defScope s__law_is_lot) := ⟨rfl, rfl, rfl, by decide +kernel, rfl, by decide +kernel, by decide +kernel⟩
theorem ok__law_is_lot (G : Gm) (x : Fx G) : Ok__law_is_lot G x :=
  fn_ok (Γ := Gm.at G N__law_is_lot 2 (fun _ _ _ _ => False)) x.d__law_is_lot sc__law_is_lot ln__law_is_lot (fun E => b__law_is_lot G x E (ok__law_is_stretch G x)) sl__law_is_lot
theorem sc_law : FnScope N_law ["script"] (defScope s_law) := ⟨rfl, rfl, rfl, by decide +kernel, rfl, by decide +kernel, by decide +kernel⟩
theorem ok_law (G : Gm) (x : Fx G) : Ok_law G x :=
  fn_ok (Γ := Gm.at G N_law 6 (fun _ _ _ _ => False)) x.d_law sc_law ln_law (fun E => b_law G x E (ok__law_pen G x) (ok__law_pick G x) (ok__law_long G x) (ok__law_small G x) (ok__law_total G x) (ok__law_lot G x) (ok__law_draw G x) (ok_Lay_init G x) (ok__law_odd G x) (ok__law_bent_lot G x) (ok_is_lot G x) (ok__law_is_lot G x)) sl_law
def dd__law_pen : He.DefD := ⟨("_law_pen", none), "_law_pen", "_law_pen", defArgs s__law_pen, defBody s__law_pen, defScope s__law_pen, [], []⟩
def dd__law_draw : He.DefD := ⟨("_law_draw", none), "_law_draw", "_law_draw", defArgs s__law_draw, defBody s__law_draw, defScope s__law_draw, [], []⟩
def dd__law_pick : He.DefD := ⟨("_law_pick", none), "_law_pick", "_law_pick", defArgs s__law_pick, defBody s__law_pick, defScope s__law_pick, [], []⟩
def dd__law_great : He.DefD := ⟨("_law_great", none), "_law_great", "_law_great", defArgs s__law_great, defBody s__law_great, defScope s__law_great, [], []⟩
def dd__law_turned_about : He.DefD := ⟨("_law_turned_about", none), "_law_turned_about", "_law_turned_about", defArgs s__law_turned_about, defBody s__law_turned_about, defScope s__law_turned_about, [], []⟩
def dd__law_pieces : He.DefD := ⟨("_law_pieces", none), "_law_pieces", "_law_pieces", defArgs s__law_pieces, defBody s__law_pieces, defScope s__law_pieces, [], []⟩
def dd__law_long : He.DefD := ⟨("_law_long", none), "_law_long", "_law_long", defArgs s__law_long, defBody s__law_long, defScope s__law_long, [], []⟩
def dd__law_small : He.DefD := ⟨("_law_small", none), "_law_small", "_law_small", defArgs s__law_small, defBody s__law_small, defScope s__law_small, [], []⟩
def dd__law_total : He.DefD := ⟨("_law_total", none), "_law_total", "_law_total", defArgs s__law_total, defBody s__law_total, defScope s__law_total, [], []⟩
def dd__law_below : He.DefD := ⟨("_law_below", none), "_law_below", "_law_below", defArgs s__law_below, defBody s__law_below, defScope s__law_below, [], []⟩
def dd__law_lot : He.DefD := ⟨("_law_lot", none), "_law_lot", "_law_lot", defArgs s__law_lot, defBody s__law_lot, defScope s__law_lot, [], []⟩
def dd_is_whole : He.DefD := ⟨("is_whole", none), "is_whole", "is_whole", defArgs s_is_whole, defBody s_is_whole, defScope s_is_whole, [.int (-1000000000000000000), .int (1000000000000000000)], []⟩
def dd_is_way : He.DefD := ⟨("is_way", none), "is_way", "is_way", defArgs s_is_way, defBody s_is_way, defScope s_is_way, [], []⟩
def dd_is_piece : He.DefD := ⟨("is_piece", none), "is_piece", "is_piece", defArgs s_is_piece, defBody s_is_piece, defScope s_is_piece, [], []⟩
def dd_fills : He.DefD := ⟨("fills", none), "fills", "fills", defArgs s_fills, defBody s_fills, defScope s_fills, [], []⟩
def dd_need_lay : He.DefD := ⟨("need_lay", none), "need_lay", "need_lay", defArgs s_need_lay, defBody s_need_lay, defScope s_need_lay, [], []⟩
def dd_in_one_form : He.DefD := ⟨("in_one_form", none), "in_one_form", "in_one_form", defArgs s_in_one_form, defBody s_in_one_form, defScope s_in_one_form, [], []⟩
def dd_Lay_init : He.DefD := ⟨("Lay", some "__init__"), "__init__", "Lay.__init__", defArgs s_Lay_init, defBody s_Lay_init, defScope s_Lay_init, [], []⟩
def dd__law_odd : He.DefD := ⟨("_law_odd", none), "_law_odd", "_law_odd", defArgs s__law_odd, defBody s__law_odd, defScope s__law_odd, [], []⟩
def dd__law_bent_tuple : He.DefD := ⟨("_law_bent_tuple", none), "_law_bent_tuple", "_law_bent_tuple", defArgs s__law_bent_tuple, defBody s__law_bent_tuple, defScope s__law_bent_tuple, [], []⟩
def dd__law_bent_lot : He.DefD := ⟨("_law_bent_lot", none), "_law_bent_lot", "_law_bent_lot", defArgs s__law_bent_lot, defBody s__law_bent_lot, defScope s__law_bent_lot, [], []⟩
def dd_is_number : He.DefD := ⟨("is_number", none), "is_number", "is_number", defArgs s_is_number, defBody s_is_number, defScope s_is_number, [], []⟩
def dd_is_part : He.DefD := ⟨("is_part", none), "is_part", "is_part", defArgs s_is_part, defBody s_is_part, defScope s_is_part, [], []⟩
def dd_Lay_spots : He.DefD := ⟨("Lay", some "spots"), "spots", "Lay.spots", defArgs s_Lay_spots, defBody s_Lay_spots, defScope s_Lay_spots, [], []⟩
def dd_is_lot : He.DefD := ⟨("is_lot", none), "is_lot", "is_lot", defArgs s_is_lot, defBody s_is_lot, defScope s_is_lot, [], []⟩
def dd__law_is_num : He.DefD := ⟨("_law_is_num", none), "_law_is_num", "_law_is_num", defArgs s__law_is_num, defBody s__law_is_num, defScope s__law_is_num, [], []⟩
def dd__law_is_stretch : He.DefD := ⟨("_law_is_stretch", none), "_law_is_stretch", "_law_is_stretch", defArgs s__law_is_stretch, defBody s__law_is_stretch, defScope s__law_is_stretch, [], []⟩
def dd__law_is_lot : He.DefD := ⟨("_law_is_lot", none), "_law_is_lot", "_law_is_lot", defArgs s__law_is_lot, defBody s__law_is_lot, defScope s__law_is_lot, [], []⟩
def dd_law : He.DefD := ⟨("law", none), "law", "law", defArgs s_law, defBody s_law, defScope s_law, [], []⟩
def fnL : List He.DefD := [dd__law_pen, dd__law_draw, dd__law_pick, dd__law_great, dd__law_turned_about, dd__law_pieces, dd__law_long, dd__law_small, dd__law_total, dd__law_below, dd__law_lot, dd_is_whole, dd_is_way, dd_is_piece, dd_fills, dd_need_lay, dd_in_one_form, dd_Lay_init, dd__law_odd, dd__law_bent_tuple, dd__law_bent_lot, dd_is_number, dd_is_part, dd_Lay_spots, dd_is_lot, dd__law_is_num, dd__law_is_stretch, dd__law_is_lot, dd_law]
def faL : List He.Fa := [.glo "_law_pen", .glo "_law_draw", .glo "_law_pick", .glo "_law_great", .glo "_law_turned_about", .glo "_law_pieces", .glo "_law_long", .glo "_law_small", .glo "_law_total", .glo "_law_below", .glo "_law_lot", .glo "is_whole", .glo "is_way", .glo "is_piece", .glo "fills", .glo "need_lay", .glo "in_one_form", .glo "_law_odd", .glo "_law_bent_tuple", .glo "_law_bent_lot", .glo "is_number", .glo "is_part", .glo "is_lot", .glo "_law_is_num", .glo "_law_is_stretch", .glo "_law_is_lot", .glo "law", .free "abs", .free "all", .free "bool", .free "int", .free "isinstance", .free "len", .free "list", .free "max", .free "min", .free "range", .free "repr", .free "sorted", .free "str", .free "sum", .free "tuple", .int "MOST_SPOTS" 2000000000000000000, .glo "Lay", .cls "Lay", .noat "Lay" "rows", .noat "Lay" "total", .mkr "Lay", .meth "Lay" "spots"]
abbrev Rw : PySem.W.OpenRow := PySem.W.OpenLaw.row PySem.Challenge.rw_spoolrounds_k20_what_is_a_lot
abbrev hk : PySem.W.Hook := He.hookD 4 faL fnL
def obL (s : PySem.W.SharedT) : He.AlD := He.obsDG 4 faL fnL (HandSHeadRun.getT s)
theorem obL_eq (s : PySem.W.SharedT) : obL s = hk.obs s.abs := He.obsDG_eq (HandSHeadRun.getT_eq s)
def lo0 : List PySem.Str := ["_wall", "NoLay", "MOST", "is_whole", "is_way", "is_number", "is_part", "is_lot", "MOST_SPOTS", "is_piece", "fills", "need_lay", "part_of", "in_one_form", "Lay", "_law_pen", "_law_draw", "_law_pick", "_law_great", "_law_turned_about", "_law_pieces", "_law_small", "_law_long", "_law_total", "_law_lot", "_law_below", "_law_is_num", "_law_is_stretch", "_law_is_lot", "_law_odd"]
def lo1 : List PySem.Str := ["_law_bent_tuple", "_law_bent_lot"]
def loL : List PySem.Str := lo0 ++ lo1
theorem runL (w : World) : HandSHeadRun.RunEq Rw (PySem.W.view Rw.prog [37]) hk obL 6000 loL w := by
  intro os
  kernel_rfl
theorem factsL {P : Program} {w : World} {K : PySem.W.Frag} {h : Heap} {mg : Str → Option Value} {f : Addr} (X : K.In h) (G : h.Ns mainGlobals mg) (hfa : mg ("law" : Str) = some (.ref f)) (c : He.SaysD faL fnL K) :
    ∃ fd : FuncData, (∀ (s : Shared) (v : Value), BindsTo s fd ⟨[v], []⟩ [("script", v)]) ∧ ∀ base : Heap, K.In base → base.Ns mainGlobals mg → FnOkG P w K mg base CXA 7 f fd ["script"] (toSp ⟨P, w, K, mg, base, [], 0, fun s => He.ga K s, fun _ _ _ _ => False⟩ sp_law) := by
  obtain ⟨fd0, F0⟩ := c.def_ 0 (d := dd__law_pen) rfl
  obtain ⟨fd1, F1⟩ := c.def_ 1 (d := dd__law_draw) rfl
  obtain ⟨fd2, F2⟩ := c.def_ 2 (d := dd__law_pick) rfl
  obtain ⟨fd3, F3⟩ := c.def_ 3 (d := dd__law_great) rfl
  obtain ⟨fd4, F4⟩ := c.def_ 4 (d := dd__law_turned_about) rfl
  obtain ⟨fd5, F5⟩ := c.def_ 5 (d := dd__law_pieces) rfl
  obtain ⟨fd6, F6⟩ := c.def_ 6 (d := dd__law_long) rfl
  obtain ⟨fd7, F7⟩ := c.def_ 7 (d := dd__law_small) rfl
  obtain ⟨fd8, F8⟩ := c.def_ 8 (d := dd__law_total) rfl
  obtain ⟨fd9, F9⟩ := c.def_ 9 (d := dd__law_below) rfl
  obtain ⟨fd10, F10⟩ := c.def_ 10 (d := dd__law_lot) rfl
  obtain ⟨fd11, F11⟩ := c.def_ 11 (d := dd_is_whole) rfl
  obtain ⟨fd12, F12⟩ := c.def_ 12 (d := dd_is_way) rfl
  obtain ⟨fd13, F13⟩ := c.def_ 13 (d := dd_is_piece) rfl
  obtain ⟨fd14, F14⟩ := c.def_ 14 (d := dd_fills) rfl
  obtain ⟨fd15, F15⟩ := c.def_ 15 (d := dd_need_lay) rfl
  obtain ⟨fd16, F16⟩ := c.def_ 16 (d := dd_in_one_form) rfl
  obtain ⟨fd17, F17⟩ := c.def_ 17 (d := dd_Lay_init) rfl
  obtain ⟨fd18, F18⟩ := c.def_ 18 (d := dd__law_odd) rfl
  obtain ⟨fd19, F19⟩ := c.def_ 19 (d := dd__law_bent_tuple) rfl
  obtain ⟨fd20, F20⟩ := c.def_ 20 (d := dd__law_bent_lot) rfl
  obtain ⟨fd21, F21⟩ := c.def_ 21 (d := dd_is_number) rfl
  obtain ⟨fd22, F22⟩ := c.def_ 22 (d := dd_is_part) rfl
  obtain ⟨fd23, F23⟩ := c.def_ 23 (d := dd_Lay_spots) rfl
  obtain ⟨fd24, F24⟩ := c.def_ 24 (d := dd_is_lot) rfl
  obtain ⟨fd25, F25⟩ := c.def_ 25 (d := dd__law_is_num) rfl
  obtain ⟨fd26, F26⟩ := c.def_ 26 (d := dd__law_is_stretch) rfl
  obtain ⟨fd27, F27⟩ := c.def_ 27 (d := dd__law_is_lot) rfl
  obtain ⟨fd28, F28⟩ := c.def_ 28 (d := dd_law) rfl
  have e := hfa.symm.trans (He.glo_ok X G (c.fact 26 (f := .glo "law") rfl))
  cases e
  have b := FunD.bindsA (ps := ["script"]) F28 fun _ _ _ _ _ _ us hl => match us, hl with | [_], _ => rfl
  refine ⟨fd28, fun s v => b s [v] rfl, fun base _ _ => fn_cxa (ok_law ⟨P, w, K, mg, base, [], 0, fun s => He.ga K s, fun _ _ _ _ => False⟩ ⟨He.fAd K ("_law_pen", none),
    fd0,
    F0,
    He.glo_ok X G (c.fact 0 (f := .glo "_law_pen") rfl),
    He.fAd K ("_law_draw", none),
    fd1,
    F1,
    He.glo_ok X G (c.fact 1 (f := .glo "_law_draw") rfl),
    He.fAd K ("_law_pick", none),
    fd2,
    F2,
    He.glo_ok X G (c.fact 2 (f := .glo "_law_pick") rfl),
    He.fAd K ("_law_great", none),
    fd3,
    F3,
    He.glo_ok X G (c.fact 3 (f := .glo "_law_great") rfl),
    He.fAd K ("_law_turned_about", none),
    fd4,
    F4,
    He.glo_ok X G (c.fact 4 (f := .glo "_law_turned_about") rfl),
    He.fAd K ("_law_pieces", none),
    fd5,
    F5,
    He.glo_ok X G (c.fact 5 (f := .glo "_law_pieces") rfl),
    He.fAd K ("_law_long", none),
    fd6,
    F6,
    He.glo_ok X G (c.fact 6 (f := .glo "_law_long") rfl),
    He.fAd K ("_law_small", none),
    fd7,
    F7,
    He.glo_ok X G (c.fact 7 (f := .glo "_law_small") rfl),
    He.fAd K ("_law_total", none),
    fd8,
    F8,
    He.glo_ok X G (c.fact 8 (f := .glo "_law_total") rfl),
    He.fAd K ("_law_below", none),
    fd9,
    F9,
    He.glo_ok X G (c.fact 9 (f := .glo "_law_below") rfl),
    He.fAd K ("_law_lot", none),
    fd10,
    F10,
    He.glo_ok X G (c.fact 10 (f := .glo "_law_lot") rfl),
    He.fAd K ("is_whole", none),
    fd11,
    F11,
    He.glo_ok X G (c.fact 11 (f := .glo "is_whole") rfl),
    He.fAd K ("is_way", none),
    fd12,
    F12,
    He.glo_ok X G (c.fact 12 (f := .glo "is_way") rfl),
    He.fAd K ("is_piece", none),
    fd13,
    F13,
    He.glo_ok X G (c.fact 13 (f := .glo "is_piece") rfl),
    He.fAd K ("fills", none),
    fd14,
    F14,
    He.glo_ok X G (c.fact 14 (f := .glo "fills") rfl),
    He.fAd K ("need_lay", none),
    fd15,
    F15,
    He.glo_ok X G (c.fact 15 (f := .glo "need_lay") rfl),
    He.fAd K ("in_one_form", none),
    fd16,
    F16,
    He.glo_ok X G (c.fact 16 (f := .glo "in_one_form") rfl),
    He.fAd K ("Lay", some "__init__"),
    fd17,
    F17,
    He.fAd K ("_law_odd", none),
    fd18,
    F18,
    He.glo_ok X G (c.fact 17 (f := .glo "_law_odd") rfl),
    He.fAd K ("_law_bent_tuple", none),
    fd19,
    F19,
    He.glo_ok X G (c.fact 18 (f := .glo "_law_bent_tuple") rfl),
    He.fAd K ("_law_bent_lot", none),
    fd20,
    F20,
    He.glo_ok X G (c.fact 19 (f := .glo "_law_bent_lot") rfl),
    He.fAd K ("is_number", none),
    fd21,
    F21,
    He.glo_ok X G (c.fact 20 (f := .glo "is_number") rfl),
    He.fAd K ("is_part", none),
    fd22,
    F22,
    He.glo_ok X G (c.fact 21 (f := .glo "is_part") rfl),
    He.fAd K ("Lay", some "spots"),
    fd23,
    F23,
    He.fAd K ("is_lot", none),
    fd24,
    F24,
    He.glo_ok X G (c.fact 22 (f := .glo "is_lot") rfl),
    He.fAd K ("_law_is_num", none),
    fd25,
    F25,
    He.glo_ok X G (c.fact 23 (f := .glo "_law_is_num") rfl),
    He.fAd K ("_law_is_stretch", none),
    fd26,
    F26,
    He.glo_ok X G (c.fact 24 (f := .glo "_law_is_stretch") rfl),
    He.fAd K ("_law_is_lot", none),
    fd27,
    F27,
    He.glo_ok X G (c.fact 25 (f := .glo "_law_is_lot") rfl),
    He.fAd K ("law", none),
    fd28,
    F28,
    He.glo_ok X G (c.fact 26 (f := .glo "law") rfl),
    He.free_ok X G (c.fact 27 (f := .free "abs") rfl),
    He.free_ok X G (c.fact 28 (f := .free "all") rfl),
    He.free_ok X G (c.fact 29 (f := .free "bool") rfl),
    He.free_ok X G (c.fact 30 (f := .free "int") rfl),
    He.free_ok X G (c.fact 31 (f := .free "isinstance") rfl),
    He.free_ok X G (c.fact 32 (f := .free "len") rfl),
    He.free_ok X G (c.fact 33 (f := .free "list") rfl),
    He.free_ok X G (c.fact 34 (f := .free "max") rfl),
    He.free_ok X G (c.fact 35 (f := .free "min") rfl),
    He.free_ok X G (c.fact 36 (f := .free "range") rfl),
    He.free_ok X G (c.fact 37 (f := .free "repr") rfl),
    He.free_ok X G (c.fact 38 (f := .free "sorted") rfl),
    He.free_ok X G (c.fact 39 (f := .free "str") rfl),
    He.free_ok X G (c.fact 40 (f := .free "sum") rfl),
    He.free_ok X G (c.fact 41 (f := .free "tuple") rfl),
    He.int_ok X G (c.fact 42 (f := .int "MOST_SPOTS" 2000000000000000000) rfl),
    He.glo_ok X G (c.fact 43 (f := .glo "Lay") rfl),
    He.cls_ok (c.fact 44 (f := .cls "Lay") rfl),
    He.noat_ok (c.fact 45 (f := .noat "Lay" "rows") rfl),
    He.noat_ok (c.fact 46 (f := .noat "Lay" "total") rfl),
    He.mkr_ok (c.fact 47 (f := .mkr "Lay") rfl),
    He.meth_ok (c.fact 48 (f := .meth "Lay" "spots") rfl)⟩)⟩
end Eng
open PySem PySem.W PySem.Calls PyProof.Rows
theorem PySem.Challenge.cw_spoolrounds_k20_what_is_a_lot_holds : PySem.Challenge.rw_spoolrounds_k20_what_is_a_lot.Holds := by
  w_on; o_law
  refine HandSHeadRun.head_any (r := OpenLaw.row PySem.Challenge.rw_spoolrounds_k20_what_is_a_lot) (q := view (OpenLaw.row PySem.Challenge.rw_spoolrounds_k20_what_is_a_lot).prog [37]) (H := Eng.hk) (ob := Eng.obL) (M := 6000) (loose := Eng.loL) (d := HandSHeadRun.topDef (OpenLaw.row PySem.Challenge.rw_spoolrounds_k20_what_is_a_lot).prog 37) (kwd := []) Eng.obL_eq
    (by kernel_rfl) (fun s => by kernel_rfl) Eng.runL (by kernel_rfl) (by kernel_rfl) (by kernel_rfl) (by rfl) (by first | assumption | decide +kernel) (by decide +kernel) ⟨rfl, rfl, rfl, rfl, rfl, by decide +kernel⟩ ?hw ?hc
  case hw => w_witness2
  case hc =>
    refine Eng.walk_ofG (l := PySem.Challenge.rw_spoolrounds_k20_what_is_a_lot) (n := 63) (k := 7) (x := "script") (CX := Eng.CXA) rfl (by decide) (by kernel_rfl) ⟨rfl, by decide, by decide⟩ ?F Eng.cxa_no
    intro w mg fa h Y G hmg0
    obtain ⟨K, KX, c⟩ := Y
    have hmg : mg ("law" : PySem.Str) = some (.ref fa) := by
      have e : (HandSHeadRun.topDef (OpenLaw.row PySem.Challenge.rw_spoolrounds_k20_what_is_a_lot).prog 37).name = ("law" : PySem.Str) := by kernel_rfl
      rw [← e]
      exact hmg0
    obtain ⟨fd, hb, hF⟩ := Eng.factsL (P := (PySem.Challenge.rw_spoolrounds_k20_what_is_a_lot).prog) (w := w) KX G hmg c
    exact ⟨K, fd, _, KX, hb, fun H a ns hl hO hS => Eng.law_promise (Γ := ⟨(PySem.Challenge.rw_spoolrounds_k20_what_is_a_lot).prog, w, K, mg, h, [], 0, fun s => He.ga K s, fun _ _ _ _ => False⟩) hl hO hS, hF⟩
