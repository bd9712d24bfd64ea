import PyProof.Rows.All
import Wide.All
import OpenK.AllK
import Wide.FinOn
import HandS.ForMost
import HandS.ForExc
import HandS.Flow
import HandS.FStr
import HandS.Wide
import HandS.IsInst
import HandS.SetKeys
import HandS.DictComp
import HandS.Defaults
import HandS.MakeKw
import HandS.MakeKwOnly
import HandS.Property
import HandS.Star
import HandS.TryMany
import HandS.Conv
import HandS.SortInts
import HandS.ClsMeth
import HandS.Deep
import HandS.Style
import HandS.More
import HandS.CallSlots
import HandS.TupAny
import HandS.Text
import KE.GoesEnum
import HandS.Zip
import HandS.SetBool
import HandS.Strs
import KE.KUnpack
import HandS.HeadHook3
import HandS.RaiseMore
import HandS.OwnEq
import HandS.Codes
import KE.KxText
import KE.KxAffix
import PyProof.Rows.RegReprOcc
import PySem.Challenge.RW_copyweather_k02_conditions_told
set_option Elab.async false
set_option linter.all false
set_option autoImplicit false
set_option maxRecDepth 100000
set_option maxHeartbeats 2000000
/-! M3a: data trees, what represents them, the state of a run: frozen part, mutable objects, own cells. -/
namespace M3
open PySem L2

/-- data: trees; loc: a mutable object by its number; glb: a thing of the module by its name -/
inductive Dv where
  | non | bl (b : Bool) | int (i : Int) | str (s : Str)
  | lst (xs : List Dv) | tup (xs : List Dv)
  | dct (kvs : List (Key × Dv)) | dcT (kvs : List (List Key × Dv))
  | ins (c : Str) (fs : List (Str × Dv))
  | loc (n : Nat) | glb (x : Str) | ty (n : String)
  | scr (ns : List Int)
  | ktp (xs : List Dv)
  | lck (o : Obj) (ws : List (Key × V)) (kvs : List (Key × Dv))
  | lckT (o : Obj) (ws : List (List Key × V)) (kvs : List (List Key × Dv))

/-- the contents of a mutable object -/
inductive Ob where
  | lst (xs : List Dv) | dct (kvs : List (Key × Dv)) | dcT (kvs : List (List Key × Dv)) | ins (c : Str) (fs : List (Str × Dv)) | raw (u : HO)

/-- a slot: not told, a value, a list (dict, ..) that this slot alone holds -/
inductive Cell where
  | un | val (d : Dv) | own (o : Ob)

abbrev Mm := List (Option Ob)
abbrev Sl := List Cell

mutual
inductive Rep (K : PySem.W.Frag) (mg : Str → Option Value) (μ : List Addr) (G : Hp) : Dv → V → Prop
  | non : Rep K mg μ G .non .non
  | bl (b : Bool) : Rep K mg μ G (.bl b) (.bl b)
  | int (i : Int) : Rep K mg μ G (.int i) (.int i)
  | str (s : Str) : Rep K mg μ G (.str s) (.str s)
  | ty (n : String) : Rep K mg μ G (.ty n) (.ty n)
  | lst {ds : List Dv} {a : Addr} {vs : List V} : G a = some (.lst vs) → ds.length ≤ sizeLine → RepL K mg μ G ds vs → Rep K mg μ G (.lst ds) (.ref a)
  | scr {ns : List Int} {a : Addr} : SqL K G a (ns.map V.int) → Rep K mg μ G (.scr ns) (.ref a)
  | ktp {ds : List Dv} {a : Addr} {vs : List V} : SqT K G a vs → RepL K mg μ G ds vs → Rep K mg μ G (.ktp ds) (.ref a)
  | tup {ds : List Dv} {a : Addr} {vs : List V} : G a = some (.tup vs) → ds.length ≤ sizeLine → RepL K mg μ G ds vs → Rep K mg μ G (.tup ds) (.ref a)
  | dct {kvs : List (Key × Dv)} {a : Addr} {ws : List (Key × V)} : Rd G a (.dK ws) → kvs.length ≤ sizeLine → RepK K mg μ G kvs ws → Rep K mg μ G (.dct kvs) (.ref a)
  | lck {o : Obj} {kvs : List (Key × Dv)} {a : Addr} {ws : List (Key × V)} : G a = some (.frz o (.dK ws)) → RepK K mg μ G kvs ws → Rep K mg μ G (.lck o ws kvs) (.ref a)
  | dcT {kvs : List (List Key × Dv)} {a : Addr} {ws : List (List Key × V)} : Rd G a (.dT ws) → kvs.length ≤ sizeLine → RepK K mg μ G kvs ws → Rep K mg μ G (.dcT kvs) (.ref a)
  | lckT {o : Obj} {kvs : List (List Key × Dv)} {a : Addr} {ws : List (List Key × V)} : G a = some (.frz o (.dT ws)) → RepK K mg μ G kvs ws → Rep K mg μ G (.lckT o ws kvs) (.ref a)
  | ins {c : Str} {fs : List (Str × Dv)} {a C dx : Addr} {ws : List (Str × V)} : mg c = some (.ref C) → G a = some (.ins C dx ws) → RepK K mg μ G fs ws → Rep K mg μ G (.ins c fs) (.ref a)
  | loc {n : Nat} {a : Addr} : μ[n]? = some a → Rep K mg μ G (.loc n) (.ref a)
  | glb {x : Str} {u : Value} {v : V} : mg x = some u → RelV v u → Rep K mg μ G (.glb x) v
inductive RepL (K : PySem.W.Frag) (mg : Str → Option Value) (μ : List Addr) (G : Hp) : List Dv → List V → Prop
  | nil : RepL K mg μ G [] []
  | cons {d : Dv} {v : V} {ds : List Dv} {vs : List V} : Rep K mg μ G d v → RepL K mg μ G ds vs → RepL K mg μ G (d :: ds) (v :: vs)
inductive RepK (K : PySem.W.Frag) (mg : Str → Option Value) (μ : List Addr) (G : Hp) : {κ : Type} → List (κ × Dv) → List (κ × V) → Prop
  | nil {κ : Type} : RepK K mg μ G (κ := κ) [] []
  | cons {κ : Type} {k : κ} {d : Dv} {v : V} {ds : List (κ × Dv)} {vs : List (κ × V)} : Rep K mg μ G d v → RepK K mg μ G ds vs → RepK K mg μ G ((k, d) :: ds) ((k, v) :: vs)
end

section
variable {K : PySem.W.Frag} {mg : Str → Option Value} {μ μ' : List Addr} {G G' : Hp}

/-- a dict -/
def IsDk (u : HO) : Prop := (∃ ws, u = .dK ws) ∨ ∃ ws, u = .dT ws
/-- the frozen part grows; a dict may come to be locked -/
def Ex (G G' : Hp) : Prop := ∀ a u, G a = some u → G' a = some u ∨ (IsDk u ∧ ∃ o, G' a = some (.frz o u))
theorem Ex.refl (G : Hp) : Ex G G := fun _ _ h => .inl h
theorem not_dk_frz {o : Obj} {u : HO} : ¬ IsDk (.frz o u) := fun z => by rcases z with ⟨_, z⟩ | ⟨_, z⟩ <;> cases z
theorem Ex.at {G G' : Hp} (e : Ex G G') {a : Addr} {u : HO} (h : G a = some u) (n : ¬ IsDk u) : G' a = some u := by
  rcases e a u h with q | ⟨q, _⟩
  · exact q
  · exact absurd q n
theorem Ex.trans {G G1 G2 : Hp} (a : Ex G G1) (b : Ex G1 G2) : Ex G G2 := fun x o h => by
  rcases a x o h with q | ⟨q, o', q'⟩
  · exact b x o q
  · exact .inr ⟨q, o', b.at q' not_dk_frz⟩
theorem Ex.new {G : Hp} {p : Addr} {o : HO} (h : G p = none) : Ex G (upd G p o) := fun a u e => .inl (by
  rw [upd_ne (ne_of_none e h)]; exact e)
theorem ndL {xs : List V} : ¬ IsDk (.lst xs) := fun z => by rcases z with ⟨_, z⟩ | ⟨_, z⟩ <;> cases z
theorem ndT {xs : List V} : ¬ IsDk (.tup xs) := fun z => by rcases z with ⟨_, z⟩ | ⟨_, z⟩ <;> cases z
theorem ndI {C dx : Addr} {ws : List (Str × V)} : ¬ IsDk (.ins C dx ws) := fun z => by rcases z with ⟨_, z⟩ | ⟨_, z⟩ <;> cases z
theorem ndX {ws : List (Str × V)} : ¬ IsDk (.xd ws) := fun z => by rcases z with ⟨_, z⟩ | ⟨_, z⟩ <;> cases z
theorem Ex.rdD {a : Addr} {u : HO} (e : Ex G G') (d : IsDk u) (h : Rd G a u) : Rd G' a u := by
  rcases h with h | ⟨o, h⟩
  · rcases e a u h with q | ⟨_, o, q⟩
    · exact .inl q
    · exact .inr ⟨o, q⟩
  · exact .inr ⟨o, e.at h not_dk_frz⟩
theorem Ex.rd {a : Addr} {u : HO} (e : Ex G G') (n : ¬ IsDk u) (h : Rd G a u) : Rd G' a u := by
  rcases h with h | ⟨o, h⟩
  · exact .inl (e.at h n)
  · exact .inr ⟨o, e.at h not_dk_frz⟩
theorem Ex.sqL {a : Addr} {xs : List V} (e : Ex G G') (h : SqL K G a xs) : SqL K G' a xs := by
  rcases h with h | h
  · exact .inl (e.rd ndL h)
  · exact .inr h
theorem Ex.sqT {a : Addr} {xs : List V} (e : Ex G G') (h : SqT K G a xs) : SqT K G' a xs := by
  rcases h with h | h
  · exact .inl (e.rd ndT h)
  · exact .inr h

def Pre (μ μ' : List Addr) : Prop := ∀ (n : Nat) (a : Addr), μ[n]? = some a → μ'[n]? = some a
theorem Pre.refl (μ : List Addr) : Pre μ μ := fun _ _ h => h
theorem Pre.trans {a b c : List Addr} (x : Pre a b) (y : Pre b c) : Pre a c := fun n q h => y n q (x n q h)
theorem Pre.app (μ : List Addr) (l : List Addr) : Pre μ (μ ++ l) := fun n a h => by
  rw [List.getElem?_append_left (List.getElem?_eq_some_iff.mp h).1]; exact h

mutual
theorem Rep.mono (e : Ex G G') (p : Pre μ μ') : ∀ {d : Dv} {v : V}, Rep K mg μ G d v → Rep K mg μ' G' d v
  | _, _, .non => .non
  | _, _, .bl b => .bl b
  | _, _, .int b => .int b
  | _, _, .str b => .str b
  | _, _, .ty b => .ty b
  | _, _, .lst s z r => .lst (e.at s ndL) z (RepL.mono e p r)
  | _, _, .scr s => .scr (e.sqL s)
  | _, _, .tup s z r => .tup (e.at s ndT) z (RepL.mono e p r)
  | _, _, .ktp s r => .ktp (e.sqT s) (RepL.mono e p r)
  | _, _, .dct s z r => .dct (e.rdD (.inl ⟨_, rfl⟩) s) z (RepK.mono e p r)
  | _, _, .lck s r => .lck (e.at s not_dk_frz) (RepK.mono e p r)
  | _, _, .dcT s z r => .dcT (e.rdD (.inr ⟨_, rfl⟩) s) z (RepK.mono e p r)
  | _, _, .lckT s r => .lckT (e.at s not_dk_frz) (RepK.mono e p r)
  | _, _, .ins c s r => .ins c (e.at s ndI) (RepK.mono e p r)
  | _, _, .loc h => .loc (p _ _ h)
  | _, _, .glb h r => .glb h r
theorem RepL.mono (e : Ex G G') (p : Pre μ μ') : ∀ {d : List Dv} {v : List V}, RepL K mg μ G d v → RepL K mg μ' G' d v
  | _, _, .nil => .nil
  | _, _, .cons a b => .cons (Rep.mono e p a) (RepL.mono e p b)
theorem RepK.mono (e : Ex G G') (p : Pre μ μ') : ∀ {κ : Type} {d : List (κ × Dv)} {v : List (κ × V)}, RepK K mg μ G d v → RepK K mg μ' G' d v
  | _, _, _, .nil => .nil
  | _, _, _, .cons a b => .cons (Rep.mono e p a) (RepK.mono e p b)
end

theorem RepL.length {ds : List Dv} : ∀ {vs : List V}, RepL K mg μ G ds vs → ds.length = vs.length := by
  induction ds with
  | nil => intro vs h; cases h; rfl
  | cons d ds ih => intro vs h; cases h with | cons a b => simp [ih b]
theorem RepL.get {ds : List Dv} : ∀ {vs : List V} {i : Nat} {d : Dv}, RepL K mg μ G ds vs → ds[i]? = some d → ∃ v, vs[i]? = some v ∧ Rep K mg μ G d v := by
  induction ds with
  | nil => intro vs i d h e; simp at e
  | cons x ds ih =>
    intro vs i d h e
    cases h with
    | cons a b =>
      cases i with
      | zero => simp at e; subst e; exact ⟨_, rfl, a⟩
      | succ i =>
        obtain ⟨v, h1, h2⟩ := ih b (by simpa using e)
        exact ⟨v, by simpa using h1, h2⟩
theorem RepL.getV {ds : List Dv} : ∀ {vs : List V} {i : Nat} {v : V}, RepL K mg μ G ds vs → vs[i]? = some v → ∃ d, ds[i]? = some d ∧ Rep K mg μ G d v := by
  induction ds with
  | nil => intro vs i d h e; cases h; simp at e
  | cons x ds ih =>
    intro vs i d h e
    cases h with
    | cons a b =>
      cases i with
      | zero => simp at e; subst e; exact ⟨_, rfl, a⟩
      | succ i =>
        obtain ⟨v, h1, h2⟩ := ih b (by simpa using e)
        exact ⟨v, by simpa using h1, h2⟩
theorem RepL.app {ds es : List Dv} {ws : List V} (r : RepL K mg μ G es ws) : ∀ {vs : List V}, RepL K mg μ G ds vs → RepL K mg μ G (ds ++ es) (vs ++ ws) := by
  induction ds with
  | nil => intro vs h; cases h; exact r
  | cons d ds ih => intro vs h; cases h with | cons a b => exact .cons a (ih b)
theorem RepL.one {d : Dv} {v : V} (r : Rep K mg μ G d v) : RepL K mg μ G [d] [v] := .cons r .nil
theorem RepL.set {ds : List Dv} {d : Dv} {v : V} (r : Rep K mg μ G d v) : ∀ {vs : List V} (i : Nat), RepL K mg μ G ds vs → RepL K mg μ G (ds.set i d) (vs.set i v) := by
  induction ds with
  | nil => intro vs i h; cases h; exact .nil
  | cons x ds ih =>
    intro vs i h
    cases h with
    | cons a b =>
      cases i with
      | zero => exact .cons r b
      | succ i => exact .cons a (ih i b)
theorem RepL.take {ds : List Dv} : ∀ {vs : List V} (i : Nat), RepL K mg μ G ds vs → RepL K mg μ G (ds.take i) (vs.take i) := by
  induction ds with
  | nil => intro vs i h; cases h; simp; exact .nil
  | cons x ds ih =>
    intro vs i h
    cases h with
    | cons a b =>
      cases i with
      | zero => exact .nil
      | succ i => exact .cons a (ih i b)
theorem RepL.drop {ds : List Dv} : ∀ {vs : List V} (i : Nat), RepL K mg μ G ds vs → RepL K mg μ G (ds.drop i) (vs.drop i) := by
  induction ds with
  | nil => intro vs i h; cases h; simp; exact .nil
  | cons x ds ih =>
    intro vs i h
    cases h with
    | cons a b =>
      cases i with
      | zero => exact .cons a b
      | succ i => exact ih i b
theorem RepL.rev {ds : List Dv} : ∀ {vs : List V}, RepL K mg μ G ds vs → RepL K mg μ G ds.reverse vs.reverse := by
  induction ds with
  | nil => intro vs h; cases h; exact .nil
  | cons x ds ih =>
    intro vs h
    cases h with
    | cons a b => rw [List.reverse_cons, List.reverse_cons]; exact (RepL.one a).app (ih b)
theorem RepK.length {κ : Type} {ds : List (κ × Dv)} : ∀ {vs : List (κ × V)}, RepK K mg μ G ds vs → ds.length = vs.length := by
  induction ds with
  | nil => intro vs h; cases h; rfl
  | cons d ds ih => intro vs h; cases h with | cons a b => simp [ih b]
theorem RepK.keys {κ : Type} {ds : List (κ × Dv)} : ∀ {vs : List (κ × V)}, RepK K mg μ G ds vs → ds.map (·.1) = vs.map (·.1) := by
  induction ds with
  | nil => intro vs h; cases h; rfl
  | cons d ds ih => intro vs h; cases h with | cons a b => simp [ih b]

/-! ### the state -/
def ObAt (K : PySem.W.Frag) (mg : Str → Option Value) (μ : List Addr) (G H : Hp) (a : Addr) : Ob → Prop
  | .lst ds => ∃ vs, H a = some (.lst vs) ∧ RepL K mg μ G ds vs
  | .dct kvs => ∃ ws, H a = some (.dK ws) ∧ RepK K mg μ G kvs ws
  | .dcT kvs => ∃ ws, H a = some (.dT ws) ∧ RepK K mg μ G kvs ws
  | .ins c fs => ∃ C dx ws, mg c = some (.ref C) ∧ H a = some (.ins C dx ws) ∧ RepK K mg μ G fs ws
  | .raw u => H a = some u
theorem ObAt.mono {H H' : Hp} {a : Addr} {o : Ob} (e : Ex G G') (p : Pre μ μ') (k : ∀ u, H a = some u → H' a = some u) (h : ObAt K mg μ G H a o) : ObAt K mg μ' G' H' a o := by
  cases o with
  | lst ds => obtain ⟨vs, x, r⟩ := h; exact ⟨vs, k _ x, r.mono e p⟩
  | dct ds => obtain ⟨vs, x, r⟩ := h; exact ⟨vs, k _ x, r.mono e p⟩
  | dcT ds => obtain ⟨vs, x, r⟩ := h; exact ⟨vs, k _ x, r.mono e p⟩
  | ins c fs => obtain ⟨C, dx, ws, q, x, r⟩ := h; exact ⟨C, dx, ws, q, k _ x, r.mono e p⟩
  | raw u => exact k _ h
theorem ObAt.some {H : Hp} {a : Addr} {o : Ob} (h : ObAt K mg μ G H a o) : ∃ u, H a = some u := by
  cases o with
  | lst ds => obtain ⟨vs, x, r⟩ := h; exact ⟨_, x⟩
  | dct ds => obtain ⟨vs, x, r⟩ := h; exact ⟨_, x⟩
  | dcT ds => obtain ⟨vs, x, r⟩ := h; exact ⟨_, x⟩
  | ins c fs => obtain ⟨C, dx, ws, q, x, r⟩ := h; exact ⟨_, x⟩
  | raw u => exact ⟨_, h⟩

/-- the frozen part stands (a dict may be locked by a walk) -/
def Stands (G H : Hp) : Prop := ∀ a u, G a = some u → H a = some u ∨ (((∃ ws, u = .dK ws) ∨ ∃ ws, u = .dT ws) ∧ ∃ o, H a = some (.frz o u))
theorem Stands.none {G H : Hp} (s : Stands G H) {a : Addr} (h : H a = none) : G a = none := by
  cases e : G a with
  | none => rfl
  | some u =>
    rcases s a u e with q | ⟨_, o, q⟩ <;> rw [h] at q <;> cases q
theorem Stands.frz {G H : Hp} (s : Stands G H) {a : Addr} {o : Obj} {u : HO} (h : G a = some (.frz o u)) : H a = some (.frz o u) := by
  rcases s a _ h with q | ⟨z, _, _⟩
  · exact q
  · rcases z with ⟨_, z⟩ | ⟨_, z⟩ <;> cases z
theorem Stands.rdD {G H : Hp} (s : Stands G H) {a : Addr} {u : HO} (h : Rd G a u) : Rd H a u := by
  rcases h with h | ⟨o, h⟩
  · rcases s a u h with q | ⟨_, o, q⟩
    · exact .inl q
    · exact .inr ⟨o, q⟩
  · exact .inr ⟨o, s.frz h⟩
theorem Stands.rd {G H : Hp} (s : Stands G H) {a : Addr} {u : HO} (h : G a = some u) : Rd H a u := by
  rcases s a u h with q | ⟨_, o, q⟩
  · exact .inl q
  · exact .inr ⟨o, q⟩
theorem Stands.l {G H : Hp} (s : Stands G H) {a : Addr} {xs : List V} (h : G a = some (.lst xs)) : H a = some (.lst xs) := by
  rcases s a _ h with q | ⟨z, _, _⟩
  · exact q
  · rcases z with ⟨_, z⟩ | ⟨_, z⟩ <;> cases z
theorem Stands.t {G H : Hp} (s : Stands G H) {a : Addr} {xs : List V} (h : G a = some (.tup xs)) : H a = some (.tup xs) := by
  rcases s a _ h with q | ⟨z, _, _⟩
  · exact q
  · rcases z with ⟨_, z⟩ | ⟨_, z⟩ <;> cases z
theorem Stands.lst {G H : Hp} (s : Stands G H) {a : Addr} {xs : List V} (h : SqL K G a xs) : SqL K H a xs := by
  rcases h with (h | ⟨o, h⟩) | h
  · rcases s a _ h with q | ⟨z, _, _⟩
    · exact .inl (.inl q)
    · rcases z with ⟨_, z⟩ | ⟨_, z⟩ <;> cases z
  · rcases s a _ h with q | ⟨z, _, _⟩
    · exact .inl (.inr ⟨o, q⟩)
    · rcases z with ⟨_, z⟩ | ⟨_, z⟩ <;> cases z
  · exact .inr h
theorem Stands.tup {G H : Hp} (s : Stands G H) {a : Addr} {xs : List V} (h : SqT K G a xs) : SqT K H a xs := by
  rcases h with (h | ⟨o, h⟩) | h
  · rcases s a _ h with q | ⟨z, _, _⟩
    · exact .inl (.inl q)
    · rcases z with ⟨_, z⟩ | ⟨_, z⟩ <;> cases z
  · rcases s a _ h with q | ⟨z, _, _⟩
    · exact .inl (.inr ⟨o, q⟩)
    · rcases z with ⟨_, z⟩ | ⟨_, z⟩ <;> cases z
  · exact .inr h
theorem Stands.ins {G H : Hp} (s : Stands G H) {a C dx : Addr} {ws : List (Str × V)} (h : G a = some (.ins C dx ws)) : H a = some (.ins C dx ws) := by
  rcases s a _ h with q | ⟨z, _, _⟩
  · exact q
  · rcases z with ⟨_, z⟩ | ⟨_, z⟩ <;> cases z

structure MemOk (K : PySem.W.Frag) (mg : Str → Option Value) (G : Hp) (μ : List Addr) (H : Hp) (m : Mm) : Prop where
  st : Stands G H
  len : μ.length = m.length
  nd : ∀ (i j : Nat) (a : Addr), μ[i]? = some a → μ[j]? = some a → i = j
  ob : ∀ (n : Nat) (o : Ob), m[n]? = some (some o) → ∃ a, μ[n]? = some a ∧ G a = none ∧ ObAt K mg μ G H a o
  th : ∀ a, a ∈ μ → ∃ u, H a = some u

/-- a later state: nothing that was there and is not ours has changed -/
structure Le (G : Hp) (μ : List Addr) (H : Hp) (G' : Hp) (μ' : List Addr) (H' : Hp) : Prop where
  ex : Ex G G'
  pre : Pre μ μ'
  prv : ∀ a o, H a = some o → G a = none → a ∉ μ → H' a = some o ∧ G' a = none ∧ a ∉ μ'
  th : ∀ a o, H a = some o → ∃ u, H' a = some u
theorem Le.refl (G : Hp) (μ : List Addr) (H : Hp) : Le G μ H G μ H := ⟨.refl _, .refl _, fun _ _ a b c => ⟨a, b, c⟩, fun _ o a => ⟨o, a⟩⟩
theorem Le.trans {G μ H G1 μ1 H1 G2 μ2 H2} (a : Le G μ H G1 μ1 H1) (b : Le G1 μ1 H1 G2 μ2 H2) : Le G μ H G2 μ2 H2 :=
  ⟨a.ex.trans b.ex, a.pre.trans b.pre, fun x o h1 h2 h3 => let ⟨q1, q2, q3⟩ := a.prv x o h1 h2 h3; b.prv x o q1 q2 q3, fun x o h => let ⟨u, q⟩ := a.th x o h; b.th x u q⟩

structure Cf where
  K : PySem.W.Frag
  mg : Str → Option Value
  G0 : Hp
  μ0 : List Addr
  H0 : Hp

def CellOk (c : Cf) (μ : List Addr) (G H : Hp) (x : Option V) : Cell → Prop
  | .un => True
  | .val d => ∃ v, x = some v ∧ Rep c.K c.mg μ G d v
  | .own o => ∃ a, x = some (.ref a) ∧ ObAt c.K c.mg μ G H a o ∧ G a = none ∧ a ∉ μ ∧ c.H0 a = none
/-- the address of an own cell -/
def ownA : Option V × Cell → Option Addr
  | (some (.ref a), .own _) => some a
  | _ => none
theorem ownA_some {p : Option V × Cell} {a : Addr} (h : ownA p = some a) : ∃ o, p = (some (.ref a), .own o) := by
  unfold ownA at h
  split at h
  · cases h; exact ⟨_, rfl⟩
  · cases h

abbrev Tm := List (Option V × Cell)
structure St3 (c : Cf) (ρ : Sl) (m : Mm) (σ : L2.St) (H : Hp) (T : Tm) (G : Hp) (μ : List Addr) : Prop where
  len : σ.length = ρ.length
  mem : MemOk c.K c.mg G μ H m
  le : Le c.G0 c.μ0 c.H0 G μ H
  cells : ∀ p ∈ T ++ σ.zip ρ, CellOk c μ G H p.1 p.2
  nd : ((T ++ σ.zip ρ).filterMap ownA).Nodup
def S3 (c : Cf) (ρ : Sl) (m : Mm) (σ : L2.St) (H : Hp) (T : Tm) : Prop := ∃ G μ, St3 c ρ m σ H T G μ
end

section
variable {c : Cf} {ρ : Sl} {m : Mm} {σ : L2.St} {H H' : Hp} {T T' : Tm} {G G' : Hp} {μ μ' : List Addr}
abbrev tv (v : V) (d : Dv) : Option V × Cell := (some v, .val d)
theorem ownA_val {x : Option V} {d : Dv} : ownA (x, .val d) = none := by
  cases x with
  | none => rfl
  | some v => cases v <;> rfl
theorem ownA_un {x : Option V} : ownA (x, .un) = none := by
  cases x with
  | none => rfl
  | some v => cases v <;> rfl

/-- a function of the state's temporaries: fewer, or in another order -/
theorem St3.weak (h : St3 c ρ m σ H T G μ) (hs : ∀ p ∈ T', p ∈ T) (hl : (T'.filterMap ownA).Sublist (T.filterMap ownA)) : St3 c ρ m σ H T' G μ where
  len := h.len
  mem := h.mem
  le := h.le
  cells := fun p hp => by
    rcases List.mem_append.mp hp with q | q
    · exact h.cells p (List.mem_append_left _ (hs p q))
    · exact h.cells p (List.mem_append_right _ q)
  nd := by
    have := h.nd
    rw [List.filterMap_append] at this ⊢
    exact this.sublist (List.Sublist.append hl (List.Sublist.refl _))
theorem St3.pop {p : Option V × Cell} (h : St3 c ρ m σ H (p :: T) G μ) : St3 c ρ m σ H T G μ := h.weak (fun _ q => List.mem_cons_of_mem _ q) (by
  rw [List.filterMap_cons]; split
  · exact List.Sublist.refl _
  · exact List.sublist_cons_self _ _)
theorem St3.pops {S : Tm} (h : St3 c ρ m σ H (S ++ T) G μ) : St3 c ρ m σ H T G μ := by
  induction S with
  | nil => exact h
  | cons p S ih => exact ih h.pop
theorem St3.top {v : V} {d : Dv} (h : St3 c ρ m σ H (tv v d :: T) G μ) : Rep c.K c.mg μ G d v := by
  obtain ⟨w, e, r⟩ := h.cells (tv v d) (by simp)
  cases e; exact r
theorem St3.at {v : V} {d : Dv} (h : St3 c ρ m σ H T G μ) (hm : tv v d ∈ T) : Rep c.K c.mg μ G d v := by
  obtain ⟨w, e, r⟩ := h.cells (tv v d) (List.mem_append_left _ hm)
  cases e; exact r
/-- a value more -/
theorem St3.push {v : V} {d : Dv} (h : St3 c ρ m σ H T G μ) (r : Rep c.K c.mg μ G d v) : St3 c ρ m σ H (tv v d :: T) G μ where
  len := h.len
  mem := h.mem
  le := h.le
  cells := fun p hp => by
    rcases List.mem_cons.mp hp with rfl | q
    · exact ⟨v, rfl, r⟩
    · exact h.cells p q
  nd := by
    have := h.nd
    rw [List.cons_append, List.filterMap_cons, ownA_val]; exact this
theorem St3.swap {v w : V} {d e : Dv} (h : St3 c ρ m σ H (tv v d :: tv w e :: T) G μ) : St3 c ρ m σ H (tv w e :: tv v d :: T) G μ :=
  h.weak (fun p hp => by simp only [List.mem_cons] at hp ⊢; rcases hp with a | a | a <;> simp [a]) (by
    simp only [List.filterMap_cons, ownA_val]; exact List.Sublist.refl _)
/-- under the top -/
theorem St3.drop2 {v : V} {d : Dv} {p : Option V × Cell} (h : St3 c ρ m σ H (tv v d :: p :: T) G μ) : St3 c ρ m σ H (tv v d :: T) G μ :=
  h.pop.pop.push h.top
theorem St3.slot {i : Nat} {d : Dv} (h : St3 c ρ m σ H T G μ) (e : ρ[i]? = some (.val d)) : ∃ v, σ[i]? = some (some v) ∧ Rep c.K c.mg μ G d v := by
  have hi : i < σ.length := by rw [h.len]; exact (List.getElem?_eq_some_iff.mp e).1
  have hm : (σ[i], Cell.val d) ∈ σ.zip ρ := by
    have hr := (List.getElem?_eq_some_iff.mp e).1
    have he := (List.getElem?_eq_some_iff.mp e).2
    rw [List.mem_iff_getElem]
    refine ⟨i, by rw [List.length_zip]; omega, ?_⟩
    rw [List.getElem_zip, he]
  obtain ⟨v, q, r⟩ := h.cells _ (List.mem_append_right _ hm)
  exact ⟨v, by rw [List.getElem?_eq_getElem hi]; exact congrArg some q, r⟩
theorem zip_get {α β : Type} {σ : List α} {ρ : List β} {i : Nat} {x : α} {y : β} (a : σ[i]? = some x) (b : ρ[i]? = some y) : (x, y) ∈ σ.zip ρ := by
  have h1 := List.getElem?_eq_some_iff.mp a
  have h2 := List.getElem?_eq_some_iff.mp b
  rw [List.mem_iff_getElem]
  refine ⟨i, by rw [List.length_zip]; have := h1.1; have := h2.1; omega, ?_⟩
  rw [List.getElem_zip, h1.2, h2.2]
theorem St3.ownAt {i : Nat} {o : Ob} (h : St3 c ρ m σ H T G μ) (e : ρ[i]? = some (.own o)) : ∃ a, σ[i]? = some (some (.ref a)) ∧ ObAt c.K c.mg μ G H a o ∧ G a = none ∧ a ∉ μ ∧ c.H0 a = none := by
  have hi : i < σ.length := by rw [h.len]; exact (List.getElem?_eq_some_iff.mp e).1
  have e1 : σ[i]? = some σ[i] := List.getElem?_eq_getElem hi
  obtain ⟨a, q, r⟩ := h.cells _ (List.mem_append_right _ (zip_get e1 e))
  exact ⟨a, by rw [e1]; exact congrArg some q, r⟩

/-! ### moves of the state -/
theorem MemOk.notIn (h : MemOk c.K c.mg G μ H m) {p : Addr} (hp : H p = none) : p ∉ μ := fun hm => by
  obtain ⟨u, e⟩ := h.th p hm
  rw [hp] at e; cases e
/-- the heap, the frozen part, the numbers grow: nothing of ours is changed but what is said -/
theorem St3.next {m' : Mm} (h : St3 c ρ m σ H T G μ) (mem : MemOk c.K c.mg G' μ' H' m') (le : Le G μ H G' μ' H') : St3 c ρ m' σ H' T G' μ' where
  len := h.len
  mem := mem
  le := h.le.trans le
  cells := fun p hp => by
    have q := h.cells p hp
    obtain ⟨x, y⟩ := p
    cases y with
    | un => trivial
    | val d => obtain ⟨v, e, r⟩ := q; exact ⟨v, e, r.mono le.ex le.pre⟩
    | own o =>
      obtain ⟨a, e, r, g, n, z⟩ := q
      obtain ⟨u, hu⟩ := r.some
      obtain ⟨k1, k2, k3⟩ := le.prv a u hu g n
      exact ⟨a, e, r.mono le.ex le.pre (fun w hw => by rw [hu] at hw; cases hw; exact k1), k2, k3, z⟩
  nd := h.nd
theorem ex_upd_none {H : Hp} {p : Addr} {o : HO} (h : H p = none) {a : Addr} {u : HO} (e : H a = some u) : upd H p o a = some u := by
  rw [upd_ne (ne_of_none e h)]; exact e
/-- a new object, frozen at once -/
theorem St3.newG {p : Addr} {o : HO} (h : St3 c ρ m σ H T G μ) (hp : H p = none) : St3 c ρ m σ (upd H p o) T (upd G p o) μ := by
  have hg : G p = none := h.mem.st.none hp
  have hn : p ∉ μ := h.mem.notIn hp
  refine h.next ⟨fun a u e => ?_, h.mem.len, h.mem.nd, fun n ob e => ?_, fun a hm => ?_⟩ ⟨Ex.new hg, .refl _, fun a u h1 h2 h3 => ⟨ex_upd_none hp h1, ?_, h3⟩, fun a u h1 => ⟨u, ex_upd_none hp h1⟩⟩
  · by_cases ha : a = p
    · subst ha; rw [upd_same] at e ⊢; cases e; exact .inl rfl
    · rw [upd_ne ha] at e ⊢; exact h.mem.st a u e
  · obtain ⟨a, e1, e2, e3⟩ := h.mem.ob n ob e
    have ha : a ≠ p := fun z => hn (by rw [← z]; exact List.mem_of_getElem? e1)
    exact ⟨a, e1, by rw [upd_ne ha]; exact e2, e3.mono (Ex.new hg) (.refl _) fun u q => ex_upd_none hp q⟩
  · obtain ⟨u, e⟩ := h.mem.th a hm
    exact ⟨u, ex_upd_none hp e⟩
  · rw [upd_ne (ne_of_none h1 hp)]; exact h2
/-- a new object that a number bears -/
theorem St3.newM {p : Addr} {o : HO} {ob : Ob} (h : St3 c ρ m σ H T G μ) (hp : H p = none) (r : ObAt c.K c.mg (μ ++ [p]) G (upd H p o) p ob) : St3 c ρ (m ++ [some ob]) σ (upd H p o) T G (μ ++ [p]) := by
  have hg : G p = none := h.mem.st.none hp
  have hn : p ∉ μ := h.mem.notIn hp
  have hlen := h.mem.len
  refine h.next ⟨fun a u e => ?_, by simp [hlen], fun i j a ei ej => ?_, fun n ob' e => ?_, fun a hm => ?_⟩ ⟨.refl _, .app _ _, fun a u h1 h2 h3 => ⟨ex_upd_none hp h1, h2, ?_⟩, fun a u h1 => ⟨u, ex_upd_none hp h1⟩⟩
  · have ha : a ≠ p := fun z => by subst z; rw [hg] at e; cases e
    rw [upd_ne ha]; exact h.mem.st a u e
  · have key : ∀ k b, (μ ++ [p])[k]? = some b → (k < μ.length ∧ μ[k]? = some b) ∨ (k = μ.length ∧ b = p) := fun k b e => by
      by_cases hk : k < μ.length
      · rw [List.getElem?_append_left hk] at e; exact .inl ⟨hk, e⟩
      · rw [List.getElem?_append_right (by omega)] at e
        have : k - μ.length = 0 := by
          have := (List.getElem?_eq_some_iff.mp e).1
          simp at this; omega
        rw [this] at e; simp at e
        exact .inr ⟨by omega, e.symm⟩
    rcases key i a ei with ⟨a1, a2⟩ | ⟨a1, a2⟩ <;> rcases key j a ej with ⟨b1, b2⟩ | ⟨b1, b2⟩
    · exact h.mem.nd i j a a2 b2
    · exact absurd (List.mem_of_getElem? a2) (by rw [b2]; exact hn)
    · exact absurd (List.mem_of_getElem? b2) (by rw [a2]; exact hn)
    · omega
  · by_cases hk : n < m.length
    · rw [List.getElem?_append_left hk] at e
      obtain ⟨a, e1, e2, e3⟩ := h.mem.ob n ob' e
      exact ⟨a, Pre.app _ _ _ _ e1, e2, e3.mono (.refl _) (.app _ _) fun u q => ex_upd_none hp q⟩
    · rw [List.getElem?_append_right (by omega)] at e
      have hz : n - m.length = 0 := by
        have := (List.getElem?_eq_some_iff.mp e).1
        simp at this; omega
      rw [hz] at e; simp at e; subst e
      exact ⟨p, by rw [List.getElem?_append_right (by omega)]; rw [show n - μ.length = 0 by omega]; rfl, hg, r⟩
  · rcases List.mem_append.mp hm with q | q
    · obtain ⟨u, e⟩ := h.mem.th a q
      exact ⟨u, ex_upd_none hp e⟩
    · simp at q; subst q; exact ⟨o, upd_same⟩
  · intro hm
    rcases List.mem_append.mp hm with q | q
    · exact h3 q
    · simp at q; subst q; rw [hp] at h1; cases h1
/-- a new object that one temporary alone holds -/
theorem St3.newO {p : Addr} {o : HO} {ob : Ob} (h : St3 c ρ m σ H T G μ) (hp : H p = none) (r : ObAt c.K c.mg μ G (upd H p o) p ob) : St3 c ρ m σ (upd H p o) ((some (.ref p), .own ob) :: T) G μ := by
  have hg : G p = none := h.mem.st.none hp
  have hn : p ∉ μ := h.mem.notIn hp
  have le : Le G μ H G μ (upd H p o) := ⟨.refl _, .refl _, fun a u h1 h2 h3 => ⟨ex_upd_none hp h1, h2, h3⟩, fun a u h1 => ⟨u, ex_upd_none hp h1⟩⟩
  have h' : St3 c ρ m σ (upd H p o) T G μ := by
    refine h.next ⟨fun a u e => ?_, h.mem.len, h.mem.nd, fun n ob' e => ?_, fun a hm => ?_⟩ le
    · have ha : a ≠ p := fun z => by subst z; rw [hg] at e; cases e
      rw [upd_ne ha]; exact h.mem.st a u e
    · obtain ⟨a, e1, e2, e3⟩ := h.mem.ob n ob' e
      exact ⟨a, e1, e2, e3.mono (.refl _) (.refl _) fun u q => ex_upd_none hp q⟩
    · obtain ⟨u, e⟩ := h.mem.th a hm
      exact ⟨u, ex_upd_none hp e⟩
  have h0 : c.H0 p = none := by
    cases e : c.H0 p with
    | none => rfl
    | some u =>
      obtain ⟨w, q⟩ := h.le.th p u e
      rw [hp] at q; cases q
  refine ⟨h'.len, h'.mem, h'.le, fun q hq => ?_, ?_⟩
  · rcases List.mem_cons.mp hq with rfl | hq
    · exact ⟨p, rfl, r, hg, hn, h0⟩
    · exact h'.cells q hq
  · show (((some (V.ref p), Cell.own ob) :: (T ++ σ.zip ρ)).filterMap ownA).Nodup
    rw [List.filterMap_cons]
    show (p :: (T ++ σ.zip ρ).filterMap ownA).Nodup
    refine List.nodup_cons.mpr ⟨fun hm => ?_, h'.nd⟩
    obtain ⟨q, hq, e⟩ := List.mem_filterMap.mp hm
    obtain ⟨ob', rfl⟩ := ownA_some e
    obtain ⟨a, ea, ra, _⟩ := h.cells _ hq
    cases ea
    obtain ⟨u, eu⟩ := ra.some
    rw [hp] at eu; cases eu
end
end M3

set_option Elab.async false
set_option linter.all false
set_option autoImplicit false
set_option maxRecDepth 100000
set_option maxHeartbeats 2000000
/-! M3b: what comes of a run, the judgements over data, expressions. -/
namespace M3
open PySem L2

inductive Rs (α : Type) where
  | ok (a : α) (m : Mm) | ex (x : Dv) (m : Mm) | no
def Rs.bind {α β : Type} (r : Rs α) (f : α → Mm → Rs β) : Rs β := match r with
  | .ok a m => f a m
  | .ex x m => .ex x m
  | .no => .no
@[simp] theorem Rs.bind_ok {α β : Type} (a : α) (m : Mm) (f : α → Mm → Rs β) : (Rs.ok a m).bind f = f a m := rfl
@[simp] theorem Rs.bind_ex {α β : Type} (x : Dv) (m : Mm) (f : α → Mm → Rs β) : (Rs.ex x m).bind f = .ex x m := rfl
@[simp] theorem Rs.bind_no {α β : Type} (f : α → Mm → Rs β) : (Rs.no : Rs α).bind f = .no := rfl

/-- what an expression hands on: a value, or the object that a slot alone holds -/
inductive Ar where
  | v (d : Dv) | b (i : Nat)

abbrev ME := Sl → Mm → Rs Ar
abbrev MB := Sl → Mm → Rs Bool
abbrev MA := Sl → Mm → Rs (List Dv)
abbrev MN := Sl → Mm → Rs Ob

/-- how an exception's value lies -/
def RepX (K : PySem.W.Frag) (mg : Str → Option Value) (μ : List Addr) (G : Hp) (x : Dv) (cls : Value) (d : Option Addr) : Prop :=
  ∃ (cn : Str) (fs : List (Str × Dv)) (C dd : Addr) (ws : List (Str × V)), x = .ins cn fs ∧ cls = .ref C ∧ mg cn = some (.ref C) ∧ d = some dd ∧ G dd = some (.xd ws) ∧ RepK K mg μ G fs ws

/-- where a def began -/
structure Bs where
  G0 : Hp
  μ0 : List Addr
  H0 : Hp
abbrev Bs.cf (b : Bs) (K : PySem.W.Frag) (mg : Str → Option Value) : Cf := ⟨K, mg, b.G0, b.μ0, b.H0⟩

def tvs : List V → List Dv → Tm
  | v :: vs, d :: ds => tv v d :: tvs vs ds
  | _, _ => []
def tva (v : V) : Ar → Tm
  | .v d => [tv v d]
  | .b _ => []
def ArAt (K : PySem.W.Frag) (mg : Str → Option Value) (μ : List Addr) (G : Hp) (σ : L2.St) (v : V) : Ar → Prop
  | .v d => Rep K mg μ G d v
  | .b i => σ[i]? = some (some v)

def WantX (E : WX) (c : Cf) (ρ : Sl) (σ : L2.St) (T : Tm) (x : Dv) (m : Mm) : Prop := ∀ (cls : Value) (d : Option Addr) (H' : Hp) (G : Hp) (μ : List Addr), St3 c ρ m σ H' T G μ → RepX c.K c.mg μ G x cls d → E cls d σ H'
def Want (E : WX) (c : Cf) (ρ : Sl) (σ : L2.St) (T : Tm) (Q : VK) : Rs Ar → Prop
  | .ok x m => ∀ v H', S3 c ρ m σ H' (tva v x ++ T) → (∀ i, x = .b i → σ[i]? = some (some v)) → Q v H'
  | .ex x m => WantX E c ρ σ T x m
  | .no => False
def WantB (E : WX) (c : Cf) (ρ : Sl) (σ : L2.St) (T : Tm) (Q : Bool → Hp → Prop) : Rs Bool → Prop
  | .ok b m => ∀ H', S3 c ρ m σ H' T → Q b H'
  | .ex x m => WantX E c ρ σ T x m
  | .no => False
def WantA (E : WX) (c : Cf) (ρ : Sl) (σ : L2.St) (T : Tm) (Q : List V → Hp → Prop) : Rs (List Dv) → Prop
  | .ok ds m => ∀ vs H', vs.length = ds.length → S3 c ρ m σ H' (tvs vs ds ++ T) → Q vs H'
  | .ex x m => WantX E c ρ σ T x m
  | .no => False
def WantN (E : WX) (c : Cf) (ρ : Sl) (σ : L2.St) (T : Tm) (Q : VK) : Rs Ob → Prop
  | .ok o m => ∀ p H', S3 c ρ m σ H' ((some (.ref p), .own o) :: T) → Q (.ref p) H'
  | .ex x m => WantX E c ρ σ T x m
  | .no => False

def tOf (K : PySem.W.Frag) (mg : Str → Option Value) (E : WX) (f : ME) : TE := fun σ H Q => ∃ (b : Bs) (ρ : Sl) (m : Mm) (T : Tm), S3 (b.cf K mg) ρ m σ H T ∧ Want E (b.cf K mg) ρ σ T Q (f ρ m)
def tbOf (K : PySem.W.Frag) (mg : Str → Option Value) (E : WX) (f : MB) : TT := fun σ H Q => ∃ (b : Bs) (ρ : Sl) (m : Mm) (T : Tm), S3 (b.cf K mg) ρ m σ H T ∧ WantB E (b.cf K mg) ρ σ T Q (f ρ m)
def taOf (K : PySem.W.Frag) (mg : Str → Option Value) (E : WX) (f : MA) : TA := fun σ H Q => ∃ (b : Bs) (ρ : Sl) (m : Mm) (T : Tm), S3 (b.cf K mg) ρ m σ H T ∧ WantA E (b.cf K mg) ρ σ T Q (f ρ m)
def tnOf (K : PySem.W.Frag) (mg : Str → Option Value) (E : WX) (f : MN) : TE := fun σ H Q => ∃ (b : Bs) (ρ : Sl) (m : Mm) (T : Tm), S3 (b.cf K mg) ρ m σ H T ∧ WantN E (b.cf K mg) ρ σ T Q (f ρ m)

abbrev PX (X : Cx) (E : WX) (e : Expr) (f : ME) : Prop := PE X e (tOf X.K X.mg E f)
abbrev PB (X : Cx) (E : WX) (e : Expr) (f : MB) : Prop := PT X e (tbOf X.K X.mg E f)
abbrev PBW (X : Cx) (E : WX) (e : Expr) (f : MB) : Prop := PW X e (tbOf X.K X.mg E f)
abbrev PXs (X : Cx) (E : WX) (es : List Expr) (f : MA) : Prop := PA X es (taOf X.K X.mg E f)
abbrev PN (X : Cx) (E : WX) (e : Expr) (f : MN) : Prop := PE X e (tnOf X.K X.mg E f)

theorem PEi {X : Cx} {e : Expr} {t t' : TE} (h : PE X e t) (i : ∀ σ H Q, t' σ H Q → t σ H Q) : PE X e t' := ⟨fun pins s σ H Q I q => h.run pins s σ H Q I (i σ H Q q)⟩
theorem PTi {X : Cx} {e : Expr} {t t' : TT} (h : PT X e t) (i : ∀ σ H Q, t' σ H Q → t σ H Q) : PT X e t' := ⟨fun pins s σ H Q I q => h.run pins s σ H Q I (i σ H Q q)⟩
theorem PWi {X : Cx} {e : Expr} {t t' : TT} (h : PW X e t) (i : ∀ σ H Q, t' σ H Q → t σ H Q) : PW X e t' := ⟨fun whole pins s σ H Q I q => h.run whole pins s σ H Q I (i σ H Q q)⟩
theorem PAi {X : Cx} {e : List Expr} {t t' : TA} (h : PA X e t) (i : ∀ σ H Q, t' σ H Q → t σ H Q) : PA X e t' := ⟨fun pos pins s σ H Q I q => h.run pos pins s σ H Q I (i σ H Q q)⟩

section
variable {K : PySem.W.Frag} {mg : Str → Option Value} {E : WX} {c : Cf} {ρ : Sl} {m : Mm} {σ : L2.St} {H : Hp} {T : Tm} {G : Hp} {μ : List Addr}

theorem S3.pop {p : Option V × Cell} (h : S3 c ρ m σ H (p :: T)) : S3 c ρ m σ H T := let ⟨G, μ, s⟩ := h; ⟨G, μ, s.pop⟩
theorem S3.pops {S : Tm} (h : S3 c ρ m σ H (S ++ T)) : S3 c ρ m σ H T := let ⟨G, μ, s⟩ := h; ⟨G, μ, s.pops⟩
theorem WantX.weak {x : Dv} {S : Tm} (h : WantX E c ρ σ T x m) : WantX E c ρ σ (S ++ T) x m := fun cls d H' G μ s r => h cls d H' G μ s.pops r
/-- what the temporaries tell -/
theorem St3.ar {v : V} {x : Ar} {S : Tm} (h : St3 c ρ m σ H (tva v x ++ T) G μ) (hb : ∀ i, x = .b i → σ[i]? = some (some v)) : ArAt c.K c.mg μ G σ v x := by
  cases x with
  | v d => exact h.top
  | b i => exact hb i rfl
theorem Want.v {d : Dv} {Q : VK} (w : Want E c ρ σ T Q (.ok (.v d) m)) {v : V} {H' : Hp} (s : S3 c ρ m σ H' (tv v d :: T)) : Q v H' := w v H' s (fun i e => by cases e)

/-! ### scalars -/
def vOf : Dv → Option V
  | .non => some .non
  | .bl b => some (.bl b)
  | .int i => some (.int i)
  | .str s => some (.str s)
  | .ty n => some (.ty n)
  | _ => none
theorem rep_vOf {d : Dv} {v : V} (h : vOf d = some v) : Rep K mg μ G d v := by
  cases d <;> simp [vOf] at h <;> subst h <;> constructor
theorem vOf_rep {d : Dv} {v w : V} (h : vOf d = some v) (r : Rep K mg μ G d w) : w = v := by
  cases d <;> simp [vOf] at h <;> subst h <;> cases r <;> rfl
theorem Want.s {d : Dv} {Q : VK} (w : Want E c ρ σ T Q (.ok (.v d) m)) (s : St3 c ρ m σ H T G μ) {v : V} (e : vOf d = some v) : Q v H := w.v ⟨G, μ, s.push (rep_vOf e)⟩

/-! ### what stands at a value -/
/-- the items of a list -/
def lstOf (ρ : Sl) (m : Mm) : Ar → Option (List Dv)
  | .v (.lst ds) => some ds
  | .v (.loc n) => match m[n]? with
    | some (some (.lst ds)) => some ds
    | _ => none
  | .b i => match ρ[i]? with
    | some (.own (.lst ds)) => some ds
    | _ => none
  | _ => none
def tupOf : Ar → Option (List Dv)
  | .v (.tup ds) => some ds
  | .v (.ktp ds) => some ds
  | _ => none
theorem lst_at (s : St3 c ρ m σ H T G μ) {x : Ar} {v : V} {ds : List Dv} (r : ArAt c.K c.mg μ G σ v x) (e : lstOf ρ m x = some ds) : ∃ a vs, v = .ref a ∧ H a = some (.lst vs) ∧ RepL c.K c.mg μ G ds vs := by
  unfold lstOf at e
  split at e
  · cases e
    cases r with
    | lst h z r => exact ⟨_, _, rfl, s.mem.st.l h, r⟩
  · split at e
    · rename_i h
      cases e
      cases r with
      | loc hm =>
        obtain ⟨a, e1, e2, vs, e3, e4⟩ := s.mem.ob _ _ h
        rw [hm] at e1; cases e1
        exact ⟨_, _, rfl, e3, e4⟩
    · cases e
  · split at e
    · rename_i h
      cases e
      obtain ⟨a, q, ⟨vs, e3, e4⟩, _⟩ := s.ownAt h
      have r : σ[_]? = some (some v) := r
      rw [q] at r; cases r
      exact ⟨a, vs, rfl, e3, e4⟩
    · cases e
  · cases e
theorem tup_at (s : St3 c ρ m σ H T G μ) {x : Ar} {v : V} {ds : List Dv} (r : ArAt c.K c.mg μ G σ v x) (e : tupOf x = some ds) : ∃ a vs, v = .ref a ∧ SqT c.K H a vs ∧ RepL c.K c.mg μ G ds vs := by
  unfold tupOf at e
  split at e
  · cases e
    cases r with
    | tup h z r => exact ⟨_, _, rfl, SqT.of (s.mem.st.t h), r⟩
  · cases e
    cases r with
    | ktp h r => exact ⟨_, _, rfl, s.mem.st.tup h, r⟩
  · cases e
/-- a list or a tuple -/
def seqOf (ρ : Sl) (m : Mm) (x : Ar) : Option (List Dv) := match lstOf ρ m x with
  | some ds => some ds
  | none => tupOf x
theorem seq_at (s : St3 c ρ m σ H T G μ) {x : Ar} {v : V} {ds : List Dv} (r : ArAt c.K c.mg μ G σ v x) (e : seqOf ρ m x = some ds) : ∃ a vs, v = .ref a ∧ (SqL c.K H a vs ∨ SqT c.K H a vs) ∧ RepL c.K c.mg μ G ds vs := by
  unfold seqOf at e
  split at e
  · rename_i h
    cases e
    obtain ⟨a, vs, e1, e2, e3⟩ := lst_at s r h
    exact ⟨a, vs, e1, .inl (SqL.of e2), e3⟩
  · obtain ⟨a, vs, e1, e2, e3⟩ := tup_at s r e
    exact ⟨a, vs, e1, .inr e2, e3⟩

/-! ### new objects -/
theorem St3.newL {p : Addr} {ds : List Dv} {vs : List V} (s : St3 c ρ m σ H T G μ) (r : RepL c.K c.mg μ G ds vs) (z : ds.length ≤ sizeLine) (hp : H p = none) : S3 c ρ m σ (upd H p (.lst vs)) (tv (.ref p) (.lst ds) :: T) :=
  ⟨_, μ, (s.newG (o := .lst vs) hp).push (.lst upd_same z (r.mono (Ex.new (s.mem.st.none hp)) (.refl _)))⟩
theorem St3.newT {p : Addr} {ds : List Dv} {vs : List V} (s : St3 c ρ m σ H T G μ) (r : RepL c.K c.mg μ G ds vs) (z : ds.length ≤ sizeLine) (hp : H p = none) : S3 c ρ m σ (upd H p (.tup vs)) (tv (.ref p) (.tup ds) :: T) :=
  ⟨_, μ, (s.newG (o := .tup vs) hp).push (.tup upd_same z (r.mono (Ex.new (s.mem.st.none hp)) (.refl _)))⟩
theorem St3.newOL {p : Addr} {ds : List Dv} {vs : List V} (s : St3 c ρ m σ H T G μ) (r : RepL c.K c.mg μ G ds vs) (hp : H p = none) : S3 c ρ m σ (upd H p (.lst vs)) ((some (.ref p), .own (.lst ds)) :: T) :=
  ⟨G, μ, s.newO hp ⟨vs, upd_same, r⟩⟩
/-- an own object at the top is frozen -/
def obD : Ob → Dv
  | .lst ds => .lst ds
  | .dct kvs => .dct kvs
  | .dcT kvs => .dcT kvs
  | .ins c fs => .ins c fs
  | .raw _ => .non
def obZ : Ob → Bool
  | .lst ds => decide (ds.length ≤ sizeLine)
  | .dct kvs => decide (kvs.length ≤ sizeLine)
  | .dcT kvs => decide (kvs.length ≤ sizeLine)
  | .ins c fs => true
  | .raw _ => false
theorem obAt_rep {G : Hp} {a : Addr} {o : Ob} {u : HO} (h : ObAt K mg μ G H a o) (e : H a = some u) (z : obZ o = true) (g : G a = none) : Rep K mg μ (upd G a u) (obD o) (.ref a) := by
  cases o with
  | lst ds => obtain ⟨vs, x, r⟩ := h; rw [e] at x; cases x; exact .lst upd_same (of_decide_eq_true z) (r.mono (Ex.new g) (.refl _))
  | dct ds => obtain ⟨vs, x, r⟩ := h; rw [e] at x; cases x; exact .dct (.inl upd_same) (of_decide_eq_true z) (r.mono (Ex.new g) (.refl _))
  | dcT ds => obtain ⟨vs, x, r⟩ := h; rw [e] at x; cases x; exact .dcT (.inl upd_same) (of_decide_eq_true z) (r.mono (Ex.new g) (.refl _))
  | ins cc fs => obtain ⟨C, dx, ws, q, x, r⟩ := h; rw [e] at x; cases x; exact .ins q upd_same (r.mono (Ex.new g) (.refl _))
  | raw u => cases z
/-- the frozen part takes in an object that nobody else holds -/
theorem MemOk.frz {a : Addr} {u : HO} (h : MemOk c.K c.mg G μ H m) (e : H a = some u) (g : G a = none) (n : a ∉ μ) : MemOk c.K c.mg (upd G a u) μ H m := by
  refine ⟨fun x w q => ?_, h.len, h.nd, fun k o q => ?_, h.th⟩
  · by_cases hx : x = a
    · subst hx; rw [upd_same] at q; cases q; exact .inl e
    · rw [upd_ne hx] at q; exact h.st x w q
  · obtain ⟨b, e1, e2, e3⟩ := h.ob k o q
    have hb : b ≠ a := fun z => n (by rw [← z]; exact List.mem_of_getElem? e1)
    exact ⟨b, e1, by rw [upd_ne hb]; exact e2, e3.mono (Ex.new g) (.refl _) fun _ q => q⟩
theorem S3.frzTop {p : Addr} {o : Ob} (h : S3 c ρ m σ H ((some (.ref p), .own o) :: T)) (z : obZ o = true) : S3 c ρ m σ H (tv (.ref p) (obD o) :: T) := by
  obtain ⟨G, μ, s⟩ := h
  obtain ⟨a, ea, ob, g, n, h0⟩ := s.cells (some (.ref p), .own o) (by simp)
  cases ea
  obtain ⟨u, hu⟩ := ob.some
  have sp := s.pop
  have nd := s.nd
  rw [List.cons_append, List.filterMap_cons] at nd
  have nd : (p :: (T ++ σ.zip ρ).filterMap ownA).Nodup := nd
  have hnot := (List.nodup_cons.mp nd).1
  refine ⟨upd G p u, μ, St3.push ⟨sp.len, sp.mem.frz hu g n, ⟨sp.le.ex.trans (Ex.new g), sp.le.pre, fun a w h1 h2 h3 => ?_, sp.le.th⟩, fun q hq => ?_, sp.nd⟩ (obAt_rep ob hu z g)⟩
  · obtain ⟨k1, k2, k3⟩ := sp.le.prv a w h1 h2 h3
    have ha : a ≠ p := fun z => by subst z; rw [h0] at h1; cases h1
    exact ⟨k1, by rw [upd_ne ha]; exact k2, k3⟩
  · have k := sp.cells q hq
    obtain ⟨x, y⟩ := q
    cases y with
    | un => trivial
    | val d => obtain ⟨v, e, r⟩ := k; exact ⟨v, e, r.mono (Ex.new g) (.refl _)⟩
    | own o' =>
      obtain ⟨a, e, r, g', n', z'⟩ := k
      have e : x = some (.ref a) := e
      subst e
      have ha : a ≠ p := fun z => by
        subst z
        exact hnot (List.mem_filterMap.mpr ⟨_, hq, rfl⟩)
      exact ⟨a, rfl, r.mono (Ex.new g) (.refl _) (fun _ q => q), by rw [upd_ne ha]; exact g', n', z'⟩
end

section
variable {X : Cx} {E : WX} {a b e : Expr} {fa fb fc : ME} {pos : Pos}
/-! ### names, constants -/
def mVar (i : Nat) : ME := fun ρ m => match ρ[i]? with
  | some (.val d) => .ok (.v d) m
  | some (.own _) => .ok (.b i) m
  | _ => .no
def mC (d : Dv) : ME := fun _ m => .ok (.v d) m
theorem x_var {i : Nat} {x : Str} (hN : X.N[i]? = some x) (hv : Vis X.env.scope x) (hd : (x == ("__debug__" : Str)) = false := by decide) (hcd : (x == ("__classdict__" : Str)) = false := by decide) : PX X E (.Name x pos) (mVar i) :=
  PEi (pe_var hN hv hd hcd) fun σ H Q ⟨b, ρ, m, T, S, w⟩ => by
    obtain ⟨G, μ, s⟩ := S
    unfold mVar at w
    cases e : ρ[i]? with
    | none => rw [e] at w; exact w.elim
    | some cc =>
      rw [e] at w
      cases cc with
      | un => exact w.elim
      | own o =>
        obtain ⟨a, q, r⟩ := s.ownAt e
        exact ⟨.ref a, q, w _ H ⟨G, μ, s⟩ (fun j z => by cases z; exact q)⟩
      | val d =>
        obtain ⟨v, q, r⟩ := s.slot e
        exact ⟨v, q, w.v ⟨G, μ, s.push r⟩⟩
theorem x_c {v : V} {d : Dv} (h : PE X e (tC v)) (ev : vOf d = some v) : PX X E e (mC d) :=
  PEi h fun σ H Q ⟨b, ρ, m, T, ⟨G, μ, s⟩, w⟩ => Want.s w s ev
theorem x_int {i j pos} : PX X E (.Constant (.int i) j pos) (mC (.int i)) := x_c pe_int rfl
theorem x_bl {i j pos} : PX X E (.Constant (.bool i) j pos) (mC (.bl i)) := x_c pe_bl rfl
theorem x_str {i j pos} : PX X E (.Constant (.str i) j pos) (mC (.str i)) := x_c pe_str rfl
theorem x_non {j pos} : PX X E (.Constant .none j pos) (mC .non) := x_c pe_non rfl
/-- a constant of the module -/
theorem x_glob {x : Str} {v : V} {u : Value} {d : Dv} (hg : Gl X x) (hm : X.mg x = some u) (r : RelV v u) (hr : ∀ mu G, Rep X.K X.mg mu G d v) (hd : (x == ("__debug__" : Str)) = false := by decide) : PX X E (.Name x pos) (mC d) :=
  PEi (pe_glob hg hm r hd) fun σ H Q ⟨b, ρ, m, T, ⟨G, μ, s⟩, w⟩ => Want.v w ⟨G, μ, s.push (hr _ _)⟩

/-! ### one operand, two operands -/
def UnS (K : PySem.W.Frag) (mg : Str → Option Value) (E : WX) (r : V → Hp → VK → Prop) (g : Sl → Mm → Ar → Rs Ar) : Prop :=
  ∀ (b : Bs) (ρ : Sl) (m : Mm) (σ : L2.St) (H : Hp) (T : Tm) (G : Hp) (μ : List Addr) (v : V) (x : Ar) (Q : VK), St3 (b.cf K mg) ρ m σ H T G μ → ArAt K mg μ G σ v x → Want E (b.cf K mg) ρ σ T Q (g ρ m x) → r v H Q
def OpS (K : PySem.W.Frag) (mg : Str → Option Value) (E : WX) (r : R2) (g : Sl → Mm → Ar → Ar → Rs Ar) : Prop :=
  ∀ (b : Bs) (ρ : Sl) (m : Mm) (σ : L2.St) (H : Hp) (T : Tm) (G : Hp) (μ : List Addr) (v u : V) (x y : Ar) (Q : VK), St3 (b.cf K mg) ρ m σ H T G μ → ArAt K mg μ G σ v x → ArAt K mg μ G σ u y → Want E (b.cf K mg) ρ σ T Q (g ρ m x y) → r v u H Q
def mUn (g : Sl → Mm → Ar → Rs Ar) (fa : ME) : ME := fun ρ m => (fa ρ m).bind fun x m1 => g ρ m1 x
def mBin (g : Sl → Mm → Ar → Ar → Rs Ar) (fa fb : ME) : ME := fun ρ m => (fa ρ m).bind fun x m1 => (fb ρ m1).bind fun y m2 => g ρ m2 x y
section
variable {K : PySem.W.Frag} {mg : Str → Option Value}
theorem un_want {r : V → Hp → VK → Prop} {g : Sl → Mm → Ar → Rs Ar} (hs : UnS K mg E r g) {σ : L2.St} {H : Hp} {Q : VK} (h : tOf K mg E (mUn g fa) σ H Q) : tUn r (tOf K mg E fa) σ H Q := by
  obtain ⟨b, ρ, m, T, S, w⟩ := h
  refine ⟨b, ρ, m, T, S, ?_⟩
  unfold mUn at w
  revert w
  cases fa ρ m with
  | no => exact id
  | ex x m1 => exact id
  | ok x m1 =>
    intro w v H1 ⟨G, μ, s⟩ hb
    exact hs b ρ m1 σ H1 T G μ v x Q s.pops (s.ar (S := T) hb) w
theorem bin_want {r : R2} {g : Sl → Mm → Ar → Ar → Rs Ar} (hs : OpS K mg E r g) {σ : L2.St} {H : Hp} {Q : VK} (h : tOf K mg E (mBin g fa fb) σ H Q) : tOp r (tOf K mg E fa) (tOf K mg E fb) σ H Q := by
  obtain ⟨b, ρ, m, T, S, w⟩ := h
  refine ⟨b, ρ, m, T, S, ?_⟩
  unfold mBin at w
  revert w
  cases fa ρ m with
  | no => exact id
  | ex x m1 => exact id
  | ok x m1 =>
    intro w v H1 S1 hb1
    refine ⟨b, ρ, m1, tva v x ++ T, S1, ?_⟩
    have w : Want E (b.cf K mg) ρ σ T Q ((fb ρ m1).bind fun y m2 => g ρ m2 x y) := w
    revert w
    cases fb ρ m1 with
    | no => exact id
    | ex x m2 => exact fun w => WantX.weak w
    | ok y m2 =>
      intro w u H2 ⟨G, μ, s⟩ hb2
      exact hs b ρ m2 σ H2 T G μ v u x y Q s.pops.pops (s.pops.ar (S := T) hb1) (s.ar (S := T) hb2) w
theorem OpS.or {r r' : R2} {g g' g'' : Sl → Mm → Ar → Ar → Rs Ar} (h : OpS K mg E r g) (h' : OpS K mg E r' g') (hg : ∀ ρ m x y, g'' ρ m x y = g ρ m x y ∨ g'' ρ m x y = g' ρ m x y) : OpS K mg E (fun x y H Q => r x y H Q ∨ r' x y H Q) g'' :=
  fun b ρ m σ H T G μ v u x y Q s r1 r2 w => by
    rcases hg ρ m x y with q | q
    · rw [q] at w; exact .inl (h b ρ m σ H T G μ v u x y Q s r1 r2 w)
    · rw [q] at w; exact .inr (h' b ρ m σ H T G μ v u x y Q s r1 r2 w)
end
theorem x_un {op : UnaryOp} {r : V → Hp → VK → Prop} {g : Sl → Mm → Ar → Rs Ar} (ho : UnR X (unaryOp op) r) (hs : UnS X.K X.mg E r g) (ha : PX X E a fa) : PX X E (.UnaryOp op a pos) (mUn g fa) :=
  PEi (pe_un ho ha) fun _ _ _ h => un_want hs h
theorem x_bin {op : Operator} {r : R2} {g : Sl → Mm → Ar → Ar → Rs Ar} (ho : OpR X (binaryOp op) r) (hs : OpS X.K X.mg E r g) (ha : PX X E a fa) (hb : PX X E b fb) : PX X E (.BinOp a op b pos) (mBin g fa fb) :=
  PEi (pe_op ho ha hb) fun _ _ _ h => bin_want hs h
theorem x_cmp {op : CmpOp} {r : R2} {g : Sl → Mm → Ar → Ar → Rs Ar} (ho : OpR X (compareOp op) r) (hs : OpS X.K X.mg E r g) (ha : PX X E a fa) (hb : PX X E b fb) (hm : behindInMarks op b = false) : PX X E (.Compare a [op] [b] pos) (mBin g fa fb) :=
  PEi (pe_cmpR ho ha hb hm) fun _ _ _ h => bin_want hs h
theorem x_ix {r : R2} {g : Sl → Mm → Ar → Ar → Rs Ar} (hr : IxR X r) (hs : OpS X.K X.mg E r g) (ha : PX X E a fa) (hb : PX X E b fb) (hp : PlainIx b) : PX X E (.Subscript a b pos) (mBin g fa fb) :=
  PEi (pe_ix hr ha hb hp) fun _ _ _ h => bin_want hs h
end
end M3

set_option Elab.async false
set_option linter.all false
set_option autoImplicit false
set_option maxRecDepth 100000
set_option maxHeartbeats 2000000
/-! M3c: operators on data, tests. -/
namespace M3
open PySem L2 PySem.Spec PyProof.Rows

section
variable {K : PySem.W.Frag} {mg : Str → Option Value} {E : WX} {c : Cf} {ρ : Sl} {m : Mm} {σ : L2.St} {H : Hp} {T : Tm} {G : Hp} {μ : List Addr}

/-! ### ints -/
def gInt (C : Int → Int → Prop) [∀ i j, Decidable (C i j)] (g : Int → Int → Dv) : Sl → Mm → Ar → Ar → Rs Ar := fun _ m x y => match x, y with
  | .v (.int i), .v (.int j) => if C i j then .ok (.v (g i j)) m else .no
  | _, _ => .no
theorem opS_I {C : Int → Int → Prop} [∀ i j, Decidable (C i j)] {g : Int → Int → Dv} {gv : Int → Int → V} (hg : ∀ i j, vOf (g i j) = some (gv i j)) : OpS K mg E (rI C gv) (gInt C g) :=
  fun b ρ m σ H T G μ v u x y Q s r1 r2 w => by
    unfold gInt at w
    split at w
    · rename_i i j
      split at w
      · rename_i hc
        exact ⟨i, j, vOf_rep rfl r1, vOf_rep rfl r2, hc, Want.s w s (hg i j)⟩
      · exact w.elim
    · exact w.elim
def gInt0 (g : Int → Int → Dv) : Sl → Mm → Ar → Ar → Rs Ar := fun _ m x y => match x, y with
  | .v (.int i), .v (.int j) => .ok (.v (g i j)) m
  | _, _ => .no
theorem opS_I0 {g : Int → Int → Dv} {gv : Int → Int → V} (hg : ∀ i j, vOf (g i j) = some (gv i j)) : OpS K mg E (rI0 gv) (gInt0 g) :=
  fun b ρ m σ H T G μ v u x y Q s r1 r2 w => by
    unfold gInt0 at w
    split at w
    · rename_i i j
      exact ⟨i, j, vOf_rep rfl r1, vOf_rep rfl r2, Want.s w s (hg i j)⟩
    · exact w.elim
def gUn (g : Int → Dv) : Sl → Mm → Ar → Rs Ar := fun _ m x => match x with
  | .v (.int i) => .ok (.v (g i)) m
  | _ => .no
theorem unS_I {g : Int → Dv} {gv : Int → V} (hg : ∀ i, vOf (g i) = some (gv i)) : UnS K mg E (rU gv) (gUn g) :=
  fun b ρ m σ H T G μ v x Q s r1 w => by
    unfold gUn at w
    split at w
    · rename_i i
      exact ⟨i, vOf_rep rfl r1, Want.s w s (hg i)⟩
    · exact w.elim
instance : ∀ i j, Decidable (CDivW i j) := fun i j => by unfold CDivW; infer_instance
instance : ∀ i j, Decidable (CMulW i j) := fun i j => by unfold CMulW; infer_instance
instance : ∀ i j, Decidable (CPow i j) := fun i j => by unfold CPow; infer_instance
instance : ∀ i j, Decidable (CMul i j) := fun i j => by unfold CMul; infer_instance
/-- one factor of at most 64 bits, or both together less than a million bits -/
def CMulX (i j : Int) : Prop := CMulW i j ∨ CMul i j
instance : ∀ i j, Decidable (CMulX i j) := fun i j => by unfold CMulX; infer_instance
theorem op_mulX {X : Cx} : OpR X (binaryOp .Mult) (rI CMulX fun i j => .int (i * j)) := opI fun _ _ _ _ _ _ _ hc q => mul_int q (hc.elim (fun h => h.ok) (fun h => h.ok))
abbrev gSub := gInt0 fun i j => .int (i - j)
abbrev gFdiv := gInt CDivW fun i j => .int (i / j)
abbrev gMod := gInt (fun _ j => 0 < j) fun i j => .int (i % j)
abbrev gPow := gInt CPow fun i j => .int (i ^ j.toNat)
abbrev gAndI := gInt0 fun i j => .int (Builtin.bitAnd i j)
abbrev gOrI := gInt0 fun i j => .int (Builtin.bitOr i j)
abbrev gLt := gInt0 fun i j => .bl (decide (i < j))
abbrev gLe := gInt0 fun i j => .bl (decide (i ≤ j))
abbrev gGt := gInt0 fun i j => .bl (decide (j < i))
abbrev gGe := gInt0 fun i j => .bl (decide (j ≤ i))
abbrev gNeg := gUn fun i => .int (-i)

/-! ### a + b -/
def tupOfT : Ar → Option (List Dv)
  | .v (.tup ds) => some ds
  | _ => none
theorem tupOfT_tup {x : Ar} {ds : List Dv} (h : tupOfT x = some ds) : tupOf x = some ds := by
  unfold tupOfT at h
  split at h
  · exact h
  · cases h
def gAdd : Sl → Mm → Ar → Ar → Rs Ar := fun ρ m x y => match x, y with
  | .v (.int i), .v (.int j) => .ok (.v (.int (i + j))) m
  | .v (.str i), .v (.str j) => if i.length + j.length ≤ sizeLine then .ok (.v (.str (i ++ j))) m else .no
  | x, y => match lstOf ρ m x, lstOf ρ m y with
    | some xs, some ys => if xs.length + ys.length ≤ sizeLine then .ok (.v (.lst (xs ++ ys))) m else .no
    | _, _ => match tupOfT x, tupOf y with
      | some xs, some ys => if xs.isEmpty = false ∧ xs.length + ys.length ≤ sizeLine then .ok (.v (.tup (xs ++ ys))) m else .no
      | _, _ => .no
def rAddU (K : PySem.W.Frag) : R2 := fun x y H Q => (rI0 fun i j => .int (i + j)) x y H Q ∨ (fun x y H Q => ∃ i j, x = .str i ∧ y = .str j ∧ i.length + j.length ≤ sizeLine ∧ Q (.str (i ++ j)) H) x y H Q ∨ rCat x y H Q ∨ rCatT K x y H Q
theorem op_addU {X : Cx} : OpR X (binaryOp .Add) (rAddU X.K) := OpR.or op_add (OpR.or op_add_str (OpR.or op_cat op_catT))
theorem opS_add : OpS K mg E (rAddU K) gAdd := fun b ρ m σ H T G μ v u x y Q s r1 r2 w => by
  unfold gAdd at w
  split at w
  · exact .inl ⟨_, _, vOf_rep rfl r1, vOf_rep rfl r2, Want.s w s rfl⟩
  · split at w
    · rename_i z
      exact .inr (.inl ⟨_, _, vOf_rep rfl r1, vOf_rep rfl r2, z, Want.s w s rfl⟩)
    · exact w.elim
  · split at w
    · rename_i xs ys hx hy
      split at w
      · rename_i z
        obtain ⟨a, vs, rfl, ha, ra⟩ := lst_at s r1 hx
        obtain ⟨b', ws, rfl, hb, rb⟩ := lst_at s r2 hy
        have z' : vs.length + ws.length ≤ sizeLine := by rw [← ra.length, ← rb.length]; exact z
        exact .inr (.inr (.inl ⟨a, b', vs, ws, rfl, rfl, ha, hb, z', fun p hp => w.v (s.newL (rb.app ra) (by rw [List.length_append]; exact z) hp)⟩))
      · exact w.elim
    · split at w
      · rename_i xs ys hx hy
        split at w
        · rename_i z
          obtain ⟨a, vs, rfl, ha, ra⟩ := tup_at s r1 (tupOfT_tup hx)
          obtain ⟨b', ws, rfl, hb, rb⟩ := tup_at s r2 hy
          have z' : vs.length + ws.length ≤ sizeLine := by rw [← ra.length, ← rb.length]; exact z.2
          refine .inr (.inr (.inr ⟨a, b', vs, ws, rfl, rfl, ha, hb, ?_, z', fun e => ?_, fun e p hp => w.v (s.newT (rb.app ra) (by rw [List.length_append]; exact z.2) hp)⟩))
          · intro e; subst e
            have := ra.length
            have z1 := z.1
            cases xs with
            | nil => simp at z1
            | cons _ _ => simp at this
          · subst e
            have := rb.length
            cases ys with
            | cons _ _ => simp at this
            | nil =>
              rw [List.append_nil] at w
              cases x with
              | b i => unfold tupOfT at hx; simp at hx
              | v d =>
                cases d <;> simp [tupOfT] at hx
                subst hx
                exact w.v ⟨G, μ, s.push r1⟩
        · exact w.elim
      · exact w.elim

/-! ### a * b -/
def gMul : Sl → Mm → Ar → Ar → Rs Ar := fun ρ m x y => match x, y with
  | .v (.int i), .v (.int j) => if CMulX i j then .ok (.v (.int (i * j))) m else .no
  | x, .v (.int k) => match lstOf ρ m x with
    | some xs => if -(2 ^ 63) ≤ k ∧ k < 2 ^ 63 ∧ xs.length * k.toNat ≤ sizeLine then .ok (.v (.lst (List.replicate k.toNat xs).flatten)) m else .no
    | none => .no
  | _, _ => .no
theorem repL_rep {xs : List Dv} {vs : List V} (r : RepL K mg μ G xs vs) : ∀ n : Nat, RepL K mg μ G (List.replicate n xs).flatten (List.replicate n vs).flatten
  | 0 => .nil
  | n + 1 => by rw [List.replicate_succ, List.replicate_succ, List.flatten_cons, List.flatten_cons]; exact (repL_rep r n).app r
theorem flat_len {α : Type} (xs : List α) : ∀ n : Nat, (List.replicate n xs).flatten.length = xs.length * n
  | 0 => rfl
  | n + 1 => by rw [List.replicate_succ, List.flatten_cons, List.length_append, flat_len xs n, Nat.mul_succ, Nat.add_comm]
theorem opS_mul : OpS K mg E (fun x y H Q => (rI CMulX fun i j => .int (i * j)) x y H Q ∨ rRep x y H Q) gMul := fun b ρ m σ H T G μ v u x y Q s r1 r2 w => by
  unfold gMul at w
  split at w
  · split at w
    · rename_i z
      exact .inl ⟨_, _, vOf_rep rfl r1, vOf_rep rfl r2, z, Want.s w s rfl⟩
    · exact w.elim
  · split at w
    · rename_i xs hx
      split at w
      · rename_i z
        obtain ⟨a, vs, rfl, ha, ra⟩ := lst_at s r1 hx
        refine .inr ⟨a, _, vs, rfl, vOf_rep rfl r2, ha, z.1, z.2.1, by rw [← ra.length]; exact z.2.2, fun p hp => w.v (s.newL (repL_rep ra _) (by rw [flat_len]; exact z.2.2) hp)⟩
      · exact w.elim
    · exact w.elim
  · exact w.elim

/-! ### a == b -/
mutual
def toPy : Dv → Option PyData
  | .non => some .none
  | .bl b => some (.bool b)
  | .int i => some (.int i)
  | .str x => some (.str x)
  | .lst ds => (toPys ds).map .list
  | .tup ds => (toPys ds).map .tuple
  | .ktp ds => (toPys ds).map .tuple
  | _ => none
def toPys : List Dv → Option (List PyData)
  | [] => some []
  | d :: ds => match toPy d, toPys ds with
    | some p, some ps => some (p :: ps)
    | _, _ => none
end
mutual
theorem Rep.dp (st : Stands G H) : ∀ {d : Dv} {v : V} {p : PyData}, Rep K mg μ G d v → toPy d = some p → Dp K H v p
  | _, _, _, .non, e => by simp [toPy] at e; subst e; exact .non
  | _, _, _, .bl b, e => by simp [toPy] at e; subst e; exact .bl b
  | _, _, _, .int b, e => by simp [toPy] at e; subst e; exact .int b
  | _, _, _, .str b, e => by simp [toPy] at e; subst e; exact .str b
  | _, _, _, .ty b, e => by simp [toPy] at e
  | _, _, _, .lst h z r, e => by
    simp only [toPy, Option.map_eq_some_iff] at e
    obtain ⟨ps, e1, rfl⟩ := e
    exact .lst (SqL.of (st.l h)) (RepL.dp st r e1)
  | _, _, _, .scr h, e => by simp [toPy] at e
  | _, _, _, .tup h z r, e => by
    simp only [toPy, Option.map_eq_some_iff] at e
    obtain ⟨ps, e1, rfl⟩ := e
    exact .tup (SqT.of (st.t h)) (RepL.dp st r e1)
  | _, _, _, .ktp h r, e => by
    simp only [toPy, Option.map_eq_some_iff] at e
    obtain ⟨ps, e1, rfl⟩ := e
    exact .tup (st.tup h) (RepL.dp st r e1)
  | _, _, _, .dct h z r, e => by simp [toPy] at e
  | _, _, _, .dcT h z r, e => by simp [toPy] at e
  | _, _, _, .lck h r, e => by simp [toPy] at e
  | _, _, _, .lckT h r, e => by simp [toPy] at e
  | _, _, _, .ins a h r, e => by simp [toPy] at e
  | _, _, _, .loc a, e => by simp [toPy] at e
  | _, _, _, .glb a h, e => by simp [toPy] at e
theorem RepL.dp (st : Stands G H) : ∀ {d : List Dv} {v : List V} {p : List PyData}, RepL K mg μ G d v → toPys d = some p → DpAll K H v p
  | _, _, _, .nil, e => by simp [toPys] at e; subst e; exact .nil
  | _, _, _, .cons a b, e => by
    simp only [toPys] at e
    split at e
    · rename_i h1 h2
      cases e
      exact .cons (Rep.dp st a h1) (RepL.dp st b h2)
    · cases e
end
/-- the data at an operand -/
def pyOf (ρ : Sl) (m : Mm) (x : Ar) : Option PyData := match x with
  | .v (.loc n) => match lstOf ρ m (.v (.loc n)) with
    | some ds => (toPys ds).map .list
    | none => none
  | .v d => toPy d
  | .b i => match lstOf ρ m (.b i) with
    | some ds => (toPys ds).map .list
    | none => none
theorem py_at (s : St3 c ρ m σ H T G μ) {x : Ar} {v : V} {p : PyData} (r : ArAt c.K c.mg μ G σ v x) (e : pyOf ρ m x = some p) : Dp c.K H v p := by
  unfold pyOf at e
  split at e
  · split at e
    · rename_i h
      simp only [Option.map_eq_some_iff] at e
      obtain ⟨ps, e1, rfl⟩ := e
      obtain ⟨a, vs, rfl, ha, ra⟩ := lst_at s r h
      exact .lst (SqL.of ha) (ra.dp s.mem.st e1)
    · cases e
  · exact Rep.dp s.mem.st r e
  · split at e
    · rename_i h
      simp only [Option.map_eq_some_iff] at e
      obtain ⟨ps, e1, rfl⟩ := e
      obtain ⟨a, vs, rfl, ha, ra⟩ := lst_at s r h
      exact .lst (SqL.of ha) (ra.dp s.mem.st e1)
    · cases e
def aV : Ar → Option V
  | .v d => vOf d
  | .b _ => none
theorem aV_at {x : Ar} {v w : V} (r : ArAt K mg μ G σ v x) (e : aV x = some w) : v = w := by
  cases x with
  | v d => exact vOf_rep e r
  | b i => cases e
/-- whether two operands are equal -/
def eqOf (ρ : Sl) (m : Mm) (x y : Ar) : Option Bool := match aV x, aV y with
  | some v, some w => if scal v w = true then some (decide (v = w)) else match pyOf ρ m x, pyOf ρ m y with
    | some p, some q => if SeqAt.shaped p = true ∧ SeqAt.shaped q = true then some (PyData.eqv p q) else none
    | _, _ => none
  | _, _ => match pyOf ρ m x, pyOf ρ m y with
    | some p, some q => if SeqAt.shaped p = true ∧ SeqAt.shaped q = true then some (PyData.eqv p q) else none
    | _, _ => none
def gEq : Sl → Mm → Ar → Ar → Rs Ar := fun ρ m x y => match eqOf ρ m x y with
  | some k => .ok (.v (.bl k)) m
  | none => .no
def gNe : Sl → Mm → Ar → Ar → Rs Ar := fun ρ m x y => match eqOf ρ m x y with
  | some k => .ok (.v (.bl (!k))) m
  | none => .no
theorem eq_at (s : St3 c ρ m σ H T G μ) {x y : Ar} {v u : V} {k : Bool} (r1 : ArAt c.K c.mg μ G σ v x) (r2 : ArAt c.K c.mg μ G σ u y) (e : eqOf ρ m x y = some k) :
    (scal v u = true ∧ k = decide (v = u)) ∨ ∃ p q, Dp c.K H v p ∧ Dp c.K H u q ∧ SeqAt.shaped p = true ∧ SeqAt.shaped q = true ∧ k = PyData.eqv p q := by
  have key : ∀ {k : Bool}, (match pyOf ρ m x, pyOf ρ m y with
    | some p, some q => if SeqAt.shaped p = true ∧ SeqAt.shaped q = true then some (PyData.eqv p q) else none
    | _, _ => none) = some k → ∃ p q, Dp c.K H v p ∧ Dp c.K H u q ∧ SeqAt.shaped p = true ∧ SeqAt.shaped q = true ∧ k = PyData.eqv p q := by
    intro k e
    split at e
    · rename_i h1 h2
      split at e
      · rename_i z
        cases e
        exact ⟨_, _, py_at s r1 h1, py_at s r2 h2, z.1, z.2, rfl⟩
      · cases e
    · cases e
  unfold eqOf at e
  split at e
  · rename_i h1 h2
    split at e
    · rename_i z
      cases e
      rw [aV_at r1 h1, aV_at r2 h2]
      exact .inl ⟨z, rfl⟩
    · exact .inr (key e)
  · exact .inr (key e)
theorem opS_eq : OpS K mg E (fun x y H Q => rEq x y H Q ∨ rEqD K x y H Q) gEq := fun b ρ m σ H T G μ v u x y Q s r1 r2 w => by
  unfold gEq at w
  split at w
  · rename_i k e
    rcases eq_at s r1 r2 e with ⟨z, rfl⟩ | ⟨p, q, h1, h2, h3, h4, rfl⟩
    · exact .inl ⟨z, Want.s w s rfl⟩
    · exact .inr ⟨p, q, h1, h2, h3, h4, Want.s w s rfl⟩
  · exact w.elim
theorem opS_ne : OpS K mg E (fun x y H Q => rNe x y H Q ∨ rNeD K x y H Q) gNe := fun b ρ m σ H T G μ v u x y Q s r1 r2 w => by
  unfold gNe at w
  split at w
  · rename_i k e
    rcases eq_at s r1 r2 e with ⟨z, rfl⟩ | ⟨p, q, h1, h2, h3, h4, rfl⟩
    · exact .inl ⟨z, Want.s w s rfl⟩
    · exact .inr ⟨p, q, h1, h2, h3, h4, Want.s w s rfl⟩
  · exact w.elim

/-! ### x is None -/
def isN : Ar → Option Bool
  | .v .non => some true
  | .v (.glb _) => none
  | .v _ => some false
  | .b _ => none
theorem isN_at {x : Ar} {v : V} {k : Bool} (r : ArAt K mg μ G σ v x) (e : isN x = some k) : decide (v = .non) = k := by
  cases x with
  | b i => cases e
  | v d =>
    have r : Rep K mg μ G d v := r
    cases r <;> first | (cases e; rfl) | cases e
def gIsN (neg : Bool) : Sl → Mm → Ar → Ar → Rs Ar := fun _ m x y => match y, isN x with
  | .v .non, some k => .ok (.v (.bl (if neg = true then !k else k))) m
  | _, _ => .no
theorem opS_isN : OpS K mg E (fun x y H Q => y = .non ∧ Q (.bl (decide (x = .non))) H) (gIsN false) := fun b ρ m σ H T G μ v u x y Q s r1 r2 w => by
  unfold gIsN at w
  split at w
  · rename_i k e
    exact ⟨vOf_rep rfl r2, Want.s w s (by rw [isN_at r1 e]; rfl)⟩
  · exact w.elim
theorem opS_notN : OpS K mg E (fun x y H Q => y = .non ∧ Q (.bl (!decide (x = .non))) H) (gIsN true) := fun b ρ m σ H T G μ v u x y Q s r1 r2 w => by
  unfold gIsN at w
  split at w
  · rename_i k e
    exact ⟨vOf_rep rfl r2, Want.s w s (by rw [isN_at r1 e]; rfl)⟩
  · exact w.elim

/-! ### dicts read -/
def dget {κ : Type} [DecidableEq κ] (kvs : List (κ × Dv)) (k : κ) : Option Dv := (kvs.find? fun kv => decide (kv.1 = k)).map (·.2)
theorem dget_cons {κ : Type} [DecidableEq κ] (p : κ × Dv) (r : List (κ × Dv)) (k : κ) : dget (p :: r) k = if p.1 = k then some p.2 else dget r k := by
  by_cases h : p.1 = k <;> simp [dget, List.find?_cons, h]
theorem repK_get {κ : Type} [DecidableEq κ] {kvs : List (κ × Dv)} : ∀ {ws : List (κ × V)} (k : κ), RepK K mg μ G kvs ws → (∀ d, dget kvs k = some d → ∃ v, valV ws k = some v ∧ Rep K mg μ G d v) ∧ (dget kvs k = none → valV ws k = none) := by
  induction kvs with
  | nil => intro ws k h; cases h; exact ⟨fun d e => by simp [dget] at e, fun _ => rfl⟩
  | cons p r ih =>
    intro ws k h
    cases h with
    | @cons _ k' d v _ vs a b =>
      rw [dget_cons]
      by_cases e : k' = k
      · rw [valV_pos (p := (k', v)) e]
        simp only [e, if_true]
        exact ⟨fun d' z => by cases z; exact ⟨v, rfl, a⟩, fun z => by cases z⟩
      · rw [valV_neg (p := (k', v)) e]
        simp only [e, if_false]
        exact ih k b
def keyD : Dv → Option Key
  | .int i => some (.inl i)
  | .str x => some (.inr x)
  | _ => none
def keyOf : Ar → Option Key
  | .v d => keyD d
  | .b _ => none
def keyDs : List Dv → Option (List Key)
  | [] => some []
  | d :: ds => match keyD d, keyDs ds with
    | some k, some ks => some (k :: ks)
    | _, _ => none
def tkeyOf : Ar → Option (List Key)
  | .v (.tup ds) => keyDs ds
  | _ => none
theorem keyD_rep {d : Dv} {v : V} {k : Key} (r : Rep K mg μ G d v) (e : keyD d = some k) : v = kV k := by
  cases r <;> simp [keyD] at e <;> subst e <;> rfl
theorem keyDs_rep {ds : List Dv} : ∀ {vs : List V} {ks : List Key}, RepL K mg μ G ds vs → keyDs ds = some ks → vs = ks.map kV := by
  induction ds with
  | nil => intro vs ks r e; cases r; simp [keyDs] at e; subst e; rfl
  | cons d ds ih =>
    intro vs ks r e
    cases r with
    | cons a b =>
      simp only [keyDs] at e
      split at e
      · rename_i h1 h2
        cases e
        rw [keyD_rep a h1, ih b h2]; rfl
      · cases e
/-- what a dict holds: its pairs by ints and texts | by tuples -/
def dctOf (ρ : Sl) (m : Mm) : Ar → Option (List (Key × Dv))
  | .v (.dct kvs) => some kvs
  | .v (.loc n) => match m[n]? with
    | some (some (.dct kvs)) => some kvs
    | _ => none
  | .b i => match ρ[i]? with
    | some (.own (.dct kvs)) => some kvs
    | _ => none
  | _ => none
def dcTOf (ρ : Sl) (m : Mm) : Ar → Option (List (List Key × Dv))
  | .v (.dcT kvs) => some kvs
  | .v (.loc n) => match m[n]? with
    | some (some (.dcT kvs)) => some kvs
    | _ => none
  | .b i => match ρ[i]? with
    | some (.own (.dcT kvs)) => some kvs
    | _ => none
  | _ => none
theorem dct_at (s : St3 c ρ m σ H T G μ) {x : Ar} {v : V} {kvs : List (Key × Dv)} (r : ArAt c.K c.mg μ G σ v x) (e : dctOf ρ m x = some kvs) : ∃ a ws, v = .ref a ∧ Rd H a (.dK ws) ∧ RepK c.K c.mg μ G kvs ws := by
  unfold dctOf at e
  split at e
  · cases e
    cases r with
    | dct h z r => exact ⟨_, _, rfl, s.mem.st.rdD h, r⟩
  · split at e
    · rename_i h
      cases e
      cases r with
      | loc hm =>
        obtain ⟨a, e1, e2, vs, e3, e4⟩ := s.mem.ob _ _ h
        rw [hm] at e1; cases e1
        exact ⟨_, _, rfl, .inl e3, e4⟩
    · cases e
  · split at e
    · rename_i h
      cases e
      obtain ⟨a, q, ⟨vs, e3, e4⟩, _⟩ := s.ownAt h
      have r : σ[_]? = some (some v) := r
      rw [q] at r; cases r
      exact ⟨a, vs, rfl, .inl e3, e4⟩
    · cases e
  · cases e
theorem dcT_at (s : St3 c ρ m σ H T G μ) {x : Ar} {v : V} {kvs : List (List Key × Dv)} (r : ArAt c.K c.mg μ G σ v x) (e : dcTOf ρ m x = some kvs) : ∃ a ws, v = .ref a ∧ Rd H a (.dT ws) ∧ RepK c.K c.mg μ G kvs ws := by
  unfold dcTOf at e
  split at e
  · cases e
    cases r with
    | dcT h z r => exact ⟨_, _, rfl, s.mem.st.rdD h, r⟩
  · split at e
    · rename_i h
      cases e
      cases r with
      | loc hm =>
        obtain ⟨a, e1, e2, vs, e3, e4⟩ := s.mem.ob _ _ h
        rw [hm] at e1; cases e1
        exact ⟨_, _, rfl, .inl e3, e4⟩
    · cases e
  · split at e
    · rename_i h
      cases e
      obtain ⟨a, q, ⟨vs, e3, e4⟩, _⟩ := s.ownAt h
      have r : σ[_]? = some (some v) := r
      rw [q] at r; cases r
      exact ⟨a, vs, rfl, .inl e3, e4⟩
    · cases e
  · cases e
/-- what a dict holds at a key: none: no dict, or no key of its kind -/
def dlook (ρ : Sl) (m : Mm) (x y : Ar) : Option (Option Dv) := match dctOf ρ m x, keyOf y with
  | some kvs, some k => some (dget kvs k)
  | _, _ => match dcTOf ρ m x, tkeyOf y with
    | some kvs, some k => some (dget kvs k)
    | _, _ => none
theorem dlook_at (s : St3 c ρ m σ H T G μ) {x y : Ar} {v u : V} {o : Option Dv} (r1 : ArAt c.K c.mg μ G σ v x) (r2 : ArAt c.K c.mg μ G σ u y) (e : dlook ρ m x y = some o) :
    ∃ a r, v = .ref a ∧ DGet H a u r ∧ (∀ d, o = some d → ∃ w, r = some w ∧ Rep c.K c.mg μ G d w) ∧ (o = none → r = none) := by
  unfold dlook at e
  split at e
  · rename_i kvs k h1 h2
    cases e
    obtain ⟨a, ws, rfl, ha, ra⟩ := dct_at s r1 h1
    cases y with
    | b i => cases h2
    | v d =>
      have hu := keyD_rep (k := k) r2 h2
      exact ⟨a, valV ws k, rfl, .inl ⟨ws, k, ha, hu, rfl⟩, (repK_get k ra).1, (repK_get k ra).2⟩
  · split at e
    · rename_i kvs k h1 h2
      cases e
      obtain ⟨a, ws, rfl, ha, ra⟩ := dcT_at s r1 h1
      cases y with
      | b i => cases h2
      | v d =>
        have r2 : Rep c.K c.mg μ G d u := r2
        cases r2 with
        | tup h z rr =>
          have hk := keyDs_rep rr h2
          subst hk
          exact ⟨a, valV ws k, rfl, .inr ⟨ws, k, _, ha, rfl, s.mem.st.t h, rfl⟩, (repK_get k ra).1, (repK_get k ra).2⟩
        | _ => cases h2
    · cases e

/-! ### x in y -/
def vOfs : List Dv → Option (List V)
  | [] => some []
  | d :: ds => match vOf d, vOfs ds with
    | some v, some vs => some (v :: vs)
    | _, _ => none
theorem vOfs_rep {ds : List Dv} : ∀ {vs ws : List V}, vOfs ds = some vs → RepL K mg μ G ds ws → ws = vs := by
  induction ds with
  | nil => intro vs ws e r; cases r; simp [vOfs] at e; subst e; rfl
  | cons d ds ih =>
    intro vs ws e r
    cases r with
    | cons a b =>
      simp only [vOfs] at e
      split at e
      · rename_i h1 h2
        cases e
        rw [vOf_rep h1 a, ih h2 b]
      · cases e
def inOf (ρ : Sl) (m : Mm) (x y : Ar) : Option Bool := match dlook ρ m y x with
  | some o => some o.isSome
  | none => match aV x, (seqOf ρ m y).bind vOfs with
    | some v, some vs => if flatV v = true ∧ vs.all flatV = true then some (inV v vs) else none
    | _, _ => match pyOf ρ m x, (lstOf ρ m y).bind toPys with
      | some p, some ps => if SeqAt.shaped p = true ∧ SeqAt.shaped (.list ps) = true then some (ps.any fun z => PyData.eqv z p) else none
      | _, _ => none
def gIn (neg : Bool) : Sl → Mm → Ar → Ar → Rs Ar := fun ρ m x y => match inOf ρ m x y with
  | some k => .ok (.v (.bl (if neg = true then !k else k))) m
  | none => .no
theorem pys_lst (s : St3 c ρ m σ H T G μ) {x : Ar} {v : V} {ps : List PyData} (r : ArAt c.K c.mg μ G σ v x) (e : (lstOf ρ m x).bind toPys = some ps) : Dp c.K H v (.list ps) := by
  obtain ⟨ds, h1, h2⟩ := Option.bind_eq_some_iff.mp e
  obtain ⟨a, vs, rfl, ha, ra⟩ := lst_at s r h1
  exact .lst (SqL.of ha) (ra.dp s.mem.st h2)
def rInU (K : PySem.W.Frag) : R2 := fun x y H Q => (∃ a o, y = .ref a ∧ DGet H a x o ∧ Q (.bl o.isSome) H) ∨ rIn K false x y H Q ∨ rInD K x y H Q
def rNotInU (K : PySem.W.Frag) : R2 := fun x y H Q => (∃ a o, y = .ref a ∧ DGet H a x o ∧ Q (.bl (!o.isSome)) H) ∨ rIn K true x y H Q ∨ rNotInD K x y H Q
theorem op_inU {X : Cx} (hu : X.A.units + 65 < cLine) : OpR X (compareOp .In) (rInU X.K) :=
  OpR.or (fun pins s σ H x y v u Q I rx ry ⟨a, o, e, g, q⟩ => by
    subst e; obtain rfl : u = Value.ref a := ry
    exact d_in (by omega) I g rx fun s' I' => ⟨.bl o.isSome, H, I', rfl, q⟩) (OpR.or op_in_seq (op_inD hu))
theorem op_notInU {X : Cx} (hu : X.A.units + 65 < cLine) : OpR X (compareOp .NotIn) (rNotInU X.K) :=
  OpR.or (fun pins s σ H x y v u Q I rx ry ⟨a, o, e, g, q⟩ => by
    subst e; obtain rfl : u = Value.ref a := ry
    exact d_notIn (by omega) I g rx fun s' I' => ⟨.bl (!o.isSome), H, I', rfl, q⟩) (OpR.or op_notIn_seq (op_notInD hu))
theorem in_at (s : St3 c ρ m σ H T G μ) {x y : Ar} {v u : V} {k : Bool} (r1 : ArAt c.K c.mg μ G σ v x) (r2 : ArAt c.K c.mg μ G σ u y) (e : inOf ρ m x y = some k) :
    (∃ a o, u = .ref a ∧ DGet H a v o ∧ o.isSome = k) ∨ (∃ p xs, u = .ref p ∧ (SqL c.K H p xs ∨ SqT c.K H p xs) ∧ flatV v = true ∧ xs.all flatV = true ∧ inV v xs = k) ∨
    ∃ d ds, Dp c.K H v d ∧ Dp c.K H u (.list ds) ∧ SeqAt.shaped d = true ∧ SeqAt.shaped (.list ds) = true ∧ (ds.any fun z => PyData.eqv z d) = k := by
  unfold inOf at e
  split at e
  · rename_i o h
    cases e
    obtain ⟨a, r, rfl, g, h1, h2⟩ := dlook_at s r2 r1 h
    refine .inl ⟨a, r, rfl, g, ?_⟩
    cases o with
    | none => rw [h2 rfl]; rfl
    | some d => obtain ⟨w, e, _⟩ := h1 d rfl; rw [e]; rfl
  · split at e
    · rename_i w vs h1 h2
      split at e
      · rename_i z
        cases e
        obtain ⟨ds, h3, h4⟩ := Option.bind_eq_some_iff.mp h2
        obtain ⟨a, ws, rfl, ha, ra⟩ := seq_at s r2 h3
        have e1 := aV_at r1 h1
        have e2 := vOfs_rep h4 ra
        subst e1; subst e2
        exact .inr (.inl ⟨a, ws, rfl, ha, z.1, z.2, rfl⟩)
      · cases e
    · split at e
      · rename_i p ps h1 h2
        split at e
        · rename_i z
          cases e
          exact .inr (.inr ⟨p, ps, py_at s r1 h1, pys_lst s r2 h2, z.1, z.2, rfl⟩)
        · cases e
      · cases e
theorem opS_in : OpS K mg E (rInU K) (gIn false) := fun b ρ m σ H T G μ v u x y Q s r1 r2 w => by
  unfold gIn at w
  split at w
  · rename_i k e
    rcases in_at s r1 r2 e with ⟨a, o, e1, g, rfl⟩ | ⟨p, xs, e1, h1, h2, h3, rfl⟩ | ⟨d, ds, h1, h2, h3, h4, rfl⟩
    · exact .inl ⟨a, o, e1, g, Want.s w s rfl⟩
    · exact .inr (.inl ⟨p, xs, e1, h1, h2, h3, Want.s w s rfl⟩)
    · exact .inr (.inr ⟨d, ds, h1, h2, h3, h4, Want.s w s rfl⟩)
  · exact w.elim
theorem opS_notIn : OpS K mg E (rNotInU K) (gIn true) := fun b ρ m σ H T G μ v u x y Q s r1 r2 w => by
  unfold gIn at w
  split at w
  · rename_i k e
    rcases in_at s r1 r2 e with ⟨a, o, e1, g, rfl⟩ | ⟨p, xs, e1, h1, h2, h3, rfl⟩ | ⟨d, ds, h1, h2, h3, h4, rfl⟩
    · exact .inl ⟨a, o, e1, g, Want.s w s rfl⟩
    · exact .inr (.inl ⟨p, xs, e1, h1, h2, h3, Want.s w s rfl⟩)
    · exact .inr (.inr ⟨d, ds, h1, h2, h3, h4, Want.s w s rfl⟩)
  · exact w.elim

/-! ### x[i] -/
def gIx : Sl → Mm → Ar → Ar → Rs Ar := fun ρ m x y => match dlook ρ m x y with
  | some (some d) => .ok (.v d) m
  | some none => .no
  | none => match y with
    | .v (.int i) => match seqOf ρ m x with
      | some ds => match atI ds i with
        | some d => .ok (.v d) m
        | none => .no
      | none => match x with
        | .v (.str z) => if z.length ≤ sizeLine then match atI z.cps.toList i with
          | some k => .ok (.v (.str ⟨#[k]⟩)) m
          | none => .no
          else .no
        | _ => .no
    | _ => .no
theorem ix_dct {X : Cx} (hu : X.A.units + 1 < cLine) : IxR X (fun x y H Q => ∃ a v, x = .ref a ∧ DGet H a y (some v) ∧ Q v H) := by
  intro value slice pins s σ H x y v u Q I rx ry h hs
  obtain ⟨a, z, rfl, g, q⟩ := h
  obtain rfl : v = Value.ref a := rx
  have hT := dict_typeIs I g
  unfold subscriptTail
  refine wpAny_bind ?_
  rw [getitemInPython_of_ne hT.not_modules]
  refine wpAny_bind (wpAny_specialOf hT PySem.F.slot_dict_getitem.lookup ?_)
  have fin : wpAny (model X.prog X.w) X.A (subscripted slice false (.ref a) u) (fun r s₃ => wpAny (model X.prog X.w) X.A (letTemporaryGo value (.ref a) r >>= fun _ => pure r) (EP X pins σ Q) X.xe s₃) X.xe s := by
    rw [hs]
    exact wpAny_operating (wpAny_mono (d_getItem hu I g ry (Q := fun r s' => EP X pins σ Q r s') fun w' s' I' r' => ⟨z, H, I', r', q⟩) (fun r s₃ h₃ => wpAny_bind (wpAny_letTemporaryGo (wpAny_pure h₃))) fun _ _ x => x)
  first
    | exact wpAny_pure (wpAny_bind fin)
    | exact wpAny_bind (wpAny_pure (wpAny_bind fin))
    | exact wpAny_bind fin
def rIxU (K : PySem.W.Frag) : R2 := fun x y H Q => (∃ a v, x = .ref a ∧ DGet H a y (some v) ∧ Q v H) ∨ rIx K x y H Q
theorem ix_U {X : Cx} (hu : X.A.units + 1 < cLine) : IxR X (rIxU X.K) := (ix_dct hu).or ix_seq
theorem repL_atI {ds : List Dv} {vs : List V} {i : Int} {d : Dv} (r : RepL K mg μ G ds vs) (e : atI ds i = some d) : ∃ v, atI vs i = some v ∧ Rep K mg μ G d v := by
  unfold atI at e ⊢
  rw [← r.length]
  obtain ⟨j, h1, h2⟩ := Option.bind_eq_some_iff.mp e
  rw [h1]
  exact r.get h2
theorem opS_ix : OpS K mg E (rIxU K) gIx := fun b ρ m σ H T G μ v u x y Q s r1 r2 w => by
  unfold gIx at w
  split at w
  · rename_i d h
    obtain ⟨a, r, rfl, g, h1, h2⟩ := dlook_at s r1 r2 h
    obtain ⟨z, rfl, rz⟩ := h1 _ rfl
    exact .inl ⟨a, z, rfl, g, w.v ⟨G, μ, s.push rz⟩⟩
  · exact w.elim
  · split at w
    · rename_i i _
      have hu : u = .int i := vOf_rep rfl r2
      split at w
      · rename_i ds h
        split at w
        · rename_i d e
          obtain ⟨a, vs, rfl, ha, ra⟩ := seq_at s r1 h
          obtain ⟨z, ez, rz⟩ := repL_atI ra e
          rcases ha with ha | ha
          · exact .inr (.inl ⟨a, vs, i, z, rfl, hu, ha, ez, w.v ⟨G, μ, s.push rz⟩⟩)
          · exact .inr (.inr (.inl ⟨a, vs, i, z, rfl, hu, ha, ez, w.v ⟨G, μ, s.push rz⟩⟩))
        · exact w.elim
      · split at w
        · rename_i z _ _
          split at w
          · rename_i hz
            split at w
            · rename_i k e
              exact .inr (.inr (.inr ⟨z, i, k, vOf_rep rfl r1, hu, hz, e, Want.s w s rfl⟩))
            · exact w.elim
          · exact w.elim
        · exact w.elim
    · exact w.elim
end
end M3

set_option Elab.async false
set_option linter.all false
set_option autoImplicit false
set_option maxRecDepth 100000
set_option maxHeartbeats 2000000
/-! M3d: tests, fields, displays, calls of what is built in. -/
namespace M3
open PySem L2 PySem.Spec PyProof.Rows

section
variable {K : PySem.W.Frag} {mg : Str → Option Value} {E : WX} {c : Cf} {ρ : Sl} {m : Mm} {σ : L2.St} {H : Hp} {T : Tm} {G : Hp} {μ : List Addr}

/-! ### truth -/
def truOf (ρ : Sl) (m : Mm) (x : Ar) : Option Bool := match x with
  | .v .non => some false
  | .v (.bl b) => some b
  | .v (.int i) => some (i != 0)
  | .v (.str s) => if s.length ≤ sizeLine then some ((s.length : Int) != 0) else none
  | x => match seqOf ρ m x with
    | some ds => some (!ds.isEmpty)
    | none => none
theorem isEmpty_of {ds : List Dv} {vs : List V} (r : RepL K mg μ G ds vs) : ds.isEmpty = vs.isEmpty := by cases r <;> rfl
theorem tru_at (s : St3 c ρ m σ H T G μ) {x : Ar} {v : V} {k : Bool} (r : ArAt c.K c.mg μ G σ v x) (e : truOf ρ m x = some k) : TruV c.K v H k := by
  unfold truOf at e
  split at e
  · cases e; cases r; rfl
  · cases e; cases r; rfl
  · cases e; cases r; rfl
  · split at e
    · cases e; cases r; exact ⟨by assumption, rfl⟩
    · cases e
  · split at e
    · rename_i h
      cases e
      obtain ⟨a, vs, rfl, ha, ra⟩ := seq_at s r h
      rw [isEmpty_of ra]
      rcases ha with ha | ha
      · exact .inl ⟨vs, ha, rfl⟩
      · exact .inr (.inl ⟨vs, ha, rfl⟩)
    · cases e
def mTru (f : ME) : MB := fun ρ m => (f ρ m).bind fun x m1 => match truOf ρ m1 x with
  | some k => .ok k m1
  | none => .no
/-- a test that is True or False -/
def mIsB (f : ME) : MB := fun ρ m => (f ρ m).bind fun x m1 => match x with
  | .v (.bl k) => .ok k m1
  | _ => .no
def mNot (f : MB) : MB := fun ρ m => (f ρ m).bind fun k m1 => .ok (!k) m1
def mAndB (f g : MB) : MB := fun ρ m => (f ρ m).bind fun k m1 => if k = true then g ρ m1 else .ok false m1
def mOrB (f g : MB) : MB := fun ρ m => (f ρ m).bind fun k m1 => if k = true then .ok true m1 else g ρ m1
def mAndV (f g : ME) : ME := fun ρ m => (f ρ m).bind fun x m1 => match truOf ρ m1 x with
  | some k => if k = true then g ρ m1 else .ok x m1
  | none => .no
def mOrV (f g : ME) : ME := fun ρ m => (f ρ m).bind fun x m1 => match truOf ρ m1 x with
  | some k => if k = true then .ok x m1 else g ρ m1
  | none => .no
def mNotV (f : ME) : ME := fun ρ m => (f ρ m).bind fun x m1 => match truOf ρ m1 x with
  | some k => .ok (.v (.bl (!k))) m1
  | none => .no
def mIf (t : MB) (f g : ME) : ME := fun ρ m => (t ρ m).bind fun k m1 => if k = true then f ρ m1 else g ρ m1
/-- a < b < c: g, g' hand on True or False -/
def mChain (g g' : Sl → Mm → Ar → Ar → Rs Ar) (fa fb fc : ME) : ME := fun ρ m => (fa ρ m).bind fun x m1 => (fb ρ m1).bind fun y m2 => (g ρ m2 x y).bind fun z m3 => match z with
  | .v (.bl k) => if k = true then (fc ρ m3).bind fun w m4 => g' ρ m4 y w else .ok (.v (.bl false)) m3
  | _ => .no
end

section
variable {X : Cx} {E : WX} {a b e : Expr} {fa fb fc : ME} {ta tb : MB} {pos : Pos} {rest : List Expr}
theorem b_tru (ha : PX X E a fa) (he : ∀ whole, isTrue a X.env whole = (do let v ← whole; standAt a.pos; holding [v] (truthy v))) : PB X E a (mTru fa) :=
  PTi (pt_truth ha he) fun σ H Q ⟨b, ρ, m, T, S, w⟩ => by
    refine ⟨b, ρ, m, T, S, ?_⟩
    unfold mTru at w
    revert w
    cases fa ρ m with
    | no => exact id
    | ex x m1 => exact id
    | ok x m1 =>
      intro w v H1 ⟨G, μ, s⟩ hb
      have w : WantB E (b.cf X.K X.mg) ρ σ T Q (match truOf ρ m1 x with | some k => .ok k m1 | none => .no) := w
      split at w
      · rename_i k e
        exact ⟨k, tru_at s (s.ar (S := T) hb) e, w H1 ⟨G, μ, s.pops⟩⟩
      · exact w.elim
theorem b_not (ha : PB X E a ta) : PB X E (.UnaryOp .Not a pos) (mNot ta) :=
  PTi (pt_not ha) fun σ H Q ⟨b, ρ, m, T, S, w⟩ => by
    refine ⟨b, ρ, m, T, S, ?_⟩
    unfold mNot at w
    revert w
    cases ta ρ m with
    | no => exact id
    | ex x m1 => exact id
    | ok x m1 => exact id
theorem bw_one (ha : PB X E a ta) {op : BoolOp} : PBW X E (.BoolOp op [a] pos) ta := by
  cases op with
  | And => exact pw_and1 ha
  | Or => exact pw_or1 ha
theorem bw_and (ha : PB X E a ta) (hb : PBW X E (.BoolOp .And (b :: rest) pos) tb) : PBW X E (.BoolOp .And (a :: b :: rest) pos) (mAndB ta tb) :=
  PWi (pw_and ha hb) fun σ H Q ⟨b, ρ, m, T, S, w⟩ => by
    refine ⟨b, ρ, m, T, S, ?_⟩
    unfold mAndB at w
    revert w
    cases ta ρ m with
    | no => exact id
    | ex x m1 => exact id
    | ok k m1 =>
      intro w H1 S1
      have w : WantB E (b.cf X.K X.mg) ρ σ T Q (if k = true then tb ρ m1 else .ok false m1) := w
      by_cases hk : k = true
      · rw [if_pos hk] at w ⊢; exact ⟨b, ρ, m1, T, S1, w⟩
      · rw [if_neg hk] at w ⊢; exact w H1 S1
theorem bw_or (ha : PB X E a ta) (hb : PBW X E (.BoolOp .Or (b :: rest) pos) tb) : PBW X E (.BoolOp .Or (a :: b :: rest) pos) (mOrB ta tb) :=
  PWi (pw_or ha hb) fun σ H Q ⟨b, ρ, m, T, S, w⟩ => by
    refine ⟨b, ρ, m, T, S, ?_⟩
    unfold mOrB at w
    revert w
    cases ta ρ m with
    | no => exact id
    | ex x m1 => exact id
    | ok k m1 =>
      intro w H1 S1
      have w : WantB E (b.cf X.K X.mg) ρ σ T Q (if k = true then .ok true m1 else tb ρ m1) := w
      by_cases hk : k = true
      · rw [if_pos hk] at w ⊢; exact w H1 S1
      · rw [if_neg hk] at w ⊢; exact ⟨b, ρ, m1, T, S1, w⟩
theorem b_w (h : PBW X E e ta) : PB X E e ta := PW.pt h
theorem isB_want {K : PySem.W.Frag} {mg : Str → Option Value} {σ : L2.St} {H : Hp} {Q : Bool → Hp → Prop} (h : tbOf K mg E (mIsB fa) σ H Q) : tTest (tOf K mg E fa) σ H Q := by
  obtain ⟨b, ρ, m, T, S, w⟩ := h
  refine ⟨b, ρ, m, T, S, ?_⟩
  unfold mIsB at w
  revert w
  cases fa ρ m with
  | no => exact id
  | ex x m1 => exact id
  | ok x m1 =>
    intro w v H1 ⟨G, μ, s⟩ hb
    rw [Rs.bind_ok] at w
    split at w
    · rename_i k
      exact ⟨k, vOf_rep rfl s.top, w H1 ⟨G, μ, s.pops⟩⟩
    · exact w.elim
theorem b_cmp {op : CmpOp} {r : R2} {g : Sl → Mm → Ar → Ar → Rs Ar} (ho : OpR X (compareOp op) r) (hs : OpS X.K X.mg E r g) (ha : PX X E a fa) (hb : PX X E b fb) (hm : behindInMarks op b = false) : PB X E (.Compare a [op] [b] pos) (mIsB (mBin g fa fb)) :=
  PTi (pt_cmpR ho ha hb hm) fun σ H Q h => by
    have h' := isB_want h
    exact bin_want hs h'
theorem chain_want {K : PySem.W.Frag} {mg : Str → Option Value} {r r' : R2} {g g' : Sl → Mm → Ar → Ar → Rs Ar} (hs : OpS K mg E r g) (hs' : OpS K mg E r' g') {σ : L2.St} {H : Hp} {Q : VK} (h : tOf K mg E (mChain g g' fa fb fc) σ H Q) : tChain r r' (tOf K mg E fa) (tOf K mg E fb) (tOf K mg E fc) σ H Q := by
  obtain ⟨b, ρ, m, T, S, w⟩ := h
  refine ⟨b, ρ, m, T, S, ?_⟩
  unfold mChain at w
  revert w
  cases fa ρ m with
  | no => exact id
  | ex x m1 => exact id
  | ok x m1 =>
    intro w v H1 S1 hb1
    refine ⟨b, ρ, m1, tva v x ++ T, S1, ?_⟩
    have w : Want E (b.cf K mg) ρ σ T Q ((fb ρ m1).bind fun y m2 => (g ρ m2 x y).bind fun z m3 => match z with
      | .v (.bl k) => if k = true then (fc ρ m3).bind fun w m4 => g' ρ m4 y w else .ok (.v (.bl false)) m3
      | _ => .no) := w
    revert w
    cases fb ρ m1 with
    | no => exact id
    | ex x m2 => exact fun w => WantX.weak w
    | ok y m2 =>
      intro w u H2 ⟨G, μ, s⟩ hb2
      have r2 := s.ar (S := tva v x ++ T) hb2
      have r1 := s.pops.ar (S := T) hb1
      -- the state that keeps y
      refine hs b ρ m2 σ H2 (tva u y ++ T) G μ v u x y _ ?_ r1 r2 ?_
      · refine s.weak (fun p hp => ?_) ?_
        · rcases List.mem_append.mp hp with q | q
          · exact List.mem_append_left _ q
          · exact List.mem_append_right _ (List.mem_append_right _ q)
        · rw [List.filterMap_append, List.filterMap_append, List.filterMap_append]
          exact List.Sublist.append (List.Sublist.refl _) (List.sublist_append_right _ _)
      · have w : Want E (b.cf K mg) ρ σ T Q ((g ρ m2 x y).bind fun z m3 => match z with
          | .v (.bl k) => if k = true then (fc ρ m3).bind fun w m4 => g' ρ m4 y w else .ok (.v (.bl false)) m3
          | _ => .no) := w
        revert w
        cases g ρ m2 x y with
        | no => exact id
        | ex x m3 => exact fun w => WantX.weak w
        | ok z m3 =>
          intro w zv H3 ⟨G3, μ3, s3⟩ hb3
          rw [Rs.bind_ok] at w
          split at w
          · rename_i k
            refine ⟨k, vOf_rep rfl s3.top, ?_⟩
            by_cases hk : k = true
            · rw [if_pos hk] at w ⊢
              refine ⟨b, ρ, m3, tva u y ++ T, ⟨G3, μ3, s3.pops⟩, ?_⟩
              revert w
              cases fc ρ m3 with
              | no => exact id
              | ex x m4 => exact fun w => WantX.weak w
              | ok q m4 =>
                intro w wv H4 ⟨G4, μ4, s4⟩ hb4
                exact hs' b ρ m4 σ H4 T G4 μ4 u wv y q Q s4.pops.pops (s4.pops.ar (S := T) hb2) (s4.ar (S := tva u y ++ T) hb4) w
            · rw [if_neg hk] at w ⊢
              exact Want.s w s3.pops.pops rfl
          · exact w.elim
theorem x_chain {op op' : CmpOp} {d : Expr} {r r' : R2} {g g' : Sl → Mm → Ar → Ar → Rs Ar} (ho : OpR X (compareOp op) r) (ho' : OpR X (compareOp op') r') (hs : OpS X.K X.mg E r g) (hs' : OpS X.K X.mg E r' g') (ha : PX X E a fa) (hb : PX X E b fb) (hc : PX X E d fc)
    (hm : lastMarks [op, op'] [b, d] = false) : PX X E (.Compare a [op, op'] [b, d] pos) (mChain g g' fa fb fc) :=
  PEi (pe_chain ho ho' ha hb hc hm) fun _ _ _ h => chain_want hs hs' h
theorem b_chain {op op' : CmpOp} {d : Expr} {r r' : R2} {g g' : Sl → Mm → Ar → Ar → Rs Ar} (ho : OpR X (compareOp op) r) (ho' : OpR X (compareOp op') r') (hs : OpS X.K X.mg E r g) (hs' : OpS X.K X.mg E r' g') (ha : PX X E a fa) (hb : PX X E b fb) (hc : PX X E d fc)
    (hm : lastMarks [op, op'] [b, d] = false) : PB X E (.Compare a [op, op'] [b, d] pos) (mIsB (mChain g g' fa fb fc)) :=
  PTi (pt_chain ho ho' ha hb hc hm) fun σ H Q h => by
    have h' := isB_want h
    exact chain_want hs hs' h'
theorem x_one {op : BoolOp} (ha : PX X E a fa) : PX X E (.BoolOp op [a] pos) fa := pe_one ha
theorem x_and (ha : PX X E a fa) (hb : PX X E (.BoolOp .And (b :: rest) pos) fb) : PX X E (.BoolOp .And (a :: b :: rest) pos) (mAndV fa fb) :=
  PEi (pe_andT ha hb) fun σ H Q ⟨b, ρ, m, T, S, w⟩ => by
    refine ⟨b, ρ, m, T, S, ?_⟩
    unfold mAndV at w
    revert w
    cases fa ρ m with
    | no => exact id
    | ex x m1 => exact id
    | ok x m1 =>
      intro w v H1 ⟨G, μ, s⟩ hb
      have w : Want E (b.cf X.K X.mg) ρ σ T Q (match truOf ρ m1 x with | some k => if k = true then fb ρ m1 else .ok x m1 | none => .no) := w
      split at w
      · rename_i k e
        refine ⟨k, tru_at s (s.ar (S := T) hb) e, ?_⟩
        by_cases hk : k = true
        · rw [if_pos hk] at w ⊢; exact ⟨b, ρ, m1, T, ⟨G, μ, s.pops⟩, w⟩
        · rw [if_neg hk] at w ⊢; exact w v H1 ⟨G, μ, s⟩ hb
      · exact w.elim
theorem x_or (ha : PX X E a fa) (hb : PX X E (.BoolOp .Or (b :: rest) pos) fb) : PX X E (.BoolOp .Or (a :: b :: rest) pos) (mOrV fa fb) :=
  PEi (pe_orT ha hb) fun σ H Q ⟨b, ρ, m, T, S, w⟩ => by
    refine ⟨b, ρ, m, T, S, ?_⟩
    unfold mOrV at w
    revert w
    cases fa ρ m with
    | no => exact id
    | ex x m1 => exact id
    | ok x m1 =>
      intro w v H1 ⟨G, μ, s⟩ hb
      have w : Want E (b.cf X.K X.mg) ρ σ T Q (match truOf ρ m1 x with | some k => if k = true then .ok x m1 else fb ρ m1 | none => .no) := w
      split at w
      · rename_i k e
        refine ⟨k, tru_at s (s.ar (S := T) hb) e, ?_⟩
        by_cases hk : k = true
        · rw [if_pos hk] at w ⊢; exact w v H1 ⟨G, μ, s⟩ hb
        · rw [if_neg hk] at w ⊢; exact ⟨b, ρ, m1, T, ⟨G, μ, s.pops⟩, w⟩
      · exact w.elim
theorem x_not (ha : PX X E a fa) : PX X E (.UnaryOp .Not a pos) (mNotV fa) :=
  PEi (pe_notT ha) fun σ H Q ⟨b, ρ, m, T, S, w⟩ => by
    refine ⟨b, ρ, m, T, S, ?_⟩
    unfold mNotV at w
    revert w
    cases fa ρ m with
    | no => exact id
    | ex x m1 => exact id
    | ok x m1 =>
      intro w v H1 ⟨G, μ, s⟩ hb
      have w : Want E (b.cf X.K X.mg) ρ σ T Q (match truOf ρ m1 x with | some k => .ok (.v (.bl (!k))) m1 | none => .no) := w
      split at w
      · rename_i k e
        exact ⟨k, tru_at s (s.ar (S := T) hb) e, Want.s w s.pops rfl⟩
      · exact w.elim
theorem x_if (hc : PB X E e ta) (ha : PX X E a fa) (hb : PX X E b fb) : PX X E (.IfExp e a b pos) (mIf ta fa fb) :=
  PEi (pe_ifExp hc ha hb) fun σ H Q ⟨b, ρ, m, T, S, w⟩ => by
    refine ⟨b, ρ, m, T, S, ?_⟩
    unfold mIf at w
    revert w
    cases ta ρ m with
    | no => exact id
    | ex x m1 => exact id
    | ok k m1 =>
      intro w H1 S1
      have w : Want E (b.cf X.K X.mg) ρ σ T Q (if k = true then fa ρ m1 else fb ρ m1) := w
      by_cases hk : k = true
      · rw [if_pos hk] at w ⊢; exact ⟨b, ρ, m1, T, S1, w⟩
      · rw [if_neg hk] at w ⊢; exact ⟨b, ρ, m1, T, S1, w⟩

/-! ### o.f -/
/-- the fields of an instance -/
def insOf (ρ : Sl) (m : Mm) : Ar → Option (Str × List (Str × Dv))
  | .v (.ins c fs) => some (c, fs)
  | .v (.loc n) => match m[n]? with
    | some (some (.ins c fs)) => some (c, fs)
    | _ => none
  | .b i => match ρ[i]? with
    | some (.own (.ins c fs)) => some (c, fs)
    | _ => none
  | _ => none
theorem ins_at {c : Cf} {ρ : Sl} {m : Mm} {σ : L2.St} {H : Hp} {T : Tm} {G : Hp} {μ : List Addr} (s : St3 c ρ m σ H T G μ) {x : Ar} {v : V} {cn : Str} {fs : List (Str × Dv)} (r : ArAt c.K c.mg μ G σ v x) (e : insOf ρ m x = some (cn, fs)) : ∃ a C dx ws, v = .ref a ∧ c.mg cn = some (.ref C) ∧ H a = some (.ins C dx ws) ∧ RepK c.K c.mg μ G fs ws := by
  unfold insOf at e
  split at e
  · cases e
    cases r with
    | ins h1 h2 r => exact ⟨_, _, _, _, rfl, h1, s.mem.st.ins h2, r⟩
  · split at e
    · rename_i h
      cases e
      cases r with
      | loc hm =>
        obtain ⟨a, e1, e2, C, dx, ws, e3, e4, e5⟩ := s.mem.ob _ _ h
        rw [hm] at e1; cases e1
        exact ⟨_, _, _, _, rfl, e3, e4, e5⟩
    · cases e
  · split at e
    · rename_i h
      cases e
      obtain ⟨a, q, ⟨C, dx, ws, e3, e4, e5⟩, _⟩ := s.ownAt h
      have r : σ[_]? = some (some v) := r
      rw [q] at r; cases r
      exact ⟨_, _, _, _, rfl, e3, e4, e5⟩
    · cases e
  · cases e
theorem repK_look {K : PySem.W.Frag} {mg : Str → Option Value} {μ : List Addr} {G : Hp} {fs : List (Str × Dv)} : ∀ {ws : List (Str × V)} (k : Str), RepK K mg μ G fs ws → (∀ d, fs.lookup k = some d → ∃ v, ws.lookup k = some v ∧ Rep K mg μ G d v) ∧ (fs.lookup k = none → ws.lookup k = none) := by
  induction fs with
  | nil => intro ws k h; cases h; exact ⟨fun d e => by simp at e, fun _ => rfl⟩
  | cons p r ih =>
    intro ws k h
    cases h with
    | @cons _ k' d v _ vs a b =>
      rw [List.lookup_cons, List.lookup_cons]
      cases e : k == k' with
      | true => exact ⟨fun d' z => by cases z; exact ⟨v, rfl, a⟩, fun z => by cases z⟩
      | false => exact ih k b
def mFld (cn f : Str) (fa : ME) : ME := fun ρ m => (fa ρ m).bind fun x m1 => match insOf ρ m1 x with
  | some (c', fs) => if c' = cn then match fs.lookup f with
    | some d => .ok (.v d) m1
    | none => .no
    else .no
  | none => .no
theorem x_fld {cn f : Str} {C : Addr} (hC : X.mg cn = some (.ref C)) (c : Cls X.K C) (n : NoAttr X.K C f) (ha : PX X E a fa) (hb : attributeBase a f X.env (eval a X.env) = eval a X.env) : PX X E (.Attribute a f pos) (mFld cn f fa) :=
  PEi (pe_fld ha hb) fun σ H Q ⟨b, ρ, m, T, S, w⟩ => by
    refine ⟨b, ρ, m, T, S, ?_⟩
    unfold mFld at w
    revert w
    cases fa ρ m with
    | no => exact id
    | ex x m1 => exact id
    | ok x m1 =>
      intro w v H1 ⟨G, μ, s⟩ hb
      rw [Rs.bind_ok] at w
      split at w
      · rename_i c' fs e
        obtain ⟨p, C', dx, ws, rfl, hC', hp, rk⟩ := ins_at s (s.ar (S := T) hb) e
        split at w
        · rename_i hc
          subst hc
          have hC' : X.mg c' = some (.ref C') := hC'
          rw [hC] at hC'; cases hC'
          split at w
          · rename_i d hd
            obtain ⟨z, hz, rz⟩ := (repK_look f rk).1 d hd
            exact ⟨p, C, dx, ws, z, rfl, hp, c, n, hz, w.v ⟨G, μ, s.pops.push rz⟩⟩
          · exact w.elim
        · exact w.elim
      · exact w.elim

/-! ### arguments, displays -/
def mNil : MA := fun _ m => .ok [] m
def mCons (f : ME) (g : MA) : MA := fun ρ m => (f ρ m).bind fun x m1 => match x with
  | .v d => (g ρ m1).bind fun ds m2 => .ok (d :: ds) m2
  | .b _ => .no
theorem xs_nil : PXs X E [] mNil := PAi pa_nil fun σ H Q ⟨b, ρ, m, T, S, w⟩ => w [] H rfl S
theorem xs_cons {es : List Expr} {g : MA} (ha : PX X E e fa) (hr : PXs X E es g) (hs : starEach (e :: es) X.env = (false, eval e X.env) :: starEach es X.env) : PXs X E (e :: es) (mCons fa g) :=
  PAi (pa_cons ha hr hs) fun σ H Q ⟨b, ρ, m, T, S, w⟩ => by
    refine ⟨b, ρ, m, T, S, ?_⟩
    unfold mCons at w
    revert w
    cases fa ρ m with
    | no => exact id
    | ex x m1 => exact id
    | ok x m1 =>
      intro w v H1 S1 hb
      cases x with
      | b i => exact w.elim
      | v d =>
        have w : WantA E (b.cf X.K X.mg) ρ σ T Q ((g ρ m1).bind fun ds m2 => .ok (d :: ds) m2) := w
        refine ⟨b, ρ, m1, tv v d :: T, S1, ?_⟩
        revert w
        cases g ρ m1 with
        | no => exact id
        | ex x m2 => exact fun w => WantX.weak (S := [tv v d]) w
        | ok ds m2 =>
          intro w vs H2 hl ⟨G, μ, s⟩
          refine w (v :: vs) H2 (by simp [hl]) ⟨G, μ, ?_⟩
          show St3 _ ρ m2 σ H2 (tv v d :: (tvs vs ds ++ T)) G μ
          refine s.weak (fun p hp => ?_) ?_
          · rcases List.mem_cons.mp hp with rfl | q
            · simp
            · rcases List.mem_append.mp q with q | q
              · exact List.mem_append_left _ q
              · exact List.mem_append_right _ (List.mem_cons_of_mem _ q)
          · rw [List.filterMap_cons, ownA_val, List.filterMap_append, List.filterMap_append, List.filterMap_cons, ownA_val]
            exact List.Sublist.refl _
theorem tvs_rep {c : Cf} {ρ : Sl} {m : Mm} {σ : L2.St} {H : Hp} {T : Tm} {G : Hp} {μ : List Addr} : ∀ {vs : List V} {ds : List Dv}, vs.length = ds.length → St3 c ρ m σ H (tvs vs ds ++ T) G μ → RepL c.K c.mg μ G ds vs
  | [], [], _, _ => .nil
  | v :: vs, d :: ds, h, s => .cons (St3.top (T := tvs vs ds ++ T) s) (tvs_rep (by simpa using h) (St3.pop (p := tv v d) s))
def mTup (f : MA) : ME := fun ρ m => (f ρ m).bind fun ds m1 => if ds.length ≤ sizeLine then .ok (.v (.tup ds)) m1 else .no
def mLst (f : MA) : MN := fun ρ m => (f ρ m).bind fun ds m1 => if ds.length ≤ sizeLine then .ok (.lst ds) m1 else .no
theorem x_tup {es : List Expr} {g : MA} {k : Nat} (h : PXs X E es g) : PX X E (.Tuple es k pos) (mTup g) :=
  PEi (pe_tup h) fun σ H Q ⟨b, ρ, m, T, S, w⟩ => by
    refine ⟨b, ρ, m, T, S, ?_⟩
    unfold mTup at w
    revert w
    cases g ρ m with
    | no => exact id
    | ex x m1 => exact id
    | ok ds m1 =>
      intro w vs H1 hl ⟨G, μ, s⟩
      have w : Want E (b.cf X.K X.mg) ρ σ T Q (if ds.length ≤ sizeLine then .ok (.v (.tup ds)) m1 else .no) := w
      split at w
      · rename_i z
        exact ⟨by rw [hl]; exact z, fun p hp => w.v (s.pops.newT (tvs_rep hl s) z hp)⟩
      · exact w.elim
theorem n_lst {es : List Expr} {g : MA} (h : PXs X E es g) : PN X E (.List es pos) (mLst g) :=
  PEi (pe_lst h) fun σ H Q ⟨b, ρ, m, T, S, w⟩ => by
    refine ⟨b, ρ, m, T, S, ?_⟩
    unfold mLst at w
    revert w
    cases g ρ m with
    | no => exact id
    | ex x m1 => exact id
    | ok ds m1 =>
      intro w vs H1 hl ⟨G, μ, s⟩
      have w : WantN E (b.cf X.K X.mg) ρ σ T Q (if ds.length ≤ sizeLine then .ok (.lst ds) m1 else .no) := w
      split at w
      · rename_i z
        exact ⟨by rw [hl]; exact z, fun p hp => w p _ (s.pops.newOL (tvs_rep hl s) hp)⟩
      · exact w.elim
/-- a new object, frozen -/
def mFrz (f : MN) : ME := fun ρ m => (f ρ m).bind fun o m1 => if obZ o = true then .ok (.v (obD o)) m1 else .no
theorem x_frz {f : MN} (h : PN X E e f) : PX X E e (mFrz f) :=
  PEi h fun σ H Q ⟨b, ρ, m, T, S, w⟩ => by
    refine ⟨b, ρ, m, T, S, ?_⟩
    unfold mFrz at w
    revert w
    cases f ρ m with
    | no => exact id
    | ex x m1 => exact id
    | ok o m1 =>
      intro w p H1 S1
      have w : Want E (b.cf X.K X.mg) ρ σ T Q (if obZ o = true then .ok (.v (obD o)) m1 else .no) := w
      split at w
      · rename_i z
        exact w.v (S1.frzTop z)
      · exact w.elim

/-! ### calls of what is built in -/
def CallS (K : PySem.W.Frag) (mg : Str → Option Value) (E : WX) (r : List V → Hp → VK → Prop) (g : Sl → Mm → List Dv → Rs Ar) : Prop :=
  ∀ (b : Bs) (ρ : Sl) (m : Mm) (σ : L2.St) (H : Hp) (T : Tm) (G : Hp) (μ : List Addr) (vs : List V) (ds : List Dv) (Q : VK), St3 (b.cf K mg) ρ m σ H T G μ → RepL K mg μ G ds vs → Want E (b.cf K mg) ρ σ T Q (g ρ m ds) → r vs H Q
def CallN (K : PySem.W.Frag) (mg : Str → Option Value) (E : WX) (r : List V → Hp → VK → Prop) (g : Sl → Mm → List Dv → Rs Ob) : Prop :=
  ∀ (b : Bs) (ρ : Sl) (m : Mm) (σ : L2.St) (H : Hp) (T : Tm) (G : Hp) (μ : List Addr) (vs : List V) (ds : List Dv) (Q : VK), St3 (b.cf K mg) ρ m σ H T G μ → RepL K mg μ G ds vs → WantN E (b.cf K mg) ρ σ T Q (g ρ m ds) → r vs H Q
def mCB (g : Sl → Mm → List Dv → Rs Ar) (f : MA) : ME := fun ρ m => (f ρ m).bind fun ds m1 => g ρ m1 ds
def mCN (g : Sl → Mm → List Dv → Rs Ob) (f : MA) : MN := fun ρ m => (f ρ m).bind fun ds m1 => g ρ m1 ds
theorem cb_want {K : PySem.W.Frag} {mg : Str → Option Value} {r : List V → Hp → VK → Prop} {g : Sl → Mm → List Dv → Rs Ar} {f : MA} (hs : CallS K mg E r g) {σ : L2.St} {H : Hp} {Q : VK} (h : tOf K mg E (mCB g f) σ H Q) : tCB r (taOf K mg E f) σ H Q := by
  obtain ⟨b, ρ, m, T, S, w⟩ := h
  refine ⟨b, ρ, m, T, S, ?_⟩
  unfold mCB at w
  revert w
  cases f ρ m with
  | no => exact id
  | ex x m1 => exact id
  | ok ds m1 =>
    intro w vs H1 hl ⟨G, μ, s⟩
    exact hs b ρ m1 σ H1 T G μ vs ds Q s.pops (tvs_rep hl s) w
theorem cn_want {K : PySem.W.Frag} {mg : Str → Option Value} {r : List V → Hp → VK → Prop} {g : Sl → Mm → List Dv → Rs Ob} {f : MA} (hs : CallN K mg E r g) {σ : L2.St} {H : Hp} {Q : VK} (h : tnOf K mg E (mCN g f) σ H Q) : tCB r (taOf K mg E f) σ H Q := by
  obtain ⟨b, ρ, m, T, S, w⟩ := h
  refine ⟨b, ρ, m, T, S, ?_⟩
  unfold mCN at w
  revert w
  cases f ρ m with
  | no => exact id
  | ex x m1 => exact id
  | ok ds m1 =>
    intro w vs H1 hl ⟨G, μ, s⟩
    exact hs b ρ m1 σ H1 T G μ vs ds Q s.pops (tvs_rep hl s) w
section
variable {x : Str} {p : Pos} {es : List Expr} {f : MA} {r : List V → Hp → VK → Prop}
theorem x_callB {id : String} {g : Sl → Mm → List Dv → Rs Ar} (hc : CallR X (.builtin id) r) (hs : CallS X.K X.mg E r g) (hg : Gl X x) (hm : X.mg x = none) (hv : bootBuiltins x = some (.builtin id)) (ha : PXs X E (e :: es) f) (hn : x ≠ "__name__" := by decide) (hdb : (x == ("__debug__" : Str)) = false := by decide) (he : starEach (e :: es) X.env = (false, eval e X.env) :: starEach es X.env := by rfl) (hpl : (backTo pos (starEach es X.env)).any (·.1) = false := by rfl) : PX X E (.Call (.Name x p) (e :: es) [] pos) (mCB g f) :=
  PEi (pe_callB hc hg hm hv ha hn hdb he hpl) fun _ _ _ h => cb_want hs h
theorem x_callTy {n : String} {g : Sl → Mm → List Dv → Rs Ar} (hc : CallR X (.type n) r) (hs : CallS X.K X.mg E r g) (hg : Gl X x) (hm : X.mg x = none) (hv : bootBuiltins x = some (.type n)) (ha : PXs X E (e :: es) f) (hn : x ≠ "__name__" := by decide) (hdb : (x == ("__debug__" : Str)) = false := by decide) (he : starEach (e :: es) X.env = (false, eval e X.env) :: starEach es X.env := by rfl) (hpl : (backTo pos (starEach es X.env)).any (·.1) = false := by rfl) : PX X E (.Call (.Name x p) (e :: es) [] pos) (mCB g f) :=
  PEi (pe_callTy hc hg hm hv ha hn hdb he hpl) fun _ _ _ h => cb_want hs h
theorem n_callB {id : String} {g : Sl → Mm → List Dv → Rs Ob} (hc : CallR X (.builtin id) r) (hs : CallN X.K X.mg E r g) (hg : Gl X x) (hm : X.mg x = none) (hv : bootBuiltins x = some (.builtin id)) (ha : PXs X E (e :: es) f) (hn : x ≠ "__name__" := by decide) (hdb : (x == ("__debug__" : Str)) = false := by decide) (he : starEach (e :: es) X.env = (false, eval e X.env) :: starEach es X.env := by rfl) (hpl : (backTo pos (starEach es X.env)).any (·.1) = false := by rfl) : PN X E (.Call (.Name x p) (e :: es) [] pos) (mCN g f) :=
  PEi (pe_callB hc hg hm hv ha hn hdb he hpl) fun _ _ _ h => cn_want hs h
theorem n_callTy {n : String} {g : Sl → Mm → List Dv → Rs Ob} (hc : CallR X (.type n) r) (hs : CallN X.K X.mg E r g) (hg : Gl X x) (hm : X.mg x = none) (hv : bootBuiltins x = some (.type n)) (ha : PXs X E (e :: es) f) (hn : x ≠ "__name__" := by decide) (hdb : (x == ("__debug__" : Str)) = false := by decide) (he : starEach (e :: es) X.env = (false, eval e X.env) :: starEach es X.env := by rfl) (hpl : (backTo pos (starEach es X.env)).any (·.1) = false := by rfl) : PN X E (.Call (.Name x p) (e :: es) [] pos) (mCN g f) :=
  PEi (pe_callTy hc hg hm hv ha hn hdb he hpl) fun _ _ _ h => cn_want hs h
end
end
end M3

set_option Elab.async false
set_option linter.all false
set_option autoImplicit false
set_option maxRecDepth 100000
set_option maxHeartbeats 2000000
/-! M3f: statements, loops. -/
namespace M3
open PySem L2 PySem.Spec PyProof.Rows

inductive RS where
  | nx (ρ : Sl) (m : Mm) | rt (d : Dv) (m : Mm) | bk (ρ : Sl) (m : Mm) | ct (ρ : Sl) (m : Mm) | ex (x : Dv) (ρ : Sl) (m : Mm) | no
abbrev MS := Sl → Mm → RS

/-- what a caller may know of an end -/
def FinV (c : Cf) (m : Mm) (H : Hp) (d : Dv) (v : V) : Prop := ∃ G μ, MemOk c.K c.mg G μ H m ∧ Le c.G0 c.μ0 c.H0 G μ H ∧ Rep c.K c.mg μ G d v
def WantS (E : WX) (c : Cf) (T : Tm) (D : Ends) : RS → Prop
  | .nx ρ m => ∀ σ H, S3 c ρ m σ H T → D.nx σ H
  | .rt d m => ∀ v H, FinV c m H d v → D.rt v H
  | .bk ρ m => ∀ σ H, S3 c ρ m σ H T → D.bk σ H
  | .ct ρ m => ∀ σ H, S3 c ρ m σ H T → D.ct σ H
  | .ex x ρ m => ∀ σ, WantX E c ρ σ T x m
  | .no => False
def tsOf (K : PySem.W.Frag) (mg : Str → Option Value) (E : WX) (f : MS) : TS := fun D σ H => ∃ (b : Bs) (ρ : Sl) (m : Mm) (T : Tm), S3 (b.cf K mg) ρ m σ H T ∧ WantS E (b.cf K mg) T D (f ρ m)
abbrev PSx (X : Cx) (E : WX) (st : Stmt) (f : MS) : Prop := PS X st (tsOf X.K X.mg E f)
abbrev PSsx (X : Cx) (E : WX) (st : List Stmt) (f : MS) : Prop := PSs X st (tsOf X.K X.mg E f)
theorem PSi {X : Cx} {st : Stmt} {t t' : TS} (h : PS X st t) (i : ∀ D σ H, t' D σ H → t D σ H) : PS X st t' := ⟨fun pins s σ H D I q => h.run pins s σ H D I (i D σ H q)⟩
theorem PSsi {X : Cx} {st : List Stmt} {t t' : TS} (h : PSs X st t) (i : ∀ D σ H, t' D σ H → t D σ H) : PSs X st t' := ⟨fun pins s σ H D I q => h.run pins s σ H D I (i D σ H q)⟩
/-- an expression's end as a statement's -/
def Rs.st {α : Type} (r : Rs α) (ρ : Sl) (k : α → Mm → RS) : RS := match r with
  | .ok a m => k a m
  | .ex x m => .ex x ρ m
  | .no => .no
@[simp] theorem Rs.st_ok {α : Type} (a : α) (m : Mm) (ρ : Sl) (k : α → Mm → RS) : (Rs.ok a m).st ρ k = k a m := rfl
@[simp] theorem Rs.st_ex {α : Type} (x : Dv) (m : Mm) (ρ : Sl) (k : α → Mm → RS) : (Rs.ex x m).st ρ k = .ex x ρ m := rfl
@[simp] theorem Rs.st_no {α : Type} (ρ : Sl) (k : α → Mm → RS) : (Rs.no : Rs α).st ρ k = .no := rfl

section
variable {K : PySem.W.Frag} {mg : Str → Option Value} {E : WX} {c : Cf} {ρ : Sl} {m : Mm} {σ : L2.St} {H : Hp} {T : Tm} {G : Hp} {μ : List Addr}

/-! ### slots are set -/
theorem ownA_zip_set_val {σ : L2.St} : ∀ {ρ : Sl} {i : Nat} {x : Option V} {y : Cell}, ownA (x, y) = none → (((σ.set i x).zip (ρ.set i y)).filterMap ownA).Sublist ((σ.zip ρ).filterMap ownA) := by
  induction σ with
  | nil => intro ρ i x y h; simp
  | cons s σ ih =>
    intro ρ i x y h
    cases ρ with
    | nil => simp
    | cons r ρ =>
      cases i with
      | zero =>
        simp only [List.set_cons_zero, List.zip_cons_cons, List.filterMap_cons, h]
        split
        · exact List.Sublist.refl _
        · exact List.sublist_cons_self _ _
      | succ i =>
        simp only [List.set_cons_succ, List.zip_cons_cons, List.filterMap_cons]
        split
        · exact ih h
        · exact List.Sublist.cons₂ _ (ih h)
theorem mem_zip_set {σ : L2.St} : ∀ {ρ : Sl} {i : Nat} {x : Option V} {y : Cell} {p : Option V × Cell}, p ∈ (σ.set i x).zip (ρ.set i y) → p = (x, y) ∨ p ∈ σ.zip ρ := by
  induction σ with
  | nil => intro ρ i x y p h; simp at h
  | cons s σ ih =>
    intro ρ i x y p h
    cases ρ with
    | nil => simp at h
    | cons r ρ =>
      cases i with
      | zero =>
        simp only [List.set_cons_zero, List.zip_cons_cons, List.mem_cons] at h ⊢
        rcases h with h | h
        · exact .inl h
        · exact .inr (.inr h)
      | succ i =>
        simp only [List.set_cons_succ, List.zip_cons_cons, List.mem_cons] at h ⊢
        rcases h with h | h
        · exact .inr (.inl h)
        · rcases ih h with h | h
          · exact .inl h
          · exact .inr (.inr h)
theorem St3.setV {i : Nat} {v : V} {d : Dv} (h : St3 c ρ m σ H (tv v d :: T) G μ) : St3 c (ρ.set i (.val d)) m (σ.set i (some v)) H T G μ where
  len := by rw [List.length_set, List.length_set]; exact h.len
  mem := h.mem
  le := h.le
  cells := fun p hp => by
    rcases List.mem_append.mp hp with q | q
    · exact h.cells p (by simp [q])
    · rcases mem_zip_set q with rfl | q
      · exact h.cells (some v, .val d) (by simp)
      · exact h.cells p (by simp [q])
  nd := by
    have := h.pop.nd
    rw [List.filterMap_append] at this ⊢
    exact this.sublist (List.Sublist.append (List.Sublist.refl _) (ownA_zip_set_val ownA_val))
theorem S3.setV {i : Nat} {v : V} {d : Dv} (h : S3 c ρ m σ H (tv v d :: T)) : S3 c (ρ.set i (.val d)) m (σ.set i (some v)) H T := let ⟨G, μ, s⟩ := h; ⟨G, μ, s.setV⟩
theorem fm_cons {α β : Type} (f : α → Option β) (x : α) (l : List α) : (x :: l).filterMap f = (f x).toList ++ l.filterMap f := by
  rw [List.filterMap_cons]; cases f x <;> rfl
theorem zip_set_own {σ : L2.St} : ∀ {ρ : Sl} {i : Nat} {p : Addr} {o : Ob}, p ∉ (σ.zip ρ).filterMap ownA → ((σ.zip ρ).filterMap ownA).Nodup →
    (((σ.set i (some (.ref p))).zip (ρ.set i (.own o))).filterMap ownA).Nodup ∧ ∀ a, a ∈ ((σ.set i (some (.ref p))).zip (ρ.set i (.own o))).filterMap ownA → a = p ∨ a ∈ (σ.zip ρ).filterMap ownA := by
  induction σ with
  | nil => intro ρ i p o h1 h2; simp
  | cons s σ ih =>
    intro ρ i p o h1 h2
    cases ρ with
    | nil => simp
    | cons r ρ =>
      rw [List.zip_cons_cons, fm_cons] at h1 h2
      cases i with
      | zero =>
        rw [List.set_cons_zero, List.set_cons_zero, List.zip_cons_cons, fm_cons, List.zip_cons_cons, fm_cons]
        have e1 : (ownA (some (V.ref p), Cell.own o)).toList = [p] := rfl
        rw [e1]
        refine ⟨List.nodup_cons.mpr ⟨fun q => h1 (List.mem_append_right _ q), (List.nodup_append.mp h2).2.1⟩, fun a ha => ?_⟩
        rcases List.mem_cons.mp ha with e | q
        · exact .inl e
        · exact .inr (List.mem_append_right _ q)
      | succ i =>
        rw [List.set_cons_succ, List.set_cons_succ, List.zip_cons_cons, fm_cons, List.zip_cons_cons, fm_cons]
        obtain ⟨m1, m2, m3⟩ := List.nodup_append.mp h2
        obtain ⟨q1, q2⟩ := ih (i := i) (o := o) (fun q => h1 (List.mem_append_right _ q)) m2
        refine ⟨List.nodup_append.mpr ⟨m1, q1, fun a ha b hb e => ?_⟩, fun a ha => ?_⟩
        · rcases q2 b hb with z | z
          · exact h1 (List.mem_append_left _ (by rw [← z, ← e]; exact ha))
          · exact m3 a ha b z e
        · rcases List.mem_append.mp ha with q | q
          · exact .inr (List.mem_append_left _ q)
          · rcases q2 a q with e | q
            · exact .inl e
            · exact .inr (List.mem_append_right _ q)
theorem St3.setO {i : Nat} {p : Addr} {o : Ob} (h : St3 c ρ m σ H ((some (.ref p), .own o) :: T) G μ) : St3 c (ρ.set i (.own o)) m (σ.set i (some (.ref p))) H T G μ where
  len := by rw [List.length_set, List.length_set]; exact h.len
  mem := h.mem
  le := h.le
  cells := fun q hq => by
    rcases List.mem_append.mp hq with q' | q'
    · exact h.cells q (by simp [q'])
    · rcases mem_zip_set q' with rfl | q'
      · exact h.cells (some (.ref p), .own o) (by simp)
      · exact h.cells q (by simp [q'])
  nd := by
    have nd := h.nd
    rw [List.cons_append, List.filterMap_cons] at nd
    have nd : (p :: (T ++ σ.zip ρ).filterMap ownA).Nodup := nd
    obtain ⟨n1, n2⟩ := List.nodup_cons.mp nd
    rw [List.filterMap_append] at n1 n2 ⊢
    obtain ⟨m1, m2, m3⟩ := List.nodup_append.mp n2
    obtain ⟨k1, k2⟩ := zip_set_own (i := i) (o := o) (fun q => n1 (List.mem_append_right _ q)) m2
    refine List.nodup_append.mpr ⟨m1, k1, fun a ha b hb e => ?_⟩
    rcases k2 b hb with z | z
    · exact n1 (List.mem_append_left _ (by rw [← z, ← e]; exact ha))
    · exact m3 a ha b z e
theorem S3.setO {i : Nat} {p : Addr} {o : Ob} (h : S3 c ρ m σ H ((some (.ref p), .own o) :: T)) : S3 c (ρ.set i (.own o)) m (σ.set i (some (.ref p))) H T := let ⟨G, μ, s⟩ := h; ⟨G, μ, s.setO⟩
end

section
variable {X : Cx} {E : WX} {a b e : Expr} {fa fb fc : ME} {ta tb : MB} {pos : Pos} {rest : List Expr} {st : Stmt} {sts : List Stmt} {f g : MS}
/-! ### blocks -/
def mNext : MS := fun ρ m => .nx ρ m
def mSeq (f g : MS) : MS := fun ρ m => match f ρ m with
  | .nx ρ' m' => g ρ' m'
  | r => r
theorem s_nil : PSsx X E [] mNext := PSsi pss_nil fun D σ H ⟨b, ρ, m, T, S, w⟩ => w σ H S
theorem s_cons (h : PSx X E st f) (hr : PSsx X E sts g) : PSsx X E (st :: sts) (mSeq f g) :=
  PSsi (pss_cons h hr) fun D σ H ⟨b, ρ, m, T, S, w⟩ => by
    refine ⟨b, ρ, m, T, S, ?_⟩
    unfold mSeq at w
    revert w
    cases f ρ m with
    | nx ρ' m' => exact fun w σ' H' S' => ⟨b, ρ', m', T, S', w⟩
    | rt d m' => exact id
    | bk ρ' m' => exact id
    | ct ρ' m' => exact id
    | ex x ρ' m' => exact id
    | no => exact id
theorem s_one (h : PSx X E st f) : PSsx X E [st] f := pss_one h
theorem s_pass : PSx X E (.Pass pos) mNext := PSi ps_pass fun D σ H ⟨b, ρ, m, T, S, w⟩ => w σ H S
def mBreak : MS := fun ρ m => .bk ρ m
def mCont : MS := fun ρ m => .ct ρ m
theorem s_break : PSx X E (.Break pos) mBreak := PSi ps_break fun D σ H ⟨b, ρ, m, T, S, w⟩ => w σ H S
theorem s_cont : PSx X E (.Continue pos) mCont := PSi ps_continue fun D σ H ⟨b, ρ, m, T, S, w⟩ => w σ H S
def mIfS (t : MB) (f g : MS) : MS := fun ρ m => (t ρ m).st ρ fun k m1 => if k = true then f ρ m1 else g ρ m1
theorem s_if {c : Expr} {sa sb : List Stmt} (hc : PB X E c ta) (ha : PSsx X E sa f) (hb : PSsx X E sb g) : PSx X E (.If c sa sb pos) (mIfS ta f g) :=
  PSi (ps_if hc ha hb) fun D σ H ⟨b, ρ, m, T, S, w⟩ => by
    refine ⟨b, ρ, m, T, S, ?_⟩
    unfold mIfS at w
    revert w
    cases ta ρ m with
    | no => exact id
    | ex x m1 => exact fun w => w σ
    | ok k m1 =>
      intro w H1 S1
      rw [Rs.st_ok] at w
      by_cases hk : k = true
      · rw [if_pos hk] at w ⊢; exact ⟨b, ρ, m1, T, S1, w⟩
      · rw [if_neg hk] at w ⊢; exact ⟨b, ρ, m1, T, S1, w⟩

/-! ### targets -/
abbrev MG := Dv → Sl → Option Sl
/-- the slots is alone are changed -/
def OnlyS (is : List Nat) (σ σ' : L2.St) : Prop := ∀ vs : List Nat, (∀ i ∈ is, i ∈ vs) → wipe σ' vs = wipe σ vs
def wipeR (ρ : Sl) : List Nat → Sl
  | [] => ρ
  | v :: vs => (wipeR ρ vs).set v .un
def OnlyR (is : List Nat) (ρ ρ' : Sl) : Prop := ∀ vs : List Nat, (∀ i ∈ is, i ∈ vs) → wipeR ρ' vs = wipeR ρ vs
theorem wipe_set {σ : L2.St} {i : Nat} {x : Option V} : ∀ {vs : List Nat}, i ∈ vs → wipe (σ.set i x) vs = wipe σ vs
  | v :: vs, h => by
    unfold wipe
    by_cases hi : i ∈ vs
    · rw [wipe_set hi]
    · have : i = v := by simpa [hi] using h
      subst this
      have key : ∀ {vs : List Nat}, i ∉ vs → wipe (σ.set i x) vs = (wipe σ vs).set i x := fun {vs} => by
        induction vs with
        | nil => intro _; rfl
        | cons w ws ih =>
          intro h
          simp only [List.mem_cons, not_or] at h
          unfold wipe
          rw [ih h.2, List.set_comm _ _ h.1]
      rw [key hi, List.set_set]
theorem wipeR_set {σ : Sl} {i : Nat} {x : Cell} : ∀ {vs : List Nat}, i ∈ vs → wipeR (σ.set i x) vs = wipeR σ vs
  | v :: vs, h => by
    unfold wipeR
    by_cases hi : i ∈ vs
    · rw [wipeR_set hi]
    · have : i = v := by simpa [hi] using h
      subst this
      have key : ∀ {vs : List Nat}, i ∉ vs → wipeR (σ.set i x) vs = (wipeR σ vs).set i x := fun {vs} => by
        induction vs with
        | nil => intro _; rfl
        | cons w ws ih =>
          intro h
          simp only [List.mem_cons, not_or] at h
          unfold wipeR
          rw [ih h.2, List.set_comm _ _ h.1]
      rw [key hi, List.set_set]
theorem OnlyS.refl (is : List Nat) (σ : L2.St) : OnlyS is σ σ := fun _ _ => rfl
theorem OnlyS.app {is js : List Nat} {σ σ1 σ2 : L2.St} (a : OnlyS is σ σ1) (b : OnlyS js σ1 σ2) : OnlyS (is ++ js) σ σ2 := fun vs h => (b vs fun i q => h i (List.mem_append_right _ q)).trans (a vs fun i q => h i (List.mem_append_left _ q))
theorem OnlyR.app {is js : List Nat} {σ σ1 σ2 : Sl} (a : OnlyR is σ σ1) (b : OnlyR js σ1 σ2) : OnlyR (is ++ js) σ σ2 := fun vs h => (b vs fun i q => h i (List.mem_append_right _ q)).trans (a vs fun i q => h i (List.mem_append_left _ q))
def tgOf (K : PySem.W.Frag) (mg : Str → Option Value) (is : List Nat) (g : MG) : TG := fun v σ H Q => ∃ (b : Bs) (ρ : Sl) (m : Mm) (T : Tm) (d : Dv), S3 (b.cf K mg) ρ m σ H (tv v d :: T) ∧ ∃ ρ', g d ρ = some ρ' ∧ ∀ σ' H', OnlyS is σ σ' → S3 (b.cf K mg) ρ' m σ' H' T → Q σ' H'
structure PGx (X : Cx) (is : List Nat) (tg : Expr) (g : MG) : Prop where
  pg : PG X tg (tgOf X.K X.mg is g)
  on : ∀ d ρ ρ', g d ρ = some ρ' → OnlyR is ρ ρ'
theorem PGi {X : Cx} {tg : Expr} {t t' : TG} (h : PG X tg t) (i : ∀ v σ H Q, t' v σ H Q → t v σ H Q) : PG X tg t' := ⟨fun pins s σ H x v Q I r q => h.run pins s σ H x v Q I r (i _ σ H Q q)⟩
def mGn (i : Nat) : MG := fun d ρ => some (ρ.set i (.val d))
theorem g_name {i : Nat} {x : Str} (hN : X.N.Nodup) (hi : X.N[i]? = some x) (hx : Loc X.env.scope x) (hf : X.fn x = true ∨ X.env.scope.names.lookup x = some .local) : PGx X [i] (.Name x pos) (mGn i) := ⟨
  PGi (pg_name hN hi hx hf) fun v σ H Q ⟨b, ρ, m, T, d, S, ρ', e, q⟩ => by
    cases e
    exact q _ _ (fun vs h => wipe_set (h i (by simp))) S.setV, fun d ρ ρ' e vs h => by cases e; exact wipeR_set (h i (by simp))⟩
abbrev MGs := List Dv → Sl → Option Sl
def tgsOf (K : PySem.W.Frag) (mg : Str → Option Value) (is : List Nat) (g : MGs) : TGs := fun vs σ H Q => ∃ (b : Bs) (ρ : Sl) (m : Mm) (T : Tm) (ds : List Dv), vs.length = ds.length ∧ S3 (b.cf K mg) ρ m σ H (tvs vs ds ++ T) ∧ ∃ ρ', g ds ρ = some ρ' ∧ ∀ σ' H', OnlyS is σ σ' → S3 (b.cf K mg) ρ' m σ' H' T → Q σ' H'
structure PGsx (X : Cx) (is : List Nat) (tg : List Expr) (g : MGs) : Prop where
  pg : PGs X tg (tgsOf X.K X.mg is g)
  on : ∀ d ρ ρ', g d ρ = some ρ' → OnlyR is ρ ρ'
theorem PGsi {X : Cx} {tg : List Expr} {t t' : TGs} (h : PGs X tg t) (i : ∀ v σ H Q, t' v σ H Q → t v σ H Q) : PGs X tg t' := ⟨fun pins s σ H vs us Q I r q => h.run pins s σ H vs us Q I r (i _ σ H Q q)⟩
def mGnil : MGs := fun ds ρ => match ds with
  | [] => some ρ
  | _ => none
def mGcons (g : MG) (h : MGs) : MGs := fun ds ρ => match ds with
  | d :: r => match g d ρ with
    | some ρ' => h r ρ'
    | none => none
  | [] => none
theorem gs_nil : PGsx X [] [] mGnil := ⟨PGsi pgs_nil fun vs σ H Q ⟨b, ρ, m, T, ds, hl, S, ρ', e, q⟩ => by
  cases ds with
  | cons d r => cases e
  | nil =>
    cases e
    cases vs with
    | cons v r => cases hl
    | nil => exact ⟨rfl, q _ _ (OnlyS.refl _ _) S⟩, fun d ρ ρ' e vs h => by
  cases d with
  | nil => cases e; rfl
  | cons _ _ => cases e⟩
theorem gs_cons {es : List Expr} {is js : List Nat} {g : MG} {h : MGs} (h1 : PGx X is e g) (h2 : PGsx X js es h)
    (hs : (assignEach (e :: es) X.env).map (·.2) = assign e X.env :: (assignEach es X.env).map (·.2) := by rfl) : PGsx X (is ++ js) (e :: es) (mGcons g h) := ⟨
  PGsi (pgs_cons h1.pg h2.pg hs) fun vs σ H Q ⟨b, ρ, m, T, ds, hl, S, ρ', e, q⟩ => by
    cases ds with
    | nil => cases e
    | cons d r =>
      cases vs with
      | nil => cases hl
      | cons v vr =>
        have e : (match g d ρ with | some ρ' => h r ρ' | none => none) = some ρ' := e
        cases hg : g d ρ with
        | none => rw [hg] at e; cases e
        | some ρ1 =>
          rw [hg] at e
          exact ⟨v, vr, rfl, b, ρ, m, tvs vr r ++ T, d, S, ρ1, hg, fun σ1 H1 O1 S1 => ⟨b, ρ1, m, T, r, by simpa using hl, S1, ρ', e, fun σ2 H2 O2 S2 => q σ2 H2 (O1.app O2) S2⟩⟩, fun d ρ ρ' e => by
    cases d with
    | nil => cases e
    | cons d r =>
      have e : (match g d ρ with | some ρ' => h r ρ' | none => none) = some ρ' := e
      cases hg : g d ρ with
      | none => rw [hg] at e; cases e
      | some ρ1 => rw [hg] at e; exact (h1.on _ _ _ hg).app (h2.on _ _ _ e)⟩
def mGt (n : Nat) (g : MGs) : MG := fun d ρ => match tupOf (.v d) with
  | some ds => if ds.length = n then g ds ρ else none
  | none => none
theorem s3_tvs {c : Cf} {ρ : Sl} {m : Mm} {σ : L2.St} {H : Hp} {T : Tm} {G : Hp} {μ : List Addr} : ∀ {vs : List V} {ds : List Dv}, RepL c.K c.mg μ G ds vs → St3 c ρ m σ H T G μ → St3 c ρ m σ H (tvs vs ds ++ T) G μ
  | _, _, .nil, s => s
  | _, _, .cons a b, s => St3.push (s3_tvs b s) a
theorem g_tup {es : List Expr} {is : List Nat} {k : Nat} {g : MGs} {n : Nat} (hc : X.calm = true) (h : PGsx X is es g)
    (hn : (assignEach es X.env).length = n := by rfl) (hst : (assignEach es X.env).findIdx? (·.1) = none := by rfl) : PGx X is (.Tuple es k pos) (mGt n g) := ⟨
  PGi (pg_tup hc h.pg hn hst) fun v σ H Q ⟨b, ρ, m, T, d, ⟨G, μ, s⟩, ρ', e, q⟩ => by
    unfold mGt at e
    split at e
    · rename_i ds hd
      split at e
      · rename_i hl
        obtain ⟨a, vs, rfl, ha, ra⟩ := tup_at s (x := .v d) s.top hd
        exact ⟨a, vs, rfl, ha, by rw [← ra.length]; exact hl, b, ρ, m, T, ds, ra.length.symm, ⟨G, μ, s3_tvs ra s.pop⟩, ρ', e, q⟩
      · cases e
    · (cases e), fun d ρ ρ' e => by
    unfold mGt at e
    split at e
    · split at e
      · exact h.on _ _ _ e
      · cases e
    · (cases e)⟩

/-! ### x = e; e; return e -/
/-- target = e -/
def mAsg (f : ME) (g : MG) : MS := fun ρ m => (f ρ m).st ρ fun x m1 => match x with
  | .v d => match g d ρ with
    | some ρ' => .nx ρ' m1
    | none => .no
  | .b _ => .no
theorem asg_want {K : PySem.W.Frag} {mg : Str → Option Value} {is : List Nat} {f : ME} {g : MG} {D : Ends} {σ : L2.St} {H : Hp} (h : tsOf K mg E (mAsg f g) D σ H) : tAsg (tOf K mg E f) (tgOf K mg is g) D σ H := by
  obtain ⟨b, ρ, m, T, S, w⟩ := h
  refine ⟨b, ρ, m, T, S, ?_⟩
  unfold mAsg at w
  revert w
  cases f ρ m with
  | no => exact id
  | ex x m1 => exact fun w => w σ
  | ok x m1 =>
    intro w v H1 S1 hb
    rw [Rs.st_ok] at w
    cases x with
    | b i => exact w.elim
    | v d =>
      have w : WantS E (b.cf K mg) T D (match g d ρ with | some ρ' => .nx ρ' m1 | none => .no) := w
      cases hg : g d ρ with
      | none => rw [hg] at w; exact w.elim
      | some ρ' =>
        rw [hg] at w
        exact ⟨b, ρ, m1, T, d, S1, ρ', hg, fun σ' H' _ => w σ' H'⟩
theorem s_asg {tg : Expr} {is : List Nat} {g : MG} (he : PX X E e fa) (hg : PGx X is tg g) (hs : swapsWithSole [tg] e pos.line X.env = pure false := by rfl) (hw : swappedStores [tg] e X.env = pure none := by rfl)
    (h1 : (assignEach [tg] X.env).map (·.2) = [assign tg X.env] := by rfl) : PSx X E (.Assign [tg] e pos) (mAsg fa g) :=
  PSi (ps_asg he hg.pg hs hw h1) fun D σ H h => asg_want h
/-- x = e, a name -/
theorem s_set {i : Nat} {x : Str} {pos' : Pos} (hN : X.N.Nodup) (hi : X.N[i]? = some x) (hx : Loc X.env.scope x) (hf : X.fn x = true ∨ X.env.scope.names.lookup x = some .local) (he : PX X E e fa) (hs : swapsWith e (some (.Name x pos')) pos.line X.env = pure false := by rfl) : PSx X E (.Assign [.Name x pos'] e pos) (mAsg fa (mGn i)) :=
  PSi (ps_set hN hi hx he hs hf) fun D σ H ⟨b, ρ, m, T, S, w⟩ => by
    refine ⟨b, ρ, m, T, S, ?_⟩
    unfold mAsg at w
    revert w
    cases fa ρ m with
    | no => exact id
    | ex x m1 => exact fun w => w σ
    | ok x m1 =>
      intro w v H1 S1 hb
      rw [Rs.st_ok] at w
      cases x with
      | b i => exact w.elim
      | v d => exact w _ _ S1.setV
/-- x = e, a new object that x alone holds -/
def mAsgO (i : Nat) (f : MN) : MS := fun ρ m => (f ρ m).st ρ fun o m1 => .nx (ρ.set i (.own o)) m1
theorem s_setO {i : Nat} {x : Str} {pos' : Pos} {f : MN} (hN : X.N.Nodup) (hi : X.N[i]? = some x) (hx : Loc X.env.scope x) (hf : X.fn x = true ∨ X.env.scope.names.lookup x = some .local) (he : PN X E e f) (hs : swapsWith e (some (.Name x pos')) pos.line X.env = pure false := by rfl) : PSx X E (.Assign [.Name x pos'] e pos) (mAsgO i f) :=
  PSi (ps_set hN hi hx he hs hf) fun D σ H ⟨b, ρ, m, T, S, w⟩ => by
    refine ⟨b, ρ, m, T, S, ?_⟩
    unfold mAsgO at w
    revert w
    cases f ρ m with
    | no => exact id
    | ex x m1 => exact fun w => w σ
    | ok o m1 =>
      intro w p H1 S1
      rw [Rs.st_ok] at w
      exact w _ _ S1.setO
def mExpr (f : ME) : MS := fun ρ m => (f ρ m).st ρ fun _ m1 => .nx ρ m1
theorem s_expr (he : PX X E e fa) (hs : swapsWith e none pos.line X.env = pure false := by rfl) : PSx X E (.Expr e pos) (mExpr fa) :=
  PSi (ps_expr he hs) fun D σ H ⟨b, ρ, m, T, S, w⟩ => by
    refine ⟨b, ρ, m, T, S, ?_⟩
    unfold mExpr at w
    revert w
    cases fa ρ m with
    | no => exact id
    | ex x m1 => exact fun w => w σ
    | ok x m1 =>
      intro w v H1 S1 hb
      exact w _ _ S1.pops
theorem S3.fin {c : Cf} {ρ : Sl} {m : Mm} {σ : L2.St} {H : Hp} {T : Tm} {v : V} {d : Dv} (h : S3 c ρ m σ H (tv v d :: T)) : FinV c m H d v := let ⟨G, μ, s⟩ := h; ⟨G, μ, s.mem, s.le, s.top⟩
def mRet (f : ME) : MS := fun ρ m => (f ρ m).st ρ fun x m1 => match x with
  | .v d => .rt d m1
  | .b _ => .no
theorem s_ret (he : PX X E e fa) : PSx X E (.Return (some e) pos) (mRet fa) :=
  PSi (ps_ret he) fun D σ H ⟨b, ρ, m, T, S, w⟩ => by
    refine ⟨b, ρ, m, T, S, ?_⟩
    unfold mRet at w
    revert w
    cases fa ρ m with
    | no => exact id
    | ex x m1 => exact fun w => w σ
    | ok x m1 =>
      intro w v H1 S1 hb
      rw [Rs.st_ok] at w
      cases x with
      | b i => exact w.elim
      | v d => exact w v H1 (S3.fin S1)
def mRetN : MS := fun _ m => .rt .non m
theorem s_retN : PSx X E (.Return none pos) mRetN :=
  PSi ps_retN fun D σ H ⟨b, ρ, m, T, ⟨G, μ, s⟩, w⟩ => w .non H ⟨G, μ, s.mem, s.le, .non⟩
/-- a slot's own object is frozen: no statement of the text -/
def mFz (i : Nat) (f : MS) : MS := fun ρ m => match ρ[i]? with
  | some (.own o) => if obZ o = true then f (ρ.set i (.val (obD o))) m else .no
  | _ => f ρ m
theorem set_self {α : Type} {l : List α} : ∀ {i : Nat} {x : α}, l[i]? = some x → l.set i x = l := by
  induction l with
  | nil => intro i x h; rfl
  | cons a l ih =>
    intro i x h
    cases i with
    | zero => simp at h; subst h; rfl
    | succ i => rw [List.set_cons_succ, ih (by simpa using h)]
theorem ownA_zip_set_un {σ : L2.St} : ∀ {ρ : Sl} {i : Nat} {y : Cell}, (∀ x, ownA (x, y) = none) → ((σ.zip (ρ.set i y)).filterMap ownA).Sublist ((σ.zip ρ).filterMap ownA) := by
  induction σ with
  | nil => intro ρ i y h; simp
  | cons s σ ih =>
    intro ρ i y h
    cases ρ with
    | nil => simp
    | cons r ρ =>
      cases i with
      | zero =>
        rw [List.set_cons_zero, List.zip_cons_cons, List.zip_cons_cons, fm_cons, fm_cons, h]
        exact List.sublist_append_right _ _
      | succ i =>
        rw [List.set_cons_succ, List.zip_cons_cons, List.zip_cons_cons, fm_cons, fm_cons]
        exact List.Sublist.append (List.Sublist.refl _) (ih h)
theorem mem_zip_set2 {σ : L2.St} : ∀ {ρ : Sl} {i : Nat} {y : Cell} {p : Option V × Cell}, p ∈ σ.zip (ρ.set i y) → (∃ x, σ[i]? = some x ∧ p = (x, y)) ∨ p ∈ σ.zip ρ := by
  induction σ with
  | nil => intro ρ i y p h; simp at h
  | cons s σ ih =>
    intro ρ i y p h
    cases ρ with
    | nil => simp at h
    | cons r ρ =>
      cases i with
      | zero =>
        rw [List.set_cons_zero, List.zip_cons_cons] at h
        rcases List.mem_cons.mp h with h | h
        · exact .inl ⟨s, rfl, h⟩
        · exact .inr (List.mem_cons_of_mem _ h)
      | succ i =>
        rw [List.set_cons_succ, List.zip_cons_cons] at h
        rcases List.mem_cons.mp h with h | h
        · exact .inr (by rw [h]; exact List.mem_cons_self)
        · rcases ih h with ⟨x, h1, h2⟩ | h
          · exact .inl ⟨x, by simpa using h1, h2⟩
          · exact .inr (List.mem_cons_of_mem _ h)
theorem zip_own_inj {σ : L2.St} {c : Cf} : ∀ {ρ : Sl} {i j : Nat} {a : Addr} {o o' : Ob}, ((σ.zip ρ).filterMap ownA).Nodup → σ[i]? = some (some (.ref a)) → ρ[i]? = some (.own o) → σ[j]? = some (some (.ref a)) → ρ[j]? = some (.own o') → i = j := by
  induction σ with
  | nil => intro ρ i j a o o' h h1; simp at h1
  | cons s σ ih =>
    intro ρ i j a o o' h h1 h2 h3 h4
    cases ρ with
    | nil => simp at h2
    | cons r ρ =>
      rw [List.zip_cons_cons, fm_cons] at h
      obtain ⟨m1, m2, m3⟩ := List.nodup_append.mp h
      cases i with
      | zero =>
        cases j with
        | zero => rfl
        | succ j =>
          simp at h1 h2 h3 h4
          subst h1; subst h2
          exact (m3 a (by show a ∈ [a]; simp) a (List.mem_filterMap.mpr ⟨(some (.ref a), .own o'), zip_get h3 h4, rfl⟩) rfl).elim
      | succ i =>
        cases j with
        | zero =>
          simp at h1 h2 h3 h4
          subst h3; subst h4
          exact (m3 a (by show a ∈ [a]; simp) a (List.mem_filterMap.mpr ⟨(some (.ref a), .own o), zip_get h1 h2, rfl⟩) rfl).elim
        | succ j =>
          exact congrArg (· + 1) (ih m2 (by simpa using h1) (by simpa using h2) (by simpa using h3) (by simpa using h4))
theorem St3.fz {c : Cf} {ρ : Sl} {m : Mm} {σ : L2.St} {H : Hp} {T : Tm} {G : Hp} {μ : List Addr} (s : St3 c ρ m σ H T G μ) {i : Nat} {o : Ob} (e : ρ[i]? = some (.own o)) (z : obZ o = true) : S3 c (ρ.set i (.val (obD o))) m σ H T := by
  obtain ⟨p, hp, ob, g, n, h0⟩ := s.ownAt e
  obtain ⟨u, hu⟩ := ob.some
  have nd := s.nd
  rw [List.filterMap_append] at nd
  obtain ⟨m1, m2, m3⟩ := List.nodup_append.mp nd
  have hin : p ∈ (σ.zip ρ).filterMap ownA := List.mem_filterMap.mpr ⟨(some (.ref p), .own o), zip_get hp e, rfl⟩
  refine ⟨upd G p u, μ, by rw [List.length_set]; exact s.len, s.mem.frz hu g n, ⟨s.le.ex.trans (Ex.new g), s.le.pre, fun a w h1 h2 h3 => ?_, s.le.th⟩, fun q hq => ?_, ?_⟩
  · obtain ⟨k1, k2, k3⟩ := s.le.prv a w h1 h2 h3
    have ha : a ≠ p := fun z => by subst z; rw [h0] at h1; cases h1
    exact ⟨k1, by rw [upd_ne ha]; exact k2, k3⟩
  · have old : ∀ {x : Option V} {y : Cell}, CellOk c μ G H x y → (∀ o', y = .own o' → x ≠ some (.ref p)) → CellOk c μ (upd G p u) H x y := by
      intro x y k hne
      cases y with
      | un => trivial
      | val d => obtain ⟨v, e, r⟩ := k; exact ⟨v, e, r.mono (Ex.new g) (.refl _)⟩
      | own o' =>
        obtain ⟨a, e, r, g', n', z'⟩ := k
        subst e
        have ha : a ≠ p := fun z => hne o' rfl (by rw [z])
        exact ⟨a, rfl, r.mono (Ex.new g) (.refl _) (fun _ q => q), by rw [upd_ne ha]; exact g', n', z'⟩
    rcases List.mem_append.mp hq with q' | q'
    · refine old (s.cells q (List.mem_append_left _ q')) fun o' e1 e2 => ?_
      have : q = (some (.ref p), .own o') := by cases q; simp at e1 e2; rw [e1, e2]
      exact m3 p (List.mem_filterMap.mpr ⟨q, q', by rw [this]; rfl⟩) p hin rfl
    · by_cases hz : q = (some (.ref p), .val (obD o))
      · subst hz
        exact ⟨.ref p, rfl, obAt_rep ob hu z g⟩
      · -- another slot
        obtain ⟨j, hj, e1⟩ := List.mem_iff_getElem.mp q'
        have hj' : j < σ.length ∧ j < ρ.length := by rw [List.length_zip, List.length_set] at hj; omega
        have e2 : σ[j]? = some q.1 := by rw [← e1, List.getElem_zip]; exact List.getElem?_eq_getElem hj'.1
        have e3 : (ρ.set i (.val (obD o)))[j]? = some q.2 := by rw [← e1, List.getElem_zip]; exact List.getElem?_eq_getElem _
        by_cases hij : i = j
        · subst hij
          rw [List.getElem?_set_self (List.getElem?_eq_some_iff.mp e).1] at e3
          rw [hp] at e2
          exact absurd (by cases q; simp at e2 e3; rw [e2, e3]) hz
        · rw [List.getElem?_set_ne hij] at e3
          refine old (s.cells q (List.mem_append_right _ (zip_get e2 e3))) fun o' z1 z2 => ?_
          exact hij (zip_own_inj (c := c) m2 hp e (by rw [e2, z2]) (by rw [e3, z1]))
  · rw [List.filterMap_append]
    exact nd.sublist (List.Sublist.append (List.Sublist.refl _) (ownA_zip_set_un fun x => ownA_val))
theorem fz_want {K : PySem.W.Frag} {mg : Str → Option Value} {i : Nat} {f : MS} {D : Ends} {σ : L2.St} {H : Hp} (h : tsOf K mg E (mFz i f) D σ H) : tsOf K mg E f D σ H := by
  obtain ⟨b, ρ, m, T, ⟨G, μ, s⟩, w⟩ := h
  unfold mFz at w
  split at w
  · rename_i o e
    split at w
    · rename_i z
      exact ⟨b, _, m, T, s.fz e z, w⟩
    · exact w.elim
  · exact ⟨b, ρ, m, T, ⟨G, μ, s⟩, w⟩
theorem s_fz {i : Nat} (h : PSx X E st f) : PSx X E st (mFz i f) := PSi h fun _ _ _ q => fz_want q
theorem ss_fz {i : Nat} (h : PSsx X E sts f) : PSsx X E sts (mFz i f) := PSsi h fun _ _ _ q => fz_want q
end
end M3

set_option Elab.async false
set_option linter.all false
set_option autoImplicit false
set_option maxRecDepth 100000
set_option maxHeartbeats 2000000
/-! M3g: loops, comprehensions, objects that change. -/
namespace M3
open PySem L2 PySem.Spec PyProof.Rows

section
variable {K : PySem.W.Frag} {mg : Str → Option Value} {E : WX} {c : Cf} {ρ : Sl} {m : Mm} {σ : L2.St} {H : Hp} {T : Tm} {G : Hp} {μ : List Addr}
/-! ### an own object is changed -/
theorem St3.updC (s : St3 c ρ m σ H T G μ) {p : Addr} {u : HO} (hu : ∃ w, H p = some w) (hp : G p = none) (hn : p ∉ μ) (h0 : c.H0 p = none) :
    MemOk c.K c.mg G μ (upd H p u) m ∧ Le c.G0 c.μ0 c.H0 G μ (upd H p u) ∧ ∀ (x : Option V) (y : Cell), CellOk c μ G H x y → (∀ o, y = .own o → x ≠ some (.ref p)) → CellOk c μ G (upd H p u) x y := by
  refine ⟨⟨fun a w e => ?_, s.mem.len, s.mem.nd, fun n o e => ?_, fun a ha => ?_⟩, ⟨s.le.ex, s.le.pre, fun a o h1 h2 h3 => ?_, fun a o h1 => ?_⟩, fun x y k hne => ?_⟩
  · have ha : a ≠ p := fun z => by subst z; rw [hp] at e; cases e
    rw [upd_ne ha]; exact s.mem.st a w e
  · obtain ⟨a, e1, e2, e3⟩ := s.mem.ob n o e
    have ha : a ≠ p := fun z => hn (by rw [← z]; exact List.mem_of_getElem? e1)
    exact ⟨a, e1, e2, e3.mono (.refl _) (.refl _) fun w q => by rw [upd_ne ha]; exact q⟩
  · by_cases hz : a = p
    · subst hz; exact ⟨u, upd_same⟩
    · rw [upd_ne hz]; exact s.mem.th a ha
  · obtain ⟨k1, k2, k3⟩ := s.le.prv a o h1 h2 h3
    have ha : a ≠ p := fun z => by subst z; rw [h0] at h1; cases h1
    exact ⟨by rw [upd_ne ha]; exact k1, k2, k3⟩
  · have ha : a ≠ p := fun z => by subst z; rw [h0] at h1; cases h1
    rw [upd_ne ha]; exact s.le.th a o h1
  · cases y with
    | un => trivial
    | val d => exact k
    | own o =>
      obtain ⟨a, e, r, g, n, z⟩ := k
      subst e
      have ha : a ≠ p := fun q => hne o rfl (by rw [q])
      exact ⟨a, rfl, r.mono (.refl _) (.refl _) (fun w q => by rw [upd_ne ha]; exact q), g, n, z⟩
theorem St3.putTop {p : Addr} {o o' : Ob} {u : HO} (s : St3 c ρ m σ H ((some (.ref p), .own o) :: T) G μ) (r : ObAt c.K c.mg μ G (upd H p u) p o') : St3 c ρ m σ (upd H p u) ((some (.ref p), .own o') :: T) G μ := by
  obtain ⟨a, ea, ob, g, n, h0⟩ := s.cells (some (.ref p), .own o) (by simp)
  cases ea
  obtain ⟨k1, k2, k3⟩ := s.updC (u := u) ob.some g n h0
  have nd := s.nd
  rw [List.cons_append, fm_cons] at nd
  have hnot : p ∉ (T ++ σ.zip ρ).filterMap ownA := (List.nodup_cons.mp (show (p :: (T ++ σ.zip ρ).filterMap ownA).Nodup from nd)).1
  refine ⟨s.len, k1, k2, fun q hq => ?_, nd⟩
  rcases List.mem_cons.mp hq with rfl | q'
  · exact ⟨p, rfl, r, g, n, h0⟩
  · refine k3 q.1 q.2 (s.cells q (List.mem_cons_of_mem _ q')) fun o2 e1 e2 => ?_
    have : q = (some (.ref p), .own o2) := by cases q; simp at e1 e2; rw [e1, e2]
    exact hnot (List.mem_filterMap.mpr ⟨q, q', by rw [this]; rfl⟩)
theorem St3.putSlot {i : Nat} {p : Addr} {o o' : Ob} {u : HO} (s : St3 c ρ m σ H T G μ) (e : ρ[i]? = some (.own o)) (hs : σ[i]? = some (some (.ref p))) (r : ObAt c.K c.mg μ G (upd H p u) p o') : St3 c (ρ.set i (.own o')) m σ (upd H p u) T G μ := by
  obtain ⟨a, ea, ob, g, n, h0⟩ := s.ownAt e
  rw [hs] at ea; cases ea
  obtain ⟨k1, k2, k3⟩ := s.updC (u := u) ob.some g n h0
  have nd := s.nd
  rw [List.filterMap_append] at nd
  obtain ⟨m1, m2, m3⟩ := List.nodup_append.mp nd
  have hin : p ∈ (σ.zip ρ).filterMap ownA := List.mem_filterMap.mpr ⟨(some (.ref p), .own o), zip_get hs e, rfl⟩
  have hil : i < ρ.length := (List.getElem?_eq_some_iff.mp e).1
  have ez : (σ.zip (ρ.set i (.own o'))).filterMap ownA = (σ.zip ρ).filterMap ownA := by
    have key : ∀ {σ : L2.St} {ρ : Sl} {i : Nat}, ρ[i]? = some (.own o) → (σ.zip (ρ.set i (.own o'))).filterMap ownA = (σ.zip ρ).filterMap ownA := by
      intro σ
      induction σ with
      | nil => intro ρ i e; simp
      | cons x σ ih =>
        intro ρ i e
        cases ρ with
        | nil => simp at e
        | cons y ρ =>
          cases i with
          | zero =>
            simp at e; subst e
            rw [List.set_cons_zero, List.zip_cons_cons, List.zip_cons_cons, fm_cons, fm_cons]
            have : ownA (x, Cell.own o') = ownA (x, Cell.own o) := by
              cases x with
              | none => rfl
              | some v => cases v <;> rfl
            rw [this]
          | succ i => rw [List.set_cons_succ, List.zip_cons_cons, List.zip_cons_cons, fm_cons, fm_cons, ih (by simpa using e)]
    exact key e
  refine ⟨by rw [List.length_set]; exact s.len, k1, k2, fun q hq => ?_, by rw [List.filterMap_append, ez]; exact nd⟩
  rcases List.mem_append.mp hq with q' | q'
  · refine k3 q.1 q.2 (s.cells q (List.mem_append_left _ q')) fun o2 e1 e2 => ?_
    have : q = (some (.ref p), .own o2) := by cases q; simp at e1 e2; rw [e1, e2]
    exact m3 p (List.mem_filterMap.mpr ⟨q, q', by rw [this]; rfl⟩) p hin rfl
  · obtain ⟨j, hj, e1⟩ := List.mem_iff_getElem.mp q'
    have hj' : j < σ.length ∧ j < ρ.length := by rw [List.length_zip, List.length_set] at hj; omega
    have e2 : σ[j]? = some q.1 := by rw [← e1, List.getElem_zip]; exact List.getElem?_eq_getElem hj'.1
    have e3 : (ρ.set i (.own o'))[j]? = some q.2 := by rw [← e1, List.getElem_zip]; exact List.getElem?_eq_getElem _
    by_cases hij : i = j
    · subst hij
      rw [List.getElem?_set_self hil] at e3
      rw [hs] at e2
      cases q with
      | mk q1 q2 =>
        simp at e2 e3
        subst e2; subst e3
        exact ⟨p, rfl, r, g, n, h0⟩
    · rw [List.getElem?_set_ne hij] at e3
      refine k3 q.1 q.2 (s.cells q (List.mem_append_right _ (zip_get e2 e3))) fun o2 z1 z2 => ?_
      exact hij (zip_own_inj (c := c) m2 hs e (by rw [e2, z2]) (by rw [e3, z1]))
/-- an object that a number bears is changed -/
theorem St3.putM {n : Nat} {p : Addr} {o o' : Ob} {u : HO} (s : St3 c ρ m σ H T G μ) (e : m[n]? = some (some o)) (hp : μ[n]? = some p) (r : ObAt c.K c.mg μ G (upd H p u) p o') : St3 c ρ (m.set n (some o')) σ (upd H p u) T G μ := by
  obtain ⟨a, e1, g, ob⟩ := s.mem.ob n o e
  rw [hp] at e1; cases e1
  have hm : p ∈ μ := List.mem_of_getElem? hp
  have hnl : n < m.length := (List.getElem?_eq_some_iff.mp e).1
  refine s.next ⟨fun a w q => ?_, by rw [List.length_set]; exact s.mem.len, s.mem.nd, fun k o2 q => ?_, fun a ha => ?_⟩ ⟨.refl _, .refl _, fun a w h1 h2 h3 => ?_, fun a w h1 => ?_⟩
  · have ha : a ≠ p := fun z => by subst z; rw [g] at q; cases q
    rw [upd_ne ha]; exact s.mem.st a w q
  · by_cases hk : n = k
    · subst hk
      rw [List.getElem?_set_self hnl] at q
      cases q
      exact ⟨p, hp, g, r⟩
    · rw [List.getElem?_set_ne hk] at q
      obtain ⟨a, e1, e2, e3⟩ := s.mem.ob k o2 q
      have ha : a ≠ p := fun z => hk (s.mem.nd n k p hp (by rw [← z]; exact e1))
      exact ⟨a, e1, e2, e3.mono (.refl _) (.refl _) fun w q => by rw [upd_ne ha]; exact q⟩
  · by_cases hz : a = p
    · subst hz; exact ⟨u, upd_same⟩
    · rw [upd_ne hz]; exact s.mem.th a ha
  · have ha : a ≠ p := fun z => h3 (by rw [z]; exact hm)
    exact ⟨by rw [upd_ne ha]; exact h1, h2, h3⟩
  · by_cases hz : a = p
    · subst hz; exact ⟨u, upd_same⟩
    · exact ⟨w, by rw [upd_ne hz]; exact h1⟩

/-! ### what is walked -/
def JOk (c : Cf) (J : It) (T' : Tm) (ds : List Dv) : Prop := ∀ (ρ : Sl) (m : Mm) (σ : L2.St) (H : Hp) (T : Tm) (i : Nat), (∀ p ∈ T', p ∈ T) → S3 c ρ m σ H T →
  (i < ds.length → J.go i H) ∧ (∀ d, ds[i]? = some d → ∀ x H', J.yld i H x H' → S3 c ρ m σ H' (tv x d :: T)) ∧ (ds.length ≤ i → J.stop i H)
abbrev MI := Sl → Mm → Rs (List Dv)
def WantI (E : WX) (c : Cf) (ρ : Sl) (σ : L2.St) (T : Tm) (R : It → Hp → Prop) : Rs (List Dv) → Prop
  | .ok ds m => ∀ J H' T', (∀ p ∈ T', ownA p = none) → ds.length ≤ sizeLine → S3 c ρ m σ H' (T' ++ T) → JOk c J T' ds → R J H'
  | .ex x m => WantX E c ρ σ T x m
  | .no => False
def tiOf (K : PySem.W.Frag) (mg : Str → Option Value) (E : WX) (f : MI) : TI := fun σ H R => ∃ (b : Bs) (ρ : Sl) (m : Mm) (T : Tm), S3 (b.cf K mg) ρ m σ H T ∧ WantI E (b.cf K mg) ρ σ T R (f ρ m)
end

section
variable {X : Cx} {E : WX} {tg iter : Expr} {fa : ME} {pos : Pos} {g : MG} {body : List Stmt} {fb : MS} {it : MI} {is : List Nat}
abbrev PIx (X : Cx) (E : WX) (tg iter : Expr) (f : MI) : Prop := PI X tg iter (tiOf X.K X.mg E f)
theorem PIi {t t' : TI} (h : PI X tg iter t) (i : ∀ σ H R, t' σ H R → t σ H R) : PI X tg iter t' := ⟨fun pins s σ H R I q => h.run pins s σ H R I (i σ H R q)⟩
/-- a list or a tuple that stands still -/
def stOf : Ar → Option (List Dv)
  | .v (.lst ds) => some ds
  | .v (.tup ds) => some ds
  | .v (.ktp ds) => if ds.length ≤ sizeLine then some ds else none
  | .v (.scr ns) => if ns.length ≤ sizeLine then some (ns.map .int) else none
  | _ => none
def mIt (f : ME) : MI := fun ρ m => (f ρ m).bind fun x m1 => match stOf x with
  | some ds => .ok ds m1
  | none => .no
def iSeq (K : PySem.W.Frag) (tl : TE) : TI := fun σ H R => tl σ H fun x H1 => ∃ a, x = .ref a ∧ (((∃ xs, SqL K H1 a xs) ∧ R (Itl K a) H1) ∨ ((∃ xs, SqT K H1 a xs) ∧ R (Itt K a) H1))
theorem pi_seq {l : Expr} {tl : TE} (hl : PE X l tl) : PI X tg l (iSeq X.K tl) := by
  refine ⟨fun pins s σ H R I h => ?_⟩
  refine thn (hl.run pins s σ H _ I h) fun v s1 ⟨x, H1, I1, r1, q1⟩ => ?_
  obtain ⟨a, e, q⟩ := q1
  subst e
  cases r1
  rcases q with ⟨⟨xs, hq⟩, q⟩ | ⟨⟨xs, hq⟩, q⟩
  · obtain ⟨its, rv, p, hz⟩ := I1.list hq
    refine wpAny_pyIter_list p.isList ?_
    refine ⟨s1.heap.objs.size, [s1.heap.objs.size], _, _, H1, rfl, I1.kept (t' := s1.toks) fun b o e => Heap.get?_push_of_some _ e, turn_list a _, ⟨_, Heap.get?_push_size _ rfl, rfl, rfl⟩, fun b hb => ?_, q⟩
    have e : b = s1.heap.objs.size := by simpa using hb
    subst e
    exact I1.fpOk (Nat.le_refl _) (I1.hok.fresh (Nat.le_refl _))
  · obtain ⟨its, rv, p, hz⟩ := I1.tuple hq
    refine wpAny_pyIter_tuple (show s1.heap.IsTuple a its.toArray from p) ?_
    refine ⟨s1.heap.objs.size, [s1.heap.objs.size], _, _, H1, rfl, I1.kept (t' := s1.toks) fun b o e => Heap.get?_push_of_some _ e, turn_tuple a _, ⟨_, Heap.get?_push_size _ rfl, rfl, rfl⟩, fun b hb => ?_, q⟩
    have e : b = s1.heap.objs.size := by simpa using hb
    subst e
    exact I1.fpOk (Nat.le_refl _) (I1.hok.fresh (Nat.le_refl _))
theorem st_rep {K : PySem.W.Frag} {mg : Str → Option Value} {μ : List Addr} {G H : Hp} {d : Dv} {v : V} {ds : List Dv} (st : Stands G H) (r : Rep K mg μ G d v) (e : stOf (.v d) = some ds) : ∃ a vs, v = .ref a ∧ (SqL K H a vs ∨ SqT K H a vs) ∧ RepL K mg μ G ds vs ∧ ds.length ≤ sizeLine := by
  cases r <;> simp [stOf] at e
  · subst e; rename_i h z r; exact ⟨_, _, rfl, .inl (SqL.of (st.l h)), r, z⟩
  · obtain ⟨z, e⟩ := e
    subst e
    rename_i ns a h
    refine ⟨_, _, rfl, .inl (st.lst h), ?_, by simpa using z⟩
    have key : ∀ ns : List Int, RepL K mg μ G (ns.map .int) (ns.map V.int) := fun ns => by
      induction ns with
      | nil => exact .nil
      | cons n ns ih => exact .cons (.int n) ih
    exact key ns
  · obtain ⟨z, e⟩ := e
    subst e; rename_i h r; exact ⟨_, _, rfl, .inr (st.tup h), r, z⟩
  · subst e; rename_i h z r; exact ⟨_, _, rfl, .inr (SqT.of (st.t h)), r, z⟩
theorem tva_own {v : V} {x : Ar} : ∀ p ∈ tva v x, ownA p = none := fun p hp => by
  cases x with
  | v d => simp [tva] at hp; subst hp; exact ownA_val
  | b i => simp [tva] at hp
theorem jok_list {c : Cf} {a : Addr} {d : Dv} {ds : List Dv} (e : stOf (.v d) = some ds) (hl : ∀ (μ : List Addr) (G H : Hp), Stands G H → Rep c.K c.mg μ G d (.ref a) → ∃ vs, SqL c.K H a vs ∧ RepL c.K c.mg μ G ds vs) : JOk c (Itl c.K a) [tv (.ref a) d] ds := by
  intro ρ m σ H T i hT ⟨G, μ, s⟩
  have r := s.at (hT (tv (.ref a) d) (by simp))
  obtain ⟨vs, h1, h2⟩ := hl μ G H s.mem.st r
  have hlen := h2.length
  refine ⟨fun hi => ⟨vs, vs[i]'(by omega), h1, List.getElem?_eq_getElem _⟩, fun d' hd x H' y => ?_, fun hi => ⟨vs, h1, by omega⟩⟩
  obtain ⟨e1, e2⟩ := y
  subst e1
  obtain ⟨v, hv, rv⟩ := h2.get hd
  have := e2 vs h1
  rw [hv] at this; cases this
  exact ⟨G, μ, s.push rv⟩
theorem jok_tup {c : Cf} {a : Addr} {d : Dv} {ds : List Dv} (e : stOf (.v d) = some ds) (hl : ∀ (μ : List Addr) (G H : Hp), Stands G H → Rep c.K c.mg μ G d (.ref a) → ∃ vs, SqT c.K H a vs ∧ RepL c.K c.mg μ G ds vs) : JOk c (Itt c.K a) [tv (.ref a) d] ds := by
  intro ρ m σ H T i hT ⟨G, μ, s⟩
  have r := s.at (hT (tv (.ref a) d) (by simp))
  obtain ⟨vs, h1, h2⟩ := hl μ G H s.mem.st r
  have hlen := h2.length
  refine ⟨fun hi => ⟨vs, vs[i]'(by omega), h1, List.getElem?_eq_getElem _⟩, fun d' hd x H' y => ?_, fun hi => ⟨vs, h1, by omega⟩⟩
  obtain ⟨e1, e2⟩ := y
  subst e1
  obtain ⟨v, hv, rv⟩ := h2.get hd
  have := e2 vs h1
  rw [hv] at this; cases this
  exact ⟨G, μ, s.push rv⟩
/-- for x in e, e a list or a tuple -/
theorem i_seq (ha : PX X E iter fa) : PIx X E tg iter (mIt fa) :=
  PIi (pi_seq ha) fun σ H R ⟨b, ρ, m, T, S, w⟩ => by
    refine ⟨b, ρ, m, T, S, ?_⟩
    unfold mIt at w
    revert w
    cases fa ρ m with
    | no => exact id
    | ex x m1 => exact id
    | ok x m1 =>
      intro w v H1 ⟨G, μ, s⟩ hb
      rw [Rs.bind_ok] at w
      cases e : stOf x with
      | none => rw [e] at w; exact w.elim
      | some ds =>
        rw [e] at w
        cases x with
        | b i => cases e
        | v d =>
          have r : Rep X.K X.mg μ G d v := St3.top (T := T) s
          obtain ⟨a, vs, rfl, ha, ra, z⟩ := st_rep s.mem.st r e
          refine ⟨a, rfl, ?_⟩
          cases d with
          | lst xs =>
            cases r with
            | lst h z' r' => exact .inl ⟨⟨_, SqL.of (s.mem.st.l h)⟩, w _ H1 [tv (.ref a) (.lst xs)] (tva_own (v := .ref a) (x := .v (.lst xs))) z ⟨G, μ, s⟩ (jok_list e fun μ G H st r => by
                cases e
                cases r with
                | lst h z r => exact ⟨_, SqL.of (st.l h), r⟩)⟩
          | scr ns =>
            cases r with
            | scr h => exact .inl ⟨⟨_, s.mem.st.lst h⟩, w _ H1 [tv (.ref a) (.scr ns)] (tva_own (v := .ref a) (x := .v (.scr ns))) z ⟨G, μ, s⟩ (jok_list e fun μ G H st r => by
                obtain ⟨a', vs, e1, e2, e3, _⟩ := st_rep st r e
                cases e1
                cases r with
                | scr h =>
                  simp [stOf] at e
                  have e := e.2
                  subst e
                  refine ⟨_, st.lst h, ?_⟩
                  have key : ∀ ns : List Int, RepL X.K X.mg μ G (ns.map .int) (ns.map V.int) := fun ns => by
                    induction ns with
                    | nil => exact .nil
                    | cons n ns ih => exact .cons (.int n) ih
                  exact key ns)⟩
          | tup xs =>
            cases r with
            | tup h z' r' => exact .inr ⟨⟨_, SqT.of (s.mem.st.t h)⟩, w _ H1 [tv (.ref a) (.tup xs)] (tva_own (v := .ref a) (x := .v (.tup xs))) z ⟨G, μ, s⟩ (jok_tup e fun μ G H st r => by
                cases e
                cases r with
                | tup h z r => exact ⟨_, SqT.of (st.t h), r⟩)⟩
          | ktp xs =>
            cases r with
            | ktp h r' => exact .inr ⟨⟨_, s.mem.st.tup h⟩, w _ H1 [tv (.ref a) (.ktp xs)] (tva_own (v := .ref a) (x := .v (.ktp xs))) z ⟨G, μ, s⟩ (jok_tup e fun μ G H st r => by
                simp [stOf] at e
                have e := e.2
                subst e
                cases r with
                | ktp h r => exact ⟨_, st.tup h, r⟩)⟩
          | _ => cases e
/-- the ints lo, lo + 1, .. below hi -/
def rngD (lo : Int) (n : Nat) : List Dv := (List.range n).map fun i => Dv.int (lo + ((i : Nat) : Int))
theorem jok_rng {c : Cf} {lo : Int} {n : Nat} : JOk c (Itr lo n) [] (rngD lo n) := by
  intro ρ m σ H T i hT S
  have hl : (rngD lo n).length = n := by simp [rngD]
  rw [hl]
  refine ⟨fun hi => hi, fun d hd x H' y => ?_, fun hi => hi⟩
  obtain ⟨e1, e2⟩ := y
  subst e1; subst e2
  have hi : i < n := by have := (List.getElem?_eq_some_iff.mp hd).1; omega
  simp only [rngD, List.getElem?_map, List.getElem?_range hi, Option.map_some, Option.some.injEq] at hd
  subst hd
  obtain ⟨G, μ, s⟩ := S
  exact ⟨G, μ, s.push (.int _)⟩
def mRng1 (f : MA) : MI := fun ρ m => (f ρ m).bind fun ds m1 => match ds with
  | [.int j] => if -(2 ^ 62) ≤ j ∧ j < 2 ^ 62 ∧ j.toNat ≤ sizeLine then .ok (rngD 0 j.toNat) m1 else .no
  | _ => .no
def mRng2 (f : MA) : MI := fun ρ m => (f ρ m).bind fun ds m1 => match ds with
  | [.int i, .int j] => if (-(2 ^ 62) ≤ i ∧ i < 2 ^ 62 ∧ -(2 ^ 62) ≤ j ∧ j < 2 ^ 62) ∧ (j - i).toNat ≤ sizeLine then .ok (rngD i (j - i).toNat) m1 else .no
  | _ => .no
theorem i_range1 {a : Expr} {f : MA} {p : Pos} (hg : Gl X "range") (hm : X.mg "range" = none) (ha : PXs X E [a] f) (hs : starEach [a] X.env = [(false, eval a X.env)] := by rfl) : PIx X E tg (.Call (.Name "range" p) [a] [] pos) (mRng1 f) :=
  PIi (pi_range1 hg hm ha hs) fun σ H R ⟨b, ρ, m, T, S, w⟩ => by
    refine ⟨b, ρ, m, T, S, ?_⟩
    unfold mRng1 at w
    revert w
    cases f ρ m with
    | no => exact id
    | ex x m1 => exact id
    | ok ds m1 =>
      intro w vs H1 hl ⟨G, μ, s⟩
      rw [Rs.bind_ok] at w
      have r := tvs_rep hl s
      split at w
      · rename_i j
        split at w
        · rename_i z
          cases r with
          | cons a b =>
            cases a; cases b
            exact ⟨j, rfl, z.1, z.2.1, w _ H1 [] (by simp) (by simpa [rngD] using z.2.2) ⟨G, μ, s.pops⟩ jok_rng⟩
        · exact w.elim
      · exact w.elim
theorem i_range2 {a a' : Expr} {f : MA} {p : Pos} (hg : Gl X "range") (hm : X.mg "range" = none) (ha : PXs X E [a, a'] f) (hs : starEach [a, a'] X.env = [(false, eval a X.env), (false, eval a' X.env)] := by rfl) (hs2 : starEach [a'] X.env = [(false, eval a' X.env)] := by rfl) : PIx X E tg (.Call (.Name "range" p) [a, a'] [] pos) (mRng2 f) :=
  PIi (pi_range2 hg hm ha hs hs2) fun σ H R ⟨b, ρ, m, T, S, w⟩ => by
    refine ⟨b, ρ, m, T, S, ?_⟩
    unfold mRng2 at w
    revert w
    cases f ρ m with
    | no => exact id
    | ex x m1 => exact id
    | ok ds m1 =>
      intro w vs H1 hl ⟨G, μ, s⟩
      rw [Rs.bind_ok] at w
      have r := tvs_rep hl s
      split at w
      · rename_i i j
        split at w
        · rename_i z
          cases r with
          | cons a b =>
            cases b with
            | cons b d =>
              cases a; cases b; cases d
              exact ⟨i, j, rfl, z.1, w _ H1 [] (by simp) (by simpa [rngD] using z.2) ⟨G, μ, s.pops⟩ jok_rng⟩
        · exact w.elim
      · exact w.elim

/-! ### for -/
def forL (g : MG) (f : MS) : List Dv → Sl → Mm → RS
  | [], ρ, m => .nx ρ m
  | d :: ds, ρ, m => match g d ρ with
    | none => .no
    | some ρ1 => match f ρ1 m with
      | .nx ρ2 m2 => forL g f ds ρ2 m2
      | .ct ρ2 m2 => forL g f ds ρ2 m2
      | .bk ρ2 m2 => .nx ρ2 m2
      | r => r
def mFor (it : MI) (g : MG) (f : MS) : MS := fun ρ m => (it ρ m).st ρ fun ds m1 => forL g f ds ρ m1
theorem s_for (hp : PassesOwn (model X.prog X.w) X.A X.env X.xe) (hc : X.calm = true) (hi : PIx X E tg iter it) (hg : PGx X is tg g) (hb : PSsx X E body fb)
    (hs : ∀ x, foldedSetIterable iter X.env x = pure x := by intro _; rfl) : PSx X E (.For tg iter body [] pos) (mFor it g fb) :=
  PSi (ps_for hp hc hi hg.pg hb hs) fun D σ H ⟨b, ρ, m, T, S, w⟩ => by
    refine ⟨b, ρ, m, T, S, ?_⟩
    unfold mFor at w
    revert w
    cases it ρ m with
    | no => exact id
    | ex x m1 => exact fun w => w σ
    | ok ds m1 =>
      intro w J H1 T' hT' hz S1 hJ
      rw [Rs.st_ok] at w
      refine ⟨fun i k σ H => k = ds.length - i ∧ i ≤ ds.length ∧ ∃ ρ m, S3 (b.cf X.K X.mg) ρ m σ H (T' ++ T) ∧ WantS E (b.cf X.K X.mg) T D (forL g fb (ds.drop i) ρ m), ⟨ds.length, by simp, Nat.zero_le _, ρ, m1, S1, by simpa using w⟩, ?_⟩
      rintro i k σ H ⟨rfl, hi, ρ, m, S, w⟩
      obtain ⟨j1, j2, j3⟩ := hJ ρ m σ H (T' ++ T) i (fun p hp => List.mem_append_left _ hp) S
      by_cases hlt : i < ds.length
      · have hd : ds.drop i = ds[i] :: ds.drop (i + 1) := List.drop_eq_getElem_cons hlt
        rw [hd] at w
        refine .inr ⟨j1 hlt, fun σ' H' => ∃ ρ' m', S3 (b.cf X.K X.mg) ρ' m' σ' H' (T' ++ T) ∧ WantS E (b.cf X.K X.mg) T D (forL g fb (ds.drop (i + 1)) ρ' m'), fun σ' H' q => ⟨ds.length - (i + 1), by omega, rfl, hlt, q⟩, fun x H' y => ?_⟩
        have S2 := j2 ds[i] (List.getElem?_eq_getElem hlt) x H' y
        unfold forL at w
        cases hg' : g ds[i] ρ with
        | none => rw [hg'] at w; exact w.elim
        | some ρ1 =>
          rw [hg'] at w
          refine ⟨b, ρ, m, T' ++ T, ds[i], S2, ρ1, hg', fun σ2 H2 _ S3' => ⟨b, ρ1, m, T' ++ T, S3', ?_⟩⟩
          have w : WantS E (b.cf X.K X.mg) T D (match fb ρ1 m with
            | .nx ρ2 m2 => forL g fb (ds.drop (i + 1)) ρ2 m2
            | .ct ρ2 m2 => forL g fb (ds.drop (i + 1)) ρ2 m2
            | .bk ρ2 m2 => .nx ρ2 m2
            | r => r) := w
          revert w
          cases fb ρ1 m with
          | nx ρ2 m2 => exact fun w σ H S => ⟨ρ2, m2, S, w⟩
          | ct ρ2 m2 => exact fun w σ H S => ⟨ρ2, m2, S, w⟩
          | bk ρ2 m2 => exact fun w σ H S => w σ H S.pops
          | rt d m2 => exact id
          | ex x ρ2 m2 => exact fun w σ => WantX.weak (w σ)
          | no => exact id
      · have e : i = ds.length := by omega
        subst e
        rw [List.drop_length] at w
        exact .inl ⟨j3 (Nat.le_refl _), w σ H S.pops⟩

/-! ### while -/
def whileN (t : MB) (f : MS) : Nat → Sl → Mm → RS
  | 0, _, _ => .no
  | n + 1, ρ, m => (t ρ m).st ρ fun k m1 => if k = true then match f ρ m1 with
      | .nx ρ2 m2 => whileN t f n ρ2 m2
      | .ct ρ2 m2 => whileN t f n ρ2 m2
      | .bk ρ2 m2 => .nx ρ2 m2
      | r => r
    else .nx ρ m1
open Classical in
noncomputable def mWhile (t : MB) (f : MS) : MS := fun ρ m => if h : ∃ n, whileN t f n ρ m ≠ .no then whileN t f (Classical.choose h) ρ m else .no
theorem whileN_up {t : MB} {f : MS} : ∀ {n : Nat} {ρ : Sl} {m : Mm}, whileN t f n ρ m ≠ .no → whileN t f (n + 1) ρ m = whileN t f n ρ m := by
  intro n
  induction n with
  | zero => intro ρ m h; exact (h rfl).elim
  | succ n ih =>
    intro ρ m h
    unfold whileN at h ⊢
    revert h
    cases t ρ m with
    | no => exact fun _ => rfl
    | ex x m1 => exact fun _ => rfl
    | ok k m1 =>
      intro h
      rw [Rs.st_ok] at h ⊢
      rw [Rs.st_ok]
      by_cases hk : k = true
      · rw [if_pos hk] at h ⊢
        rw [if_pos hk]
        revert h
        cases f ρ m1 with
        | nx ρ2 m2 => exact fun h => ih h
        | ct ρ2 m2 => exact fun h => ih h
        | bk ρ2 m2 => exact fun _ => rfl
        | rt d m2 => exact fun _ => rfl
        | ex x ρ2 m2 => exact fun _ => rfl
        | no => exact fun _ => rfl
      · rw [if_neg hk, if_neg hk]
theorem whileN_le {t : MB} {f : MS} {n k : Nat} {ρ : Sl} {m : Mm} (h : whileN t f n ρ m ≠ .no) : whileN t f (n + k) ρ m = whileN t f n ρ m := by
  induction k with
  | zero => rfl
  | succ k ih => rw [← Nat.add_assoc, whileN_up (by rw [ih]; exact h), ih]
theorem mWhile_eq {t : MB} {f : MS} {n : Nat} {ρ : Sl} {m : Mm} {r : RS} (h : whileN t f n ρ m = r) (hr : r ≠ .no) : mWhile t f ρ m = r := by
  have h1 : ∃ n, whileN t f n ρ m ≠ .no := ⟨n, by rw [h]; exact hr⟩
  unfold mWhile
  rw [dif_pos h1]
  have h2 := Classical.choose_spec h1
  rcases Nat.le_total n (Classical.choose h1) with q | q
  · obtain ⟨k, hk⟩ := Nat.exists_eq_add_of_le q
    rw [hk, whileN_le (by rw [h]; exact hr), h]
  · obtain ⟨k, hk⟩ := Nat.exists_eq_add_of_le q
    rw [← h, hk, whileN_le h2]
theorem s_while {c : Expr} {t : MB} (hp : PassesOwn (model X.prog X.w) X.A X.env X.xe) (hc : PB X E c t) (hb : PSsx X E body fb) : PSx X E (.While c body [] pos) (mWhile t fb) :=
  PSi (ps_while hp hc hb) fun D σ H ⟨b, ρ, m, T, S, w⟩ => by
    unfold mWhile at w
    split at w
    · rename_i h
      refine ⟨fun k σ H => ∃ ρ m, S3 (b.cf X.K X.mg) ρ m σ H T ∧ WantS E (b.cf X.K X.mg) T D (whileN t fb k ρ m), ⟨_, ρ, m, S, w⟩, ?_⟩
      rintro k σ H ⟨ρ, m, S, w⟩
      refine ⟨b, ρ, m, T, S, ?_⟩
      cases k with
      | zero => exact w.elim
      | succ k =>
        unfold whileN at w
        revert w
        cases t ρ m with
        | no => exact id
        | ex x m1 => exact fun w => w σ
        | ok v m1 =>
          intro w H1 S1
          rw [Rs.st_ok] at w
          by_cases hv : v = true
          · rw [if_pos hv] at w ⊢
            refine ⟨fun σ' H' => ∃ ρ' m', S3 (b.cf X.K X.mg) ρ' m' σ' H' T ∧ WantS E (b.cf X.K X.mg) T D (whileN t fb k ρ' m'), fun σ' H' q => ⟨k, Nat.lt_succ_self k, q⟩, b, ρ, m1, T, S1, ?_⟩
            revert w
            cases fb ρ m1 with
            | nx ρ2 m2 => exact fun w σ H S => ⟨ρ2, m2, S, w⟩
            | ct ρ2 m2 => exact fun w σ H S => ⟨ρ2, m2, S, w⟩
            | bk ρ2 m2 => exact id
            | rt d m2 => exact id
            | ex x ρ2 m2 => exact id
            | no => exact id
          · rw [if_neg hv] at w ⊢
            exact w σ H1 S1
    · exact w.elim
/-- the same, the number of turns told ahead -/
theorem s_whileN {c : Expr} {t : MB} (N : Nat) (hp : PassesOwn (model X.prog X.w) X.A X.env X.xe) (hc : PB X E c t) (hb : PSsx X E body fb) : PSx X E (.While c body [] pos) (whileN t fb N) :=
  PSi (s_while hp hc hb) fun D σ H ⟨b, ρ, m, T, S, w⟩ => by
    refine ⟨b, ρ, m, T, S, ?_⟩
    by_cases e : whileN t fb N ρ m = .no
    · rw [e] at w; exact w.elim
    · rw [mWhile_eq rfl e]; exact w
end
end M3

set_option Elab.async false
set_option linter.all false
set_option autoImplicit false
set_option maxRecDepth 100000
set_option maxHeartbeats 2000000
/-! M3h: comprehensions. -/
namespace M3
open PySem L2 PySem.Spec PyProof.Rows

section
variable {c : Cf} {ρ : Sl} {m : Mm} {σ : L2.St} {H : Hp} {T T' : Tm} {G : Hp} {μ : List Addr}
theorem St3.perm (h : St3 c ρ m σ H T G μ) (p : T'.Perm T) : St3 c ρ m σ H T' G μ where
  len := h.len
  mem := h.mem
  le := h.le
  cells := fun q hq => by
    rcases List.mem_append.mp hq with k | k
    · exact h.cells q (List.mem_append_left _ (p.mem_iff.mp k))
    · exact h.cells q (List.mem_append_right _ k)
  nd := by
    have := h.nd
    rw [List.filterMap_append] at this ⊢
    exact ((p.filterMap ownA).append_right _).nodup_iff.mpr this
theorem S3.perm (h : S3 c ρ m σ H T) (p : T'.Perm T) : S3 c ρ m σ H T' := let ⟨G, μ, s⟩ := h; ⟨G, μ, s.perm p⟩
/-- what stands at a slot -/
def cellAt (σ : L2.St) (ρ : Sl) (v : Nat) : Option V × Cell := match σ[v]?, ρ[v]? with
  | some x, some y => (x, y)
  | _, _ => (none, .un)
theorem zip_un {σ : L2.St} : ∀ {ρ : Sl} {v : Nat}, ((cellAt σ ρ v :: (σ.set v none).zip (ρ.set v .un)).filterMap ownA).Perm ((σ.zip ρ).filterMap ownA) ∧
    (∀ p, p ∈ (σ.set v none).zip (ρ.set v .un) → p ∈ σ.zip ρ ∨ p = (none, .un)) ∧ (∀ p, p ∈ σ.zip ρ → p ∈ (σ.set v none).zip (ρ.set v .un) ∨ p = cellAt σ ρ v) ∧ (cellAt σ ρ v ∈ σ.zip ρ ∨ cellAt σ ρ v = (none, .un)) := by
  induction σ with
  | nil => intro ρ v; simp [cellAt, ownA]
  | cons x σ ih =>
    intro ρ v
    cases ρ with
    | nil =>
      have : cellAt (x :: σ) [] v = (none, .un) := by unfold cellAt; cases (x :: σ)[v]? <;> simp
      simp [this, ownA]
    | cons y ρ =>
      cases v with
      | zero =>
        have e : cellAt (x :: σ) (y :: ρ) 0 = (x, y) := rfl
        rw [e]
        simp only [List.set_cons_zero, List.zip_cons_cons]
        refine ⟨?_, fun p hp => ?_, fun p hp => ?_, .inl List.mem_cons_self⟩
        · rw [fm_cons, fm_cons, fm_cons]
          exact List.Perm.refl _
        · rcases List.mem_cons.mp hp with h | h
          · exact .inr h
          · exact .inl (List.mem_cons_of_mem _ h)
        · rcases List.mem_cons.mp hp with h | h
          · exact .inr h
          · exact .inl (List.mem_cons_of_mem _ h)
      | succ v =>
        have e : cellAt (x :: σ) (y :: ρ) (v + 1) = cellAt σ ρ v := rfl
        rw [e]
        obtain ⟨h1, h2, h3, h4⟩ := ih (ρ := ρ) (v := v)
        simp only [List.set_cons_succ, List.zip_cons_cons]
        refine ⟨?_, fun p hp => ?_, fun p hp => ?_, ?_⟩
        · rw [fm_cons] at h1
          rw [fm_cons, fm_cons, fm_cons, ← List.append_assoc]
          refine (List.Perm.append_right _ List.perm_append_comm).trans ?_
          rw [List.append_assoc]
          exact h1.append_left _
        · rcases List.mem_cons.mp hp with h | h
          · exact .inl (by rw [h]; exact List.mem_cons_self)
          · exact (h2 p h).imp (List.mem_cons_of_mem _) id
        · rcases List.mem_cons.mp hp with h | h
          · exact .inl (by rw [h]; exact List.mem_cons_self)
          · exact (h3 p h).imp (List.mem_cons_of_mem _) id
        · exact h4.imp (List.mem_cons_of_mem _) id
theorem St3.un1 {v : Nat} (h : St3 c ρ m σ H T G μ) : St3 c (ρ.set v .un) m (σ.set v none) H (cellAt σ ρ v :: T) G μ := by
  obtain ⟨h1, h2, h3, h4⟩ := zip_un (σ := σ) (ρ := ρ) (v := v)
  refine ⟨by rw [List.length_set, List.length_set]; exact h.len, h.mem, h.le, fun p hp => ?_, ?_⟩
  · rcases List.mem_append.mp hp with q | q
    · rcases List.mem_cons.mp q with e | q
      · subst e
        rcases h4 with k | k
        · exact h.cells _ (List.mem_append_right _ k)
        · rw [k]; trivial
      · exact h.cells p (List.mem_append_left _ q)
    · rcases h2 p q with k | k
      · exact h.cells p (List.mem_append_right _ k)
      · rw [k]; trivial
  · have nd := h.nd
    rw [List.filterMap_append] at nd
    rw [List.cons_append, fm_cons, List.filterMap_append, ← List.append_assoc]
    rw [fm_cons] at h1
    refine ((List.Perm.append_right _ List.perm_append_comm).trans ?_).nodup_iff.mpr nd
    rw [List.append_assoc]
    exact h1.append_left _
theorem St3.ununl {v : Nat} (h : St3 c (ρ.set v .un) m (σ.set v none) H (cellAt σ ρ v :: T) G μ) (hl : σ.length = ρ.length) : St3 c ρ m σ H T G μ := by
  obtain ⟨h1, h2, h3, h4⟩ := zip_un (σ := σ) (ρ := ρ) (v := v)
  refine ⟨hl, h.mem, h.le, fun p hp => ?_, ?_⟩
  · rcases List.mem_append.mp hp with q | q
    · exact h.cells p (List.mem_append_left _ (List.mem_cons_of_mem _ q))
    · rcases h3 p q with k | k
      · exact h.cells p (List.mem_append_right _ k)
      · rw [k]; exact h.cells _ (List.mem_append_left _ List.mem_cons_self)
  · have nd := h.nd
    rw [List.cons_append, fm_cons, List.filterMap_append, ← List.append_assoc] at nd
    rw [fm_cons] at h1
    rw [List.filterMap_append]
    refine ((List.Perm.append_right _ List.perm_append_comm).trans ?_).nodup_iff.mp nd
    rw [List.append_assoc]
    exact h1.append_left _
/-- the cells that a block hides -/
def saved (σ : L2.St) (ρ : Sl) : List Nat → Tm
  | [] => []
  | v :: vs => cellAt (wipe σ vs) (wipeR ρ vs) v :: saved σ ρ vs
theorem St3.wipeIn {vs : List Nat} (h : St3 c ρ m σ H T G μ) : St3 c (wipeR ρ vs) m (wipe σ vs) H (saved σ ρ vs ++ T) G μ := by
  induction vs with
  | nil => exact h
  | cons v vs ih => exact ih.un1
theorem wipe_len {σ : L2.St} {ρ : Sl} (h : σ.length = ρ.length) : ∀ vs : List Nat, (wipe σ vs).length = (wipeR ρ vs).length
  | [] => h
  | v :: vs => by unfold wipe wipeR; rw [List.length_set, List.length_set]; exact wipe_len h vs
theorem St3.wipeOut {vs : List Nat} (hl : σ.length = ρ.length) (h : St3 c (wipeR ρ vs) m (wipe σ vs) H (saved σ ρ vs ++ T) G μ) : St3 c ρ m σ H T G μ := by
  induction vs with
  | nil => exact h
  | cons v vs ih => exact ih (St3.ununl (v := v) h (wipe_len hl vs))
theorem S3.wipeIn {vs : List Nat} (h : S3 c ρ m σ H T) : S3 c (wipeR ρ vs) m (wipe σ vs) H (saved σ ρ vs ++ T) := let ⟨G, μ, s⟩ := h; ⟨G, μ, s.wipeIn⟩
theorem S3.wipeOut {vs : List Nat} (hl : σ.length = ρ.length) (h : S3 c (wipeR ρ vs) m (wipe σ vs) H (saved σ ρ vs ++ T)) : S3 c ρ m σ H T := let ⟨G, μ, s⟩ := h; ⟨G, μ, St3.wipeOut hl s⟩
theorem S3.len (h : S3 c ρ m σ H T) : σ.length = ρ.length := let ⟨_, _, s⟩ := h; s.len
theorem wipe_idem {σ : L2.St} {vs : List Nat} : wipe (wipe σ vs) vs = wipe σ vs := by
  have key : ∀ ws : List Nat, (∀ i ∈ ws, i ∈ vs) → wipe (wipe σ ws) vs = wipe σ vs := fun ws => by
    induction ws with
    | nil => intro _; rfl
    | cons w ws ih =>
      intro h
      show wipe ((wipe σ ws).set w none) vs = wipe σ vs
      rw [wipe_set (h w List.mem_cons_self)]
      exact ih fun i hi => h i (List.mem_cons_of_mem _ hi)
  exact key vs fun i hi => hi
theorem wipeR_idem {σ : Sl} {vs : List Nat} : wipeR (wipeR σ vs) vs = wipeR σ vs := by
  have key : ∀ ws : List Nat, (∀ i ∈ ws, i ∈ vs) → wipeR (wipeR σ ws) vs = wipeR σ vs := fun ws => by
    induction ws with
    | nil => intro _; rfl
    | cons w ws ih =>
      intro h
      show wipeR ((wipeR σ ws).set w .un) vs = wipeR σ vs
      rw [wipeR_set (h w List.mem_cons_self)]
      exact ih fun i hi => h i (List.mem_cons_of_mem _ hi)
  exact key vs fun i hi => hi
end

abbrev EN : WX := fun _ _ _ _ => False
/-- tests of a comprehension -/
def mYes : MB := fun _ m => .ok true m
def lcL (g : MG) (t : MB) (f : ME) (ρ : Sl) : List Dv → Mm → Rs (List Dv)
  | [], m => .ok [] m
  | d :: ds, m => match g d ρ with
    | none => .no
    | some ρ1 => match t ρ1 m with
      | .ok k m1 => if k = true then match f ρ1 m1 with
          | .ok (.v y) m2 => match lcL g t f ρ ds m2 with
            | .ok ys m3 => .ok (y :: ys) m3
            | _ => .no
          | _ => .no
        else lcL g t f ρ ds m1
      | _ => .no
def mLc (vs : List Nat) (it : MI) (g : MG) (t : MB) (f : ME) : MN := fun ρ m => (it ρ m).bind fun ds m1 => match lcL g t f (wipeR ρ vs) ds m1 with
  | .ok ys m2 => .ok (.lst ys) m2
  | _ => .no

section
variable {X : Cx} {E : WX} {tg iter elt : Expr} {ifs : List Expr} {scope : Scope} {own : List (Str × Nat)} {fa : ME} {pos : Pos} {g : MG} {it : MI} {t : MB} {is : List Nat}
theorem lc_want {K : PySem.W.Frag} {mg : Str → Option Value} {vs : List Nat} (his : ∀ i ∈ is, i ∈ vs) (hon : ∀ d ρ ρ', g d ρ = some ρ' → OnlyR is ρ ρ') {σ : L2.St} {H : Hp} {Q : VK} (h : tnOf K mg E (mLc vs it g t fa) σ H Q) :
    tLc (tiOf K mg E it) (tgOf K mg is g) (tbOf K mg EN t) (tOf K mg EN fa) vs σ H Q := by
  obtain ⟨b, ρ, m, T, S, w⟩ := h
  refine ⟨b, ρ, m, T, S, ?_⟩
  unfold mLc at w
  revert w
  cases it ρ m with
  | no => exact id
  | ex x m1 => exact id
  | ok ds m1 =>
    intro w J H1 T' hT' hz S1 hJ D hD
    rw [Rs.bind_ok] at w
    let c := b.cf K mg
    let U := saved σ ρ vs ++ (T' ++ T)
    have hl := S.len
    have S2 : S3 c (wipeR ρ vs) m1 (wipe σ vs) (upd H1 D (.lst [])) ((some (.ref D), .own (.lst [])) :: U) := by
      obtain ⟨G, μ, s⟩ := S1
      exact (s.wipeIn (vs := vs)).newOL .nil hD
    -- what is wanted of the rest
    let R := fun (acc : List Dv) (r : Rs (List Dv)) => ∃ ys m2, r = .ok ys m2 ∧ WantN E c ρ σ T Q (.ok (.lst (acc ++ ys)) m2)
    have w0 : R [] (lcL g t fa (wipeR ρ vs) ds m1) := by
      revert w
      cases lcL g t fa (wipeR ρ vs) ds m1 with
      | no => exact fun w => w.elim
      | ex x m2 => exact fun w => w.elim
      | ok ys m2 => exact fun w => ⟨ys, m2, rfl, w⟩
    refine ⟨fun i k H => k = ds.length - i ∧ i ≤ ds.length ∧ ∃ (m : Mm) (acc : List Dv), acc.length ≤ i ∧ S3 c (wipeR ρ vs) m (wipe σ vs) H ((some (.ref D), .own (.lst acc)) :: U) ∧ R acc (lcL g t fa (wipeR ρ vs) (ds.drop i) m), ⟨ds.length, by simp, Nat.zero_le _, m1, [], Nat.le_refl _, S2, by simpa using w0⟩, ?_⟩
    rintro i k H ⟨rfl, hi, m, acc, hacc, S, ys, m2, e, w⟩
    obtain ⟨j1, j2, j3⟩ := hJ (wipeR ρ vs) m (wipe σ vs) H ((some (.ref D), .own (.lst acc)) :: U) i (fun p hp => List.mem_cons_of_mem _ (List.mem_append_right _ (List.mem_append_left _ hp))) S
    by_cases hlt : i < ds.length
    · have hd : ds.drop i = ds[i] :: ds.drop (i + 1) := List.drop_eq_getElem_cons hlt
      rw [hd] at e
      unfold lcL at e
      refine .inr ⟨j1 hlt, fun H' => ∃ (m : Mm) (acc : List Dv), acc.length ≤ i + 1 ∧ S3 c (wipeR ρ vs) m (wipe σ vs) H' ((some (.ref D), .own (.lst acc)) :: U) ∧ R acc (lcL g t fa (wipeR ρ vs) (ds.drop (i + 1)) m), fun H' q => ⟨ds.length - (i + 1), by omega, rfl, hlt, q⟩, fun x H' y => ?_⟩
      have S2 := j2 ds[i] (List.getElem?_eq_getElem hlt) x H' y
      cases hg' : g ds[i] (wipeR ρ vs) with
      | none => rw [hg'] at e; cases e
      | some ρ1 =>
        rw [hg'] at e
        have e : (match t ρ1 m with
          | .ok k m1 => if k = true then match fa ρ1 m1 with
              | .ok (.v y) m2 => match lcL g t fa (wipeR ρ vs) (ds.drop (i + 1)) m2 with
                | .ok ys m3 => .ok (y :: ys) m3
                | _ => .no
              | _ => .no
            else lcL g t fa (wipeR ρ vs) (ds.drop (i + 1)) m1
          | _ => .no) = Rs.ok ys m2 := e
        refine ⟨b, wipeR ρ vs, m, (some (.ref D), .own (.lst acc)) :: U, ds[i], S2, ρ1, hg', fun σ2 H2 on S3' => ⟨?_, b, ρ1, m, (some (.ref D), .own (.lst acc)) :: U, S3', ?_⟩⟩
        · rw [on vs his, wipe_idem]
        have back : ∀ {m' : Mm} {H' : Hp} {V : Tm}, S3 c ρ1 m' σ2 H' V → S3 c (wipeR ρ vs) m' (wipe σ vs) H' V := fun {m' H' V} s => by
          have q := s.wipeIn (vs := vs)
          rw [on vs his, wipe_idem, hon _ _ _ hg' vs his, wipeR_idem] at q
          exact q.pops
        cases ht : t ρ1 m with
        | no => rw [ht] at e; cases e
        | ex x m1 => rw [ht] at e; cases e
        | ok k m1 =>
          rw [ht] at e
          intro H3 S4
          have e : (if k = true then match fa ρ1 m1 with
              | .ok (.v y) m2 => match lcL g t fa (wipeR ρ vs) (ds.drop (i + 1)) m2 with
                | .ok ys m3 => .ok (y :: ys) m3
                | _ => .no
              | _ => .no
            else lcL g t fa (wipeR ρ vs) (ds.drop (i + 1)) m1) = Rs.ok ys m2 := e
          by_cases hk : k = true
          · rw [if_pos hk] at e ⊢
            refine ⟨b, ρ1, m1, (some (.ref D), .own (.lst acc)) :: U, S4, ?_⟩
            cases hf : fa ρ1 m1 with
            | no => rw [hf] at e; cases e
            | ex x m3 => rw [hf] at e; cases e
            | ok x m3 =>
              rw [hf] at e
              intro yv H4 S5 hb5
              cases x with
              | b j => cases e
              | v yd =>
                have e : (match lcL g t fa (wipeR ρ vs) (ds.drop (i + 1)) m3 with
                  | .ok ys m3 => .ok (yd :: ys) m3
                  | _ => .no) = Rs.ok ys m2 := e
                obtain ⟨G, μ, s⟩ := back S5
                have s : St3 c (wipeR ρ vs) m3 (wipe σ vs) H4 (tv yv yd :: (some (.ref D), .own (.lst acc)) :: U) G μ := s
                obtain ⟨a, ea, ⟨vsD, hvs, rD⟩, _⟩ := s.cells (some (.ref D), .own (.lst acc)) (by simp)
                cases ea
                have hlen := rD.length
                have s2 := s.pop.putTop (o' := .lst (acc ++ [yd])) (u := .lst (vsD ++ [yv])) ⟨_, upd_same, (RepL.one s.top).app rD⟩
                cases hr : lcL g t fa (wipeR ρ vs) (ds.drop (i + 1)) m3 with
                | no => rw [hr] at e; cases e
                | ex x m4 => rw [hr] at e; cases e
                | ok zs m4 =>
                  rw [hr] at e
                  cases e
                  refine ⟨vsD, hvs, by omega, m3, acc ++ [yd], by simp; omega, ⟨G, μ, s2⟩, zs, m2, hr, ?_⟩
                  rw [List.append_assoc]; exact w
          · rw [if_neg hk] at e ⊢
            exact ⟨m1, acc, by omega, back S4, ys, m2, e, w⟩
    · have ei : i = ds.length := by omega
      subst ei
      rw [List.drop_length] at e
      unfold lcL at e
      cases e
      rw [List.append_nil] at w
      refine .inl ⟨j3 (Nat.le_refl _), w D H ?_⟩
      have q : S3 c (wipeR ρ vs) m (wipe σ vs) H (saved σ ρ vs ++ ((some (.ref D), .own (.lst acc)) :: (T' ++ T))) := S.perm (List.perm_middle)
      obtain ⟨G, μ, s⟩ := S3.wipeOut hl q
      refine ⟨G, μ, s.weak (fun p hp => ?_) ?_⟩
      · rcases List.mem_cons.mp hp with h | h
        · rw [h]; exact List.mem_cons_self
        · exact List.mem_cons_of_mem _ (List.mem_append_right _ h)
      · rw [fm_cons, fm_cons, List.filterMap_append]
        exact List.Sublist.append (List.Sublist.refl _) (List.sublist_append_right _ _)
abbrev PBs (X : Cx) (E : WX) (ifs : List Expr) (f : MB) : Prop := PTs X ifs (tbOf X.K X.mg E f)
theorem bs_nil : PBs X E [] mYes := ⟨fun pins s σ H Q I ⟨b, ρ, m, T, S, w⟩ => pts_nil.run pins s σ H Q I (w H S)⟩
theorem bs_one {e : Expr} {f : MB} (h : PB X E e f) : PBs X E [e] f := pts_one h
theorem n_lc (hc : X.calm = true) (hN : X.N.Nodup) (hi : PIx X E tg iter it) (ok : BlkOk X.N X.env.scope scope own) (his : ∀ i ∈ is, i ∈ own.map (·.2))
    (hg : ∀ (s : Shared) (H : Hp) (C : Addr) (cl : List (Str × Addr)) (fp : List Addr), PGx (X.blk s H scope (compEnvC scope cl C X.env) fp) is tg g) (ht : ∀ (s : Shared) (H : Hp) (C : Addr) (cl : List (Str × Addr)) (fp : List Addr), PBs (X.blk s H scope (compEnvC scope cl C X.env) fp) EN ifs t)
    (he : ∀ (s : Shared) (H : Hp) (C : Addr) (cl : List (Str × Addr)) (fp : List Addr), PX (X.blk s H scope (compEnvC scope cl C X.env) fp) EN elt fa) (hs : ∀ x, foldedSetIterable iter X.env x = pure x := by intro _; rfl) :
    PN X E (.ListComp elt [⟨tg, iter, ifs, 0⟩] scope pos) (mLc (own.map (·.2)) it g t fa) :=
  ⟨fun pins s σ H Q I h => (pe_lc hc hN hi ok (fun s H C cl fp => (hg s H C cl fp).pg) ht he hs).run pins s σ H Q I (lc_want his (hg s H 0 [] []).on h)⟩
theorem asgO_want {K : PySem.W.Frag} {mg : Str → Option Value} {i : Nat} {f : MN} {D : Ends} {σ : L2.St} {H : Hp} (h : tsOf K mg E (mAsgO i f) D σ H) : tnOf K mg E f σ H (fun x H1 => gName i x σ H1 D.nx) := by
  obtain ⟨b, ρ, m, T, S, w⟩ := h
  refine ⟨b, ρ, m, T, S, ?_⟩
  unfold mAsgO at w
  revert w
  cases f ρ m with
  | no => exact id
  | ex x m1 => exact fun w => w σ
  | ok o m1 =>
    intro w p H1 S1
    rw [Rs.st_ok] at w
    exact w _ _ S1.setO
theorem asgF_want {K : PySem.W.Frag} {mg : Str → Option Value} {i : Nat} {f : MN} {D : Ends} {σ : L2.St} {H : Hp} (h : tsOf K mg E (mAsg (mFrz f) (mGn i)) D σ H) : tnOf K mg E f σ H (fun x H1 => gName i x σ H1 D.nx) := by
  obtain ⟨b, ρ, m, T, S, w⟩ := h
  refine ⟨b, ρ, m, T, S, ?_⟩
  unfold mAsg mFrz at w
  revert w
  cases f ρ m with
  | no => exact id
  | ex x m1 => exact fun w => w σ
  | ok o m1 =>
    intro w p H1 S1
    rw [Rs.bind_ok] at w
    by_cases z : obZ o = true
    · rw [if_pos z, Rs.st_ok] at w
      exact w _ _ (S1.frzTop z).setV
    · rw [if_neg z] at w; exact w.elim
section
variable {i : Nat} {y : Str} {py spos : Pos}
theorem s_setLcO (hc : X.calm = true) (hN : X.N.Nodup) (hy : X.N[i]? = some y) (hyl : X.env.scope.names.lookup y = some .local) (hsw : swapsWith (.ListComp elt [⟨tg, iter, ifs, 0⟩] scope pos) (some (.Name y py)) spos.line X.env = pure true)
    (hi : PIx X E tg iter it) (ok : BlkOk X.N X.env.scope scope own) (his : ∀ i ∈ is, i ∈ own.map (·.2))
    (hg : ∀ (s : Shared) (H : Hp) (C : Addr) (cl : List (Str × Addr)) (fp : List Addr), PGx (X.blk s H scope (compEnvC scope cl C X.env) fp) is tg g) (ht : ∀ (s : Shared) (H : Hp) (C : Addr) (cl : List (Str × Addr)) (fp : List Addr), PBs (X.blk s H scope (compEnvC scope cl C X.env) fp) EN ifs t)
    (he : ∀ (s : Shared) (H : Hp) (C : Addr) (cl : List (Str × Addr)) (fp : List Addr), PX (X.blk s H scope (compEnvC scope cl C X.env) fp) EN elt fa) (hs : ∀ x, foldedSetIterable iter X.env x = pure x := by intro _; rfl) :
    PSx X E (.Assign [.Name y py] (.ListComp elt [⟨tg, iter, ifs, 0⟩] scope pos) spos) (mAsgO i (mLc (own.map (·.2)) it g t fa)) :=
  ⟨fun pins s σ H D I h => (ps_setLc hc hN hy hyl hsw hi ok (fun s H C cl fp => (hg s H C cl fp).pg) ht he hs).run pins s σ H D I (lc_want his (hg s H 0 [] []).on (asgO_want h))⟩
theorem s_setLc (hc : X.calm = true) (hN : X.N.Nodup) (hy : X.N[i]? = some y) (hyl : X.env.scope.names.lookup y = some .local) (hsw : swapsWith (.ListComp elt [⟨tg, iter, ifs, 0⟩] scope pos) (some (.Name y py)) spos.line X.env = pure true)
    (hi : PIx X E tg iter it) (ok : BlkOk X.N X.env.scope scope own) (his : ∀ i ∈ is, i ∈ own.map (·.2))
    (hg : ∀ (s : Shared) (H : Hp) (C : Addr) (cl : List (Str × Addr)) (fp : List Addr), PGx (X.blk s H scope (compEnvC scope cl C X.env) fp) is tg g) (ht : ∀ (s : Shared) (H : Hp) (C : Addr) (cl : List (Str × Addr)) (fp : List Addr), PBs (X.blk s H scope (compEnvC scope cl C X.env) fp) EN ifs t)
    (he : ∀ (s : Shared) (H : Hp) (C : Addr) (cl : List (Str × Addr)) (fp : List Addr), PX (X.blk s H scope (compEnvC scope cl C X.env) fp) EN elt fa) (hs : ∀ x, foldedSetIterable iter X.env x = pure x := by intro _; rfl) :
    PSx X E (.Assign [.Name y py] (.ListComp elt [⟨tg, iter, ifs, 0⟩] scope pos) spos) (mAsg (mFrz (mLc (own.map (·.2)) it g t fa)) (mGn i)) :=
  ⟨fun pins s σ H D I h => (ps_setLc hc hN hy hyl hsw hi ok (fun s H C cl fp => (hg s H C cl fp).pg) ht he hs).run pins s σ H D I (lc_want his (hg s H 0 [] []).on (asgF_want h))⟩
end
end
end M3

set_option Elab.async false
set_option linter.all false
set_option autoImplicit false
set_option maxRecDepth 100000
set_option maxHeartbeats 2000000
/-! M3i: objects that change. -/
namespace M3
open PySem L2 PySem.Spec PyProof.Rows

section
variable {K : PySem.W.Frag} {mg : Str → Option Value} {E : WX} {c : Cf} {ρ : Sl} {m : Mm} {σ : L2.St} {H : Hp} {T : Tm} {G : Hp} {μ : List Addr}
/-- the object at an operand that may change -/
def mobOf (ρ : Sl) (m : Mm) : Ar → Option Ob
  | .v (.loc n) => match m[n]? with
    | some (some o) => some o
    | _ => none
  | .b i => match ρ[i]? with
    | some (.own o) => some o
    | _ => none
  | _ => none
/-- .. changed -/
def mobPut (ρ : Sl) (m : Mm) (x : Ar) (o : Ob) : Option (Sl × Mm) := match x with
  | .v (.loc n) => some (ρ, m.set n (some o))
  | .b i => some (ρ.set i (.own o), m)
  | _ => none
theorem mob_at (s : St3 c ρ m σ H T G μ) {x : Ar} {v : V} {o : Ob} (r : ArAt c.K c.mg μ G σ v x) (e : mobOf ρ m x = some o) :
    ∃ p, v = .ref p ∧ ObAt c.K c.mg μ G H p o ∧ ∀ (u : HO) (o' : Ob) ρ' m', mobPut ρ m x o' = some (ρ', m') → ObAt c.K c.mg μ G (upd H p u) p o' → St3 c ρ' m' σ (upd H p u) T G μ := by
  unfold mobOf at e
  split at e
  · split at e
    · rename_i h
      cases e
      cases r with
      | loc hm =>
        obtain ⟨a, e1, e2, ob⟩ := s.mem.ob _ _ h
        rw [hm] at e1; cases e1
        refine ⟨_, rfl, ob, fun u o' ρ' m' e q => ?_⟩
        cases e
        exact s.putM h hm q
    · cases e
  · split at e
    · rename_i h
      cases e
      obtain ⟨p, q, ob, _⟩ := s.ownAt h
      have r : σ[_]? = some (some v) := r
      rw [q] at r; cases r
      refine ⟨p, rfl, ob, fun u o' ρ' m' e r' => ?_⟩
      cases e
      exact s.putSlot h q r'
    · cases e
  · cases e

/-! ### methods that change their object -/
def tyOb (t : String) : Ob → Bool
  | .lst _ => t == "list"
  | .dct _ => t == "dict"
  | .dcT _ => t == "dict"
  | .ins _ _ => false
  | .raw _ => false
theorem ty_at {t : String} {p : Addr} {o : Ob} (ob : ObAt K mg μ G H p o) (h : tyOb t o = true) : tyV K t (.ref p) H := by
  cases o with
  | lst ds => obtain ⟨vs, x, r⟩ := ob; exact .inl ⟨by simpa [tyOb] using h, vs, SqL.of x⟩
  | dct ds => obtain ⟨vs, x, r⟩ := ob; exact .inr (.inr (.inl ⟨by simpa [tyOb] using h, .inl ⟨vs, x⟩⟩))
  | dcT ds => obtain ⟨vs, x, r⟩ := ob; exact .inr (.inr (.inl ⟨by simpa [tyOb] using h, .inr ⟨vs, x⟩⟩))
  | ins _ _ => cases h
  | raw _ => cases h
/-- r: what a method asks; g: what it makes of the object and hands back -/
def MutR (r : V → List V → Hp → VK → Prop) (g : Ob → List Dv → Option (Ob × Dv)) : Prop :=
  ∀ (K : PySem.W.Frag) (mg : Str → Option Value) (μ : List Addr) (G H : Hp) (p : Addr) (o o' : Ob) (vs : List V) (ds : List Dv) (d : Dv) (Q : VK), ObAt K mg μ G H p o → RepL K mg μ G ds vs → g o ds = some (o', d) →
    (∀ u w, ObAt K mg μ G (upd H p u) p o' → Rep K mg μ G d w → Q w (upd H p u)) → r (.ref p) vs H Q
def mMutK (t : String) (g : Ob → List Dv → Option (Ob × Dv)) (fo : ME) (fa : MA) (k : Dv → Sl → Mm → RS) : MS := fun ρ m => (fo ρ m).st ρ fun x m1 => match mobOf ρ m1 x with
  | some o => if tyOb t o = true then (fa ρ m1).st ρ fun ds m2 => match mobOf ρ m2 x with
      | some o2 => match g o2 ds with
        | some (o', d) => match mobPut ρ m2 x o' with
          | some (ρ', m') => k d ρ' m'
          | none => .no
        | none => .no
      | none => .no
    else .no
  | none => .no
/-- xs.append(e) as a statement -/
def mMut (t : String) (g : Ob → List Dv → Option (Ob × Dv)) (fo : ME) (fa : MA) : MS := mMutK t g fo fa fun _ ρ m => .nx ρ m
/-- x = xs.pop() -/
def mMutA (t : String) (g : Ob → List Dv → Option (Ob × Dv)) (fo : ME) (fa : MA) (i : Nat) : MS := mMutK t g fo fa fun d ρ m => .nx (ρ.set i (.val d)) m
theorem mut_core {t : String} {g : Ob → List Dv → Option (Ob × Dv)} {r : V → List V → Hp → VK → Prop} (hr : MutR r g) {fo : ME} {fa : MA} {k : Dv → Sl → Mm → RS} {D : Ends} {σ : L2.St} {H : Hp} {Q : VK}
    (h : tsOf K mg E (mMutK t g fo fa k) D σ H) (hk : ∀ (b : Bs) d ρ' m' T v H', S3 (b.cf K mg) ρ' m' σ H' (tv v d :: T) → WantS E (b.cf K mg) T D (k d ρ' m') → Q v H') :
    tOf K mg E fo σ H fun x H1 => tyV K t x H1 ∧ taOf K mg E fa σ H1 fun vs H2 => r x vs H2 Q := by
  obtain ⟨b, ρ, m, T, S, w⟩ := h
  refine ⟨b, ρ, m, T, S, ?_⟩
  unfold mMutK at w
  revert w
  cases fo ρ m with
  | no => exact id
  | ex x m1 => exact fun w => w σ
  | ok x m1 =>
    intro w v H1 ⟨G, μ, s⟩ hb
    rw [Rs.st_ok] at w
    cases e : mobOf ρ m1 x with
    | none => rw [e] at w; exact w.elim
    | some o =>
      rw [e] at w
      have rv := s.ar (S := T) hb
      obtain ⟨p, rfl, ob, _⟩ := mob_at s.pops rv e
      by_cases ht : tyOb t o = true
      · have w : WantS E (b.cf K mg) T D (if tyOb t o = true then (fa ρ m1).st ρ fun ds m2 => match mobOf ρ m2 x with
            | some o2 => match g o2 ds with
              | some (o', d) => match mobPut ρ m2 x o' with
                | some (ρ', m') => k d ρ' m'
                | none => .no
              | none => .no
            | none => .no
          else .no) := w
        rw [if_pos ht] at w
        refine ⟨ty_at ob ht, b, ρ, m1, tva (.ref p) x ++ T, ⟨G, μ, s⟩, ?_⟩
        revert w
        cases fa ρ m1 with
        | no => exact id
        | ex x m2 => exact fun w => WantX.weak (w σ)
        | ok ds m2 =>
          intro w vs H2 hl ⟨G2, μ2, s2⟩
          rw [Rs.st_ok] at w
          have ra := tvs_rep hl s2
          have s3 := s2.pops
          have rv := s3.ar (S := T) hb
          cases e2 : mobOf ρ m2 x with
          | none => rw [e2] at w; exact w.elim
          | some o2 =>
            rw [e2] at w
            obtain ⟨p', hp', ob2, put⟩ := mob_at s3.pops rv e2
            cases hp'
            cases e3 : g o2 ds with
            | none => simp only [e3] at w; exact w.elim
            | some od =>
              obtain ⟨o', d⟩ := od
              simp only [e3] at w
              cases e4 : mobPut ρ m2 x o' with
              | none => simp only [e4] at w; exact w.elim
              | some rm =>
                obtain ⟨ρ', m'⟩ := rm
                simp only [e4] at w
                exact hr _ _ _ _ _ _ _ _ _ _ _ _ ob2 ra e3 fun u z q1 q2 => hk b d ρ' m' T z _ ⟨G2, μ2, (put u o' ρ' m' e4 q1).push q2⟩ w
      · have w : WantS E (b.cf K mg) T D (if tyOb t o = true then _ else .no) := w
        rw [if_neg ht] at w; exact w.elim
def gApp : Ob → List Dv → Option (Ob × Dv) := fun o ds => match o, ds with
  | .lst xs, [d] => if xs.length < sizeLine then some (.lst (xs ++ [d]), .non) else none
  | _, _ => none
theorem mut_app : MutR rAppend gApp := fun K mg μ G H p o o' vs ds d Q ob ra e q => by
  unfold gApp at e
  split at e
  · split at e
    · rename_i xs y z
      cases e
      obtain ⟨ws, hx, rx⟩ := ob
      cases ra with
      | cons a b =>
        cases b
        exact ⟨p, ws, _, rfl, rfl, hx, by rw [← rx.length]; exact z, q _ _ ⟨_, upd_same, (RepL.one a).app rx⟩ .non⟩
    · cases e
  · cases e
def gIns : Ob → List Dv → Option (Ob × Dv) := fun o ds => match o, ds with
  | .lst xs, [.int i, d] => if xs.length < sizeLine ∧ 0 ≤ i ∧ i < 2 ^ 63 then some (.lst (xs.take i.toNat ++ [d] ++ xs.drop i.toNat), .non) else none
  | _, _ => none
theorem mut_ins : MutR (fun x vs H Q => ∃ (l : Addr) (xs : List V) (i : Int) (y : V), x = .ref l ∧ vs = [.int i, y] ∧ H l = some (.lst xs) ∧ xs.length < sizeLine ∧ 0 ≤ i ∧ i < 2 ^ 63 ∧
    Q .non (upd H l (.lst (xs.take i.toNat ++ [y] ++ xs.drop i.toNat)))) gIns := fun K mg μ G H p o o' vs ds d Q ob ra e q => by
  unfold gIns at e
  split at e
  · split at e
    · rename_i xs i y z
      cases e
      obtain ⟨ws, hx, rx⟩ := ob
      cases ra with
      | cons a b =>
        cases a
        cases b with
        | cons a' b' =>
          cases b'
          exact ⟨p, ws, i, _, rfl, rfl, hx, by rw [← rx.length]; exact z.1, z.2.1, z.2.2, q _ _ ⟨_, upd_same, (rx.drop _).app ((RepL.one a').app (rx.take _))⟩ .non⟩
    · cases e
  · cases e
def gPop : Ob → List Dv → Option (Ob × Dv) := fun o ds => match o, ds with
  | .lst xs, [] => match xs[xs.length - 1]? with
    | some d => some (.lst xs.dropLast, d)
    | none => none
  | _, _ => none
theorem mut_pop : MutR rPop gPop := fun K mg μ G H p o o' vs ds d Q ob ra e q => by
  unfold gPop at e
  split at e
  · split at e
    · rename_i xs y z
      cases e
      obtain ⟨ws, hx, rx⟩ := ob
      cases ra
      have hl := rx.length
      obtain ⟨v, hv, rv⟩ := rx.get z
      refine ⟨p, ws, v, rfl, rfl, hx, by rw [← hl]; exact hv, q _ _ ⟨_, upd_same, ?_⟩ rv⟩
      rw [List.dropLast_eq_take, List.dropLast_eq_take, hl]
      exact rx.take _
    · cases e
  · cases e
def gClear : Ob → List Dv → Option (Ob × Dv) := fun o ds => match o, ds with
  | .lst _, [] => some (.lst [], .non)
  | _, _ => none
theorem mut_clear : MutR rClear gClear := fun K mg μ G H p o o' vs ds d Q ob ra e q => by
  unfold gClear at e
  split at e
  · cases e
    obtain ⟨ws, hx, rx⟩ := ob
    cases ra
    exact ⟨p, ws, rfl, rfl, hx, q _ _ ⟨_, upd_same, .nil⟩ .non⟩
  · cases e
end

section
variable {X : Cx} {E : WX} {o e : Expr} {fo : ME} {fa : MA} {pos apos cpos : Pos} {name : Str} {t mid : String} {r : V → List V → Hp → VK → Prop} {g : Ob → List Dv → Option (Ob × Dv)} {es : List Expr}
theorem s_mut (pa : PlainAttrs t) (slot : Slot t name mid) (hty : typeOf (.builtin mid) = pure (.type "method_descriptor")) (hm : MtR X mid r) (hr : MutR r g) (ho : PX X E o fo) (ha : PXs X E (e :: es) fa)
    (hbase : attributeBase o name X.env (eval o X.env) = eval o X.env := by rfl)
    (hfew : ((backTo cpos (starEach (e :: es) X.env)).all (fun x => !x.1) && (backToKw cpos (keywordEach [] X.env)).all (fun x => x.1.isSome)
      && decide ((e :: es).length + ([] : List Keyword).length + (if ([] : List Keyword).isEmpty then 0 else 1) < 30)) = true := by rfl)
    (hline : (apos.endLine == cpos.line) = true := by rfl) (hs : starEach (e :: es) X.env = (false, eval e X.env) :: starEach es X.env := by rfl) (hplain : (backTo cpos (starEach es X.env)).any (·.1) = false := by rfl)
    (hsw : swapsWith (.Call (.Attribute o name apos) (e :: es) [] cpos) none pos.line X.env = pure false := by rfl) :
    PSx X E (.Expr (.Call (.Attribute o name apos) (e :: es) [] cpos) pos) (mMut t g fo fa) :=
  PSi (ps_expr (pe_bm pa slot hty hm ho ha hbase hfew hline hs hplain) hsw) fun D σ H h => mut_core hr h fun b d ρ' m' T v H' S w => w σ H' S.pop
theorem s_mut0 (pa : PlainAttrs t) (slot : Slot t name mid) (hty : typeOf (.builtin mid) = pure (.type "method_descriptor")) (hm : MtR X mid r) (hr : MutR r g) (ho : PX X E o fo)
    (hbase : attributeBase o name X.env (eval o X.env) = eval o X.env := by rfl) (hline : (apos.endLine == cpos.line) = true := by rfl)
    (hsw : swapsWith (.Call (.Attribute o name apos) [] [] cpos) none pos.line X.env = pure false := by rfl) :
    PSx X E (.Expr (.Call (.Attribute o name apos) [] [] cpos) pos) (mMut t g fo mNil) :=
  PSi (ps_expr (pe_bm0 pa slot hty hm ho hbase hline) hsw) fun D σ H h => by
    obtain ⟨b, ρ, m, T, S, w⟩ := mut_core hr (Q := fun _ H' => D.nx σ H') h fun b d ρ' m' T v H' S w => w σ H' S.pop
    refine ⟨b, ρ, m, T, S, ?_⟩
    revert w
    cases fo ρ m with
    | no => exact id
    | ex x m1 => exact id
    | ok x m1 =>
      intro w v H1 S1 hb
      obtain ⟨k1, b2, ρ2, m2, T2, S2, w2⟩ := w v H1 S1 hb
      exact ⟨k1, w2 [] H1 rfl S2⟩
theorem s_mutA0 {i : Nat} {x : Str} {pos' : Pos} (hN : X.N.Nodup) (hi : X.N[i]? = some x) (hx : Loc X.env.scope x) (hf : X.fn x = true ∨ X.env.scope.names.lookup x = some .local)
    (pa : PlainAttrs t) (slot : Slot t name mid) (hty : typeOf (.builtin mid) = pure (.type "method_descriptor")) (hm : MtR X mid r) (hr : MutR r g) (ho : PX X E o fo)
    (hbase : attributeBase o name X.env (eval o X.env) = eval o X.env := by rfl) (hline : (apos.endLine == cpos.line) = true := by rfl)
    (hs : swapsWith (.Call (.Attribute o name apos) [] [] cpos) (some (.Name x pos')) pos.line X.env = pure false := by rfl) :
    PSx X E (.Assign [.Name x pos'] (.Call (.Attribute o name apos) [] [] cpos) pos) (mMutA t g fo mNil i) :=
  PSi (ps_set hN hi hx (pe_bm0 pa slot hty hm ho hbase hline) hs hf) fun D σ H h => by
    obtain ⟨b, ρ, m, T, S, w⟩ := mut_core hr (Q := fun v H' => D.nx (σ.set i (some v)) H') h fun b d ρ' m' T v H' S w => w _ H' S.setV
    refine ⟨b, ρ, m, T, S, ?_⟩
    revert w
    cases fo ρ m with
    | no => exact id
    | ex x m1 => exact id
    | ok x m1 =>
      intro w v H1 S1 hb
      obtain ⟨k1, b2, ρ2, m2, T2, S2, w2⟩ := w v H1 S1 hb
      exact ⟨k1, w2 [] H1 rfl S2⟩

/-! ### o[i] = e -/
def dput {κ : Type} [DecidableEq κ] (kvs : List (κ × Dv)) (k : κ) (d : Dv) : List (κ × Dv) := if kvs.any (fun kv => decide (kv.1 = k)) = true then kvs.map fun kv => if kv.1 = k then (kv.1, d) else kv else kvs ++ [(k, d)]
def gSetIx (o : Ob) (i d : Dv) : Option Ob := match o with
  | .lst xs => match i with
    | .int k => match ixN xs.length k with
      | some j => some (.lst (xs.set j d))
      | none => none
    | _ => none
  | .dct kvs => match keyD i with
    | some k => if kvs.length < sizeLine then some (.dct (dput kvs k d)) else none
    | none => none
  | .dcT kvs => match tkeyOf (.v i) with
    | some k => if kvs.length < sizeLine then some (.dcT (dput kvs k d)) else none
    | none => none
  | .ins _ _ => none
  | .raw _ => none
def rSetU (o i v : V) (H : Hp) (Q : Hp → Prop) : Prop := rSetL o i v H Q ∨ ∃ a H4, o = .ref a ∧ DPut H a i v H4 ∧ Q H4
theorem set_U (hu : X.A.units + 1 < cLine) : PSet X rSetU := by
  intro pins s σ H o i v ov iv u Q I ro ri rv h
  rcases h with h | ⟨a, H4, rfl, g, q⟩
  · exact set_list pins s σ H o i v ov iv u Q I ro ri rv h
  · obtain rfl : ov = Value.ref a := ro
    exact d_setItem hu I g ri rv fun s' I' => ⟨H4, I', q⟩
theorem repK_any {K : PySem.W.Frag} {mg : Str → Option Value} {μ : List Addr} {G : Hp} {κ : Type} [DecidableEq κ] (k : κ) {kvs : List (κ × Dv)} : ∀ {ws : List (κ × V)}, RepK K mg μ G kvs ws → kvs.any (fun kv => decide (kv.1 = k)) = ws.any (fun kv => decide (kv.1 = k)) := by
  induction kvs with
  | nil => intro ws h; cases h; rfl
  | cons p r ih => intro ws h; cases h with | cons a b => simp [List.any_cons, ih b]
theorem repK_app {K : PySem.W.Frag} {mg : Str → Option Value} {μ : List Addr} {G : Hp} {κ : Type} {es : List (κ × Dv)} {xs : List (κ × V)} (r : RepK K mg μ G es xs) {kvs : List (κ × Dv)} : ∀ {ws : List (κ × V)}, RepK K mg μ G kvs ws → RepK K mg μ G (kvs ++ es) (ws ++ xs) := by
  induction kvs with
  | nil => intro ws h; cases h; exact r
  | cons p t ih => intro ws h; cases h with | cons a b => exact .cons a (ih b)
theorem repK_map {K : PySem.W.Frag} {mg : Str → Option Value} {μ : List Addr} {G : Hp} {κ : Type} [DecidableEq κ] {k : κ} {d : Dv} {v : V} (rv : Rep K mg μ G d v) {kvs : List (κ × Dv)} : ∀ {ws : List (κ × V)}, RepK K mg μ G kvs ws → RepK K mg μ G (kvs.map fun kv => if kv.1 = k then (kv.1, d) else kv) (ws.map fun kv => if kv.1 = k then (kv.1, v) else kv) := by
  induction kvs with
  | nil => intro ws h; cases h; exact .nil
  | cons p r ih =>
    intro ws h
    cases h with
    | @cons _ k' d' v' _ vs a b =>
      rw [List.map_cons, List.map_cons]
      by_cases e : k' = k
      · simp only [e, if_true]; exact .cons rv (ih b)
      · simp only [e, if_false]; exact .cons a (ih b)
theorem repK_put {K : PySem.W.Frag} {mg : Str → Option Value} {μ : List Addr} {G : Hp} {κ : Type} [DecidableEq κ] {k : κ} {d : Dv} {v : V} (rv : Rep K mg μ G d v) {kvs : List (κ × Dv)} {ws : List (κ × V)} (h : RepK K mg μ G kvs ws) : RepK K mg μ G (dput kvs k d) (putK ws k v) := by
  unfold dput putK
  rw [repK_any k h]
  split
  · exact repK_map rv h
  · exact repK_app (.cons rv .nil) h
theorem setIx_at {K : PySem.W.Frag} {mg : Str → Option Value} {μ : List Addr} {G H : Hp} {p : Addr} {o o' : Ob} {i d : Dv} {iv v : V} {Q : Hp → Prop} (st : Stands G H) (ob : ObAt K mg μ G H p o) (ri : Rep K mg μ G i iv) (rd : Rep K mg μ G d v) (e : gSetIx o i d = some o') (q : ∀ u, ObAt K mg μ G (upd H p u) p o' → Q (upd H p u)) : rSetU (.ref p) iv v H Q := by
  unfold gSetIx at e
  split at e
  · split at e
    · split at e
      · rename_i k _ j hj
        cases e
        obtain ⟨ws, hx, rx⟩ := ob
        cases ri
        exact .inl ⟨p, ws, k, j, rfl, rfl, hx, by rw [← rx.length]; exact hj, q _ ⟨_, upd_same, rx.set rd j⟩⟩
      · cases e
    · cases e
  · split at e
    · rename_i k hk
      split at e
      · rename_i z
        cases e
        obtain ⟨ws, hx, rx⟩ := ob
        exact .inr ⟨p, _, rfl, .inl ⟨ws, k, hx, keyD_rep ri hk, by rw [← rx.length]; exact z, rfl⟩, q _ ⟨_, upd_same, repK_put rd rx⟩⟩
      · cases e
    · cases e
  · split at e
    · rename_i k hk
      split at e
      · rename_i z
        cases e
        obtain ⟨ws, hx, rx⟩ := ob
        cases ri with
        | tup h z' rr =>
          have hk' := keyDs_rep rr hk
          subst hk'
          exact .inr ⟨p, _, rfl, .inr ⟨ws, k, _, hx, rfl, st.t h, by rw [← rx.length]; exact z, rfl⟩, q _ ⟨_, upd_same, repK_put rd rx⟩⟩
        | _ => cases hk
      · cases e
    · cases e
  · cases e
  · cases e
def mSetIx (fv fo fi : ME) : MS := fun ρ m => (fv ρ m).st ρ fun z m0 => match z with
  | .b _ => .no
  | .v d => (fo ρ m0).st ρ fun x m1 => (fi ρ m1).st ρ fun y m2 => match y with
    | .b _ => .no
    | .v i => match mobOf ρ m2 x with
      | some o => match gSetIx o i d with
        | some o' => match mobPut ρ m2 x o' with
          | some (ρ', m') => .nx ρ' m'
          | none => .no
        | none => .no
      | none => .no
theorem s_setix {i v : Expr} {fi fv : ME} {pos' : Pos} (hu : X.A.units + 1 < cLine) (hv : PX X E v fv) (ho : PX X E o fo) (hi : PX X E i fi)
    (ha : ∀ v, assign (.Subscript o i pos') X.env v = (do
      let ov ← holding [v] (eval o X.env)
      let iv ← holding [v, ov] (eval i X.env)
      standAt pos'
      holding [v, ov, iv] (setItem ov iv v)
      release [v, ov, iv] []) := by intro _; rfl)
    (hs : swapsWithSole [.Subscript o i pos'] v pos.line X.env = pure false := by rfl) (hw : swappedStores [.Subscript o i pos'] v X.env = pure none := by rfl)
    (h1 : (assignEach [.Subscript o i pos'] X.env).map (·.2) = [assign (.Subscript o i pos') X.env] := by rfl) :
    PSx X E (.Assign [.Subscript o i pos'] v pos) (mSetIx fv fo fi) :=
  PSi (ps_asg hv (pg_sub ho hi (set_U hu) ha) hs hw h1) fun D σ H ⟨b, ρ, m, T, S, w⟩ => by
    refine ⟨b, ρ, m, T, S, ?_⟩
    unfold mSetIx at w
    revert w
    cases fv ρ m with
    | no => exact id
    | ex x m1 => exact fun w => w σ
    | ok z m0 =>
      intro w dv H0 S0 hb0
      rw [Rs.st_ok] at w
      cases z with
      | b j => exact w.elim
      | v d =>
        refine ⟨b, ρ, m0, tv dv d :: T, S0, ?_⟩
        have w : WantS E (b.cf X.K X.mg) T D ((fo ρ m0).st ρ fun x m1 => (fi ρ m1).st ρ fun y m2 => match y with
          | .b _ => .no
          | .v i => match mobOf ρ m2 x with
            | some o => match gSetIx o i d with
              | some o' => match mobPut ρ m2 x o' with
                | some (ρ', m') => .nx ρ' m'
                | none => .no
              | none => .no
            | none => .no) := w
        revert w
        cases fo ρ m0 with
        | no => exact id
        | ex x m1 => exact fun w => WantX.weak (S := [tv dv d]) (w σ)
        | ok x m1 =>
          intro w ov H1 S1 hb1
          refine ⟨b, ρ, m1, tva ov x ++ (tv dv d :: T), S1, ?_⟩
          rw [Rs.st_ok] at w
          revert w
          cases fi ρ m1 with
          | no => exact id
          | ex x m1 => exact fun w => WantX.weak (WantX.weak (S := [tv dv d]) (w σ))
          | ok y m2 =>
            intro w iv H2 ⟨G, μ, s⟩ hb2
            rw [Rs.st_ok] at w
            cases y with
            | b j => exact w.elim
            | v i =>
              have ri : Rep X.K X.mg μ G i iv := St3.top (T := tva ov x ++ (tv dv d :: T)) s
              have s1 : St3 (b.cf X.K X.mg) ρ m2 σ H2 (tva ov x ++ (tv dv d :: T)) G μ := St3.pops (S := tva iv (.v i)) s
              have ro := s1.ar (S := tv dv d :: T) hb1
              have s2 := s1.pops
              have rd := s2.top
              have w : WantS E (b.cf X.K X.mg) T D (match mobOf ρ m2 x with
                | some o => match gSetIx o i d with
                  | some o' => match mobPut ρ m2 x o' with
                    | some (ρ', m') => .nx ρ' m'
                    | none => .no
                  | none => .no
                | none => .no) := w
              cases e1 : mobOf ρ m2 x with
              | none => rw [e1] at w; exact w.elim
              | some o =>
                simp only [e1] at w
                obtain ⟨p, rfl, ob, put⟩ := mob_at s2.pop ro e1
                cases e2 : gSetIx o i d with
                | none => simp only [e2] at w; exact w.elim
                | some o' =>
                  simp only [e2] at w
                  cases e3 : mobPut ρ m2 x o' with
                  | none => simp only [e3] at w; exact w.elim
                  | some rm =>
                    obtain ⟨ρ', m'⟩ := rm
                    simp only [e3] at w
                    exact setIx_at s2.mem.st ob ri rd e2 fun u q => w σ _ ⟨G, μ, put u o' ρ' m' e3 q⟩

/-! ### o.f = e -/
def fput (f : Str) (d : Dv) : List (Str × Dv) → List (Str × Dv)
  | [] => [(f, d)]
  | (g, x) :: r => if g = f then (g, d) :: r else (g, x) :: fput f d r
theorem repK_fput {K : PySem.W.Frag} {mg : Str → Option Value} {μ : List Addr} {G : Hp} {f : Str} {d : Dv} {v : V} (rv : Rep K mg μ G d v) {fs : List (Str × Dv)} : ∀ {ws : List (Str × V)}, RepK K mg μ G fs ws → RepK K mg μ G (fput f d fs) (putF f v ws) := by
  induction fs with
  | nil => intro ws h; cases h; exact .cons rv .nil
  | cons p r ih =>
    intro ws h
    cases h with
    | @cons _ k' d' v' _ vs a b =>
      unfold fput putF
      by_cases e : k' = f
      · simp only [e, if_true]; exact .cons rv b
      · simp only [e, if_false]; exact .cons a (ih b)
def mStF (cn f : Str) (fv fo : ME) : MS := fun ρ m => (fv ρ m).st ρ fun z m0 => match z with
  | .b _ => .no
  | .v d => (fo ρ m0).st ρ fun x m1 => match mobOf ρ m1 x with
    | some (.ins c' fs) => if c' = cn ∧ fs.length < 1000 then match mobPut ρ m1 x (.ins c' (fput f d fs)) with
        | some (ρ', m') => .nx ρ' m'
        | none => .no
      else .no
    | _ => .no
theorem s_fld {cn f : Str} {C : Addr} {v : Expr} {fv : ME} {pos' : Pos} (hC : X.mg cn = some (.ref C)) (c : Cls X.K C) (n : NoAttr X.K C f) (ho : PX X E o fo) (hv : PX X E v fv) (hs : swapsWith v (some (.Attribute o f pos')) pos.line X.env = pure false := by rfl) : PSx X E (.Assign [.Attribute o f pos'] v pos) (mStF cn f fv fo) :=
  PSi (ps_fld ho hv hs) fun D σ H ⟨b, ρ, m, T, S, w⟩ => by
    refine ⟨b, ρ, m, T, S, ?_⟩
    unfold mStF at w
    revert w
    cases fv ρ m with
    | no => exact id
    | ex x m1 => exact fun w => w σ
    | ok z m0 =>
      intro w dv H0 S0 hb0
      rw [Rs.st_ok] at w
      cases z with
      | b j => exact w.elim
      | v d =>
        refine ⟨b, ρ, m0, tv dv d :: T, S0, ?_⟩
        have w : WantS E (b.cf X.K X.mg) T D ((fo ρ m0).st ρ fun x m1 => match mobOf ρ m1 x with
          | some (.ins c' fs) => if c' = cn ∧ fs.length < 1000 then match mobPut ρ m1 x (.ins c' (fput f d fs)) with
              | some (ρ', m') => .nx ρ' m'
              | none => .no
            else .no
          | _ => .no) := w
        revert w
        cases fo ρ m0 with
        | no => exact id
        | ex x m1 => exact fun w => WantX.weak (S := [tv dv d]) (w σ)
        | ok x m1 =>
          intro w ov H1 ⟨G, μ, s⟩ hb1
          rw [Rs.st_ok] at w
          have ro := s.ar (S := tv dv d :: T) hb1
          have s2 := s.pops
          have rd := s2.top
          cases e1 : mobOf ρ m1 x with
          | none => rw [e1] at w; exact w.elim
          | some oo =>
            rw [e1] at w
            obtain ⟨p, rfl, ob, put⟩ := mob_at s2.pop ro e1
            cases oo with
            | lst _ => exact w.elim
            | dct _ => exact w.elim
            | dcT _ => exact w.elim
            | raw _ => exact w.elim
            | ins c' fs =>
              have w : WantS E (b.cf X.K X.mg) T D (if c' = cn ∧ fs.length < 1000 then match mobPut ρ m1 x (.ins c' (fput f d fs)) with
                  | some (ρ', m') => .nx ρ' m'
                  | none => .no
                else .no) := w
              by_cases z : c' = cn ∧ fs.length < 1000
              · rw [if_pos z] at w
                obtain ⟨hc, hl⟩ := z
                obtain ⟨C', dx, ws, hC', hp, rk⟩ := ob
                have hC' : X.mg c' = some (.ref C') := hC'
                rw [hc, hC] at hC'; cases hC'
                cases e3 : mobPut ρ m1 x (.ins c' (fput f d fs)) with
                | none => rw [e3] at w; exact w.elim
                | some rm =>
                  obtain ⟨ρ', m'⟩ := rm
                  rw [e3] at w
                  exact ⟨p, C, dx, ws, rfl, hp, c, n, by rw [← rk.length]; exact hl, w σ _ ⟨G, μ, put _ _ ρ' m' e3 ⟨C, dx, _, by rw [hc]; exact hC, upd_same, repK_fput rd rk⟩⟩⟩
              · rw [if_neg z] at w; exact w.elim

/-! ### x += e, an int -/
def mAug (i : Nat) (g : Int → Int → Int) (f : ME) : MS := fun ρ m => match ρ[i]? with
  | some (.val (.int a)) => (f ρ m).st ρ fun x m1 => match x with
    | .v (.int b) => .nx (ρ.set i (.val (.int (g a b)))) m1
    | _ => .no
  | _ => .no
theorem s_aug {i : Nat} {x : Str} {op : Operator} {g : Int → Int → Int} {f : ME} {pos' : Pos} (hN : X.N.Nodup) (hi : X.N[i]? = some x) (hx : Loc X.env.scope x) (hf : X.fn x = true ∨ X.env.scope.names.lookup x = some .local) (ho : PIp X op (ipI g)) (he : PX X E e f) :
    PSx X E (.AugAssign (.Name x pos') op e pos) (mAug i g f) :=
  PSi (ps_aug hN hi hx he ho hf) fun D σ H ⟨b, ρ, m, T, ⟨G, μ, s⟩, w⟩ => by
    unfold mAug at w
    split at w
    · rename_i a ha
      obtain ⟨v, q, r⟩ := s.slot ha
      cases r
      refine ⟨.int a, q, b, ρ, m, T, ⟨G, μ, s⟩, ?_⟩
      revert w
      cases f ρ m with
      | no => exact fun h => h
      | ex x m1 => exact fun w => w σ
      | ok x m1 =>
        intro w v H1 ⟨G1, μ1, s1⟩ hb
        rw [Rs.st_ok] at w
        split at w
        · rename_i k
          have : v = .int k := vOf_rep rfl (St3.top (T := T) s1)
          subst this
          exact ⟨a, k, rfl, rfl, w _ _ ⟨G1, μ1, (s1.pops.push (.int _)).setV⟩⟩
        · exact w.elim
    · exact w.elim

/-! ### x, y = e, e' -/
abbrev MC := Sl → Mm → Rs (List Cell)
def tcs : List V → List Cell → Tm
  | v :: vs, y :: ys => (some v, y) :: tcs vs ys
  | _, _ => []
def WantC (E : WX) (c : Cf) (ρ : Sl) (σ : L2.St) (T : Tm) (Q : List V → Hp → Prop) : Rs (List Cell) → Prop
  | .ok ys m => ∀ vs H', vs.length = ys.length → S3 c ρ m σ H' (tcs vs ys ++ T) → Q vs H'
  | .ex x m => WantX E c ρ σ T x m
  | .no => False
def tcOf (K : PySem.W.Frag) (mg : Str → Option Value) (E : WX) (f : MC) : TA := fun σ H Q => ∃ (b : Bs) (ρ : Sl) (m : Mm) (T : Tm), S3 (b.cf K mg) ρ m σ H T ∧ WantC E (b.cf K mg) ρ σ T Q (f ρ m)
abbrev PCs (X : Cx) (E : WX) (es : List Expr) (f : MC) : Prop := PA X es (tcOf X.K X.mg E f)
def mCNil : MC := fun _ m => .ok [] m
def mCV (f : ME) (g : MC) : MC := fun ρ m => (f ρ m).bind fun x m1 => match x with
  | .v d => (g ρ m1).bind fun ys m2 => .ok (.val d :: ys) m2
  | .b _ => .no
def mCO (f : MN) (g : MC) : MC := fun ρ m => (f ρ m).bind fun o m1 => (g ρ m1).bind fun ys m2 => .ok (.own o :: ys) m2
theorem cs_nil : PCs X E [] mCNil := PAi pa_nil fun σ H Q ⟨b, ρ, m, T, S, w⟩ => w [] H rfl S
theorem cs_v {f : ME} {g : MC} (ha : PX X E e f) (hr : PCs X E es g) (hs : starEach (e :: es) X.env = (false, eval e X.env) :: starEach es X.env := by rfl) : PCs X E (e :: es) (mCV f g) :=
  PAi (pa_cons ha hr hs) fun σ H Q ⟨b, ρ, m, T, S, w⟩ => by
    refine ⟨b, ρ, m, T, S, ?_⟩
    unfold mCV at w
    revert w
    cases f ρ m with
    | no => exact fun h => h
    | ex x m1 => exact fun h => h
    | ok x m1 =>
      intro w v H1 S1 hb
      cases x with
      | b i => exact w.elim
      | v d =>
        have w : WantC E (b.cf X.K X.mg) ρ σ T Q ((g ρ m1).bind fun ds m2 => .ok (.val d :: ds) m2) := w
        refine ⟨b, ρ, m1, tv v d :: T, S1, ?_⟩
        revert w
        cases g ρ m1 with
        | no => exact fun h => h
        | ex x m2 => exact fun w => WantX.weak (S := [tv v d]) w
        | ok ds m2 =>
          intro w vs H2 hl S2
          exact w (v :: vs) H2 (by simp [hl]) (S2.perm (List.perm_middle.symm))
theorem cs_o {f : MN} {g : MC} (ha : PN X E e f) (hr : PCs X E es g) (hs : starEach (e :: es) X.env = (false, eval e X.env) :: starEach es X.env := by rfl) : PCs X E (e :: es) (mCO f g) :=
  PAi (pa_cons ha hr hs) fun σ H Q ⟨b, ρ, m, T, S, w⟩ => by
    refine ⟨b, ρ, m, T, S, ?_⟩
    unfold mCO at w
    revert w
    cases f ρ m with
    | no => exact fun h => h
    | ex x m1 => exact fun h => h
    | ok o m1 =>
      intro w p H1 S1
      rw [Rs.bind_ok] at w
      refine ⟨b, ρ, m1, (some (.ref p), .own o) :: T, S1, ?_⟩
      revert w
      cases g ρ m1 with
      | no => exact fun h => h
      | ex x m2 => exact fun w => WantX.weak (S := [(some (.ref p), .own o)]) w
      | ok ds m2 =>
        intro w vs H2 hl S2
        exact w (.ref p :: vs) H2 (by simp [hl]) (S2.perm (List.perm_middle.symm))
theorem S3.setC {c : Cf} {ρ : Sl} {m : Mm} {σ : L2.St} {H : Hp} {T : Tm} {i : Nat} {v : V} {y : Cell} (h : S3 c ρ m σ H ((some v, y) :: T)) (hy : y ≠ .un) : S3 c (ρ.set i y) m (σ.set i (some v)) H T := by
  cases y with
  | un => exact (hy rfl).elim
  | val d => exact S3.setV h
  | own o =>
    obtain ⟨G, μ, s⟩ := h
    obtain ⟨a, ea, _⟩ := s.cells (some v, .own o) (by simp)
    have ea : some v = some (.ref a) := ea
    cases ea
    exact ⟨G, μ, s.setO⟩
def isUn : Cell → Bool
  | .un => true
  | _ => false
def mPar (i j : Nat) (f : MC) : MS := fun ρ m => (f ρ m).st ρ fun ys m1 => match ys with
  | [x, y] => if isUn x = false ∧ isUn y = false then .nx ((ρ.set i x).set j y) m1 else .no
  | _ => .no
theorem s_par {i j : Nat} {x y : Str} {a b : Expr} {f : MC} {px py pt : Pos} {kt k2 pt2} (hc : X.calm = true) (hN : X.N.Nodup) (hi : X.N[i]? = some x) (hj : X.N[j]? = some y) (hij : i ≠ j)
    (hx : X.env.scope.names.lookup x = some .local) (hy : X.env.scope.names.lookup y = some .local) (ha : PCs X E [a, b] f)
    (hw : swappedStores [.Tuple [.Name x px, .Name y py] kt pt] (.Tuple [a, b] k2 pt2) X.env = pure (some [x, y]) := by rfl)
    (hs : swapsWithSole [.Tuple [.Name x px, .Name y py] kt pt] (.Tuple [a, b] k2 pt2) pos.line X.env = pure false := by rfl) :
    PSx X E (.Assign [.Tuple [.Name x px, .Name y py] kt pt] (.Tuple [a, b] k2 pt2) pos) (mPar i j f) :=
  PSi (ps_par hc hN hi hj hij hx hy ha hw hs) fun D σ H ⟨b, ρ, m, T, S, w⟩ => by
    refine ⟨b, ρ, m, T, S, ?_⟩
    unfold mPar at w
    revert w
    cases f ρ m with
    | no => exact fun h => h
    | ex x m1 => exact fun w => w σ
    | ok ys m1 =>
      intro w vs H1 hl S1
      rw [Rs.st_ok] at w
      split at w
      · rename_i x y
        split at w
        · rename_i z
          match vs, hl, S1 with
          | [u, v], _, S1 =>
            have S1 : S3 (b.cf X.K X.mg) ρ m1 σ H1 ((some u, x) :: (some v, y) :: T) := S1
            refine ⟨u, v, rfl, w _ _ ?_⟩
            have := S1.setC (i := i) (fun e => by subst e; simp [isUn] at z)
            exact this.setC (i := j) (fun e => by subst e; simp [isUn] at z)
        · exact w.elim
      · exact w.elim
end
end M3

set_option Elab.async false
set_option linter.all false
set_option autoImplicit false
set_option maxRecDepth 100000
set_option maxHeartbeats 2000000
/-! M3j: defs and their calls. -/
namespace M3
open PySem L2 PySem.Spec PyProof.Rows

abbrev MF := List Dv → Mm → Rs Dv
/-- the promise of a def that does what F says -/
def sp3 (n : Nat) (K : PySem.W.Frag) (mg : Str → Option Value) (F : MF) : Sp := fun vs H Q E => ∃ (G : Hp) (μ : List Addr) (m : Mm) (ds : List Dv), ds.length = n ∧ MemOk K mg G μ H m ∧ RepL K mg μ G ds vs ∧
  match F ds m with
  | .ok d m' => ∀ v H' G' μ', MemOk K mg G' μ' H' m' → Le G μ H G' μ' H' → Rep K mg μ' G' d v → Q v H'
  | .ex x m' => ∀ cls dd H' G' μ', MemOk K mg G' μ' H' m' → Le G μ H G' μ' H' → RepX K mg μ' G' x cls dd → E cls dd H'
  | .no => False
def Def3 (P : Program) (w : World) (K : PySem.W.Frag) (mg : Str → Option Value) (base : Heap) (k : Nat) (f : Addr) (F : MF) : Prop :=
  ∃ (fd : FuncData) (ps : List Str), FnOk P w K mg base (L2.CX P w) k f fd ps (sp3 ps.length K mg F) ∧ PySem.W.keepIn K (.ref f) = true ∧ Binds K fd ps []
theorem Def3.mono {P : Program} {w : World} {K : PySem.W.Frag} {mg : Str → Option Value} {base : Heap} {k k' : Nat} {f : Addr} {F : MF} (h : Def3 P w K mg base k f F) (hk : k ≤ k') : Def3 P w K mg base k' f F := let ⟨fd, ps, a, b, c⟩ := h; ⟨fd, ps, a.mono hk, b, c⟩
/-- a body's end as a def's -/
def RS.fin : RS → Rs Dv
  | .nx _ m => .ok .non m
  | .rt d m => .ok d m
  | .ex x _ m => .ex x m
  | _ => .no
def mDef (n : Nat) (body : MS) : MF := fun ds m => (body (ds.map .val ++ List.replicate (n - ds.length) .un) m).fin

section
variable {P : Program} {w : World} {K : PySem.W.Frag} {mg : Str → Option Value} {base : Heap}
abbrev WF (E : XK) : WX := fun cls d _ H => E cls d H
theorem own_vals {σ : L2.St} : ∀ {ρ : Sl}, (∀ y ∈ ρ, ∀ o, y ≠ .own o) → (σ.zip ρ).filterMap ownA = [] := by
  induction σ with
  | nil => intro ρ h; rfl
  | cons x σ ih =>
    intro ρ h
    cases ρ with
    | nil => rfl
    | cons y ρ =>
      rw [List.zip_cons_cons, fm_cons, ih fun z hz => h z (List.mem_cons_of_mem _ hz)]
      have : ownA (x, y) = none := by
        cases y with
        | un => exact ownA_un
        | val d => exact ownA_val
        | own o => exact (h _ List.mem_cons_self o rfl).elim
      rw [this]; rfl
theorem start_cells {G : Hp} {μ : List Addr} {H : Hp} {c : Cf} {n : Nat} : ∀ {ds : List Dv} {vs : List V}, RepL c.K c.mg μ G ds vs → ∀ p ∈ (vs.map some ++ List.replicate n none).zip (ds.map Cell.val ++ List.replicate n Cell.un), CellOk c μ G H p.1 p.2
  | _, _, .nil, p, hp => by
    rw [List.map_nil, List.map_nil, List.nil_append, List.nil_append] at hp
    have : p.2 = .un := List.eq_of_mem_replicate (List.of_mem_zip hp).2
    rw [this]; trivial
  | _, _, .cons a b, p, hp => by
    rw [List.map_cons, List.map_cons, List.cons_append, List.cons_append, List.zip_cons_cons] at hp
    rcases List.mem_cons.mp hp with h | h
    · subst h; exact ⟨_, rfl, a⟩
    · exact start_cells b p h
theorem def3 {x qual : Str} {st : Stmt} {f : Addr} {fd : FuncData} {N ps : List Str} {k : Nat} {body : MS} (F : Fun K x qual st f fd) (S : FnScope N ps (defScope st)) (hb : Binds K fd ps [])
    (h : ∀ (cdv : Value) (A : Around) (outer : List Env) (s : Shared) (H : Hp) (E : XK), Room k (A.deeper (envOfC qual (defScope st) s.heap.objs.size f cdv)) →
      PSsx (cxOf (L2.CX P w) P w K mg base N qual (defScope st) f cdv A outer s H E) (WF E) (defBody st) body) : Def3 P w K mg base (k + 1) f (mDef N.length body) := by
  refine ⟨fd, ps, F.okX S (fun vs H Q E q => ?_) (fun cdv A outer s H vs Q E hr q => ?_), F.kp, hb⟩
  · obtain ⟨G, μ, m, ds, hl, _, r, _⟩ := q
    rw [← r.length, hl]
  · refine ⟨_, h cdv A outer s H E hr, ?_⟩
    obtain ⟨G, μ, m, ds, hl, mem, r, q⟩ := q
    have hlen := r.length
    refine ⟨⟨G, μ, H⟩, ds.map .val ++ List.replicate (N.length - ds.length) .un, m, [], ⟨G, μ, ?_, mem, Le.refl _ _ _, ?_, ?_⟩, ?_⟩
    · simp [L2.start, hlen]
    · intro p hp
      rw [List.nil_append] at hp
      unfold L2.start at hp
      rw [← hlen] at hp
      exact start_cells (c := (Bs.cf ⟨G, μ, H⟩ K mg)) r p hp
    · rw [List.nil_append, own_vals fun y hy o e => ?_]
      · exact List.nodup_nil
      · subst e
        rcases List.mem_append.mp hy with z | z
        · obtain ⟨d, _, e⟩ := List.mem_map.mp z; cases e
        · have := List.eq_of_mem_replicate z; cases this
    · unfold mDef at q
      revert q
      cases body (ds.map .val ++ List.replicate (N.length - ds.length) .un) m with
      | nx ρ' m' =>
        intro q σ' H' ⟨G', μ', s'⟩
        exact q .non H' G' μ' s'.mem s'.le .non
      | rt d m' =>
        intro q v H' ⟨G', μ', m1, l1, r1⟩
        exact q v H' G' μ' m1 l1 r1
      | ex x ρ' m' =>
        intro q σ' cls dd H' G' μ' s' rx
        exact q cls dd H' G' μ' s'.mem s'.le rx
      | bk ρ' m' => exact fun q => q.elim
      | ct ρ' m' => exact fun q => q.elim
      | no => exact fun q => q.elim
end

section
variable {X : Cx} {E : WX} {o e : Expr} {es : List Expr} {fo : ME} {fa : MA} {pos apos p : Pos} {x : Str} {k : Nat} {f C : Addr} {F : MF} {cn mn : Str}
def WantD (E : WX) (c : Cf) (ρ : Sl) (σ : L2.St) (T : Tm) (Q : VK) : Rs Dv → Prop
  | .ok d m' => ∀ v H', S3 c ρ m' σ H' (tv v d :: T) → Q v H'
  | .ex x m' => WantX E c ρ σ T x m'
  | .no => False
/-- what a call asks, from the state -/
theorem sp3_of {K : PySem.W.Frag} {mg : Str → Option Value} {b : Bs} {ρ : Sl} {m : Mm} {σ : L2.St} {H : Hp} {T : Tm} {G : Hp} {μ : List Addr} {n : Nat} {vs : List V} {ds : List Dv} {Q : VK} (s : St3 (b.cf K mg) ρ m σ H T G μ) (r : RepL K mg μ G ds vs) (hl : ds.length = n)
    (w : WantD E (b.cf K mg) ρ σ T Q (F ds m)) : sp3 n K mg F vs H Q (WE E σ) := by
  refine ⟨G, μ, m, ds, hl, s.mem, r, ?_⟩
  revert w
  cases F ds m with
  | no => exact id
  | ok d m' => exact fun w v H' G' μ' mem le rp => w v H' ⟨G', μ', (s.next mem le).push rp⟩
  | ex x m' => exact fun w cls dd H' G' μ' mem le rx => w cls dd H' G' μ' (s.next mem le) rx
def rsA : Rs Dv → Rs Ar
  | .ok d m => .ok (.v d) m
  | .ex x m => .ex x m
  | .no => .no
def mCall (n : Nat) (F : MF) (fa : MA) : ME := fun ρ m => (fa ρ m).bind fun ds m1 => if ds.length = n then rsA (F ds m1) else .no
theorem want_rsA {c : Cf} {ρ : Sl} {σ : L2.St} {T : Tm} {Q : VK} {r : Rs Dv} (w : Want E c ρ σ T Q (rsA r)) : WantD E c ρ σ T Q r := by
  cases r with
  | ok d m => exact fun v H' s => Want.v w s
  | ex x m => exact w
  | no => exact w
def Def3n (P : Program) (w : World) (K : PySem.W.Frag) (mg : Str → Option Value) (base : Heap) (k : Nat) (f : Addr) (n : Nat) (F : MF) : Prop :=
  ∃ (fd : FuncData) (ps : List Str), ps.length = n ∧ FnOk P w K mg base (L2.CX P w) k f fd ps (sp3 ps.length K mg F) ∧ PySem.W.keepIn K (.ref f) = true ∧ Binds K fd ps []
theorem x_call {n : Nat} (D : Def3n X.prog X.w X.K X.mg X.base k f n F) (hm : X.mg x = some (.ref f)) (hr : Room k X.A) (hg : Gl X x) (tk : Takes X E) (ha : PXs X E (e :: es) fa)
    (hdb : (x == ("__debug__" : Str)) = false := by decide) (he : starEach (e :: es) X.env = (false, eval e X.env) :: starEach es X.env := by rfl) (hpl : (backTo pos (starEach es X.env)).any (·.1) = false := by rfl) : PX X E (.Call (.Name x p) (e :: es) [] pos) (mCall n F fa) := by
  obtain ⟨fd, ps, hn, ok, hk, hb⟩ := D
  refine PEi (pe_callSD (dvs := []) ok hr hg hm hk hb .nil (fun σ => passAt tk σ) ha hdb he hpl) fun σ H Q ⟨b, ρ, m, T, S, w⟩ => ?_
  refine ⟨b, ρ, m, T, S, ?_⟩
  unfold mCall at w
  revert w
  cases fa ρ m with
  | no => exact id
  | ex x m1 => exact id
  | ok ds m1 =>
    intro w vs H1 hl ⟨G, μ, s⟩
    rw [Rs.bind_ok] at w
    by_cases z : ds.length = n
    · rw [if_pos z] at w
      rw [List.append_nil]
      exact sp3_of s.pops (tvs_rep hl s) (by rw [z, hn]) (want_rsA w)
    · rw [if_neg z] at w; exact w.elim
theorem x_call0 (D : Def3n X.prog X.w X.K X.mg X.base k f 0 F) (hm : X.mg x = some (.ref f)) (hr : Room k X.A) (hg : Gl X x) (tk : Takes X E)
    (hdb : (x == ("__debug__" : Str)) = false := by decide) : PX X E (.Call (.Name x p) [] [] pos) (mCall 0 F mNil) := by
  obtain ⟨fd, ps, hn, ok, hk, hb⟩ := D
  refine ⟨fun pins s σ H Q I ⟨b, ρ, m, T, ⟨G, μ, st⟩, w⟩ => ?_⟩
  refine wpAny_Call_Name_kw (ld_glob I hg hm ?_ hdb)
  exact PySem.W.callWith_K0 I.kIn hk (run_fnSD (us := []) (vs := []) (dvs := []) (E := WE E) ok hr hb .nil (passAt tk σ) I .nil (sp3_of st .nil (by rw [hn]; rfl) (want_rsA w)))

/-! ### o.m(..) -/
def mMeth (cn mn : Str) (n : Nat) (F : MF) (fo : ME) (fa : MA) : ME := fun ρ m => (fo ρ m).bind fun x m1 => match x with
  | .v d => match insOf ρ m1 (.v d) with
    | some (c', fs) => if c' = cn ∧ fs.lookup mn = none then (fa ρ m1).bind fun ds m2 => if ds.length + 1 = n then rsA (F (d :: ds) m2) else .no
      else .no
    | none => .no
  | .b _ => .no
theorem meth_want {K : PySem.W.Frag} {mg : Str → Option Value} {n : Nat} (hC : mg cn = some (.ref C)) {ta' : TA} (hta : ∀ σ H Q, taOf K mg E fa σ H Q → ta' σ H Q) {σ : L2.St} {H : Hp} {Q : VK} (h : tOf K mg E (mMeth cn mn n F fo fa) σ H Q) :
    tOf K mg E fo σ H fun x H1 => ∃ a dx fs, x = .ref a ∧ H1 a = some (.ins C dx fs) ∧ fs.lookup mn = none ∧ ta' σ H1 fun vs H2 => sp3 n K mg F (x :: vs) H2 Q (WE E σ) := by
  obtain ⟨b, ρ, m, T, S, w⟩ := h
  refine ⟨b, ρ, m, T, S, ?_⟩
  unfold mMeth at w
  revert w
  cases fo ρ m with
  | no => exact id
  | ex x m1 => exact id
  | ok x m1 =>
    intro w v H1 ⟨G, μ, s⟩ hb
    rw [Rs.bind_ok] at w
    cases x with
    | b i => exact w.elim
    | v d =>
      have r := s.ar (S := T) hb
      cases e : insOf ρ m1 (.v d) with
      | none => simp only [e] at w; exact w.elim
      | some q =>
        obtain ⟨c', fs⟩ := q
        simp only [e] at w
        obtain ⟨a, C', dx, ws, rfl, hC', hp, rk⟩ := ins_at s.pops r e
        by_cases z : c' = cn ∧ fs.lookup mn = none
        · rw [if_pos z] at w
          have hC' : mg c' = some (.ref C') := hC'
          rw [z.1, hC] at hC'; cases hC'
          refine ⟨a, dx, ws, rfl, hp, (repK_look mn rk).2 z.2, hta _ _ _ ⟨b, ρ, m1, tv (.ref a) d :: T, ⟨G, μ, s⟩, ?_⟩⟩
          revert w
          cases fa ρ m1 with
          | no => exact id
          | ex x m2 => exact fun w => WantX.weak (S := [tv (.ref a) d]) w
          | ok ds m2 =>
            intro w vs H2 hl ⟨G2, μ2, s2⟩
            rw [Rs.bind_ok] at w
            by_cases zl : ds.length + 1 = n
            · rw [if_pos zl] at w
              exact sp3_of s2.pops.pop (.cons s2.pops.top (tvs_rep hl s2)) (by simpa using zl) (want_rsA w)
            · rw [if_neg zl] at w; exact w.elim
        · rw [if_neg z] at w; exact w.elim
theorem x_meth {pl : Sem Bool} {n : Nat} (hC : X.mg cn = some (.ref C)) (c : Cls X.K C) (hm : Meth X.K C mn f) (D : Def3n X.prog X.w X.K X.mg X.base k f n F) (hr : Room k X.A) (tk : Takes X E) (ho : PX X E o fo) (ha : PXs X E (e :: es) fa)
    (hst : starEach (e :: es) X.env = (false, eval e X.env) :: starEach es X.env := by rfl) (hpl : (backTo pos (starEach es X.env)).any (·.1) = false := by rfl)
    (ht : eval (.Call (.Attribute o mn apos) (e :: es) [] pos) X.env = (do
      let ov ← eval o X.env
      standAt apos.atName
      let (f, first) ← holding [ov] (getMethod ov mn pl)
      callWith pos f first (backTo pos (starEach (e :: es) X.env)) (backToKw pos (keywordEach [] X.env))) := by rfl) :
    PX X E (.Call (.Attribute o mn apos) (e :: es) [] pos) (mMeth cn mn n F fo fa) := by
  obtain ⟨fd, ps, hn, ok, hk, hb⟩ := D
  refine ⟨fun pins s σ H Q I h => ?_⟩
  have h := meth_want (mn := mn) (F := F) (fo := fo) (fa := fa) hC (fun _ _ _ q => q) h
  refine PySem.W.methodCall_KW (pl := pl) (thn (ho.run pins s σ H _ I h) fun u s1 ⟨x, H1, I1, rx, a, dx, fs, ex, ea, l, q⟩ => ?_) ht
  subst ex
  obtain rfl : u = Value.ref a := rx
  refine getmeth_ok I1 ea c hm l ?_
  refine PySem.W.callWith_K (first := [.ref a]) (h₀ := X.base) I.ok.mod.kin hm.kp (thn (ha.run pos pins s1 σ H1 _ I1 q) fun us s2 ⟨vs, H2, I2, r, q2⟩ => ⟨I2.kIn, ?_⟩) hst hpl
  exact run_fnSD (us := .ref a :: us) (vs := .ref a :: vs) (dvs := []) (E := WE E) ok hr hb .nil (passAt tk σ) I2 (.cons rfl r) (by rw [List.append_nil, hn]; exact q2)
theorem x_meth0 {pl : Sem Bool} {n : Nat} (hC : X.mg cn = some (.ref C)) (c : Cls X.K C) (hm : Meth X.K C mn f) (D : Def3n X.prog X.w X.K X.mg X.base k f n F) (hr : Room k X.A) (tk : Takes X E) (ho : PX X E o fo)
    (ht : eval (.Call (.Attribute o mn apos) [] [] pos) X.env = (do
      let ov ← eval o X.env
      standAt apos.atName
      let (f, first) ← holding [ov] (getMethod ov mn pl)
      callWith pos f first (backTo pos (starEach [] X.env)) (backToKw pos (keywordEach [] X.env))) := by rfl) :
    PX X E (.Call (.Attribute o mn apos) [] [] pos) (mMeth cn mn n F fo mNil) := by
  obtain ⟨fd, ps, hn, ok, hk, hb⟩ := D
  refine ⟨fun pins s σ H Q I h => ?_⟩
  have h := meth_want (mn := mn) (F := F) (fo := fo) (fa := mNil) (ta' := tNil) hC (fun σ H Q ⟨b, ρ, m, T, S, w⟩ => w [] H rfl S) h
  refine PySem.W.methodCall_KW (pl := pl) (thn (ho.run pins s σ H _ I h) fun u s1 ⟨x, H1, I1, rx, a, dx, fs, ex, ea, l, q⟩ => ?_) ht
  subst ex
  obtain rfl : u = Value.ref a := rx
  refine getmeth_ok I1 ea c hm l ?_
  exact PySem.W.callWith_K0 (first := [.ref a]) I1.kIn hm.kp (run_fnSD (us := [.ref a]) (vs := [.ref a]) (dvs := []) (E := WE E) ok hr hb .nil (passAt tk σ) I1 (.cons rfl .nil) (by rw [List.append_nil, hn]; exact q))

/-! ### o.f, a property -/
def mProp (cn : Str) (F : MF) (fo : ME) : ME := fun ρ m => (fo ρ m).bind fun x m1 => match x with
  | .v d => match insOf ρ m1 (.v d) with
    | some (c', fs) => if c' = cn then match F [d] m1 with
        | .ok r m2 => .ok (.v r) m2
        | _ => .no
      else .no
    | none => .no
  | .b _ => .no
theorem x_prop {pf : Str} {pr g : Addr} (hC : X.mg cn = some (.ref C)) (c : Cls X.K C) (hp : PropOf X.K C pf pr g) (D : Def3n X.prog X.w X.K X.mg X.base k g 1 F) (hr : Room (k + 1) X.A) (ho : PX X E o fo)
    (hab : attributeBase o pf X.env (eval o X.env) = eval o X.env := by rfl) : PX X E (.Attribute o pf pos) (mProp cn F fo) := by
  obtain ⟨fd, ps, hn, ok, hk, hb⟩ := D
  refine PEi (pe_prop (dvs := []) ho c hp ok hr hb .nil (passL (X := X.nox)) hab) fun σ H Q ⟨b, ρ, m, T, S, w⟩ => ?_
  refine ⟨b, ρ, m, T, S, ?_⟩
  unfold mProp at w
  revert w
  cases fo ρ m with
  | no => exact id
  | ex x m1 => exact id
  | ok x m1 =>
    intro w v H1 ⟨G, μ, s⟩ hb
    rw [Rs.bind_ok] at w
    cases x with
    | b i => exact w.elim
    | v d =>
      have r := s.ar (S := T) hb
      cases e : insOf ρ m1 (.v d) with
      | none => simp only [e] at w; exact w.elim
      | some q =>
        obtain ⟨c', fs⟩ := q
        simp only [e] at w
        obtain ⟨a, C', dx, ws, rfl, hC', hpp, rk⟩ := ins_at s.pops r e
        by_cases z : c' = cn
        · rw [if_pos z] at w
          have hC' : X.mg c' = some (.ref C') := hC'
          rw [z, hC] at hC'; cases hC'
          refine ⟨a, dx, ws, rfl, hpp, G, μ, m1, [d], by rw [hn]; rfl, s.mem, .cons r .nil, ?_⟩
          revert w
          cases F [d] m1 with
          | no => exact id
          | ex x m2 => exact fun w => w.elim
          | ok r m2 => exact fun w v H' G' μ' mem le rp => Want.v w ⟨G', μ', (s.pops.next mem le).push rp⟩
        · rw [if_neg z] at w; exact w.elim
end
end M3

set_option Elab.async false
set_option linter.all false
set_option autoImplicit false
set_option maxRecDepth 100000
set_option maxHeartbeats 2000000
/-! M3e: what is built in. -/
namespace M3
open PySem L2 PySem.Spec PyProof.Rows

theorem CallR.or {X : Cx} {f : Value} {r r' : List V → Hp → VK → Prop} (h : CallR X f r) (h' : CallR X f r') : CallR X f (fun xs H Q => r xs H Q ∨ r' xs H Q) := by
  intro pins s σ H xs us Q I rv q
  rcases q with q | q
  · exact h pins s σ H xs us Q I rv q
  · exact h' pins s σ H xs us Q I rv q
section
variable {X : Cx} {E : WX} {e : Expr} {fa : ME} {pos p : Pos} {x : Str} {r : List V → Hp → VK → Prop}
/-! ### one argument of any kind -/
def UnN (K : PySem.W.Frag) (mg : Str → Option Value) (E : WX) (r : V → Hp → VK → Prop) (g : Sl → Mm → Ar → Rs Ob) : Prop :=
  ∀ (b : Bs) (ρ : Sl) (m : Mm) (σ : L2.St) (H : Hp) (T : Tm) (G : Hp) (μ : List Addr) (v : V) (x : Ar) (Q : VK), St3 (b.cf K mg) ρ m σ H T G μ → ArAt K mg μ G σ v x → WantN E (b.cf K mg) ρ σ T Q (g ρ m x) → r v H Q
def mUnN (g : Sl → Mm → Ar → Rs Ob) (fa : ME) : MN := fun ρ m => (fa ρ m).bind fun x m1 => g ρ m1 x
theorem unN_want {K : PySem.W.Frag} {mg : Str → Option Value} {r : V → Hp → VK → Prop} {g : Sl → Mm → Ar → Rs Ob} (hs : UnN K mg E r g) {σ : L2.St} {H : Hp} {Q : VK} (h : tnOf K mg E (mUnN g fa) σ H Q) : tUn r (tOf K mg E fa) σ H Q := by
  obtain ⟨b, ρ, m, T, S, w⟩ := h
  refine ⟨b, ρ, m, T, S, ?_⟩
  unfold mUnN at w
  revert w
  cases fa ρ m with
  | no => exact id
  | ex x m1 => exact id
  | ok x m1 =>
    intro w v H1 ⟨G, μ, s⟩ hb
    exact hs b ρ m1 σ H1 T G μ v x Q s.pops (s.ar (S := T) hb) w
theorem x_B1 {bid : String} {g : Sl → Mm → Ar → Rs Ar} (hc : CallR X (.builtin bid) r) (hs : UnS X.K X.mg E (fun v => r [v]) g) (hg : Gl X x) (hm : X.mg x = none) (hv : bootBuiltins x = some (.builtin bid)) (ha : PX X E e fa) (hn : x ≠ "__name__" := by decide) (hdb : (x == ("__debug__" : Str)) = false := by decide)
    (he : starEach [e] X.env = (false, eval e X.env) :: starEach [] X.env := by rfl) (hpl : (backTo pos (starEach [] X.env)).any (·.1) = false := by rfl) : PX X E (.Call (.Name x p) [e] [] pos) (mUn g fa) :=
  PEi (pe_callB hc hg hm hv (pa_cons ha pa_nil he) hn hdb he hpl) fun _ _ _ h => un_want hs h
theorem x_T1 {bid : String} {g : Sl → Mm → Ar → Rs Ar} (hc : CallR X (.type bid) r) (hs : UnS X.K X.mg E (fun v => r [v]) g) (hg : Gl X x) (hm : X.mg x = none) (hv : bootBuiltins x = some (.type bid)) (ha : PX X E e fa) (hn : x ≠ "__name__" := by decide) (hdb : (x == ("__debug__" : Str)) = false := by decide)
    (he : starEach [e] X.env = (false, eval e X.env) :: starEach [] X.env := by rfl) (hpl : (backTo pos (starEach [] X.env)).any (·.1) = false := by rfl) : PX X E (.Call (.Name x p) [e] [] pos) (mUn g fa) :=
  PEi (pe_callTy hc hg hm hv (pa_cons ha pa_nil he) hn hdb he hpl) fun _ _ _ h => un_want hs h
theorem n_B1 {bid : String} {g : Sl → Mm → Ar → Rs Ob} (hc : CallR X (.builtin bid) r) (hs : UnN X.K X.mg E (fun v => r [v]) g) (hg : Gl X x) (hm : X.mg x = none) (hv : bootBuiltins x = some (.builtin bid)) (ha : PX X E e fa) (hn : x ≠ "__name__" := by decide) (hdb : (x == ("__debug__" : Str)) = false := by decide)
    (he : starEach [e] X.env = (false, eval e X.env) :: starEach [] X.env := by rfl) (hpl : (backTo pos (starEach [] X.env)).any (·.1) = false := by rfl) : PN X E (.Call (.Name x p) [e] [] pos) (mUnN g fa) :=
  PEi (pe_callB hc hg hm hv (pa_cons ha pa_nil he) hn hdb he hpl) fun _ _ _ h => unN_want hs h
theorem n_T1 {bid : String} {g : Sl → Mm → Ar → Rs Ob} (hc : CallR X (.type bid) r) (hs : UnN X.K X.mg E (fun v => r [v]) g) (hg : Gl X x) (hm : X.mg x = none) (hv : bootBuiltins x = some (.type bid)) (ha : PX X E e fa) (hn : x ≠ "__name__" := by decide) (hdb : (x == ("__debug__" : Str)) = false := by decide)
    (he : starEach [e] X.env = (false, eval e X.env) :: starEach [] X.env := by rfl) (hpl : (backTo pos (starEach [] X.env)).any (·.1) = false := by rfl) : PN X E (.Call (.Name x p) [e] [] pos) (mUnN g fa) :=
  PEi (pe_callTy hc hg hm hv (pa_cons ha pa_nil he) hn hdb he hpl) fun _ _ _ h => unN_want hs h
end

section
variable {K : PySem.W.Frag} {mg : Str → Option Value} {E : WX}
/-! ### len -/
def lenOf (ρ : Sl) (m : Mm) (x : Ar) : Option Nat := match x with
  | .v (.str s) => if s.length ≤ sizeLine then some s.length else none
  | .v (.scr ns) => some ns.length
  | x => match seqOf ρ m x with
    | some ds => some ds.length
    | none => none
def gLen : Sl → Mm → Ar → Rs Ar := fun ρ m x => match lenOf ρ m x with
  | some n => .ok (.v (.int (n : Nat))) m
  | none => .no
theorem unS_len : UnS K mg E (fun v => (fun xs H Q => ∃ x n, xs = [x] ∧ LenV K x H n ∧ Q (.int n) H) [v]) gLen := fun b ρ m σ H T G μ v x Q s r w => by
  unfold gLen at w
  split at w
  · rename_i n e
    refine ⟨v, n, rfl, ?_, Want.s w s rfl⟩
    unfold lenOf at e
    split at e
    · split at e
      · rename_i z
        cases e
        cases r
        exact ⟨z, rfl⟩
      · cases e
    · cases e
      cases r with
      | scr h => exact .inl ⟨_, s.mem.st.lst h, by simp⟩
    · split at e
      · rename_i h
        cases e
        obtain ⟨a, vs, rfl, ha, ra⟩ := seq_at s r h
        rcases ha with ha | ha
        · exact .inl ⟨vs, ha, ra.length⟩
        · exact .inr ⟨vs, ha, ra.length⟩
      · cases e
  · exact w.elim
/-! ### list, tuple -/
def allOf (ρ : Sl) (m : Mm) (x : Ar) : Option (List Dv) := match x with
  | .v (.scr ns) => some (ns.map .int)
  | x => seqOf ρ m x
theorem ints_rep {μ : List Addr} {G : Hp} : ∀ ns : List Int, RepL K mg μ G (ns.map .int) (ns.map V.int)
  | [] => .nil
  | n :: ns => .cons (.int n) (ints_rep ns)
theorem all_at {c : Cf} {ρ : Sl} {m : Mm} {σ : L2.St} {H : Hp} {T : Tm} {G : Hp} {μ : List Addr} (s : St3 c ρ m σ H T G μ) {x : Ar} {v : V} {ds : List Dv} (r : ArAt c.K c.mg μ G σ v x) (e : allOf ρ m x = some ds) : ∃ a vs, v = .ref a ∧ (SqL c.K H a vs ∨ SqT c.K H a vs) ∧ RepL c.K c.mg μ G ds vs := by
  unfold allOf at e
  split at e
  · cases e
    cases r with
    | scr h => exact ⟨_, _, rfl, .inl (s.mem.st.lst h), ints_rep _⟩
  · exact seq_at s r e
def gList : Sl → Mm → Ar → Rs Ob := fun ρ m x => match allOf ρ m x with
  | some ds => .ok (.lst ds) m
  | none => .no
theorem unN_list : UnN K mg E (fun v => (fun xs H Q => ∃ p ys, xs = [.ref p] ∧ (SqL K H p ys ∨ SqT K H p ys) ∧ ∀ l, H l = none → Q (.ref l) (upd H l (.lst ys))) [v]) gList := fun b ρ m σ H T G μ v x Q s r w => by
  unfold gList at w
  split at w
  · rename_i ds e
    obtain ⟨a, vs, rfl, ha, ra⟩ := all_at s r e
    exact ⟨a, vs, rfl, ha, fun l hl => w l _ (s.newOL ra hl)⟩
  · exact w.elim
def gTuple : Sl → Mm → Ar → Rs Ar := fun ρ m x => match lstOf ρ m x with
  | some ds => if ds.length ≤ sizeLine then .ok (.v (.tup ds)) m else .no
  | none => match x with
    | .v (.tup ds) => .ok (.v (.tup ds)) m
    | .v (.ktp ds) => .ok (.v (.ktp ds)) m
    | _ => .no
theorem unS_tuple : UnS K mg E (fun v => (fun xs H Q => ∃ p ys, xs = [.ref p] ∧ ((SqL K H p ys ∧ ∀ l, H l = none → Q (.ref l) (upd H l (.tup ys))) ∨ (SqT K H p ys ∧ Q (.ref p) H))) [v]) gTuple := fun b ρ m σ H T G μ v x Q s r w => by
  unfold gTuple at w
  split at w
  · rename_i ds e
    split at w
    · rename_i z
      obtain ⟨a, vs, rfl, ha, ra⟩ := lst_at s r e
      exact ⟨a, vs, rfl, .inl ⟨SqL.of ha, fun l hl => w.v (s.newT ra z hl)⟩⟩
    · exact w.elim
  · split at w
    · cases r with
      | tup h z r => exact ⟨_, _, rfl, .inr ⟨SqT.of (s.mem.st.t h), w.v ⟨G, μ, s.push (.tup h z r)⟩⟩⟩
    · cases r with
      | ktp h r => exact ⟨_, _, rfl, .inr ⟨s.mem.st.tup h, w.v ⟨G, μ, s.push (.ktp h r)⟩⟩⟩
    · exact w.elim
/-! ### int, str -/
def gInt1 : Sl → Mm → Ar → Rs Ar := fun _ m x => match x with
  | .v (.int i) => .ok (.v (.int i)) m
  | .v (.bl k) => .ok (.v (.int (if k then 1 else 0))) m
  | .v (.str a) => match PySem.intText? a with
    | some n => if a.length ≤ 640 then .ok (.v (.int n)) m else .no
    | none => .no
  | _ => .no
def rInt1 : List V → Hp → VK → Prop := fun xs H Q => ((∃ i, xs = [.int i] ∧ Q (.int i) H) ∨ ∃ k, xs = [.bl k] ∧ Q (.int (if k then 1 else 0)) H) ∨ ∃ a n, xs = [.str a] ∧ PySem.intText? a = some n ∧ a.length ≤ 640 ∧ Q (.int n) H
theorem call_int1U {X : Cx} : CallR X (.type "int") rInt1 := CallR.or call_int1 call_int_str
theorem unS_int1 : UnS K mg E (fun v => rInt1 [v]) gInt1 := fun b ρ m σ H T G μ v x Q s r w => by
  unfold gInt1 at w
  split at w
  · cases r; exact .inl (.inl ⟨_, rfl, Want.s w s rfl⟩)
  · cases r; exact .inl (.inr ⟨_, rfl, Want.s w s rfl⟩)
  · split at w
    · rename_i n e
      split at w
      · rename_i z
        cases r; exact .inr ⟨_, n, rfl, e, z, Want.s w s rfl⟩
      · exact w.elim
    · exact w.elim
  · exact w.elim
def gStr1 : Sl → Mm → Ar → Rs Ar := fun _ m x => match x with
  | .v (.int i) => if i.natAbs.log2 < 1920 then .ok (.v (.str (toString i))) m else .no
  | _ => .no
theorem unS_str1 : UnS K mg E (fun v => (fun xs H Q => ∃ i, xs = [.int i] ∧ i.natAbs.log2 < 1920 ∧ Q (.str (toString i)) H) [v]) gStr1 := fun b ρ m σ H T G μ v x Q s r w => by
  unfold gStr1 at w
  split at w
  · split at w
    · rename_i z
      cases r; exact ⟨_, rfl, z, Want.s w s rfl⟩
    · exact w.elim
  · exact w.elim
/-! ### lists of ints, of bools -/
def intsD : List Dv → Option (List Int)
  | [] => some []
  | .int i :: r => (intsD r).map (i :: ·)
  | _ :: _ => none
def blsD : List Dv → Option (List Bool)
  | [] => some []
  | .bl i :: r => (blsD r).map (i :: ·)
  | _ :: _ => none
def strsD : List Dv → Option (List Str)
  | [] => some []
  | .str i :: r => (strsD r).map (i :: ·)
  | _ :: _ => none
theorem intsD_rep {μ : List Addr} {G : Hp} {ds : List Dv} : ∀ {vs : List V} {ns : List Int}, RepL K mg μ G ds vs → intsD ds = some ns → vs = ns.map V.int := by
  induction ds with
  | nil => intro vs ns r e; cases r; simp [intsD] at e; subst e; rfl
  | cons d ds ih =>
    intro vs ns r e
    cases r with
    | cons a b =>
      cases d <;> simp only [intsD, reduceCtorEq] at e
      simp only [Option.map_eq_some_iff] at e
      obtain ⟨ms, e1, rfl⟩ := e
      cases a
      rw [ih b e1]; rfl
theorem blsD_rep {μ : List Addr} {G : Hp} {ds : List Dv} : ∀ {vs : List V} {ns : List Bool}, RepL K mg μ G ds vs → blsD ds = some ns → vs = ns.map V.bl := by
  induction ds with
  | nil => intro vs ns r e; cases r; simp [blsD] at e; subst e; rfl
  | cons d ds ih =>
    intro vs ns r e
    cases r with
    | cons a b =>
      cases d <;> simp only [blsD, reduceCtorEq] at e
      simp only [Option.map_eq_some_iff] at e
      obtain ⟨ms, e1, rfl⟩ := e
      cases a
      rw [ih b e1]; rfl
theorem strsD_rep {μ : List Addr} {G : Hp} {ds : List Dv} : ∀ {vs : List V} {ns : List Str}, RepL K mg μ G ds vs → strsD ds = some ns → vs = ns.map V.str := by
  induction ds with
  | nil => intro vs ns r e; cases r; simp [strsD] at e; subst e; rfl
  | cons d ds ih =>
    intro vs ns r e
    cases r with
    | cons a b =>
      cases d <;> simp only [strsD, reduceCtorEq] at e
      simp only [Option.map_eq_some_iff] at e
      obtain ⟨ms, e1, rfl⟩ := e
      cases a
      rw [ih b e1]; rfl
def gOnL {α : Type} (q : List Dv → Option α) (f : α → Option Dv) : Sl → Mm → Ar → Rs Ar := fun ρ m x => match (lstOf ρ m x).bind q with
  | some a => match f a with
    | some d => .ok (.v d) m
    | none => .no
  | none => .no
abbrev gSum := gOnL intsD fun ns => some (.int ns.sum)
abbrev gAll := gOnL blsD fun bs => some (.bl (bs.all id))
abbrev gAny := gOnL blsD fun bs => some (.bl (bs.any id))
def maxI : List Int → Option Int
  | [] => none
  | i :: r => some (r.foldl (fun a b => if b > a then b else a) i)
def minI : List Int → Option Int
  | [] => none
  | i :: r => some (r.foldl (fun a b => if b < a then b else a) i)
abbrev gMax := gOnL intsD fun ns => (maxI ns).map .int
abbrev gMin := gOnL intsD fun ns => (minI ns).map .int
theorem unS_sum : UnS K mg E (fun v => rSum K [v]) gSum := fun b ρ m σ H T G μ v x Q s r w => by
  unfold gSum gOnL at w
  split at w
  · rename_i ns e
    obtain ⟨ds, h1, h2⟩ := Option.bind_eq_some_iff.mp e
    obtain ⟨a, vs, rfl, ha, ra⟩ := lst_at s r h1
    rw [intsD_rep ra h2] at ha
    exact ⟨a, ns, rfl, SqL.of ha, Want.s w s rfl⟩
  · exact w.elim
theorem unS_all : UnS K mg E (fun v => rAll K [v]) gAll := fun b ρ m σ H T G μ v x Q s r w => by
  unfold gAll gOnL at w
  split at w
  · rename_i ns e
    obtain ⟨ds, h1, h2⟩ := Option.bind_eq_some_iff.mp e
    obtain ⟨a, vs, rfl, ha, ra⟩ := lst_at s r h1
    rw [blsD_rep ra h2] at ha
    exact ⟨a, ns, rfl, SqL.of ha, Want.s w s rfl⟩
  · exact w.elim
theorem unS_any : UnS K mg E (fun v => rAny K [v]) gAny := fun b ρ m σ H T G μ v x Q s r w => by
  unfold gAny gOnL at w
  split at w
  · rename_i ns e
    obtain ⟨ds, h1, h2⟩ := Option.bind_eq_some_iff.mp e
    obtain ⟨a, vs, rfl, ha, ra⟩ := lst_at s r h1
    rw [blsD_rep ra h2] at ha
    exact ⟨a, ns, rfl, SqL.of ha, Want.s w s rfl⟩
  · exact w.elim
theorem foldMax : ∀ (r : List Int) (i : Int), (r.foldl (fun a b => if b > a then b else a) i ∈ i :: r) ∧ ∀ y ∈ i :: r, y ≤ r.foldl (fun a b => if b > a then b else a) i
  | [], i => by simp
  | j :: r, i => by
    rw [List.foldl_cons]
    obtain ⟨h1, h2⟩ := foldMax r (if j > i then j else i)
    refine ⟨?_, fun y hy => ?_⟩
    · rcases List.mem_cons.mp h1 with h | h
      · rw [h]; split <;> simp
      · exact List.mem_cons_of_mem _ (List.mem_cons_of_mem _ h)
    · have h3 := h2 _ List.mem_cons_self
      have hi : i ≤ (if j > i then j else i) := by split <;> omega
      have hj : j ≤ (if j > i then j else i) := by split <;> omega
      rcases List.mem_cons.mp hy with h | h
      · rw [h]; exact Int.le_trans hi h3
      · rcases List.mem_cons.mp h with h | h
        · rw [h]; exact Int.le_trans hj h3
        · exact h2 y (List.mem_cons_of_mem _ h)
theorem foldMin : ∀ (r : List Int) (i : Int), (r.foldl (fun a b => if b < a then b else a) i ∈ i :: r) ∧ ∀ y ∈ i :: r, r.foldl (fun a b => if b < a then b else a) i ≤ y
  | [], i => by simp
  | j :: r, i => by
    rw [List.foldl_cons]
    obtain ⟨h1, h2⟩ := foldMin r (if j < i then j else i)
    refine ⟨?_, fun y hy => ?_⟩
    · rcases List.mem_cons.mp h1 with h | h
      · rw [h]; split <;> simp
      · exact List.mem_cons_of_mem _ (List.mem_cons_of_mem _ h)
    · have h3 := h2 _ List.mem_cons_self
      have hi : (if j < i then j else i) ≤ i := by split <;> omega
      have hj : (if j < i then j else i) ≤ j := by split <;> omega
      rcases List.mem_cons.mp hy with h | h
      · rw [h]; exact Int.le_trans h3 hi
      · rcases List.mem_cons.mp h with h | h
        · rw [h]; exact Int.le_trans h3 hj
        · exact h2 y (List.mem_cons_of_mem _ h)
theorem unS_max : UnS K mg E (fun v => rMax K [v]) gMax := fun b ρ m σ H T G μ v x Q s r w => by
  unfold gMax gOnL at w
  split at w
  · rename_i ns e
    obtain ⟨ds, h1, h2⟩ := Option.bind_eq_some_iff.mp e
    obtain ⟨a, vs, rfl, ha, ra⟩ := lst_at s r h1
    rw [intsD_rep ra h2] at ha
    cases ns with
    | nil => exact w.elim
    | cons i ns =>
      refine ⟨a, _, rfl, SqL.of ha, by simp, fun k hk hle => ?_⟩
      obtain ⟨f1, f2⟩ := foldMax ns i
      have : k = ns.foldl (fun a b => if b > a then b else a) i := Int.le_antisymm (f2 k hk) (hle _ f1)
      subst this
      exact Want.s w s rfl
  · exact w.elim
theorem unS_min : UnS K mg E (fun v => rMin K [v]) gMin := fun b ρ m σ H T G μ v x Q s r w => by
  unfold gMin gOnL at w
  split at w
  · rename_i ns e
    obtain ⟨ds, h1, h2⟩ := Option.bind_eq_some_iff.mp e
    obtain ⟨a, vs, rfl, ha, ra⟩ := lst_at s r h1
    rw [intsD_rep ra h2] at ha
    cases ns with
    | nil => exact w.elim
    | cons i ns =>
      refine ⟨a, _, rfl, SqL.of ha, by simp, fun k hk hle => ?_⟩
      obtain ⟨f1, f2⟩ := foldMin ns i
      have : k = ns.foldl (fun a b => if b < a then b else a) i := Int.le_antisymm (hle _ f1) (f2 k hk)
      subst this
      exact Want.s w s rfl
  · exact w.elim
/-! ### max, min of two -/
def gMax2 : Sl → Mm → List Dv → Rs Ar := fun _ m ds => match ds with
  | [.int i, .int j] => .ok (.v (.int (if j > i then j else i))) m
  | _ => .no
def gMin2 : Sl → Mm → List Dv → Rs Ar := fun _ m ds => match ds with
  | [.int i, .int j] => .ok (.v (.int (if j < i then j else i))) m
  | _ => .no
theorem callS_max2 : CallS K mg E (fun xs H Q => ∃ i j, xs = [.int i, .int j] ∧ Q (.int (if j > i then j else i)) H) gMax2 := fun b ρ m σ H T G μ vs ds Q s r w => by
  unfold gMax2 at w
  split at w
  · cases r with
    | cons a b => cases a; cases b with
      | cons a b => cases a; cases b; exact ⟨_, _, rfl, Want.s w s rfl⟩
  · exact w.elim
theorem callS_min2 : CallS K mg E (fun xs H Q => ∃ i j, xs = [.int i, .int j] ∧ Q (.int (if j < i then j else i)) H) gMin2 := fun b ρ m σ H T G μ vs ds Q s r w => by
  unfold gMin2 at w
  split at w
  · cases r with
    | cons a b => cases a; cases b with
      | cons a b => cases a; cases b; exact ⟨_, _, rfl, Want.s w s rfl⟩
  · exact w.elim
/-! ### sorted, of ints -/
def insI (i : Int) : List Int → List Int
  | [] => [i]
  | j :: r => if i ≤ j then i :: j :: r else j :: insI i r
def sortI : List Int → List Int
  | [] => []
  | i :: r => insI i (sortI r)
theorem insI_perm (i : Int) : ∀ l : List Int, (insI i l).Perm (i :: l)
  | [] => List.Perm.refl _
  | j :: r => by
    unfold insI
    split
    · exact List.Perm.refl _
    · exact ((insI_perm i r).cons j).trans (List.Perm.swap i j r)
theorem sortI_perm : ∀ l : List Int, (sortI l).Perm l
  | [] => List.Perm.refl _
  | i :: r => (insI_perm i (sortI r)).trans ((sortI_perm r).cons i)
theorem insI_sorted (i : Int) : ∀ {l : List Int}, l.Pairwise (· ≤ ·) → (insI i l).Pairwise (· ≤ ·)
  | [], _ => by simp [insI]
  | j :: r, h => by
    unfold insI
    obtain ⟨h1, h2⟩ := List.pairwise_cons.mp h
    split
    · rename_i hij
      refine List.pairwise_cons.mpr ⟨fun k hk => ?_, h⟩
      rcases List.mem_cons.mp hk with e | e
      · omega
      · have := h1 k e; omega
    · rename_i hij
      refine List.pairwise_cons.mpr ⟨fun k hk => ?_, insI_sorted i h2⟩
      rcases List.mem_cons.mp ((insI_perm i r).mem_iff.mp hk) with e | e
      · omega
      · exact h1 k e
theorem sortI_sorted : ∀ l : List Int, (sortI l).Pairwise (· ≤ ·)
  | [] => List.Pairwise.nil
  | i :: r => insI_sorted i (sortI_sorted r)
theorem sorted_uniq {l l' : List Int} (p : l.Perm l') (h : l.Pairwise (· ≤ ·)) (h' : l'.Pairwise (· ≤ ·)) : l = l' :=
  p.eq_of_pairwise (fun a b _ _ h1 h2 => Int.le_antisymm h1 h2) h h'
def gSortI : Sl → Mm → Ar → Rs Ob := fun ρ m x => match (lstOf ρ m x).bind intsD with
  | some ns => .ok (.lst ((sortI ns).map .int)) m
  | none => .no
theorem unN_sortI : UnN K mg E (fun v => rSortedI K [v]) gSortI := fun b ρ m σ H T G μ v x Q s r w => by
  unfold gSortI at w
  split at w
  · rename_i ns e
    obtain ⟨ds, h1, h2⟩ := Option.bind_eq_some_iff.mp e
    obtain ⟨a, vs, rfl, ha, ra⟩ := lst_at s r h1
    rw [intsD_rep ra h2] at ha
    refine ⟨a, ns, rfl, SqL.of ha, fun ns' p hp hs hn => ?_⟩
    have : ns' = sortI ns := sorted_uniq (hp.trans (sortI_perm ns).symm) hs (sortI_sorted ns)
    subst this
    exact w p _ (s.newOL (ints_rep _) hn)
  · exact w.elim
end
end M3

set_option Elab.async false
set_option linter.all false
set_option autoImplicit false
set_option maxRecDepth 100000
set_option maxHeartbeats 2000000
/-! M3k: instances made, names of a def, static methods. -/
namespace M3
open PySem L2 PySem.Spec PyProof.Rows

/-! ### data without numbers of mutable objects -/
mutual
def pureD : Dv → Bool
  | .lst ds => pureL ds
  | .tup ds => pureL ds
  | .ktp ds => pureL ds
  | .dct ds => pureK1 ds
  | .dcT ds => pureK2 ds
  | .ins _ ds => pureK3 ds
  | .loc _ => false
  | .lck _ _ _ => false
  | .lckT _ _ _ => false
  | .non => true
  | .bl _ => true
  | .int _ => true
  | .str _ => true
  | .ty _ => true
  | .glb _ => true
  | .scr _ => true
def pureL : List Dv → Bool
  | [] => true
  | d :: ds => pureD d && pureL ds
def pureK1 : List (Key × Dv) → Bool
  | [] => true
  | (_, d) :: ds => pureD d && pureK1 ds
def pureK2 : List (List Key × Dv) → Bool
  | [] => true
  | (_, d) :: ds => pureD d && pureK2 ds
def pureK3 : List (Str × Dv) → Bool
  | [] => true
  | (_, d) :: ds => pureD d && pureK3 ds
end
def pureO : Ob → Bool
  | .lst ds => pureL ds
  | .dct kvs => pureK1 kvs
  | .dcT kvs => pureK2 kvs
  | .ins _ fs => pureK3 fs
  | .raw _ => false
section
variable {K : PySem.W.Frag} {mg : Str → Option Value} {μ μ' : List Addr} {G G' : Hp}
mutual
theorem Rep.pure : ∀ {d : Dv} {v : V}, Rep K mg μ G d v → pureD d = true → Rep K mg μ' G d v
  | _, _, .non, _ => .non
  | _, _, .bl b, _ => .bl b
  | _, _, .int b, _ => .int b
  | _, _, .str b, _ => .str b
  | _, _, .ty b, _ => .ty b
  | _, _, .lst s z r, p => .lst s z (RepL.pure r p)
  | _, _, .scr s, _ => .scr s
  | _, _, .tup s z r, p => .tup s z (RepL.pure r p)
  | _, _, .ktp s r, p => .ktp s (RepL.pure r p)
  | _, _, .dct s z r, p => .dct s z (RepK.pure1 r p)
  | _, _, .dcT s z r, p => .dcT s z (RepK.pure2 r p)
  | _, _, .ins c s r, p => .ins c s (RepK.pure3 r p)
  | _, _, .glb h r, _ => .glb h r
  | _, _, .loc h, p => by simp [pureD] at p
  | _, _, .lck h r, p => by simp [pureD] at p
  | _, _, .lckT h r, p => by simp [pureD] at p
theorem RepL.pure : ∀ {d : List Dv} {v : List V}, RepL K mg μ G d v → pureL d = true → RepL K mg μ' G d v
  | _, _, .nil, _ => .nil
  | _, _, .cons a b, p => .cons (Rep.pure a (Bool.and_eq_true_iff.mp p).1) (RepL.pure b (Bool.and_eq_true_iff.mp p).2)
theorem RepK.pure1 : ∀ {d : List (Key × Dv)} {v : List (Key × V)}, RepK K mg μ G d v → pureK1 d = true → RepK K mg μ' G d v
  | _, _, .nil, _ => .nil
  | _, _, .cons a b, p => .cons (Rep.pure a (Bool.and_eq_true_iff.mp p).1) (RepK.pure1 b (Bool.and_eq_true_iff.mp p).2)
theorem RepK.pure2 : ∀ {d : List (List Key × Dv)} {v : List (List Key × V)}, RepK K mg μ G d v → pureK2 d = true → RepK K mg μ' G d v
  | _, _, .nil, _ => .nil
  | _, _, .cons a b, p => .cons (Rep.pure a (Bool.and_eq_true_iff.mp p).1) (RepK.pure2 b (Bool.and_eq_true_iff.mp p).2)
theorem RepK.pure3 : ∀ {d : List (Str × Dv)} {v : List (Str × V)}, RepK K mg μ G d v → pureK3 d = true → RepK K mg μ' G d v
  | _, _, .nil, _ => .nil
  | _, _, .cons a b, p => .cons (Rep.pure a (Bool.and_eq_true_iff.mp p).1) (RepK.pure3 b (Bool.and_eq_true_iff.mp p).2)
end
theorem obAt_pure {H : Hp} {a : Addr} {o : Ob} (h : ObAt K mg μ G H a o) (p : pureO o = true) : ObAt K mg μ' G H a o := by
  cases o with
  | lst ds => obtain ⟨vs, x, r⟩ := h; exact ⟨vs, x, r.pure p⟩
  | dct ds => obtain ⟨vs, x, r⟩ := h; exact ⟨vs, x, r.pure1 p⟩
  | dcT ds => obtain ⟨vs, x, r⟩ := h; exact ⟨vs, x, r.pure2 p⟩
  | ins c fs => obtain ⟨C, dx, ws, q, x, r⟩ := h; exact ⟨C, dx, ws, q, x, r.pure3 p⟩
  | raw u => cases p
theorem Rep.nil {d : Dv} {v : V} (r : Rep K mg [] G d v) : Rep K mg μ G d v := r.mono (.refl _) fun n a h => by simp at h
end

/-! ### a call that does not see our objects -/
section
variable {c : Cf} {ρ : Sl} {m : Mm} {σ : L2.St} {H H' : Hp} {T : Tm} {G G' : Hp} {μ μ' : List Addr}
/-- a new object that nobody speaks of -/
theorem St3.newU {p : Addr} {o : HO} (h : St3 c ρ m σ H T G μ) (hp : H p = none) : St3 c ρ m σ (upd H p o) T G μ := by
  have hg : G p = none := h.mem.st.none hp
  refine h.next ⟨fun a u e => ?_, h.mem.len, h.mem.nd, fun n ob e => ?_, fun a hm => ?_⟩ ⟨.refl _, .refl _, fun a u h1 h2 h3 => ⟨ex_upd_none hp h1, h2, h3⟩, fun a u h1 => ⟨u, ex_upd_none hp h1⟩⟩
  · have ha : a ≠ p := fun z => by subst z; rw [hg] at e; cases e
    rw [upd_ne ha]; exact h.mem.st a u e
  · obtain ⟨a, e1, e2, e3⟩ := h.mem.ob n ob e
    exact ⟨a, e1, e2, e3.mono (.refl _) (.refl _) fun u q => ex_upd_none hp q⟩
  · obtain ⟨u, e⟩ := h.mem.th a hm
    exact ⟨u, ex_upd_none hp e⟩
/-- what a call under a view of other objects leaves -/
theorem St3.hid {νs νs' : List Addr} {m1 : Mm} (s : St3 c ρ m σ H T G μ) (mem : MemOk c.K c.mg G' νs' H' m1) (le : Le G νs H G' νs' H') (hd : ∀ a ∈ νs, a ∉ μ ∧ c.H0 a = none ∧ ∀ p ∈ T ++ σ.zip ρ, ownA p ≠ some a) : St3 c ρ m σ H' T G' μ := by
  have kp : ∀ a u, H a = some u → G a = none → a ∉ νs → H' a = some u ∧ G' a = none := fun a u h1 h2 h3 => let ⟨q1, q2, _⟩ := le.prv a u h1 h2 h3; ⟨q1, q2⟩
  refine ⟨s.len, ⟨mem.st, s.mem.len, s.mem.nd, fun n o e => ?_, fun a ha => ?_⟩, ⟨s.le.ex.trans le.ex, s.le.pre, fun a o h1 h2 h3 => ?_, fun a o h => ?_⟩, fun p hp => ?_, s.nd⟩
  · obtain ⟨a, e1, e2, e3⟩ := s.mem.ob n o e
    have hn : a ∉ νs := fun z => (hd a z).1 (List.mem_of_getElem? e1)
    obtain ⟨u, hu⟩ := e3.some
    refine ⟨a, e1, (kp a u hu e2 hn).2, e3.mono le.ex (.refl _) fun u hu => (kp a u hu e2 hn).1⟩
  · obtain ⟨u, e⟩ := s.mem.th a ha
    exact le.th a u e
  · obtain ⟨q1, q2, q3⟩ := s.le.prv a o h1 h2 h3
    have hn : a ∉ νs := fun z => by rw [(hd a z).2.1] at h1; cases h1
    obtain ⟨k1, k2⟩ := kp a o q1 q2 hn
    exact ⟨k1, k2, q3⟩
  · obtain ⟨u, e⟩ := s.le.th a o h
    exact le.th a u e
  · have k := s.cells p hp
    obtain ⟨x, y⟩ := p
    cases y with
    | un => trivial
    | val d => obtain ⟨v, e, r⟩ := k; exact ⟨v, e, r.mono le.ex (.refl _)⟩
    | own o =>
      obtain ⟨a, e, ob, g, n, h0⟩ := k
      have e : x = some (.ref a) := e
      subst e
      have hn : a ∉ νs := fun z => (hd a z).2.2 _ hp rfl
      obtain ⟨u, hu⟩ := ob.some
      exact ⟨a, rfl, ob.mono le.ex (.refl _) fun u hu => (kp a u hu g hn).1, (kp a u hu g hn).2, n, h0⟩
theorem St3.fresh {x : Addr} (s : St3 c ρ m σ H T G μ) (hx : H x = none) : x ∉ μ ∧ c.H0 x = none ∧ ∀ p ∈ T ++ σ.zip ρ, ownA p ≠ some x := by
  refine ⟨s.mem.notIn hx, ?_, fun p hp e => ?_⟩
  · cases e : c.H0 x with
    | none => rfl
    | some u =>
      obtain ⟨w, q⟩ := s.le.th x u e
      rw [hx] at q; cases q
  · obtain ⟨ob', rfl⟩ := ownA_some e
    obtain ⟨a, ea, ra, _⟩ := s.cells _ hp
    cases ea
    obtain ⟨u, eu⟩ := ra.some
    rw [hx] at eu; cases eu
theorem St3.pushO {p : Addr} {o : Ob} (s : St3 c ρ m σ H T G μ) (ob : ObAt c.K c.mg μ G H p o) (g : G p = none) (n : p ∉ μ) (h0 : c.H0 p = none) (hno : ∀ q ∈ T ++ σ.zip ρ, ownA q ≠ some p) : St3 c ρ m σ H ((some (.ref p), .own o) :: T) G μ := by
  refine ⟨s.len, s.mem, s.le, fun q hq => ?_, ?_⟩
  · rcases List.mem_cons.mp hq with rfl | hq
    · exact ⟨p, rfl, ob, g, n, h0⟩
    · exact s.cells q hq
  · rw [List.cons_append, fm_cons]
    refine List.nodup_cons.mpr ⟨fun hm => ?_, s.nd⟩
    obtain ⟨q, hq, e⟩ := List.mem_filterMap.mp hm
    exact hno q hq e
theorem len0 {m' : Mm} {ν : List Addr} (h : ν.length = m'.length) (e : m' = []) : ν = [] := by
  subst e
  exact List.eq_nil_of_length_eq_zero h
theorem RepX.nil {K : PySem.W.Frag} {mg : Str → Option Value} {x : Dv} {cls : Value} {dd : Option Addr} (r : RepX K mg [] G x cls dd) : RepX K mg μ G x cls dd := by
  obtain ⟨cn, fs, C, d, ws, e1, e2, e3, e4, e5, e6⟩ := r
  exact ⟨cn, fs, C, d, ws, e1, e2, e3, e4, e5, e6.mono (.refl _) fun n a h => by simp at h⟩
end
/-- the end of a call that saw none of our objects -/
def hidD (m1 : Mm) : Rs Dv → Rs Dv
  | .ok d [] => .ok d m1
  | .ex x [] => .ex x m1
  | _ => .no
/-- F, run with none of our objects in sight -/
def hidF (F : MF) : MF := fun ds m => if pureL ds then hidD m (F ds []) else .no
/-- the end of an __init__ that saw its instance alone -/
def mkEnd (m1 : Mm) : Rs Dv → Rs Ob
  | .ok .non [some o] => if pureO o then .ok o m1 else .no
  | .ex x [_] => if pureD x then .ex x m1 else .no
  | _ => .no
def mMake (cn : Str) (n : Nat) (F : MF) (fa : MA) : MN := fun ρ m => (fa ρ m).bind fun ds m1 => if ds.length + 1 = n ∧ pureL ds = true then mkEnd m1 (F (.loc 0 :: ds) [some (.ins cn [])]) else .no
theorem hidD_ok {m1 m2 : Mm} {d : Dv} {r : Rs Dv} (h : hidD m1 r = .ok d m2) : r = .ok d [] ∧ m2 = m1 := by
  unfold hidD at h
  split at h <;> first | (cases h; done) | (cases h; exact ⟨rfl, rfl⟩)
theorem hidD_ex {m1 m2 : Mm} {d : Dv} {r : Rs Dv} (h : hidD m1 r = .ex d m2) : r = .ex d [] ∧ m2 = m1 := by
  unfold hidD at h
  split at h <;> first | (cases h; done) | (cases h; exact ⟨rfl, rfl⟩)
theorem sp3_hid {n : Nat} {K : PySem.W.Frag} {mg : Str → Option Value} {F : MF} {vs : List V} {H : Hp} {Q : VK} {E : XK} (h : sp3 n K mg (hidF F) vs H Q E) : sp3 n K mg F vs H Q E := by
  obtain ⟨G, μ, m, ds, hl, mem, r, w⟩ := h
  unfold hidF at w
  by_cases p : pureL ds = true
  · rw [if_pos p] at w
    refine ⟨G, [], [], ds, hl, ⟨mem.st, rfl, fun i j a e => by simp at e, fun n o e => by simp at e, fun a h => by simp at h⟩, r.pure p, ?_⟩
    have up : ∀ {G' H'}, Le G [] H G' [] H' → MemOk K mg G' [] H' [] → MemOk K mg G' μ H' m ∧ Le G μ H G' μ H' := fun {G' H'} le me => by
      have kp : ∀ a u, H a = some u → G a = none → H' a = some u ∧ G' a = none := fun a u h1 h2 => let ⟨q1, q2, _⟩ := le.prv a u h1 h2 (by simp); ⟨q1, q2⟩
      refine ⟨⟨me.st, mem.len, mem.nd, fun n o e => ?_, fun a ha => ?_⟩, ⟨le.ex, .refl _, fun a o h1 h2 h3 => ⟨(kp a o h1 h2).1, (kp a o h1 h2).2, h3⟩, le.th⟩⟩
      · obtain ⟨a, e1, e2, e3⟩ := mem.ob n o e
        obtain ⟨u, hu⟩ := e3.some
        exact ⟨a, e1, (kp a u hu e2).2, e3.mono le.ex (.refl _) fun u hu => (kp a u hu e2).1⟩
      · obtain ⟨u, e⟩ := mem.th a ha
        exact le.th a u e
    cases e : F ds [] with
    | no => rw [e] at w; exact w.elim
    | ok d m' =>
      rw [e] at w
      cases m' with
      | cons o m' => exact w.elim
      | nil =>
        intro v H' G' μ' me le rd
        have : μ' = [] := len0 me.len rfl
        subst this
        obtain ⟨q1, q2⟩ := up le me
        exact w v H' G' μ q1 q2 rd.nil
    | ex d m' =>
      rw [e] at w
      cases m' with
      | cons o m' => exact w.elim
      | nil =>
        intro cls dd H' G' μ' me le rd
        have : μ' = [] := len0 me.len rfl
        subst this
        obtain ⟨q1, q2⟩ := up le me
        exact w cls dd H' G' μ q1 q2 rd.nil
  · rw [if_neg p] at w; exact w.elim
theorem Def3n.hid {P : Program} {w : World} {K : PySem.W.Frag} {mg : Str → Option Value} {base : Heap} {k n : Nat} {f : Addr} {F : MF} (h : Def3n P w K mg base k f n F) : Def3n P w K mg base k f n (hidF F) := by
  obtain ⟨fd, ps, hn, ok, hk, hb⟩ := h
  exact ⟨fd, ps, hn, ok.imp (fun vs H Q E q => sp3_hid q), hk, hb⟩
/-! ### C(..) -/
section
variable {X : Cx} {E : WX} {e : Expr} {es : List Expr} {fa : MA} {pos p : Pos} {x : Str} {k n : Nat} {f C : Addr} {F : MF} {cn : Str}
theorem make_sp {K : PySem.W.Frag} {mg : Str → Option Value} {b : Bs} {ρ : Sl} {m : Mm} {σ : L2.St} {H : Hp} {T : Tm} {G : Hp} {μ : List Addr} {vs : List V} {ds : List Dv} {Q : VK} (hC : mg cn = some (.ref C)) (s : St3 (b.cf K mg) ρ m σ H T G μ) (r : RepL K mg μ G ds vs) (hl : ds.length + 1 = n) (hp : pureL ds = true)
    (w : WantN E (b.cf K mg) ρ σ T Q (mkEnd m (F (.loc 0 :: ds) [some (.ins cn [])]))) {x dx : Addr} (hx : H x = none) (hd : H dx = none) (hne : dx ≠ x) :
    sp3 n K mg F (.ref x :: vs) (upd (upd H dx (.own x)) x (.ins C dx [])) (fun v H2 => v = .non ∧ Q (.ref x) H2) (WE E σ) := by
  have hx' : (upd H dx (.own x)) x = none := by rw [upd_ne (Ne.symm hne)]; exact hx
  have s1 := s.newU (o := .own x) hd
  obtain ⟨f1, f2, f3⟩ := s1.fresh hx'
  have s2 := s1.newU (o := .ins C dx []) hx'
  have hg : G x = none := s.mem.st.none hx
  have mem0 : MemOk K mg G [x] (upd (upd H dx (.own x)) x (.ins C dx [])) [some (.ins cn [])] := by
    refine ⟨s2.mem.st, rfl, fun i j a e1 e2 => ?_, fun k o e => ?_, fun a ha => ?_⟩
    · cases i with
      | zero => cases j with
        | zero => rfl
        | succ j => simp at e2
      | succ i => simp at e1
    · cases k with
      | zero => simp at e; subst e; exact ⟨x, rfl, hg, C, dx, [], hC, upd_same, .nil⟩
      | succ k => simp at e
    · simp at ha; subst ha; exact ⟨_, upd_same⟩
  refine ⟨G, [x], [some (.ins cn [])], .loc 0 :: ds, by simpa using hl, mem0, .cons (.loc rfl) (r.pure hp), ?_⟩
  have hid : ∀ a ∈ [x], a ∉ μ ∧ (Bs.cf b K mg).H0 a = none ∧ ∀ p ∈ T ++ σ.zip ρ, ownA p ≠ some a := fun a ha => by
    simp at ha; subst ha; exact ⟨f1, f2, f3⟩
  cases e : F (.loc 0 :: ds) [some (.ins cn [])] with
  | no => rw [e] at w; exact w.elim
  | ok d m2 =>
    rw [e] at w
    intro v H' G' μ' mem le rp
    have s3 := s2.hid mem le hid
    unfold mkEnd at w
    split at w
    · rename_i o he
      cases he
      split at w
      · rename_i hp
        cases rp
        obtain ⟨a, e1, e2, e3⟩ := mem.ob 0 o rfl
        have ex : a = x := by
          have := le.pre 0 x rfl
          rw [e1] at this; cases this; rfl
        subst ex
        exact ⟨rfl, w a H' ⟨G', μ, s3.pushO (obAt_pure e3 hp) e2 f1 f2 f3⟩⟩
      · exact w.elim
    · rename_i he; cases he
    · exact w.elim
  | ex xd m2 =>
    rw [e] at w
    intro cls dd H' G' μ' mem le rx
    have s3 := s2.hid mem le hid
    unfold mkEnd at w
    split at w
    · rename_i he; cases he
    · rename_i he
      cases he
      split at w
      · rename_i hp
        obtain ⟨cn', fs, C', dd', ws, e1, e2, e3, e4, e5, e6⟩ := rx
        subst e1
        exact w cls dd H' G' μ s3 ⟨cn', fs, C', dd', ws, rfl, e2, e3, e4, e5, e6.pure3 hp⟩
      · exact w.elim
    · exact w.elim

theorem run_makeS {pins : List (Addr × Obj)} {σ : L2.St} {H : Hp} {s : Shared} {Q : VK} {us : List Value} {vs : List V} {fd : FuncData} {ps : List Str} {sp : Sp} {CX : CXT} {EE : L2.St → XK} (M : Mk X.K C f) (F : FnOk X.prog X.w X.K X.mg X.base CX k f fd ps sp) (hr : Room (k + 1) X.A) (hb : L2.Binds X.K fd ps [])
    (hx : PassesAt CX X σ (EE σ)) (I : Inv X pins σ H s) (r : Vals vs us)
    (h : ∀ x dx, H x = none → H dx = none → dx ≠ x → sp (.ref x :: vs) (upd (upd H dx (.own x)) x (.ins C dx [])) (fun v H2 => v = .non ∧ Q (.ref x) H2) (EE σ)) :
    wpAny (model X.prog X.w) X.A (call (.ref C) us) (EP X pins σ Q) X.xe s := by
  have hq := h (s.heap.objs.size + 1) s.heap.objs.size (I.hok.fresh (Nat.le_succ _)) (I.hok.fresh (Nat.le_refl _)) (Nat.ne_of_lt (Nat.lt_succ_self _))
  have I2 := Inv.made (C := C) I
  have r2 : Vals (V.ref (s.heap.objs.size + 1) :: vs) (Value.ref (s.heap.objs.size + 1) :: us) := .cons rfl r
  have hl : (Value.ref (s.heap.objs.size + 1) :: us ++ []).length = ps.length := by
    have e := r2.length
    rw [F.len _ _ _ _ hq] at e
    rw [List.append_nil]
    exact e.symm
  have bb := hb _ (Value.ref (s.heap.objs.size + 1) :: us) I2.kIn hl
  rw [List.append_nil] at bb
  refine wpAny_call (make_map (f := f) I.kIn M.makes M.init (beq_iff_eq.mp M.fn) (codeAny_mono (F.run _ X.stack _ _ ⟨Value.ref (s.heap.objs.size + 1) :: us, []⟩ (Value.ref (s.heap.objs.size + 1) :: us) _ _ (EE σ) (hr.make C us [])
    (I2.env0.make C us []) bb r2 hq) fun r s' hq' => ?_))
  cases r with
  | error e => exact hx pins _ _ e s' I2 hq'
  | ok fl =>
    cases fl with
    | ret u =>
      obtain ⟨v, H', I3, rv, ev, q3⟩ := I2.after hq'
      subst ev
      exact ⟨rv, ⟨V.ref (s.heap.objs.size + 1), H', I3, rfl, q3⟩⟩
    | next => exact False.elim hq'
    | brk => exact False.elim hq'
    | cont => exact False.elim hq'
/-- C(e, ..): a new instance, held by nobody else -/
theorem n_make (hC : X.mg x = some (.ref C)) (M : Mk X.K C f) (D : Def3n X.prog X.w X.K X.mg X.base k f n F) (hr : Room (k + 1) X.A) (hg : Gl X x) (tk : Takes X E) (ha : PXs X E (e :: es) fa)
    (hdb : (x == ("__debug__" : Str)) = false := by decide) (he : starEach (e :: es) X.env = (false, eval e X.env) :: starEach es X.env := by rfl) (hpl : (backTo pos (starEach es X.env)).any (·.1) = false := by rfl) :
    PN X E (.Call (.Name x p) (e :: es) [] pos) (mMake x n F fa) := by
  obtain ⟨fd, ps, hn, ok, hk, hb⟩ := D
  refine ⟨fun pins s σ H Q I ⟨b, ρ, m, T, S, w⟩ => ?_⟩
  have h' : taOf X.K X.mg E fa σ H fun vs H1 => ∀ xx dx, H1 xx = none → H1 dx = none → dx ≠ xx → sp3 n X.K X.mg F (.ref xx :: vs) (upd (upd H1 dx (.own xx)) xx (.ins C dx [])) (fun v H2 => v = .non ∧ Q (.ref xx) H2) (WE E σ) := by
    refine ⟨b, ρ, m, T, S, ?_⟩
    unfold mMake at w
    revert w
    cases fa ρ m with
    | no => exact id
    | ex x m1 => exact id
    | ok ds m1 =>
      intro w vs H1 hl ⟨G, μ, st⟩ xx dx h1 h2 h3
      rw [Rs.bind_ok] at w
      by_cases z : ds.length + 1 = n ∧ pureL ds = true
      · rw [if_pos z] at w
        exact make_sp hC st.pops (tvs_rep hl st) z.1 z.2 w h1 h2 h3
      · rw [if_neg z] at w; exact w.elim
  refine wpAny_Call_Name_kw (ld_glob I hg hC ?_ hdb)
  refine PySem.W.callWith_K (h₀ := X.base) I.ok.mod.kin M.kp (thn (ha.run pos pins s σ H _ I h') fun us s1 ⟨vs, H1, I1, r, q⟩ => ⟨I1.kIn, ?_⟩) he hpl
  exact run_makeS (EE := WE E) M ok hr hb (passAt tk σ) I1 r (by rw [hn]; exact q)
end

/-! ### the names of a def -/
/-- the scope of a comprehension within a def's scope -/
def relS (scope sc : Scope) : Scope := { scope with names := scope.names.map fun (n, k) => if (k == .free && sc.kind == .function && sc.names.lookup n == some .cell) then (n, .cell) else (n, k) }
structure Nm (X : Cx) (N : List Str) (sc fsc : Scope) : Prop where
  hN : X.N = N
  nd : N.Nodup
  hsc : X.env.scope = sc
  calm : X.calm = true
  fn : ∀ x, fsc.names.lookup x = some .cell → X.fn x = true
section
variable {X : Cx} {N : List Str} {sc fsc : Scope} (h : Nm X N sc fsc) {x : Str}
include h
theorem Nm.loc (e : sc.names.lookup x = some .local) : Vis X.env.scope x := by rw [h.hsc]; exact .inl e
theorem Nm.cell (e : sc.names.lookup x = some .cell) : Vis X.env.scope x := by rw [h.hsc]; exact .inr (.inl e)
theorem Nm.free (e : sc.names.lookup x = some .free) : Vis X.env.scope x := by rw [h.hsc]; exact .inr (.inr e)
theorem Nm.gl (e : sc.names.lookup x = some .globalImplicit) : Gl X x := by unfold Gl Env.kindOf; rw [h.hsc]; exact e
theorem Nm.locL (e : sc.names.lookup x = some .local) : Loc X.env.scope x := by rw [h.hsc]; exact .inl e
theorem Nm.locC (e : sc.names.lookup x = some .cell) : Loc X.env.scope x := by rw [h.hsc]; exact .inr e
theorem Nm.fnL (e : sc.names.lookup x = some .local) : X.fn x = true ∨ X.env.scope.names.lookup x = some .local := by rw [h.hsc]; exact .inr e
theorem Nm.fnC (e : fsc.names.lookup x = some .cell) : X.fn x = true ∨ X.env.scope.names.lookup x = some .local := .inl (h.fn x e)
theorem Nm.lk (e : sc.names.lookup x = some .local) : X.env.scope.names.lookup x = some .local := by rw [h.hsc]; exact e
theorem Nm.ix {i : Nat} (e : N[i]? = some x) : X.N[i]? = some x := by rw [h.hN]; exact e
theorem Nm.ndX : X.N.Nodup := by rw [h.hN]; exact h.nd
theorem Nm.blk {scope : Scope} (s : Shared) (H : Hp) (C : Addr) (cl : List (Str × Addr)) (fp : List Addr) : Nm (X.blk s H scope (compEnvC scope cl C X.env) fp) N (relS scope sc) scope :=
  ⟨h.hN, h.nd, by show relabel scope X.env = _; unfold relabel relS Env.kindOf; rw [h.hsc], h.calm, fun x e => by show (scope.names.lookup x == some .cell) = true; rw [e]; rfl⟩
theorem Nm.ok {scope : Scope} {own : List (Str × Nat)} (e : blkC N sc scope own = true) : BlkOk X.N X.env.scope scope own := by rw [h.hN, h.hsc]; exact blkOk_by e
end
theorem nm_def {P : Program} {w : World} {K : PySem.W.Frag} {mg : Str → Option Value} {base : Heap} {N : List Str} {qual : Str} {sc : Scope} {f : Addr} {cdv : Value} {A : Around} {outer : List Env} {s : Shared} {H : Hp} {E : XK} (nd : N.Nodup) (hr : A.handled = none) :
    Nm (cxOf (L2.CX P w) P w K mg base N qual sc f cdv A outer s H E) N sc sc := by
  refine ⟨rfl, nd, rfl, ?_, fun x e => ?_⟩
  · first | rfl | (show (A.handled == none) = true; rw [hr]; rfl) | (simp [cxOf, hr])
  · first | rfl | (show (sc.names.lookup x == some .cell) = true; rw [e]; rfl) | (simp [cxOf, e])
end M3

set_option Elab.async false
set_option linter.all false
set_option autoImplicit false
set_option maxRecDepth 100000
set_option maxHeartbeats 2000000
/-! M3l: calls with keywords, of static methods, of defs with defaults or a star. -/
namespace M3
open PySem L2 PySem.Spec PyProof.Rows

/-- what a call of g with n values and the keywords ks does -/
structure CallG (X : Cx) (g : Value) (n : Nat) (ks : List Str) (cond : L2.St → List V → Hp → VK → Prop) : Prop where
  kp : PySem.W.keepIn X.K g = true
  run : ∀ (pins : List (Addr × Obj)) (s : Shared) (σ : L2.St) (H : Hp) (Q : VK) (us ws : List Value) (vs zs : List V), Inv X pins σ H s → Vals vs us → Vals zs ws → vs.length = n → zs.length = ks.length → cond σ (vs ++ zs) H Q →
    wpAny (model X.prog X.w) X.A (call g us (ks.zip ws)) (EP X pins σ Q) X.xe s
abbrev CallV (X : Cx) (E : WX) (g : Value) (n : Nat) (ks : List Str) (F : MF) : Prop := CallG X g n ks fun σ vs H Q => sp3 (n + ks.length) X.K X.mg F vs H Q (WE E σ)
abbrev CallM (X : Cx) (E : WX) (C : Addr) (n : Nat) (ks : List Str) (F : MF) : Prop := CallG X (.ref C) n ks fun σ vs H Q => ∀ x dx, H x = none → H dx = none → dx ≠ x → sp3 (n + ks.length + 1) X.K X.mg F (.ref x :: vs) (upd (upd H dx (.own x)) x (.ins C dx [])) (fun v H2 => v = .non ∧ Q (.ref x) H2) (WE E σ)
/-- a def's body promise, whatever binds it -/
def Fn3 (P : Program) (w : World) (K : PySem.W.Frag) (mg : Str → Option Value) (base : Heap) (k : Nat) (f : Addr) (fd : FuncData) (ps : List Str) (F : MF) : Prop := FnOk P w K mg base (L2.CX P w) k f fd ps (sp3 ps.length K mg F)
section
variable {K : PySem.W.Frag} {mg : Str → Option Value}
/-- F' is F with its arguments put another way -/
structure ReArg (K : PySem.W.Frag) (mg : Str → Option Value) (n n' : Nat) (F' F : MF) (gV : List V → List V) : Prop where
  ex : ∃ gD : List Dv → List Dv, (∀ ds m, ds.length = n' → F' ds m = F (gD ds) m) ∧ ∀ μ G ds vs, ds.length = n' → RepL K mg μ G ds vs → (gD ds).length = n ∧ RepL K mg μ G (gD ds) (gV vs)
theorem sp3_re {n n' : Nat} {F F' : MF} {gV : List V → List V} (r : ReArg K mg n n' F' F gV) {vs : List V} {H : Hp} {Q : VK} {E : XK} (h : sp3 n' K mg F' vs H Q E) : sp3 n K mg F (gV vs) H Q E := by
  obtain ⟨gD, h1, h2⟩ := r.ex
  obtain ⟨G, μ, m, ds, hl, mem, rp, w⟩ := h
  obtain ⟨q1, q2⟩ := h2 μ G ds vs hl rp
  rw [h1 ds m hl] at w
  exact ⟨G, μ, m, gD ds, q1, mem, q2, w⟩
end
section
variable {X : Cx} {E : WX} {k n : Nat} {f C : Addr} {fd : FuncData} {ps ks : List Str} {F F' : MF} {g : List Value → List Value → List Value} {gV : List V → List V → List V}
theorem run_fnNS {sp : Sp} {EE : L2.St → XK} {CX : CXT} {pins : List (Addr × Obj)} {σ : L2.St} {H : Hp} {s : Shared} {Q : VK} {us ws : List Value} {vs zs : List V} (F : FnOk X.prog X.w X.K X.mg X.base CX k f fd ps sp) (hr : Room k X.A) (hb : KBn X.K fd ps n ks g gV) (hx : PassesAt CX X σ (EE σ))
    (I : Inv X pins σ H s) (r : Vals vs us) (rz : Vals zs ws) (l1 : vs.length = n) (l2 : zs.length = ks.length) (h : sp (gV vs zs) H Q (EE σ)) : wpAny (model X.prog X.w) X.A (call (.ref f) us (ks.zip ws)) (EP X pins σ Q) X.xe s := by
  have r2 := hb.rel r rz
  refine wpAny_call (codeAny_mono (F.run X.A X.stack s H ⟨us, ks.zip ws⟩ (g us ws) (gV vs zs) Q (EE σ) hr I.env0 (hb.to s us ws I.kIn (r.length.symm.trans l1) (rz.length.symm.trans l2)) r2 h) fun r s' hq => ?_)
  cases r with
  | error e => exact hx pins H s e s' I hq
  | ok fl =>
    cases fl with
    | ret u => exact I.after hq
    | next => exact False.elim hq
    | brk => exact False.elim hq
    | cont => exact False.elim hq
theorem run_makeNS {sp : Sp} {EE : L2.St → XK} {CX : CXT} {pins : List (Addr × Obj)} {σ : L2.St} {H : Hp} {s : Shared} {Q : VK} {us ws : List Value} {vs zs : List V} (M : Mk X.K C f) (F : FnOk X.prog X.w X.K X.mg X.base CX k f fd ps sp) (hr : Room (k + 1) X.A) (hb : KBn X.K fd ps (n + 1) ks g gV) (hx : PassesAt CX X σ (EE σ))
    (I : Inv X pins σ H s) (r : Vals vs us) (rz : Vals zs ws) (l1 : vs.length = n) (l2 : zs.length = ks.length)
    (h : ∀ x dx, H x = none → H dx = none → dx ≠ x → sp (gV (.ref x :: vs) zs) (upd (upd H dx (.own x)) x (.ins C dx [])) (fun v H2 => v = .non ∧ Q (.ref x) H2) (EE σ)) :
    wpAny (model X.prog X.w) X.A (call (.ref C) us (ks.zip ws)) (EP X pins σ Q) X.xe s := by
  have hq := h (s.heap.objs.size + 1) s.heap.objs.size (I.hok.fresh (Nat.le_succ _)) (I.hok.fresh (Nat.le_refl _)) (Nat.ne_of_lt (Nat.lt_succ_self _))
  have I2 := Inv.made (C := C) I
  have r1 : Vals (V.ref (s.heap.objs.size + 1) :: vs) (Value.ref (s.heap.objs.size + 1) :: us) := .cons rfl r
  have r2 := hb.rel r1 rz
  have e1 : (Value.ref (s.heap.objs.size + 1) :: us).length = n + 1 := r1.length.symm.trans (congrArg Nat.succ l1)
  refine wpAny_call (make_map (f := f) I.kIn M.makes M.init (beq_iff_eq.mp M.fn) (codeAny_mono (F.run _ X.stack _ _ ⟨Value.ref (s.heap.objs.size + 1) :: us, ks.zip ws⟩ (g (Value.ref (s.heap.objs.size + 1) :: us) ws) _ _ (EE σ) (hr.make C us (ks.zip ws))
    (I2.env0.make C us (ks.zip ws)) (hb.to _ (Value.ref (s.heap.objs.size + 1) :: us) ws I2.kIn e1 (rz.length.symm.trans l2)) r2 hq) fun r s' hq' => ?_))
  cases r with
  | error e => exact hx pins _ _ e s' I2 hq'
  | ok fl =>
    cases fl with
    | ret u =>
      obtain ⟨v, H', I3, rv, ev, q3⟩ := I2.after hq'
      subst ev
      exact ⟨rv, ⟨V.ref (s.heap.objs.size + 1), H', I3, rfl, q3⟩⟩
    | next => exact False.elim hq'
    | brk => exact False.elim hq'
    | cont => exact False.elim hq'
theorem callV_of (ok : Fn3 X.prog X.w X.K X.mg X.base k f fd ps F) (hk : PySem.W.keepIn X.K (.ref f) = true) (hr : Room k X.A) (tk : Takes X E) (hb : KBn X.K fd ps n ks g gV) (re : ReArg X.K X.mg ps.length (n + ks.length) F' F fun l => gV (l.take n) (l.drop n)) : CallV X E (.ref f) n ks F' :=
  ⟨hk, fun pins s σ H Q us ws vs zs I r rz l1 l2 h => run_fnNS (EE := WE E) ok hr hb (passAt tk σ) I r rz l1 l2 (by
    have := sp3_re re h
    rw [List.take_left' l1, List.drop_left' l1] at this
    exact this)⟩
theorem callM_of (M : Mk X.K C f) (ok : Fn3 X.prog X.w X.K X.mg X.base k f fd ps F) (hr : Room (k + 1) X.A) (tk : Takes X E) (hb : KBn X.K fd ps (n + 1) ks g gV) (re : ReArg X.K X.mg ps.length (n + ks.length + 1) F' F fun l => gV (l.take (n + 1)) (l.drop (n + 1))) : CallM X E C n ks F' :=
  ⟨M.kp, fun pins s σ H Q us ws vs zs I r rz l1 l2 h => run_makeNS (EE := WE E) M ok hr hb (passAt tk σ) I r rz l1 l2 fun x dx h1 h2 h3 => by
    have := sp3_re re (h x dx h1 h2 h3)
    rw [List.take_succ_cons, List.drop_succ_cons, List.take_left' l1, List.drop_left' l1] at this
    exact this⟩
/-- all values written, in order -/
theorem kbn_all {K : PySem.W.Frag} (hb : Binds K fd ps []) : KBn K fd ps ps.length [] (fun us _ => us) (fun vs _ => vs) :=
  ⟨fun s us ws X l1 l2 => by
    have := hb s us X (by rw [List.append_nil]; exact l1)
    rw [List.append_nil] at this
    exact this, fun r1 r2 => r1⟩
theorem reArg_id {K : PySem.W.Frag} {mg : Str → Option Value} {n : Nat} : ReArg K mg n n F F fun l => l.take n :=
  ⟨id, fun ds m h => rfl, fun μ G ds vs h r => ⟨h, by
    have : vs.length = n := r.length.symm.trans h
    rw [List.take_of_length_le (by omega)]; exact r⟩⟩
theorem callV_all (ok : Fn3 X.prog X.w X.K X.mg X.base k f fd ps F) (hk : PySem.W.keepIn X.K (.ref f) = true) (hr : Room k X.A) (tk : Takes X E) (hb : Binds X.K fd ps []) (hn : ps.length = n) : CallV X E (.ref f) n [] F := by
  subst hn
  exact callV_of ok hk hr tk (kbn_all hb) reArg_id
theorem callM_all (M : Mk X.K C f) (ok : Fn3 X.prog X.w X.K X.mg X.base k f fd ps F) (hr : Room (k + 1) X.A) (tk : Takes X E) (hb : Binds X.K fd ps []) (hn : ps.length = n + 1) : CallM X E C n [] F := by
  have := kbn_all hb
  rw [hn] at this
  refine callM_of M ok hr tk this ?_
  rw [hn]
  exact reArg_id
/-- the last arguments left out: their defaults -/
theorem callV_dfl {ds : List Value} {dvs : List V} {dd : List Dv} (ok : Fn3 X.prog X.w X.K X.mg X.base k f fd ps F) (hk : PySem.W.keepIn X.K (.ref f) = true) (hr : Room k X.A) (tk : Takes X E) (hb : Binds X.K fd ps ds) (hd : Vals dvs ds) (hv : ∀ μ G, RepL X.K X.mg μ G dd dvs) (hn : ps.length = n + dd.length) : CallV X E (.ref f) n [] (fun l m => F (l ++ dd) m) := by
  have hl : dvs.length = dd.length := ((hv [] (fun _ => none)).length).symm
  refine callV_of (g := fun us _ => us ++ ds) (gV := fun vs _ => vs ++ dvs) ok hk hr tk ⟨fun s us ws K1 l1 l2 => ?_, fun r1 r2 => r1.append hd⟩ ⟨fun l => l ++ dd, fun ds m h => rfl, fun μ G es vs h r => ⟨?_, ?_⟩⟩
  · have e1 := hd.length
    exact hb s us K1 (by rw [List.length_append, l1, hn, ← e1, hl])
  · rw [List.length_append, h, hn]; rfl
  · have : vs.length = n := r.length.symm.trans h
    show RepL _ _ _ _ _ (vs.take n ++ dvs)
    rw [List.take_of_length_le (by omega)]
    exact (RepL.app (hv μ G) r)
theorem callM_dfl {ds : List Value} {dvs : List V} {dd : List Dv} (M : Mk X.K C f) (ok : Fn3 X.prog X.w X.K X.mg X.base k f fd ps F) (hr : Room (k + 1) X.A) (tk : Takes X E) (hb : Binds X.K fd ps ds) (hd : Vals dvs ds) (hv : ∀ μ G, RepL X.K X.mg μ G dd dvs) (hn : ps.length = n + 1 + dd.length) : CallM X E C n [] (fun l m => F (l ++ dd) m) := by
  have hl : dvs.length = dd.length := ((hv [] (fun _ => none)).length).symm
  refine callM_of (g := fun us _ => us ++ ds) (gV := fun vs _ => vs ++ dvs) M ok hr tk ⟨fun s us ws K1 l1 l2 => ?_, fun r1 r2 => r1.append hd⟩ ⟨fun l => l ++ dd, fun ds m h => rfl, fun μ G es vs h r => ⟨?_, ?_⟩⟩
  · have e1 := hd.length
    exact hb s us K1 (by rw [List.length_append, l1, hn, ← e1, hl])
  · rw [List.length_append, h, hn]; rfl
  · have : vs.length = n + 1 := r.length.symm.trans h
    show RepL _ _ _ _ _ (vs.take (n + 1) ++ dvs)
    rw [List.take_of_length_le (by omega)]
    exact (RepL.app (hv μ G) r)
theorem CallG.imp {g : Value} {cond cond' : L2.St → List V → Hp → VK → Prop} (h : CallG X g n ks cond) (i : ∀ σ vs H Q, cond' σ vs H Q → cond σ vs H Q) : CallG X g n ks cond' := ⟨h.kp, fun pins s σ H Q us ws vs zs I r rz l1 l2 q => h.run pins s σ H Q us ws vs zs I r rz l1 l2 (i _ _ _ _ q)⟩
theorem CallV.hid {g : Value} (h : CallV X E g n ks F) : CallV X E g n ks (hidF F) := h.imp fun _ _ _ _ q => sp3_hid q
end

/-! ### the arguments of a call -/
def mNilK : MA := mNil
abbrev PKs (X : Cx) (E : WX) (kws : List Keyword) (f : MA) : Prop := PK X kws (taOf X.K X.mg E f)
section
variable {X : Cx} {E : WX} {e : Expr} {es args : List Expr} {kws : List Keyword} {fa fe : ME} {fs fk g : MA} {pos p kpos : Pos} {nm : Option Str}
theorem cons_want {K : PySem.W.Frag} {mg : Str → Option Value} {σ : L2.St} {H : Hp} {Q : List V → Hp → Prop} (h : taOf K mg E (mCons fa g) σ H Q) : tCons (tOf K mg E fa) (taOf K mg E g) σ H Q := by
  obtain ⟨b, ρ, m, T, S, w⟩ := h
  refine ⟨b, ρ, m, T, S, ?_⟩
  unfold mCons at w
  revert w
  cases fa ρ m with
  | no => exact id
  | ex x m1 => exact id
  | ok x m1 =>
    intro w v H1 S1 hb
    cases x with
    | b i => exact w.elim
    | v d =>
      have w : WantA E (b.cf K mg) ρ σ T Q ((g ρ m1).bind fun ds m2 => .ok (d :: ds) m2) := w
      refine ⟨b, ρ, m1, tv v d :: T, S1, ?_⟩
      revert w
      cases g ρ m1 with
      | no => exact id
      | ex x m2 => exact fun w => WantX.weak (S := [tv v d]) w
      | ok ds m2 =>
        intro w vs H2 hl ⟨G, μ, s⟩
        refine w (v :: vs) H2 (by simp [hl]) ⟨G, μ, ?_⟩
        show St3 _ ρ m2 σ H2 (tv v d :: (tvs vs ds ++ T)) G μ
        refine s.weak (fun p hp => ?_) ?_
        · rcases List.mem_cons.mp hp with rfl | q
          · simp
          · rcases List.mem_append.mp q with q | q
            · exact List.mem_append_left _ q
            · exact List.mem_append_right _ (List.mem_cons_of_mem _ q)
        · rw [List.filterMap_cons, ownA_val, List.filterMap_append, List.filterMap_append, List.filterMap_cons, ownA_val]
          exact List.Sublist.refl _
theorem xk_nil : PKs X E [] mNil := ⟨fun pos pins s σ H Q I ⟨b, ρ, m, T, S, w⟩ => pk_nil.run pos pins s σ H Q I (w [] H rfl S)⟩
theorem xk_cons (ha : PX X E e fe) (hr : PKs X E kws fk) : PKs X E (⟨nm, e, kpos⟩ :: kws) (mCons fe fk) :=
  ⟨fun pos pins s σ H Q I h => (pk_cons ha hr).run pos pins s σ H Q I (cons_want h)⟩
structure ArgsOk (pos : Pos) (args : List Expr) (kws : List Keyword) (ks : List Str) (env : Env) : Prop where
  he : args = [] ∨ ∃ e es, args = e :: es ∧ starEach (e :: es) env = (false, eval e env) :: starEach es env
  hpl : ((backTo pos (starEach args env)).any (·.1) || (backToKw pos (keywordEach kws env)).any (·.1.isNone)) = false
  hall : (backToKw pos (keywordEach kws env)).all (·.1.isSome) = true
  hks : (backToKw pos (keywordEach kws env)).filterMap (·.1) = ks
theorem argsOk0 {ks : List Str} (hpl : ((backTo pos (starEach [] X.env)).any (·.1) || (backToKw pos (keywordEach kws X.env)).any (·.1.isNone)) = false) (hall : (backToKw pos (keywordEach kws X.env)).all (·.1.isSome) = true) (hks : (backToKw pos (keywordEach kws X.env)).filterMap (·.1) = ks) : ArgsOk pos [] kws ks X.env := ⟨.inl rfl, hpl, hall, hks⟩
theorem argsOk1 {ks : List Str} (he : starEach (e :: es) X.env = (false, eval e X.env) :: starEach es X.env) (hpl : ((backTo pos (starEach (e :: es) X.env)).any (·.1) || (backToKw pos (keywordEach kws X.env)).any (·.1.isNone)) = false) (hall : (backToKw pos (keywordEach kws X.env)).all (·.1.isSome) = true) (hks : (backToKw pos (keywordEach kws X.env)).filterMap (·.1) = ks) : ArgsOk pos (e :: es) kws ks X.env := ⟨.inr ⟨e, es, rfl, he⟩, hpl, hall, hks⟩
/-- the call's node: its values, its keywords, the call -/
theorem callW {v : Value} {n : Nat} {ks : List Str} {cond : L2.St → List V → Hp → VK → Prop} {pins : List (Addr × Obj)} {σ : L2.St} {H : Hp} {s : Shared} {Q : VK} {ta tk : TA} {first : List Value} {fv : List V} (V : CallG X v n ks cond) (ha : PA X args ta) (hk : PK X kws tk) (A : ArgsOk pos args kws ks X.env) (I : Inv X pins σ H s) (rf : Vals fv first)
    (hnil : args = [] → ∀ σ H Q, ta σ H Q → Q [] H)
    (h : ta σ H fun vs H1 => tk σ H1 fun zs H2 => (fv ++ vs).length = n ∧ zs.length = ks.length ∧ cond σ (fv ++ vs ++ zs) H2 Q) : wpAny (model X.prog X.w) X.A (callWith pos v first (backTo pos (starEach args X.env)) (backToKw pos (keywordEach kws X.env))) (EP X pins σ Q) X.xe s := by
  obtain ⟨he, hpl, hall, hks⟩ := A
  rcases he with rfl | ⟨e, es, rfl, he⟩
  · have h := hnil rfl _ _ _ h
    refine PySem.W.callWith_KW0 (h₀ := X.base) I.ok.mod.kin V.kp hall ?_ hpl
    refine thn (hk.run pos pins s σ H _ I h) fun ws s2 ⟨zs, H2, I2, rz, l1, l2, q2⟩ => ⟨I2.kIn, ?_⟩
    rw [hks]
    rw [List.append_nil] at l1 q2 ⊢
    exact V.run pins s2 σ H2 Q _ _ _ _ I2 rf rz l1 l2 q2
  · refine PySem.W.callWith_KW (h₀ := X.base) I.ok.mod.kin V.kp hall (thn (ha.run pos pins s σ H _ I h) fun us s1 ⟨vs, H1, I1, r, q⟩ => ?_) hpl he
    refine thn (hk.run pos pins s1 σ H1 _ I1 q) fun ws s2 ⟨zs, H2, I2, rz, l1, l2, q2⟩ => ⟨I2.kIn, ?_⟩
    rw [hks]
    exact V.run pins s2 σ H2 Q _ _ _ _ I2 (rf.append r) rz l1 l2 q2
theorem nil_ta {K : PySem.W.Frag} {mg : Str → Option Value} (hn : args = [] → fs = mNil) : args = [] → ∀ σ H Q, taOf K mg E fs σ H Q → Q [] H := fun e σ H Q ⟨b, ρ, m, T, S, w⟩ => by
  rw [hn e] at w
  exact w [] H rfl S
/-- both, the lengths as they should be -/
def mArgs (n k : Nat) (fs fk : MA) : MA := fun ρ m => (fs ρ m).bind fun ds m1 => (fk ρ m1).bind fun es m2 => if ds.length = n ∧ es.length = k then .ok (ds ++ es) m2 else .no
theorem tvs_app {T : Tm} : ∀ {vs : List V} {ds : List Dv} {zs : List V} {es : List Dv}, vs.length = ds.length → (tvs (vs ++ zs) (ds ++ es) ++ T) = tvs vs ds ++ (tvs zs es ++ T)
  | [], [], zs, es, _ => rfl
  | v :: vs, d :: ds, zs, es, h => by
    show tv v d :: (tvs (vs ++ zs) (ds ++ es) ++ T) = tv v d :: (tvs vs ds ++ (tvs zs es ++ T))
    rw [tvs_app (by simpa using h)]
theorem args_want {K : PySem.W.Frag} {mg : Str → Option Value} {n k : Nat} {σ : L2.St} {H : Hp} {Q : List V → Hp → Prop} (h : taOf K mg E (mArgs n k fs fk) σ H Q) : taOf K mg E fs σ H fun vs H1 => taOf K mg E fk σ H1 fun zs H2 => vs.length = n ∧ zs.length = k ∧ Q (vs ++ zs) H2 := by
  obtain ⟨b, ρ, m, T, S, w⟩ := h
  refine ⟨b, ρ, m, T, S, ?_⟩
  unfold mArgs at w
  revert w
  cases fs ρ m with
  | no => exact id
  | ex x m1 => exact id
  | ok ds m1 =>
    intro w vs H1 hl S1
    rw [Rs.bind_ok] at w
    refine ⟨b, ρ, m1, tvs vs ds ++ T, S1, ?_⟩
    revert w
    cases fk ρ m1 with
    | no => exact id
    | ex x m2 => exact fun w => WantX.weak w
    | ok es m2 =>
      intro w zs H2 hl2 S2
      rw [Rs.bind_ok] at w
      by_cases z : ds.length = n ∧ es.length = k
      · rw [if_pos z] at w
        refine ⟨hl.trans z.1, hl2.trans z.2, w _ _ (by simp [hl, hl2]) ?_⟩
        obtain ⟨G, μ, S2⟩ := S2
        refine ⟨G, μ, S2.perm ?_⟩
        rw [tvs_app hl]
        rw [← List.append_assoc, ← List.append_assoc]
        exact List.Perm.append_right _ List.perm_append_comm
      · rw [if_neg z] at w; exact w.elim
end

/-! ### the calls -/
section
variable {X : Cx} {E : WX} {o : Expr} {args : List Expr} {kws : List Keyword} {fo : ME} {fa fk fs : MA} {pos p apos : Pos} {x cn mn : Str} {n k : Nat} {f C : Addr} {F : MF} {ks : List Str} {v : Value}
theorem call_want {K : PySem.W.Frag} {mg : Str → Option Value} {σ : L2.St} {H : Hp} {Q : VK} (h : tOf K mg E (mCall n F fa) σ H Q) : taOf K mg E fa σ H fun vs H1 => sp3 n K mg F vs H1 Q (WE E σ) := by
  obtain ⟨b, ρ, m, T, S, w⟩ := h
  refine ⟨b, ρ, m, T, S, ?_⟩
  unfold mCall at w
  revert w
  cases fa ρ m with
  | no => exact id
  | ex x m1 => exact id
  | ok ds m1 =>
    intro w vs H1 hl ⟨G, μ, s⟩
    rw [Rs.bind_ok] at w
    by_cases z : ds.length = n
    · rw [if_pos z] at w
      exact sp3_of s.pops (tvs_rep hl s) z (want_rsA w)
    · rw [if_neg z] at w; exact w.elim
/-- x(e, .., k = v, ..) -/
theorem x_callK (V : CallV X E v n ks F) (hm : X.mg x = some v) (hg : Gl X x) (ha : PXs X E args fs) (hk : PKs X E kws fk) (A : ArgsOk pos args kws ks X.env) (hn : args = [] → fs = mNil) (hdb : (x == ("__debug__" : Str)) = false := by decide) : PX X E (.Call (.Name x p) args kws pos) (mCall (n + ks.length) F (mArgs n ks.length fs fk)) :=
  ⟨fun pins s σ H Q I h => wpAny_Call_Name_kw (ld_glob I hg hm (callW (fv := []) V ha hk A (I.tok _) .nil (nil_ta hn) (args_want (call_want h))) hdb)⟩
/-- x(e, ..) -/
theorem x_callP (V : CallV X E v n [] F) (hm : X.mg x = some v) (hg : Gl X x) (ha : PXs X E args fs) (A : ArgsOk pos args [] [] X.env) (hn : args = [] → fs = mNil) (hdb : (x == ("__debug__" : Str)) = false := by decide) : PX X E (.Call (.Name x p) args [] pos) (mCall n F fs) :=
  PEi (x_callK V hm hg ha xk_nil A hn hdb) fun σ H Q ⟨b, ρ, m, T, S, w⟩ => by
    refine ⟨b, ρ, m, T, S, ?_⟩
    have : mCall (n + ([] : List Str).length) F (mArgs n ([] : List Str).length fs mNil) ρ m = mCall n F fs ρ m := by
      unfold mCall mArgs mNil
      cases fs ρ m with
      | no => rfl
      | ex x m => rfl
      | ok ds m1 =>
        simp only [Rs.bind_ok, List.length_nil, and_true, List.append_nil, Nat.add_zero]
        by_cases z : ds.length = n
        · rw [if_pos z, Rs.bind_ok, if_pos z]
        · rw [if_neg z, if_neg z]; rfl
    rw [this]; exact w
end
end M3

set_option Elab.async false
set_option linter.all false
set_option autoImplicit false
set_option maxRecDepth 100000
set_option maxHeartbeats 2000000
/-! M3m: methods, static methods, C(..), by the one notion of a call; defs. -/
namespace M3
open PySem L2 PySem.Spec PyProof.Rows

section
variable {P : Program} {w : World} {K : PySem.W.Frag} {mg : Str → Option Value} {base : Heap}
/-- a body, from what sp3 asks -/
theorem body3 {qual : Str} {st : Stmt} {f : Addr} {N : List Str} {n : Nat} {body : MS} {cdv : Value} {A : Around} {outer : List Env} {s : Shared} {H : Hp} {vs : List V} {Q : VK} {E : XK}
    (h : PSsx (cxOf (L2.CX P w) P w K mg base N qual (defScope st) f cdv A outer s H E) (WF E) (defBody st) body) (q : sp3 n K mg (mDef N.length body) vs H Q E) :
    ∃ t, PSs (cxOf (L2.CX P w) P w K mg base N qual (defScope st) f cdv A outer s H E) (defBody st) t ∧ t { nx := fun _ H' => Q .non H', rt := Q } (L2.start N vs) H := by
  refine ⟨_, h, ?_⟩
  obtain ⟨G, μ, m, ds, hl, mem, r, q⟩ := q
  have hlen := r.length
  refine ⟨⟨G, μ, H⟩, ds.map .val ++ List.replicate (N.length - ds.length) .un, m, [], ⟨G, μ, ?_, mem, Le.refl _ _ _, ?_, ?_⟩, ?_⟩
  · simp [L2.start, hlen]
  · intro p hp
    rw [List.nil_append] at hp
    unfold L2.start at hp
    rw [← hlen] at hp
    exact start_cells (c := (Bs.cf ⟨G, μ, H⟩ K mg)) r p hp
  · rw [List.nil_append, own_vals fun y hy o e => ?_]
    · exact List.nodup_nil
    · subst e
      rcases List.mem_append.mp hy with z | z
      · obtain ⟨d, _, e⟩ := List.mem_map.mp z; cases e
      · have := List.eq_of_mem_replicate z; cases this
  · unfold mDef at q
    revert q
    cases body (ds.map .val ++ List.replicate (N.length - ds.length) .un) m with
    | nx ρ' m' =>
      intro q σ' H' ⟨G', μ', s'⟩
      exact q .non H' G' μ' s'.mem s'.le .non
    | rt d m' =>
      intro q v H' ⟨G', μ', m1, l1, r1⟩
      exact q v H' G' μ' m1 l1 r1
    | ex x ρ' m' =>
      intro q σ' cls dd H' G' μ' s' rx
      exact q cls dd H' G' μ' s'.mem s'.le rx
    | bk ρ' m' => exact fun q => q.elim
    | ct ρ' m' => exact fun q => q.elim
    | no => exact fun q => q.elim
/-- a def without defaults -/
theorem fn3 {x qual : Str} {st : Stmt} {f : Addr} {fd : FuncData} {N ps : List Str} {k : Nat} {body : MS} (F : Fun K x qual st f fd) (S : FnScope N ps (defScope st))
    (h : ∀ (cdv : Value) (A : Around) (outer : List Env) (s : Shared) (H : Hp) (E : XK), Room k (A.deeper (envOfC qual (defScope st) s.heap.objs.size f cdv)) →
      PSsx (cxOf (L2.CX P w) P w K mg base N qual (defScope st) f cdv A outer s H E) (WF E) (defBody st) body) : Fn3 P w K mg base (k + 1) f fd ps (mDef N.length body) :=
  F.okX S (fun vs H Q E q => by
    obtain ⟨G, μ, m, ds, hl, _, r, _⟩ := q
    rw [← r.length, hl]) fun cdv A outer s H vs Q E hr q => body3 (h cdv A outer s H E hr) q
/-- a def with defaults, with keyword-only parameters -/
theorem fn3D {x qual : Str} {st : Stmt} {f : Addr} {fd : FuncData} {dvs : List V} {kws : List (Str × V)} {N ps : List Str} {k : Nat} {body : MS} (F : FunD K x qual (defArgs st) (defBody st) (defScope st) dvs kws f fd) (S : FnScope N ps (defScope st))
    (h : ∀ (cdv : Value) (A : Around) (outer : List Env) (s : Shared) (H : Hp) (E : XK), Room k (A.deeper (envOfC qual (defScope st) s.heap.objs.size f cdv)) →
      PSsx (cxOf (L2.CX P w) P w K mg base N qual (defScope st) f cdv A outer s H E) (WF E) (defBody st) body) : Fn3 P w K mg base (k + 1) f fd ps (mDef N.length body) :=
  F.ok S (fun vs H Q E q => by
    obtain ⟨G, μ, m, ds, hl, _, r, _⟩ := q
    rw [← r.length, hl]) fun cdv A outer s H vs Q E hr q => body3 (h cdv A outer s H E hr) q
theorem MemOk.newG {c : Cf} {m : Mm} {H : Hp} {G : Hp} {μ : List Addr} {p : Addr} {o : HO} (h : MemOk c.K c.mg G μ H m) (hp : H p = none) : MemOk c.K c.mg (upd G p o) μ (upd H p o) m ∧ Le G μ H (upd G p o) μ (upd H p o) := by
  have hg : G p = none := h.st.none hp
  have hn : p ∉ μ := h.notIn hp
  refine ⟨⟨fun a u e => ?_, h.len, h.nd, fun n ob e => ?_, fun a hm => ?_⟩, ⟨Ex.new hg, .refl _, fun a u h1 h2 h3 => ⟨ex_upd_none hp h1, ?_, h3⟩, fun a u h1 => ⟨u, ex_upd_none hp h1⟩⟩⟩
  · by_cases ha : a = p
    · subst ha; rw [upd_same] at e ⊢; cases e; exact .inl rfl
    · rw [upd_ne ha] at e ⊢; exact h.st a u e
  · obtain ⟨a, e1, e2, e3⟩ := h.ob n ob e
    have ha : a ≠ p := fun z => hn (by rw [← z]; exact List.mem_of_getElem? e1)
    exact ⟨a, e1, by rw [upd_ne ha]; exact e2, e3.mono (Ex.new hg) (.refl _) fun u q => ex_upd_none hp q⟩
  · obtain ⟨u, e⟩ := h.th a hm
    exact ⟨u, ex_upd_none hp e⟩
  · rw [upd_ne (ne_of_none h1 hp)]; exact h2
/-- def f(a, .., *v): of n values the first j are a, .. -/
def starF (j : Nat) (F : MF) : MF := fun ds m => if ds.length ≤ sizeLine then F (ds.take j ++ [.tup (ds.drop j)]) m else .no
theorem sp3_star {n j : Nat} {F : MF} {vs : List V} {H : Hp} {Q : VK} {E : XK} (hj : j ≤ n) (h : sp3 n K mg (starF j F) vs H Q E) :
    ∃ ws rest, vs = ws ++ rest ∧ ws.length = j ∧ rest.length ≤ sizeLine ∧ ∀ p, H p = none → sp3 (j + 1) K mg F (ws ++ [.ref p]) (upd H p (.tup rest)) Q E := by
  obtain ⟨G, μ, m, ds, hl, mem, r, q⟩ := h
  have hlv := r.length
  unfold starF at q
  by_cases z : ds.length ≤ sizeLine
  · rw [if_pos z] at q
    refine ⟨vs.take j, vs.drop j, (List.take_append_drop j vs).symm, by rw [List.length_take]; omega, by rw [List.length_drop]; omega, fun p hp => ?_⟩
    obtain ⟨mem', le'⟩ := MemOk.newG (c := ⟨K, mg, G, μ, H⟩) (o := .tup (vs.drop j)) mem hp
    have hg : G p = none := mem.st.none hp
    have hd : (ds.drop j).length ≤ sizeLine := by rw [List.length_drop]; omega
    refine ⟨upd G p (.tup (vs.drop j)), μ, m, ds.take j ++ [.tup (ds.drop j)], by simp [List.length_take]; omega, mem', RepL.app (.one (.tup upd_same hd ((r.drop j).mono (Ex.new hg) (.refl _)))) ((r.take j).mono (Ex.new hg) (.refl _)), ?_⟩
    revert q
    cases F (ds.take j ++ [.tup (ds.drop j)]) m with
    | no => exact id
    | ok d m' => exact fun q v H' G' μ' me le rd => q v H' G' μ' me (le'.trans le) rd
    | ex d m' => exact fun q cls dd H' G' μ' me le rd => q cls dd H' G' μ' me (le'.trans le) rd
  · rw [if_neg z] at q; exact q.elim
theorem fn3_star {name qual : Str} {st : Stmt} {f : Addr} {N ps : List Str} {pv : Str} {k : Nat} {body : MS} {dV kV doc pm cdv ct oc : Value} {an od : Option Addr} {osl : Array (Option Value)}
    (lk : K.lookup f = some ⟨oc, od, .func (PySem.W.fnOf name qual (defArgs st) (defBody st) (defScope st) dV kV doc pm an cdv ct), osl⟩) (hcd : PySem.W.codeIn K cdv qual = true) (S : FnScope N (ps ++ [pv]) (defScope st))
    (hb : ∀ us rest : List Value, us.length = ps.length → bindArgs (PySem.W.fnOf name qual (defArgs st) (defBody st) (defScope st) dV kV doc pm an cdv ct) ⟨us ++ rest, []⟩ = (newTuple rest >>= fun t => pure (ps.zip us ++ [(pv, t)])))
    (h : ∀ (cdv : Value) (A : Around) (outer : List Env) (s : Shared) (H : Hp) (E : XK), Room k (A.deeper (envOfC qual (defScope st) s.heap.objs.size f cdv)) →
      PSsx (cxOf (L2.CX P w) P w K mg base N qual (defScope st) f cdv A outer s H E) (WF E) (defBody st) body) (n : Nat) (hn : ps.length ≤ n) :
    StX.CXUp (L2.CX P w) → FnR P w K mg base (L2.CX P w) (k + 1) f (sp3 n K mg (starF ps.length (mDef N.length body))) := fun up =>
  FnR.imp (StX.fn_star (sp := sp3 (ps.length + 1) K mg (mDef N.length body)) lk hcd S up hb fun A outer s H vs Q E hr q => body3 (h cdv A outer s H E hr) q) fun vs H Q E q => sp3_star hn q
end
section
variable {X : Cx} {E : WX} {k n : Nat} {f : Addr} {F : MF}
theorem callV_R (ok : FnR X.prog X.w X.K X.mg X.base (L2.CX X.prog X.w) k f (sp3 n X.K X.mg F)) (hk : PySem.W.keepIn X.K (.ref f) = true) (hr : Room k X.A) (tk : Takes X E) : CallV X E (.ref f) n [] F :=
  ⟨hk, fun pins s σ H Q us ws vs zs I r rz l1 l2 h => by
    have : ws = [] := List.eq_nil_of_length_eq_zero (rz.length.symm.trans l2)
    subst this
    cases rz
    rw [List.append_nil] at h
    refine wpAny_call (codeAny_mono (ok X.A X.stack s H us vs Q (WE E σ) hr I.env0 r h) fun r s' hq => ?_)
    cases r with
    | error e => exact passAt tk σ pins H s e s' I hq
    | ok fl =>
      cases fl with
      | ret u => exact I.after hq
      | next => exact False.elim hq
      | brk => exact False.elim hq
      | cont => exact False.elim hq⟩
end

/-! ### o.m(..), C.m(..), C(..) -/
/-- C.m is a static method: its record at p, its def at g -/
structure SMet (K : PySem.W.Frag) (C : Addr) (mc : Value) (m : Str) (p g : Addr) : Prop where
  rd : PySem.W.readsIn K C mc = true
  ga : PySem.W.specialIn K (.ref C) "__getattribute__" = some (some (.builtin "type.__getattribute__"))
  at_ : PySem.W.findCls K (.ref C) mc m = some (.get (.builtin "staticmethod.__get__") (.ref p) .none (.ref C))
  rc : ∃ rest, PySem.W.recIn K p "staticmethod" = some (.ref g :: rest)
section
variable {X : Cx} {E : WX} {o : Expr} {args : List Expr} {kws : List Keyword} {fo : ME} {fa fk fs : MA} {pos p apos : Pos} {x cn mn : Str} {n k : Nat} {f C q : Addr} {F : MF} {ks : List Str} {mc : Value}
theorem x_methK {pl : Sem Bool} (hC : X.mg cn = some (.ref C)) (c : Cls X.K C) (hm : Meth X.K C mn f) (V : CallV X E (.ref f) (n + 1) ks F) (ho : PX X E o fo) (ha : PXs X E args fs) (hk : PKs X E kws fk) (A : ArgsOk pos args kws ks X.env) (hn : args = [] → fs = mNil)
    (ht : eval (.Call (.Attribute o mn apos) args kws pos) X.env = (do
      let ov ← eval o X.env
      standAt apos.atName
      let (f, first) ← holding [ov] (getMethod ov mn pl)
      callWith pos f first (backTo pos (starEach args X.env)) (backToKw pos (keywordEach kws X.env))) := by rfl) :
    PX X E (.Call (.Attribute o mn apos) args kws pos) (mMeth cn mn (n + ks.length + 1) F fo (mArgs n ks.length fs fk)) := by
  refine ⟨fun pins s σ H Q I h => ?_⟩
  have h := meth_want (mn := mn) (F := F) (fo := fo) (fa := mArgs n ks.length fs fk) hC (fun _ _ _ q => args_want q) h
  refine PySem.W.methodCall_KW (pl := pl) (thn (ho.run pins s σ H _ I h) fun u s1 ⟨x, H1, I1, rx, a, dx, fs', ex, ea, l, q⟩ => ?_) ht
  subst ex
  obtain rfl : u = Value.ref a := rx
  refine getmeth_ok I1 ea c hm l ?_
  refine callW (fv := [.ref a]) V ha hk A I1 (.cons rfl .nil) ?_ ?_
  · exact nil_ta hn
  · obtain ⟨b, ρ, m, T, S, w⟩ := q
    refine ⟨b, ρ, m, T, S, ?_⟩
    revert w
    cases fs ρ m with
    | no => exact id
    | ex x m1 => exact id
    | ok ds m1 =>
      intro w vs H2 hl S2
      obtain ⟨b2, ρ2, m2, T2, S3, w2⟩ := w vs H2 hl S2
      refine ⟨b2, ρ2, m2, T2, S3, ?_⟩
      revert w2
      cases fk ρ2 m2 with
      | no => exact id
      | ex x m1 => exact id
      | ok es m3 =>
        intro w2 zs H3 hl2 S4
        obtain ⟨z1, z2, z3⟩ := w2 zs H3 hl2 S4
        refine ⟨by rw [List.length_append, z1]; simp; omega, z2, ?_⟩
        rw [show n + 1 + ks.length = n + ks.length + 1 by omega]
        exact z3
/-- the arguments without keywords -/
theorem mArgs_nil {ρ : Sl} {m : Mm} : (mArgs n 0 fs mNil) ρ m = (fs ρ m).bind fun ds m1 => if ds.length = n then .ok ds m1 else .no := by
  unfold mArgs mNil
  cases fs ρ m with
  | no => rfl
  | ex x m => rfl
  | ok ds m1 =>
    simp only [Rs.bind_ok, List.length_nil, and_true, List.append_nil]
theorem x_methP {pl : Sem Bool} (hC : X.mg cn = some (.ref C)) (c : Cls X.K C) (hm : Meth X.K C mn f) (V : CallV X E (.ref f) (n + 1) [] F) (ho : PX X E o fo) (ha : PXs X E args fs) (A : ArgsOk pos args [] [] X.env) (hn : args = [] → fs = mNil)
    (ht : eval (.Call (.Attribute o mn apos) args [] pos) X.env = (do
      let ov ← eval o X.env
      standAt apos.atName
      let (f, first) ← holding [ov] (getMethod ov mn pl)
      callWith pos f first (backTo pos (starEach args X.env)) (backToKw pos (keywordEach [] X.env))) := by rfl) :
    PX X E (.Call (.Attribute o mn apos) args [] pos) (mMeth cn mn (n + 1) F fo fs) :=
  PEi (x_methK hC c hm V ho ha xk_nil A hn ht) fun σ H Q ⟨b, ρ, m, T, S, w⟩ => by
    refine ⟨b, ρ, m, T, S, ?_⟩
    have : mMeth cn mn (n + ([] : List Str).length + 1) F fo (mArgs n ([] : List Str).length fs mNil) ρ m = mMeth cn mn (n + 1) F fo fs ρ m := by
      unfold mMeth
      simp only [List.length_nil, mArgs_nil]
      cases fo ρ m with
      | no => rfl
      | ex x m => rfl
      | ok x m1 =>
        cases x with
        | b i => rfl
        | v d =>
          simp only [Rs.bind_ok]
          cases insOf ρ m1 (.v d) with
          | none => rfl
          | some q =>
            obtain ⟨c', fs'⟩ := q
            simp only
            by_cases z : c' = cn ∧ fs'.lookup mn = none
            · rw [if_pos z, if_pos z]
              cases fs ρ m1 with
              | no => rfl
              | ex x m => rfl
              | ok ds m2 =>
                simp only [Rs.bind_ok]
                by_cases y : ds.length = n
                · rw [if_pos y, Rs.bind_ok]
                · rw [if_neg y, if_neg (by omega)]; rfl
            · simp only [if_neg z]
    rw [this]; exact w
/-- C.m(..), m a static method -/
theorem x_statK {pl : Sem Bool} (hC : X.mg cn = some (.ref C)) (hg : Gl X cn) (M : SMet X.K C mc mn q f) (V : CallV X E (.ref f) n ks F) (ha : PXs X E args fs) (hk : PKs X E kws fk) (A : ArgsOk pos args kws ks X.env) (hn : args = [] → fs = mNil) (hdb : (cn == ("__debug__" : Str)) = false := by decide)
    (ht : eval (.Call (.Attribute (.Name cn p) mn apos) args kws pos) X.env = (do
      let ov ← eval (.Name cn p) X.env
      standAt apos.atName
      let (f, first) ← holding [ov] (getMethod ov mn pl)
      callWith pos f first (backTo pos (starEach args X.env)) (backToKw pos (keywordEach kws X.env))) := by rfl) :
    PX X E (.Call (.Attribute (.Name cn p) mn apos) args kws pos) (mCall (n + ks.length) F (mArgs n ks.length fs fk)) := by
  refine ⟨fun pins s σ H Q I h => ?_⟩
  obtain ⟨rest, hp⟩ := M.rc
  refine PySem.W.methodCall_KW (pl := pl) (ld_glob I hg hC ?_ hdb) ht
  have I1 := I.tok s.toks
  refine PySem.W.method_cls I1.kIn M.ga (PySem.W.cls_bind I1.kIn M.rd M.at_ (wpAny_call (PySem.W.sm_get (I1.tok _).kIn hp (PySem.W.handed_on rfl ?_))))
  exact callW (fv := []) V ha hk A (I1.tok _) .nil (nil_ta hn) (args_want (call_want h))
theorem x_statP {pl : Sem Bool} (hC : X.mg cn = some (.ref C)) (hg : Gl X cn) (M : SMet X.K C mc mn q f) (V : CallV X E (.ref f) n [] F) (ha : PXs X E args fs) (A : ArgsOk pos args [] [] X.env) (hn : args = [] → fs = mNil) (hdb : (cn == ("__debug__" : Str)) = false := by decide)
    (ht : eval (.Call (.Attribute (.Name cn p) mn apos) args [] pos) X.env = (do
      let ov ← eval (.Name cn p) X.env
      standAt apos.atName
      let (f, first) ← holding [ov] (getMethod ov mn pl)
      callWith pos f first (backTo pos (starEach args X.env)) (backToKw pos (keywordEach [] X.env))) := by rfl) :
    PX X E (.Call (.Attribute (.Name cn p) mn apos) args [] pos) (mCall n F fs) :=
  PEi (x_statK hC hg M V ha xk_nil A hn hdb ht) fun σ H Q ⟨b, ρ, m, T, S, w⟩ => by
    refine ⟨b, ρ, m, T, S, ?_⟩
    have : mCall (n + ([] : List Str).length) F (mArgs n ([] : List Str).length fs mNil) ρ m = mCall n F fs ρ m := by
      unfold mCall
      simp only [List.length_nil, mArgs_nil, Nat.add_zero]
      cases fs ρ m with
      | no => rfl
      | ex x m => rfl
      | ok ds m1 =>
        simp only [Rs.bind_ok]
        by_cases z : ds.length = n
        · rw [if_pos z, Rs.bind_ok, if_pos z]
        · rw [if_neg z, if_neg z]; rfl
    rw [this]; exact w
theorem make_want {K : PySem.W.Frag} {mg : Str → Option Value} (hC : mg cn = some (.ref C)) {σ : L2.St} {H : Hp} {Q : VK} (h : tnOf K mg E (mMake cn (n + 1) F fa) σ H Q) :
    taOf K mg E fa σ H fun vs H1 => ∀ xx dx, H1 xx = none → H1 dx = none → dx ≠ xx → sp3 (n + 1) K mg F (.ref xx :: vs) (upd (upd H1 dx (.own xx)) xx (.ins C dx [])) (fun v H2 => v = .non ∧ Q (.ref xx) H2) (WE E σ) := by
  obtain ⟨b, ρ, m, T, S, w⟩ := h
  refine ⟨b, ρ, m, T, S, ?_⟩
  unfold mMake at w
  revert w
  cases fa ρ m with
  | no => exact id
  | ex x m1 => exact id
  | ok ds m1 =>
    intro w vs H1 hl ⟨G, μ, st⟩ xx dx h1 h2 h3
    rw [Rs.bind_ok] at w
    by_cases z : ds.length + 1 = n + 1 ∧ pureL ds = true
    · rw [if_pos z] at w
      exact make_sp hC st.pops (tvs_rep hl st) z.1 z.2 w h1 h2 h3
    · rw [if_neg z] at w; exact w.elim
/-- C(..) -/
theorem n_makeK (hC : X.mg x = some (.ref C)) (hg : Gl X x) (V : CallM X E C n ks F) (ha : PXs X E args fs) (hk : PKs X E kws fk) (A : ArgsOk pos args kws ks X.env) (hn : args = [] → fs = mNil) (hdb : (x == ("__debug__" : Str)) = false := by decide) :
    PN X E (.Call (.Name x p) args kws pos) (mMake x (n + ks.length + 1) F (mArgs n ks.length fs fk)) :=
  ⟨fun pins s σ H Q I h => wpAny_Call_Name_kw (ld_glob I hg hC (callW (fv := []) V ha hk A (I.tok _) .nil (nil_ta hn) (args_want (make_want hC h))) hdb)⟩
theorem n_makeP (hC : X.mg x = some (.ref C)) (hg : Gl X x) (V : CallM X E C n [] F) (ha : PXs X E args fs) (A : ArgsOk pos args [] [] X.env) (hn : args = [] → fs = mNil) (hdb : (x == ("__debug__" : Str)) = false := by decide) :
    PN X E (.Call (.Name x p) args [] pos) (mMake x (n + 1) F fs) :=
  PEi (n_makeK hC hg V ha xk_nil A hn hdb) fun σ H Q ⟨b, ρ, m, T, S, w⟩ => by
    refine ⟨b, ρ, m, T, S, ?_⟩
    have : mMake x (n + ([] : List Str).length + 1) F (mArgs n ([] : List Str).length fs mNil) ρ m = mMake x (n + 1) F fs ρ m := by
      unfold mMake
      simp only [List.length_nil, mArgs_nil, Nat.add_zero]
      cases fs ρ m with
      | no => rfl
      | ex x m => rfl
      | ok ds m1 =>
        simp only [Rs.bind_ok]
        by_cases z : ds.length = n
        · rw [if_pos z, Rs.bind_ok]
        · rw [if_neg z, if_neg (by omega)]; rfl
    rw [this]; exact w
end
end M3

set_option Elab.async false
set_option linter.all false
set_option autoImplicit false
set_option maxRecDepth 100000
set_option maxHeartbeats 2000000
/-! M3n: slices, texts, a list by its number. -/
namespace M3
open PySem L2 PySem.Spec PyProof.Rows

/-! ### a new object that a number bears -/
section
variable {c : Cf} {ρ : Sl} {m : Mm} {σ : L2.St} {H : Hp} {T : Tm}
theorem S3.locTop {p : Addr} {o : Ob} (h : S3 c ρ m σ H ((some (.ref p), .own o) :: T)) : S3 c ρ (m ++ [some o]) σ H (tv (.ref p) (.loc m.length) :: T) := by
  obtain ⟨G, μ, s⟩ := h
  obtain ⟨a, ea, ob, g, n, h0⟩ := s.cells (some (.ref p), .own o) (by simp)
  cases ea
  have sp := s.pop
  have hlen := sp.mem.len
  have nd := s.nd
  rw [List.cons_append, List.filterMap_cons] at nd
  have nd : (p :: (T ++ σ.zip ρ).filterMap ownA).Nodup := nd
  have hnot := (List.nodup_cons.mp nd).1
  have key : ∀ k b, (μ ++ [p])[k]? = some b → (k < μ.length ∧ μ[k]? = some b) ∨ (k = μ.length ∧ b = p) := fun k b e => by
    by_cases hk : k < μ.length
    · rw [List.getElem?_append_left hk] at e; exact .inl ⟨hk, e⟩
    · rw [List.getElem?_append_right (by omega)] at e
      have : k - μ.length = 0 := by
        have := (List.getElem?_eq_some_iff.mp e).1
        simp at this; omega
      rw [this] at e; simp at e
      exact .inr ⟨by omega, e.symm⟩
  have mem : MemOk c.K c.mg G (μ ++ [p]) H (m ++ [some o]) := by
    refine ⟨sp.mem.st, by simp [hlen], fun i j a ei ej => ?_, fun n' ob' e => ?_, fun a hm => ?_⟩
    · rcases key i a ei with ⟨a1, a2⟩ | ⟨a1, a2⟩ <;> rcases key j a ej with ⟨b1, b2⟩ | ⟨b1, b2⟩
      · exact sp.mem.nd i j a a2 b2
      · exact absurd (List.mem_of_getElem? a2) (by rw [b2]; exact n)
      · exact absurd (List.mem_of_getElem? b2) (by rw [a2]; exact n)
      · omega
    · by_cases hk : n' < m.length
      · rw [List.getElem?_append_left hk] at e
        obtain ⟨a, e1, e2, e3⟩ := sp.mem.ob n' ob' e
        exact ⟨a, Pre.app _ _ _ _ e1, e2, e3.mono (.refl _) (.app _ _) fun u q => q⟩
      · rw [List.getElem?_append_right (by omega)] at e
        have hz : n' - m.length = 0 := by
          have := (List.getElem?_eq_some_iff.mp e).1
          simp at this; omega
        rw [hz] at e; simp at e; subst e
        exact ⟨p, by rw [List.getElem?_append_right (by omega)]; rw [show n' - μ.length = 0 by omega]; rfl, g, ob.mono (.refl _) (.app _ _) fun u q => q⟩
    · rcases List.mem_append.mp hm with q | q
      · exact sp.mem.th a q
      · simp at q; subst q; exact ob.some
  have le : Le c.G0 c.μ0 c.H0 G (μ ++ [p]) H := ⟨sp.le.ex, sp.le.pre.trans (.app _ _), (fun a u h1 h2 h3 => by
    obtain ⟨k1, k2, k3⟩ := sp.le.prv a u h1 h2 h3
    refine ⟨k1, k2, fun hm => ?_⟩
    rcases List.mem_append.mp hm with q | q
    · exact k3 q
    · simp at q; subst q; rw [h0] at h1; cases h1), sp.le.th⟩
  refine ⟨G, μ ++ [p], St3.push ⟨sp.len, mem, le, fun q hq => ?_, sp.nd⟩ (.loc (by rw [← hlen]; simp))⟩
  have k := sp.cells q hq
  obtain ⟨x, y⟩ := q
  cases y with
  | un => trivial
  | val d => obtain ⟨v, e, r⟩ := k; exact ⟨v, e, r.mono (.refl _) (.app _ _)⟩
  | own o' =>
    obtain ⟨a, e, r, g', n', z'⟩ := k
    have e : x = some (.ref a) := e
    subst e
    refine ⟨a, rfl, r.mono (.refl _) (.app _ _) (fun _ q => q), g', fun hm => ?_, z'⟩
    rcases List.mem_append.mp hm with q | q
    · exact n' q
    · simp at q
      subst q
      exact hnot (List.mem_filterMap.mpr ⟨_, hq, rfl⟩)
end
section
variable {X : Cx} {E : WX} {e a : Expr} {fa : ME} {pos p2 : Pos}
def mLoc (f : MN) : ME := fun ρ m => (f ρ m).bind fun o m1 => .ok (.v (.loc m1.length)) (m1 ++ [some o])
theorem x_loc {f : MN} (h : PN X E e f) : PX X E e (mLoc f) :=
  PEi h fun σ H Q ⟨b, ρ, m, T, S, w⟩ => by
    refine ⟨b, ρ, m, T, S, ?_⟩
    unfold mLoc at w
    revert w
    cases f ρ m with
    | no => exact id
    | ex x m1 => exact id
    | ok o m1 => exact fun w p H1 S1 => w.v S1.locTop

/-! ### slices -/
abbrev MO := Sl → Mm → Rs (Option Int)
def toOf (K : PySem.W.Frag) (mg : Str → Option Value) (E : WX) (f : MO) : TO := fun σ H Q => ∃ (b : Bs) (ρ : Sl) (m : Mm) (T : Tm), S3 (b.cf K mg) ρ m σ H T ∧ match f ρ m with
  | .ok o m' => ∀ H', S3 (b.cf K mg) ρ m' σ H' T → Q o H'
  | .ex x m' => WantX E (b.cf K mg) ρ σ T x m'
  | .no => False
abbrev POx (X : Cx) (E : WX) (e : Option Expr) (f : MO) : Prop := PO X e (toOf X.K X.mg E f)
def mO0 : MO := fun _ m => .ok none m
def mO1 (f : ME) : MO := fun ρ m => (f ρ m).bind fun x m1 => match x with
  | .v (.int i) => .ok (some i) m1
  | _ => .no
theorem o_none : POx X E none mO0 := ⟨fun pins s σ H Q I ⟨b, ρ, m, T, S, w⟩ => po_none.run pins s σ H Q I (w H S)⟩
theorem o_some (h : PX X E e fa) : POx X E (some e) (mO1 fa) := ⟨fun pins s σ H Q I ⟨b, ρ, m, T, S, w⟩ => (po_some h).run pins s σ H Q I (by
  refine ⟨b, ρ, m, T, S, ?_⟩
  unfold mO1 at w
  revert w
  cases fa ρ m with
  | no => exact id
  | ex x m1 => exact id
  | ok x m1 =>
    intro w v H1 S1 hb
    rw [Rs.bind_ok] at w
    cases x with
    | b i => exact w.elim
    | v d =>
      cases d with
      | int i =>
        obtain ⟨G, μ, s⟩ := id S1
        have r : Rep X.K X.mg μ G (.int i) v := s.top
        cases r
        exact ⟨i, rfl, w H1 S1.pop⟩
      | _ => exact w.elim)⟩
def cutD (xs : List Dv) (lo hi : Option Int) : List Dv := (xs.drop (HT.sIx xs.length 0 lo)).take (HT.sIx xs.length xs.length hi - HT.sIx xs.length 0 lo)
theorem cutD_rep {K : PySem.W.Frag} {mg : Str → Option Value} {μ : List Addr} {G : Hp} {ds : List Dv} {vs : List V} (r : RepL K mg μ G ds vs) (lo hi : Option Int) : RepL K mg μ G (cutD ds lo hi) (cutV vs lo hi) := by
  unfold cutD cutV
  rw [r.length]
  exact (r.drop _).take _
theorem cutD_length (xs : List Dv) (lo hi : Option Int) : (cutD xs lo hi).length ≤ xs.length := by
  unfold cutD
  rw [List.length_take, List.length_drop]
  omega
theorem cutV_whole {xs : List V} {lo hi : Option Int} (h : HT.sIx xs.length 0 lo = 0 ∧ HT.sIx xs.length xs.length hi = xs.length) : cutV xs lo hi = xs := by
  unfold cutV
  rw [h.1, h.2]
  simp
def rSl (K : PySem.W.Frag) : V → Option Int → Option Int → Hp → VK → Prop := fun x lo hi H Q => rSlL K x lo hi H Q ∨ (rSlA K x lo hi H Q ∨ rSlS x lo hi H Q)
theorem sl_U : SlR X (rSl X.K) := sl_list.or (sl_tupA.or sl_str)
def gSl (ρ : Sl) (m : Mm) (x : Ar) (lo hi : Option Int) : Rs Ar := match lstOf ρ m x with
  | some ds => if ds.length ≤ sizeLine then .ok (.v (.lst (cutD ds lo hi))) m else .no
  | none => match x with
    | .v (.tup ds) => .ok (.v (.tup (cutD ds lo hi))) m
    | .v (.str z) => if z.length ≤ sizeLine then .ok (.v (.str (cutS z lo hi))) m else .no
    | .v (.scr ns) => if ns.length ≤ sizeLine then .ok (.v (.lst (cutD (ns.map .int) lo hi))) m else .no
    | _ => .no
theorem sl_want {K : PySem.W.Frag} {mg : Str → Option Value} {b : Bs} {ρ : Sl} {m : Mm} {σ : L2.St} {H : Hp} {T : Tm} {G : Hp} {μ : List Addr} {v : V} {x : Ar} {lo hi : Option Int} {Q : VK} (s : St3 (b.cf K mg) ρ m σ H T G μ) (r : ArAt K mg μ G σ v x) (w : Want E (b.cf K mg) ρ σ T Q (gSl ρ m x lo hi)) : rSl K v lo hi H Q := by
  unfold gSl at w
  split at w
  · rename_i ds e
    split at w
    · rename_i z
      obtain ⟨a, vs, rfl, ha, ra⟩ := lst_at s r e
      exact .inl ⟨a, vs, rfl, SqL.of ha, fun p hp => w.v (s.newL (cutD_rep ra lo hi) (Nat.le_trans (cutD_length _ _ _) z) hp)⟩
    · exact w.elim
  · split at w
    · rename_i ds _
      cases r with
      | tup h z r =>
        refine .inr (.inl ⟨_, _, rfl, SqT.of (s.mem.st.t h), fun hw => ?_, fun hw p hp => w.v (s.newT (cutD_rep r lo hi) (Nat.le_trans (cutD_length _ _ _) z) hp)⟩)
        refine w.v ⟨G, μ, s.push (.tup h ?_ ?_)⟩
        · exact Nat.le_trans (cutD_length _ _ _) z
        · have := cutD_rep r lo hi
          rw [cutV_whole hw] at this
          exact this
    · split at w
      · rename_i z
        cases r
        exact .inr (.inr ⟨_, rfl, z, Want.s w s rfl⟩)
      · exact w.elim
    · rename_i ns _
      split at w
      · rename_i z
        cases r with
        | scr h => exact .inl ⟨_, _, rfl, s.mem.st.lst h, fun p hp => w.v (s.newL (cutD_rep (ints_rep _) lo hi) (Nat.le_trans (cutD_length _ _ _) (by simpa using z)) hp)⟩
      · exact w.elim
    · exact w.elim
def mSl (fa : ME) (fl fh : MO) : ME := fun ρ m => (fa ρ m).bind fun x m1 => (fl ρ m1).bind fun lo m2 => (fh ρ m2).bind fun hi m3 => gSl ρ m3 x lo hi
theorem x_sl {lo hi : Option Expr} {fl fh : MO} (ha : PX X E a fa) (hl : POx X E lo fl) (hh : POx X E hi fh) : PX X E (.Subscript a (.Slice lo hi none p2) pos) (mSl fa fl fh) :=
  PEi (pe_slice sl_U ha hl hh) fun σ H Q ⟨b, ρ, m, T, S, w⟩ => by
    refine ⟨b, ρ, m, T, S, ?_⟩
    unfold mSl at w
    revert w
    cases fa ρ m with
    | no => exact id
    | ex x m1 => exact id
    | ok x m1 =>
      intro w v H1 S1 hb
      refine ⟨b, ρ, m1, tva v x ++ T, S1, ?_⟩
      rw [Rs.bind_ok] at w
      revert w
      cases fl ρ m1 with
      | no => exact id
      | ex x m1 => exact fun w => WantX.weak w
      | ok lo m2 =>
        intro w H2 S2
        refine ⟨b, ρ, m2, tva v x ++ T, S2, ?_⟩
        rw [Rs.bind_ok] at w
        revert w
        cases fh ρ m2 with
        | no => exact id
        | ex x m1 => exact fun w => WantX.weak w
        | ok hi m3 =>
          intro w H3 ⟨G, μ, s⟩
          exact sl_want s.pops (s.ar (S := T) hb) w

/-! ### methods of texts -/
def mS0 (g : Str → Sl → Mm → Rs Ar) (fo : ME) : ME := fun ρ m => (fo ρ m).bind fun x m1 => match x with
  | .v (.str a) => g a ρ m1
  | _ => .no
def mS1 (g : Str → Sl → Mm → Ar → Rs Ar) (fo fe : ME) : ME := fun ρ m => (fo ρ m).bind fun x m1 => match x with
  | .v (.str a) => (fe ρ m1).bind fun y m2 => g a ρ m2 y
  | _ => .no
def SS0 (K : PySem.W.Frag) (mg : Str → Option Value) (E : WX) (r : V → List V → Hp → VK → Prop) (g : Str → Sl → Mm → Rs Ar) : Prop :=
  ∀ (b : Bs) (ρ : Sl) (m : Mm) (σ : L2.St) (H : Hp) (T : Tm) (G : Hp) (μ : List Addr) (a : Str) (Q : VK), St3 (b.cf K mg) ρ m σ H T G μ → Want E (b.cf K mg) ρ σ T Q (g a ρ m) → r (.str a) [] H Q
def SS1 (K : PySem.W.Frag) (mg : Str → Option Value) (E : WX) (r : V → List V → Hp → VK → Prop) (g : Str → Sl → Mm → Ar → Rs Ar) : Prop :=
  ∀ (b : Bs) (ρ : Sl) (m : Mm) (σ : L2.St) (H : Hp) (T : Tm) (G : Hp) (μ : List Addr) (a : Str) (v : V) (x : Ar) (Q : VK), St3 (b.cf K mg) ρ m σ H T G μ → ArAt K mg μ G σ v x → Want E (b.cf K mg) ρ σ T Q (g a ρ m x) → r (.str a) [v] H Q
section
variable {K : PySem.W.Frag} {mg : Str → Option Value} {r : V → List V → Hp → VK → Prop} {fo fe : ME}
theorem s0_want {g : Str → Sl → Mm → Rs Ar} (hs : SS0 K mg E r g) {σ : L2.St} {H : Hp} {Q : VK} (h : tOf K mg E (mS0 g fo) σ H Q) : tM0 r (tOf K mg E fo) σ H Q := by
  obtain ⟨b, ρ, m, T, S, w⟩ := h
  refine ⟨b, ρ, m, T, S, ?_⟩
  unfold mS0 at w
  revert w
  cases fo ρ m with
  | no => exact id
  | ex x m1 => exact id
  | ok x m1 =>
    intro w v H1 ⟨G, μ, s⟩ hb
    rw [Rs.bind_ok] at w
    split at w
    · rename_i a
      have r : Rep K mg μ G (.str a) v := s.top
      cases r
      exact ⟨⟨_, rfl⟩, hs b ρ m1 σ H1 T G μ _ Q s.pop w⟩
    · exact w.elim
theorem s1_want {g : Str → Sl → Mm → Ar → Rs Ar} (hs : SS1 K mg E r g) {σ : L2.St} {H : Hp} {Q : VK} (h : tOf K mg E (mS1 g fo fe) σ H Q) : tM1 r (tOf K mg E fo) (tOf K mg E fe) σ H Q := by
  obtain ⟨b, ρ, m, T, S, w⟩ := h
  refine ⟨b, ρ, m, T, S, ?_⟩
  unfold mS1 at w
  revert w
  cases fo ρ m with
  | no => exact id
  | ex x m1 => exact id
  | ok x m1 =>
    intro w v H1 S1 hb
    rw [Rs.bind_ok] at w
    split at w
    · rename_i a
      obtain ⟨G, μ, s⟩ := id S1
      have r : Rep K mg μ G (.str a) v := s.top
      cases r
      refine ⟨⟨_, rfl⟩, b, ρ, m1, tv (.str a) (.str a) :: T, S1, ?_⟩
      revert w
      cases fe ρ m1 with
      | no => exact id
      | ex x m1 => exact fun w => WantX.weak (S := [tv (.str a) (.str a)]) w
      | ok y m2 =>
        intro w u H2 ⟨G2, μ2, s2⟩ hb2
        exact hs b ρ m2 σ H2 T G2 μ2 a u y Q s2.pops.pop (s2.ar (S := tv (.str a) (.str a) :: T) hb2) w
    · exact w.elim
end
section
variable {o : Expr} {fo fe : ME} {apos : Pos}
theorem x_s0 {id : String} {name : Str} {r : V → List V → Hp → VK → Prop} {g : Str → Sl → Mm → Rs Ar} (slot : Slot "str" name id) (ty : typeOf (.builtin id) = pure (.type "method_descriptor")) (rule : MtR X id r) (hs : SS0 X.K X.mg E r g) (ho : PX X E o fo)
    (hbase : attributeBase o name X.env (eval o X.env) = eval o X.env := by rfl) (hline : (apos.endLine == pos.line) = true := by rfl) : PX X E (.Call (.Attribute o name apos) [] [] pos) (mS0 g fo) :=
  PEi (pe_m0 slot ty rule ho hbase hline) fun _ _ _ h => s0_want hs h
theorem x_s1 {id : String} {name : Str} {r : V → List V → Hp → VK → Prop} {g : Str → Sl → Mm → Ar → Rs Ar} (slot : Slot "str" name id) (ty : typeOf (.builtin id) = pure (.type "method_descriptor")) (rule : MtR X id r) (hs : SS1 X.K X.mg E r g) (ho : PX X E o fo) (he : PX X E e fe)
    (hst : starEach [e] X.env = [(false, eval e X.env)] := by rfl) (hbase : attributeBase o name X.env (eval o X.env) = eval o X.env := by rfl) (hline : (apos.endLine == pos.line) = true := by rfl) : PX X E (.Call (.Attribute o name apos) [e] [] pos) (mS1 g fo fe) :=
  PEi (pe_m1 slot ty rule ho he hst hbase hline) fun _ _ _ h => s1_want hs h
end
section
variable {K : PySem.W.Frag} {mg : Str → Option Value}
/-- the items of a list or a tuple, all texts -/
def gJoin (a : Str) : Sl → Mm → Ar → Rs Ar := fun ρ m x => match (seqOf ρ m x).bind strsD with
  | some ys => if (ys.map (·.length)).sum + ys.length * a.length ≤ 16777216 then .ok (.v (.str (Txt.join a ys))) m else .no
  | none => .no
theorem ss_join : SS1 K mg E (fun x xs H Q => ∃ a p, ∃ ys : List Str, x = .str a ∧ xs = [.ref p] ∧ (SqL K H p (ys.map V.str) ∨ SqT K H p (ys.map V.str)) ∧ (ys.map (·.length)).sum + ys.length * a.length ≤ 16777216 ∧ Q (.str (Txt.join a ys)) H) gJoin := fun b ρ m σ H T G μ a v x Q s r w => by
  unfold gJoin at w
  split at w
  · rename_i ys e
    obtain ⟨ds, h1, h2⟩ := Option.bind_eq_some_iff.mp e
    obtain ⟨p, vs, rfl, ha, ra⟩ := seq_at s r h1
    rw [strsD_rep ra h2] at ha
    split at w
    · rename_i z
      exact ⟨a, p, ys, rfl, rfl, ha, z, Want.s w s rfl⟩
    · exact w.elim
  · exact w.elim
def gPart (a : Str) : Sl → Mm → Ar → Rs Ar := fun _ m x => match x with
  | .v (.str b) => if (b.length == 0) = false ∧ a.length ≤ sizeLine then .ok (.v (.tup [.str (Txt.partition a b).1, .str (Txt.partition a b).2.1, .str (Txt.partition a b).2.2])) m else .no
  | _ => .no
theorem ss_part : SS1 K mg E (fun x xs H Q => ∃ a b, x = .str a ∧ xs = [.str b] ∧ (b.length == 0) = false ∧ a.length ≤ sizeLine ∧ ∀ p, H p = none → Q (.ref p) (upd H p (.tup [.str (Txt.partition a b).1, .str (Txt.partition a b).2.1, .str (Txt.partition a b).2.2]))) gPart := fun b ρ m σ H T G μ a v x Q s r w => by
  unfold gPart at w
  split at w
  · split at w
    · rename_i z
      cases r
      exact ⟨a, _, rfl, rfl, z.1, z.2, fun p hp => w.v (s.newT (.cons (.str _) (.cons (.str _) (.cons (.str _) .nil))) (by show 3 ≤ sizeLine; decide) hp)⟩
    · exact w.elim
  · exact w.elim
theorem strs_rep {μ : List Addr} {G : Hp} : ∀ ys : List Str, RepL K mg μ G (ys.map .str) (ys.map V.str)
  | [] => .nil
  | y :: ys => .cons (.str y) (strs_rep ys)
def gSplit (a : Str) : Sl → Mm → Ar → Rs Ar := fun _ m x => match x with
  | .v (.str b) => if (b.length == 0) = false ∧ a.length + 2 ≤ sizeLine ∧ (Txt.split a b).length ≤ sizeLine then .ok (.v (.lst ((Txt.split a b).map .str))) m else .no
  | _ => .no
theorem ss_split : SS1 K mg E (fun x xs H Q => ∃ a b, x = .str a ∧ xs = [.str b] ∧ (b.length == 0) = false ∧ a.length + 2 ≤ sizeLine ∧ rNewStrs (Txt.split a b) H Q) gSplit := fun b ρ m σ H T G μ a v x Q s r w => by
  unfold gSplit at w
  split at w
  · split at w
    · rename_i z
      cases r
      exact ⟨a, _, rfl, rfl, z.1, z.2.1, fun p hp => w.v (s.newL (strs_rep _) (by simpa using z.2.2) hp)⟩
    · exact w.elim
  · exact w.elim
def gS2 (f : Str → Str → Dv) (a : Str) : Sl → Mm → Ar → Rs Ar := fun _ m x => match x with
  | .v (.str b) => .ok (.v (f a b)) m
  | _ => .no
theorem ss_starts : SS1 K mg E (fun x xs H Q => ∃ a b, x = .str a ∧ xs = [.str b] ∧ Q (.bl (Txt.startswith a b)) H) (gS2 fun a b => .bl (Txt.startswith a b)) := fun b ρ m σ H T G μ a v x Q s r w => by
  unfold gS2 at w
  split at w
  · cases r; exact ⟨a, _, rfl, rfl, Want.s w s rfl⟩
  · exact w.elim
theorem ss_ends : SS1 K mg E (fun x xs H Q => ∃ a b, x = .str a ∧ xs = [.str b] ∧ Q (.bl (Txt.endswith a b)) H) (gS2 fun a b => .bl (Txt.endswith a b)) := fun b ρ m σ H T G μ a v x Q s r w => by
  unfold gS2 at w
  split at w
  · cases r; exact ⟨a, _, rfl, rfl, Want.s w s rfl⟩
  · exact w.elim
theorem ss_count : SS1 K mg E (fun x xs H Q => ∃ a b, x = .str a ∧ xs = [.str b] ∧ Q (.int (Txt.count a b)) H) (gS2 fun a b => .int (Txt.count a b)) := fun b ρ m σ H T G μ a v x Q s r w => by
  unfold gS2 at w
  split at w
  · cases r; exact ⟨a, _, rfl, rfl, Want.s w s rfl⟩
  · exact w.elim
def gDigit (a : Str) : Sl → Mm → Rs Ar := fun _ m => .ok (.v (.bl (Txt.isdigit a))) m
theorem ss_digit : SS0 K mg E (fun x xs H Q => ∃ a, x = .str a ∧ xs = [] ∧ True ∧ Q (.bl (Txt.isdigit a)) H) gDigit := fun b ρ m σ H T G μ a Q s w => ⟨a, rfl, rfl, True.intro, Want.s w s rfl⟩
end

/-! ### f-strings -/
def mFmt (f : ME) : ME := fun ρ m => (f ρ m).bind fun x m1 => match x with
  | .v (.str y) => if y.length ≤ sizeLine then .ok (.v (.str y)) m1 else .no
  | .v (.int i) => if i.natAbs.log2 < 1920 then .ok (.v (.str (toString i))) m1 else .no
  | _ => .no
theorem x_fmt (h : PX X E e fa) : PX X E (.FormattedValue e (-1) none pos) (mFmt fa) :=
  PEi (pe_fmt h) fun σ H Q ⟨b, ρ, m, T, S, w⟩ => by
    refine ⟨b, ρ, m, T, S, ?_⟩
    unfold mFmt at w
    revert w
    cases fa ρ m with
    | no => exact id
    | ex x m1 => exact id
    | ok x m1 =>
      intro w v H1 ⟨G, μ, s⟩ hb
      rw [Rs.bind_ok] at w
      split at w
      · rename_i y
        have r : Rep X.K X.mg μ G (.str y) v := s.top
        cases r
        split at w
        · rename_i z
          exact .inl ⟨y, rfl, z, Want.s w s.pop rfl⟩
        · exact w.elim
      · rename_i i
        have r : Rep X.K X.mg μ G (.int i) v := s.top
        cases r
        split at w
        · rename_i z
          exact .inr ⟨i, rfl, z, Want.s w s.pop rfl⟩
        · exact w.elim
      · exact w.elim
def jsM : List ME → Str → Sl → Mm → Rs Str
  | [], acc, _, m => .ok acc m
  | f :: fs, acc, ρ, m => (f ρ m).bind fun x m1 => match x with
    | .v (.str y) => if (acc ++ y).length ≤ sizeLine then jsM fs (acc ++ y) ρ m1 else .no
    | _ => .no
def mJs (fs : List ME) : ME := fun ρ m => (jsM fs Str.empty ρ m).bind fun s m1 => .ok (.v (.str s)) m1
inductive PJx (X : Cx) (E : WX) : List Expr → List ME → Prop where
  | nil : PJx X E [] []
  | cons {e : Expr} {f : ME} {es : List Expr} {fs : List ME} (h : PX X E e f) (r : PJx X E es fs) : PJx X E (e :: es) (f :: fs)
theorem PJx.pj {es : List Expr} {fs : List ME} (h : PJx X E es fs) : PJ X es (fs.map (tOf X.K X.mg E)) := by
  induction h with
  | nil => exact .nil
  | cons h r ih => exact .cons h ih
theorem js_want {K : PySem.W.Frag} {mg : Str → Option Value} {b : Bs} {ρ : Sl} {T : Tm} {σ : L2.St} {Q : VK} : ∀ {fs : List ME} {acc : Str} {m : Mm} {H : Hp}, S3 (b.cf K mg) ρ m σ H T → Want E (b.cf K mg) ρ σ T Q ((jsM fs acc ρ m).bind fun s m1 => .ok (.v (.str s)) m1) → tJs (fs.map (tOf K mg E)) acc σ H fun out H1 => Q (.str out) H1
  | [], acc, m, H, ⟨G, μ, s⟩, w => Want.s (d := .str acc) w s rfl
  | f :: fs, acc, m, H, S, w => by
    show tOf K mg E f σ H _
    refine ⟨b, ρ, m, T, S, ?_⟩
    unfold jsM at w
    revert w
    cases f ρ m with
    | no => exact id
    | ex x m1 => exact id
    | ok x m1 =>
      intro w v H1 S1 hb
      rw [Rs.bind_ok] at w
      split at w
      · rename_i y
        obtain ⟨G, μ, s⟩ := id S1
        have r : Rep K mg μ G (.str y) v := s.top
        cases r
        split at w
        · rename_i z
          exact ⟨y, rfl, z, js_want S1.pop w⟩
        · exact w.elim
      · exact w.elim
theorem x_js {e1 e2 : Expr} {es : List Expr} {fs : List ME} (h : PJx X E (e1 :: e2 :: es) fs) : PX X E (.JoinedStr (e1 :: e2 :: es) pos) (mJs fs) :=
  PEi (pe_joined h.pj) fun σ H Q ⟨b, ρ, m, T, S, w⟩ => js_want S w
theorem x_js1 (h : PX X E e fa) : PX X E (.JoinedStr [e] pos) fa := pe_joined1 h
end
end M3

set_option Elab.async false
set_option linter.all false
set_option autoImplicit false
set_option maxRecDepth 100000
set_option maxHeartbeats 2000000
/-! M3o: walks over dicts, texts, enumerate, zip; d.get; dict(..); dict comprehensions. -/
namespace M3
open PySem L2 PySem.Spec PyProof.Rows

def kD : Key → Dv
  | .inl i => .int i
  | .inr s => .str s
theorem kD_rep {K : PySem.W.Frag} {mg : Str → Option Value} {μ : List Addr} {G : Hp} (k : Key) : Rep K mg μ G (kD k) (kV k) := by
  cases k with
  | inl i => exact .int i
  | inr s => exact .str s
theorem kDs_rep {K : PySem.W.Frag} {mg : Str → Option Value} {μ : List Addr} {G : Hp} : ∀ ks : List Key, RepL K mg μ G (ks.map kD) (ks.map kV)
  | [] => .nil
  | k :: ks => .cons (kD_rep k) (kDs_rep ks)
section
variable {c : Cf} {ρ : Sl} {m : Mm} {σ : L2.St} {H H' : Hp} {T : Tm} {G : Hp} {μ : List Addr}
theorem ex_lock {a : Addr} {u : HO} {o : Obj} (g : G a = some u) (d : IsDk u) : Ex G (upd G a (.frz o u)) := fun b w e => by
  by_cases hb : b = a
  · subst hb
    rw [g] at e; cases e
    exact .inr ⟨d, o, upd_same⟩
  · exact .inl (by rw [upd_ne hb]; exact e)
/-- a dict is locked -/
theorem St3.lock {a : Addr} {u : HO} {o : Obj} (s : St3 c ρ m σ H T G μ) (g : G a = some u) (d : IsDk u) (h1 : H' a = some (.frz o u)) (h2 : ∀ b, b ≠ a → H' b = H b) : St3 c ρ m σ H' T (upd G a (.frz o u)) μ := by
  have ex : Ex G (upd G a (.frz o u)) := ex_lock g d
  have na : ∀ b, G b = none → b ≠ a := fun b e z => by subst z; rw [g] at e; cases e
  refine s.next ⟨fun b w e => ?_, s.mem.len, s.mem.nd, fun n ob e => ?_, fun b hb => ?_⟩ ⟨ex, .refl _, fun b w k1 k2 k3 => ⟨by rw [h2 b (na b k2)]; exact k1, by rw [upd_ne (na b k2)]; exact k2, k3⟩, fun b w k => ?_⟩
  · by_cases hb : b = a
    · subst hb; rw [upd_same] at e; cases e; exact .inl h1
    · rw [upd_ne hb] at e; rw [h2 b hb]; exact s.mem.st b w e
  · obtain ⟨b, e1, e2, e3⟩ := s.mem.ob n ob e
    exact ⟨b, e1, by rw [upd_ne (na b e2)]; exact e2, e3.mono ex (.refl _) fun w q => by rw [h2 b (na b e2)]; exact q⟩
  · by_cases hz : b = a
    · subst hz; exact ⟨_, h1⟩
    · rw [h2 b hz]; exact s.mem.th b hb
  · by_cases hz : b = a
    · subst hz; exact ⟨_, h1⟩
    · exact ⟨w, by rw [h2 b hz]; exact k⟩
theorem RepK.get {κ : Type} {K : PySem.W.Frag} {mg : Str → Option Value} {ds : List (κ × Dv)} : ∀ {vs : List (κ × V)} {i : Nat} {k : κ} {v : V}, RepK K mg μ G ds vs → vs[i]? = some (k, v) → ∃ d, ds[i]? = some (k, d) ∧ Rep K mg μ G d v := by
  induction ds with
  | nil => intro vs i k v h e; cases h; simp at e
  | cons x ds ih =>
    intro vs i k v h e
    cases h with
    | cons a b =>
      cases i with
      | zero => simp at e; obtain ⟨rfl, rfl⟩ := e; exact ⟨_, rfl, a⟩
      | succ i => obtain ⟨d, h1, h2⟩ := ih b (by simpa using e); exact ⟨d, by simpa using h1, h2⟩
end

/-! ### for x in e, e a list, a tuple, a text, a dict -/
def iAny (K : PySem.W.Frag) (tl : TE) : TI := fun σ H R => tl σ H fun x H1 =>
  (∃ a, x = .ref a ∧ (((∃ xs, SqL K H1 a xs) ∧ R (Itl K a) H1) ∨ ((∃ xs, SqT K H1 a xs) ∧ R (Itt K a) H1))) ∨ (∃ z, x = .str z ∧ R (Its z) H1) ∨
  (∃ d kvs, x = .ref d ∧ ((H1 d = some (.dK kvs) ∧ ∀ o, R (Itk d o kvs) (upd H1 d (.frz o (.dK kvs)))) ∨ ∃ o, H1 d = some (.frz o (.dK kvs)) ∧ R (Itk d o kvs) H1)) ∨
  (∃ d kvs, x = .ref d ∧ ((H1 d = some (.dT kvs) ∧ ∀ o, R (Itkt d o kvs) (upd H1 d (.frz o (.dT kvs)))) ∨ ∃ o, H1 d = some (.frz o (.dT kvs)) ∧ R (Itkt d o kvs) H1))
section
variable {X : Cx} {tg e : Expr} {te : TE}
theorem pi_any (he : PE X e te) : PI X tg e (iAny X.K te) := by
  refine ⟨fun pins s σ H R I h => ?_⟩
  refine thn (he.run pins s σ H _ I h) fun v s1 ⟨x, H1, I1, r1, q⟩ => ?_
  rcases q with ⟨a, rfl, q⟩ | ⟨z, rfl, q⟩ | ⟨d, kvs, rfl, q⟩ | ⟨d, kvs, rfl, q⟩
  · cases r1
    rcases q with ⟨⟨xs, hq⟩, q⟩ | ⟨⟨xs, hq⟩, q⟩
    · obtain ⟨its, rv, p, hz⟩ := I1.list hq
      refine wpAny_pyIter_list p.isList ?_
      refine ⟨s1.heap.objs.size, [s1.heap.objs.size], _, _, H1, rfl, I1.kept (t' := s1.toks) fun b o e => Heap.get?_push_of_some _ e, turn_list a _, ⟨_, Heap.get?_push_size _ rfl, rfl, rfl⟩, fun b hb => ?_, q⟩
      have e : b = s1.heap.objs.size := by simpa using hb
      subst e
      exact I1.fpOk (Nat.le_refl _) (I1.hok.fresh (Nat.le_refl _))
    · obtain ⟨its, rv, p, hz⟩ := I1.tuple hq
      refine wpAny_pyIter_tuple (show s1.heap.IsTuple a its.toArray from p) ?_
      refine ⟨s1.heap.objs.size, [s1.heap.objs.size], _, _, H1, rfl, I1.kept (t' := s1.toks) fun b o e => Heap.get?_push_of_some _ e, turn_tuple a _, ⟨_, Heap.get?_push_size _ rfl, rfl, rfl⟩, fun b hb => ?_, q⟩
      have e : b = s1.heap.objs.size := by simpa using hb
      subst e
      exact I1.fpOk (Nat.le_refl _) (I1.hok.fresh (Nat.le_refl _))
  · obtain ⟨t, rfl⟩ := r1
    cases ha : z.cps.all (· < 128)
    · exact wpAny_pyIter_wide ha (pi_one (tk := s1.toks) I1 _ (turn_str _ z t "str_iterator" (.inr rfl)) ⟨_, Heap.get?_push_size _ rfl, rfl, rfl⟩ q)
    · exact wpAny_pyIter_ascii ha (pi_one (tk := s1.toks) I1 _ (turn_str _ z t "str_ascii_iterator" (.inl rfl)) ⟨_, Heap.get?_push_size _ rfl, rfl, rfl⟩ q)
  · obtain rfl : v = Value.ref d := r1
    have go : ∀ o H2, Inv X pins σ H2 s1 → H2 d = some (.frz o (.dK kvs)) → R (Itk d o kvs) H2 → wpAny (model X.prog X.w) X.A (pyIter (.ref d)) (PIE X pins σ tg R) X.xe s1 := fun o H2 I2 hd q => by
      obtain ⟨hs, hgd, hx, es, ep, vs, hdt, hsz, kv, hm⟩ := I2.frzK hd
      refine iter_keys hs hgd hx hdt (pi_one (tk := s1.toks) I2 _ (turn_keys _ hdt) ⟨_, Heap.get?_push_size _ rfl, rfl, ?_⟩ q)
      rw [hsz] <;> rfl
    rcases q with ⟨hd, q⟩ | ⟨o, hd, q⟩
    · obtain ⟨o, I2⟩ := I1.lock hd True.intro
      exact go o _ I2 upd_same (q o)
    · exact go o _ I1 hd q
  · obtain rfl : v = Value.ref d := r1
    have go : ∀ o H2, Inv X pins σ H2 s1 → H2 d = some (.frz o (.dT kvs)) → R (Itkt d o kvs) H2 → wpAny (model X.prog X.w) X.A (pyIter (.ref d)) (PIE X pins σ tg R) X.xe s1 := fun o H2 I2 hd q => by
      obtain ⟨hs, hgd, hx, es, ep, hdt, hsz, ent⟩ := I2.frzT hd
      refine iter_keys hs hgd hx hdt (pi_one (tk := s1.toks) I2 _ (turn_keysT _ hdt) ⟨_, Heap.get?_push_size _ rfl, rfl, ?_⟩ q)
      rw [hsz] <;> rfl
    rcases q with ⟨hd, q⟩ | ⟨o, hd, q⟩
    · obtain ⟨o, I2⟩ := I1.lock hd True.intro
      exact go o _ I2 upd_same (q o)
    · exact go o _ I1 hd q
/-- .. in e.items(), the dict not locked or locked -/
def iItA (te : TE) : TI := fun σ H R => te σ H fun x H1 => ∃ d kvs, x = .ref d ∧ ((H1 d = some (.dK kvs) ∧ ∀ o, R (Iti d o kvs) (upd H1 d (.frz o (.dK kvs)))) ∨ ∃ o, H1 d = some (.frz o (.dK kvs)) ∧ R (Iti d o kvs) H1)
theorem pe_lk (he : PE X e te) : PE X e fun σ H Q => te σ H fun x H1 => ∃ d kvs, x = .ref d ∧ ((H1 d = some (.dK kvs) ∧ ∀ o, Q (.ref d) (upd H1 d (.frz o (.dK kvs)))) ∨ ∃ o, H1 d = some (.frz o (.dK kvs)) ∧ Q (.ref d) H1) := by
  refine ⟨fun pins s σ H Q I h => ?_⟩
  refine thn (he.run pins s σ H _ I h) fun v s1 ⟨x, H1, I1, r1, d, kvs, e, q⟩ => ?_
  subst e
  rcases q with ⟨hd, q⟩ | ⟨o, hd, q⟩
  · obtain ⟨o, I2⟩ := I1.lock hd True.intro
    exact ⟨_, _, I2, r1, q o⟩
  · exact ⟨_, _, I1, r1, q⟩
end
section
variable {X : Cx} {E : WX} {tg iter : Expr} {fa : ME} {pos : Pos}
/-- what is walked -/
def itOf (x : Ar) : Option (List Dv) := match x with
  | .v (.str z) => if z.length ≤ sizeLine then some (z.cps.toList.map fun c => .str ⟨#[c]⟩) else none
  | .v (.dct kvs) => some (kvs.map fun p => kD p.1)
  | x => stOf x
def mItA (f : ME) : MI := fun ρ m => (f ρ m).bind fun x m1 => match itOf x with
  | some ds => .ok ds m1
  | none => .no
theorem jok_str {c : Cf} {z : Str} : JOk c (Its z) [] (z.cps.toList.map fun c => .str ⟨#[c]⟩) := by
  intro ρ m σ H T i hT S
  have hl : (z.cps.toList.map fun c => Dv.str ⟨#[c]⟩).length = z.cps.size := by simp
  rw [hl]
  refine ⟨fun hi => hi, fun d hd x H' y => ?_, fun hi => hi⟩
  obtain ⟨e1, ch, e2, e3⟩ := y
  subst e1; subst e3
  simp only [List.getElem?_map, Option.map_eq_some_iff] at hd
  obtain ⟨c', h1, rfl⟩ := hd
  rw [Array.getElem?_toList, e2] at h1
  cases h1
  obtain ⟨G, μ, s⟩ := S
  exact ⟨G, μ, s.push (.str _)⟩
theorem jok_keys {c : Cf} {a : Addr} {o : Obj} {ws : List (Key × V)} {kvs : List (Key × Dv)} : JOk c (Itk a o ws) [tv (.ref a) (.lck o ws kvs)] (kvs.map fun p => kD p.1) := by
  intro ρ m σ H T i hT ⟨G, μ, s⟩
  have r := s.at (hT (tv (.ref a) (.lck o ws kvs)) (by simp))
  cases r with
  | lck g r =>
    have hh := s.mem.st.frz g
    have hlen := r.length
    have hk := r.keys
    refine ⟨fun hi => ⟨hh, by simp at hi; omega⟩, fun d' hd x H' y => ?_, fun hi => ⟨hh, by simp at hi; omega⟩⟩
    obtain ⟨e1, k, v, e2, e3⟩ := y
    subst e1; subst e3
    have e4 : (kvs.map (·.1))[i]? = some k := by rw [hk, List.getElem?_map, e2]; rfl
    simp only [List.getElem?_map, Option.map_eq_some_iff] at hd e4
    obtain ⟨p, h1, rfl⟩ := hd
    obtain ⟨p', h2, rfl⟩ := e4
    rw [h1] at h2; cases h2
    exact ⟨G, μ, s.push (kD_rep _)⟩
theorem i_any (ha : PX X E iter fa) : PIx X E tg iter (mItA fa) :=
  PIi (pi_any ha) fun σ H R ⟨b, ρ, m, T, S, w⟩ => by
    refine ⟨b, ρ, m, T, S, ?_⟩
    unfold mItA at w
    revert w
    cases fa ρ m with
    | no => exact id
    | ex x m1 => exact id
    | ok x m1 =>
      intro w v H1 ⟨G, μ, s⟩ hb
      rw [Rs.bind_ok] at w
      cases e : itOf x with
      | none => rw [e] at w; exact w.elim
      | some ds =>
        rw [e] at w
        cases x with
        | b i => cases e
        | v d =>
          have r : Rep X.K X.mg μ G d v := St3.top (T := T) s
          cases d with
          | str z =>
            cases r
            simp only [itOf] at e
            split at e
            · rename_i hz
              cases e
              exact .inr (.inl ⟨z, rfl, w _ H1 [] (by simp) (by simpa [Str.length] using hz) ⟨G, μ, s.pop⟩ jok_str⟩)
            · cases e
          | dct kvs =>
            cases e
            cases r with
            | @dct _ a ws h z r =>
              have fin : ∀ o H2, St3 (b.cf X.K X.mg) ρ m1 σ H2 (tv (.ref a) (.dct kvs) :: T) (upd G a (.frz o (.dK ws))) μ → Ex G (upd G a (.frz o (.dK ws))) → R (Itk a o ws) H2 := fun o H2 s2 ex =>
                w _ H2 [tv (.ref a) (.lck o ws kvs)] (fun p hp => by simp at hp; subst hp; exact ownA_val) (by simpa using z) ⟨_, μ, s2.pop.push (.lck upd_same (r.mono ex (.refl _)))⟩ jok_keys
              refine .inr (.inr (.inl ⟨a, ws, rfl, ?_⟩))
              rcases h with h | ⟨o, h⟩
              · rcases s.mem.st a _ h with q | ⟨_, o, q⟩
                · exact .inl ⟨q, fun o => fin o _ (s.lock h (.inl ⟨_, rfl⟩) upd_same fun b hb => upd_ne hb) (ex_lock h (.inl ⟨_, rfl⟩))⟩
                · exact .inr ⟨o, q, fin o _ (s.lock h (.inl ⟨_, rfl⟩) q fun b hb => rfl) (ex_lock h (.inl ⟨_, rfl⟩))⟩
              · exact .inr ⟨o, s.mem.st.frz h, w _ H1 [tv (.ref a) (.lck o ws kvs)] (fun p hp => by simp at hp; subst hp; exact ownA_val) (by simpa using z) ⟨G, μ, s.pop.push (.lck h r)⟩ jok_keys⟩
          | lst xs =>
            have e : stOf (.v (.lst xs)) = some ds := e
            obtain ⟨a, vs, rfl, ha, ra, z⟩ := st_rep s.mem.st r e
            refine .inl ⟨a, rfl, ?_⟩
            cases r with
            | lst h z' r' => exact .inl ⟨⟨_, SqL.of (s.mem.st.l h)⟩, w _ H1 [tv (.ref a) (.lst xs)] (tva_own (v := .ref a) (x := .v (.lst xs))) z ⟨G, μ, s⟩ (jok_list e fun μ G H st r => by
                cases e
                cases r with
                | lst h z r => exact ⟨_, SqL.of (st.l h), r⟩)⟩
          | scr ns =>
            have e : stOf (.v (.scr ns)) = some ds := e
            obtain ⟨a, vs, rfl, ha, ra, z⟩ := st_rep s.mem.st r e
            refine .inl ⟨a, rfl, ?_⟩
            cases r with
            | scr h => exact .inl ⟨⟨_, s.mem.st.lst h⟩, w _ H1 [tv (.ref a) (.scr ns)] (tva_own (v := .ref a) (x := .v (.scr ns))) z ⟨G, μ, s⟩ (jok_list e fun μ G H st r => by
                obtain ⟨a', vs, e1, e2, e3, _⟩ := st_rep st r e
                cases e1
                cases r with
                | scr h =>
                  simp [stOf] at e
                  have e := e.2
                  subst e
                  exact ⟨_, st.lst h, ints_rep _⟩)⟩
          | tup xs =>
            have e : stOf (.v (.tup xs)) = some ds := e
            obtain ⟨a, vs, rfl, ha, ra, z⟩ := st_rep s.mem.st r e
            refine .inl ⟨a, rfl, ?_⟩
            cases r with
            | tup h z' r' => exact .inr ⟨⟨_, SqT.of (s.mem.st.t h)⟩, w _ H1 [tv (.ref a) (.tup xs)] (tva_own (v := .ref a) (x := .v (.tup xs))) z ⟨G, μ, s⟩ (jok_tup e fun μ G H st r => by
                cases e
                cases r with
                | tup h z r => exact ⟨_, SqT.of (st.t h), r⟩)⟩
          | ktp xs =>
            have e : stOf (.v (.ktp xs)) = some ds := e
            obtain ⟨a, vs, rfl, ha, ra, z⟩ := st_rep s.mem.st r e
            refine .inl ⟨a, rfl, ?_⟩
            cases r with
            | ktp h r' => exact .inr ⟨⟨_, s.mem.st.tup h⟩, w _ H1 [tv (.ref a) (.ktp xs)] (tva_own (v := .ref a) (x := .v (.ktp xs))) z ⟨G, μ, s⟩ (jok_tup e fun μ G H st r => by
                simp [stOf] at e
                have e := e.2
                subst e
                cases r with
                | ktp h r => exact ⟨_, st.tup h, r⟩)⟩
          | _ => cases e
end
end M3

set_option Elab.async false
set_option linter.all false
set_option autoImplicit false
set_option maxRecDepth 100000
set_option maxHeartbeats 2000000
/-! M3p: enumerate, zip, items. -/
namespace PySem
open PySem.Sem
theorem m3_enum_new {v : Value} {o : Obj} {H : Heap → Prop} (B : Begins v o H) :
    Meets (Builtin.«enumerate.__new__» ⟨[.type "enumerate", v], []⟩) (fun _ R s => H s.heap ∧
      R (.ok (.ret (.ref (s.heap.push o).objs.size))) { s with heap := (s.heap.push o).push { cls := .type "enumerate", data := .fields #[.none, .bool false, .ref s.heap.objs.size, rawInt 0, .none, .none] } }) :=
  .of_wp fun prog w A R s h => by
    obtain ⟨hp, g, d, tk, os⟩ := s; obtain ⟨h1, h⟩ := h
    have hsub := sub_enumerate
    have q1 : ∀ {A' : Around} {E : Value → Shared → Prop} {Q : Value → Shared → Prop}, Q (.ref hp.objs.size) ⟨hp.push o, g, d, tk, os⟩ → wpAny (model prog w) A' (pyIter v) Q E ⟨hp, g, d, tk, os⟩ :=
      fun q => B.iter prog w _ _ ⟨hp, g, d, tk, os⟩ _ h1 q
    wp_walk using q1
    refine wpAny_stack_any fun st => wpAny_pure ?_
    split
    · rename_i c _ _ _ _ _
      cases (c == Value.type "enumerate")
      · wp_walk using q1
        exact ⟨_, rfl, h⟩
      · wp_walk using q1
        exact ⟨_, rfl, h⟩
    · wp_walk using q1
      exact ⟨_, rfl, h⟩
section
variable {prog : Program} {w : World} {A : Around} {E : Value → Shared → Prop} {s : Shared}
theorem m3_enum_begins {v : Value} {o : Obj} {H : Heap → Prop} {Q : Value → Shared → Prop} (B : Begins v o H) (h1 : H s.heap)
    (h : ∀ h', IsEnum h' (s.heap.objs.size + 1) s.heap.objs.size 0 .none → h'.get? s.heap.objs.size = some o → h'.objs.size = s.heap.objs.size + 2 →
      (∀ b o, s.heap.get? b = some o → h'.get? b = some o) → Q (.ref (s.heap.objs.size + 1)) { s with heap := h' }) :
    wpAny (model prog w) A (call (.type "enumerate") [v]) Q E s := by
  refine callType_new F.called_enumerate (by decide) (F.typeCall_enumerate_1 _) (F.newCall_enumerate_1 _) (fun obj => F.args_object_init_2 obj _) F.entry_enumerate_new
    (m3_enum_new B) ⟨h1, ?_⟩
  have hz : (s.heap.push o).objs.size = s.heap.objs.size + 1 := Heap.size_push ..
  show _ ∧ _
  rw [hz]
  have he : IsEnum ((s.heap.push o).push { cls := .type "enumerate", data := .fields #[.none, .bool false, .ref s.heap.objs.size, rawInt 0, .none, .none] }) (s.heap.objs.size + 1) s.heap.objs.size 0 .none := by
    have := Heap.get?_push_size (s.heap.push o) (o := { cls := .type "enumerate", data := .fields #[.none, .bool false, .ref s.heap.objs.size, rawInt 0, .none, .none] }) rfl
    rw [hz] at this; exact this
  refine ⟨⟨_, he, rfl⟩, h _ he (Heap.get?_push_of_some _ (Heap.get?_push_size _ B.free)) (by rw [Heap.size_push, hz]) fun b o x => Heap.get?_push_of_some _ (Heap.get?_push_of_some _ x)⟩
end
end PySem
namespace M3
open PySem L2 PySem.Spec PyProof.Rows
/-! ### enumerate over a tuple, over a text -/
def Itet (K : PySem.W.Frag) (a : Addr) : It :=
  ⟨fun i H => ∃ (xs : List V) (x : V), SqT K H a xs ∧ xs[i]? = some x, fun i H v H' => ∃ T x, v = .ref T ∧ H T = none ∧ H' = upd H T (.tup [.int (i : Nat), x]) ∧ ∀ xs, SqT K H a xs → xs[i]? = some x, fun i H => ∃ xs : List V, SqT K H a xs ∧ xs.length ≤ i⟩
def Ites (x : Str) : It := ⟨fun i _ => i < x.cps.size, fun i H v H' => ∃ T c, v = .ref T ∧ H T = none ∧ H' = upd H T (.tup [.int (i : Nat), .str ⟨#[c]⟩]) ∧ x.cps[i]? = some c, fun i _ => x.cps.size ≤ i⟩
theorem turn_enumT {P : Program} {w : World} {K : PySem.W.Frag} {elts : List Expr} {kk : Nat} {tpos : Pos} (a e it : Addr) :
    Turn P w K (.Tuple elts kk tpos) (Itet K a) [e, it] e (fun i h => (∃ old, IsEnum h e it ((i : Nat) : Int) old) ∧ h.IsTupleIter it a i ∧ e ≠ it) where
  mem := by simp
  obj := fun i h st b hb => by
    obtain ⟨⟨old, he⟩, ⟨o, ho, hc, hd⟩, _⟩ := st
    have e' : b = e ∨ b = it := by simpa using hb
    rcases e' with z | z
    · rw [z]; exact ⟨_, he, fun v q => nomatch q⟩
    · rw [z]; exact ⟨o, ho, fun v q => by rw [hd] at q; cases q⟩
  keep := fun i h h' st k => let ⟨⟨old, he⟩, hi, hne⟩ := st; ⟨⟨old, k e (by simp) _ he⟩, hi.at fun o q => k it (by simp) o q, hne⟩
  item := by
    intro X hP hw hK hc i pins s σ H E I hf st hg
    subst hP hw hK
    obtain ⟨⟨old, he⟩, hit, hne⟩ := st
    obtain ⟨xs, x, hq, hx⟩ := hg
    obtain ⟨its, rv, p, hz⟩ := I.tuple hq
    obtain ⟨u, hu, ru⟩ := rv.get hx
    have hel : e < s.heap.objs.size := Heap.lt_size he
    have hil : it < s.heap.objs.size := by obtain ⟨_, q, _⟩ := hit; exact Heap.lt_size q
    have p' : s.heap.IsTuple a its.toArray := p
    have hai : a ≠ it := fun z => by
      obtain ⟨o1, h1, h2, _⟩ := id hit
      obtain ⟨o2, h3, h4, _⟩ := id p'
      rw [z, h1] at h3; cases h3
      rw [h2] at h4; exact absurd (Value.type.inj h4) (by decide)
    have hae : a ≠ e := fun z => by
      obtain ⟨o2, h3, h4, _⟩ := id p'
      rw [z, he] at h3; cases h3
      exact absurd (Value.type.inj h4) (by decide)
    have D := Draws.tuple (prog := X.prog) (w := X.w) (A := X.A.in1) (I.ok.hd hc) it a hai its.toArray
    have hil' : i < its.toArray.size := by
      have := rv.length
      have := (List.getElem?_eq_some_iff.mp hx).1
      simp; omega
    refine wpAny_pyNext_enum_itemD D he ⟨hit, p'⟩ hil' hne (by simp [hne, Ne.symm hae]) fun y h' tk hy ho hit' hT hsz hk => ?_
    have : y = u := by
      have h1 : its.toArray[i]? = some u := by simpa using hu
      rw [h1] at hy; cases hy; rfl
    subst this
    refine ⟨_, rfl, wpAny_letOwnedTupleGo_enum (s := { s with heap := h', toks := tk + 1 }) ho fun h'' he' sb => ?_⟩
    have hT2 : h''.get? s.heap.objs.size = some { cls := .type "tuple", data := .seq #[.int i tk, y] } := (sb.2 _ (Nat.ne_of_gt hel)).trans hT
    have new : ObjOk X.prog X.w (upd H s.heap.objs.size (.tup [.int (i : Nat), x])) h'' s.heap.objs.size (.tup [.int (i : Nat), x]) :=
      ⟨by show 2 ≤ sizeLine; decide, [.int i tk, y], .cons ⟨_, rfl⟩ (.cons ru .nil), ⟨_, hT2, rfl, _, rfl⟩⟩
    have I1 : Inv X pins σ (upd H s.heap.objs.size (.tup [.int (i : Nat), x])) { s with heap := h'', toks := tk + 1 } :=
      I.turnedNew (ch := [e, it]) (fun b ob hb q => (sb.2 b (fun z => hb (by simp [z]))).trans (hk b ob (fun z => hb (by simp [z])) (fun z => hb (by simp [z])) q)) hf (Nat.le_refl _) new
    refine ⟨.ref s.heap.objs.size, _, I1, rfl, ⟨_, x, rfl, I.hok.fresh (Nat.le_refl _), rfl, fun ys hy => by rw [I.tuple_inj hy hq]; exact hx⟩, ⟨⟨y, ?_⟩, hit'.1.at fun o q => (sb.2 it (Ne.symm hne)).trans q, hne⟩, fun b hb => ?_⟩
    · have e1 : ((i + 1 : Nat) : Int) = (i : Int) + 1 := by omega
      rw [e1]; exact he'
    · have hb' : b < s.heap.objs.size := by
        have e' : b = e ∨ b = it := by simpa using hb
        rcases e' with z | z
        · rw [z]; exact hel
        · rw [z]; exact hil
      rw [upd_ne (Nat.ne_of_lt hb')]
      exact (hf b hb).1
  done := by
    intro X hP hw hK hc i pins s σ H E I hf st hg
    subst hP hw hK
    obtain ⟨⟨old, he⟩, hit, hne⟩ := st
    obtain ⟨xs, hq, hx⟩ := hg
    obtain ⟨its, rv, p, hz⟩ := I.tuple hq
    obtain ⟨f0, f1, f2, f3, f4, f5⟩ := hf it (by simp)
    have hl := rv.length
    have p' : s.heap.IsTuple a its.toArray := p
    have hai : a ≠ it := fun z => by
      obtain ⟨o1, h1, h2, _⟩ := id hit
      obtain ⟨o2, h3, h4, _⟩ := id p'
      rw [z, h1] at h3; cases h3
      rw [h2] at h4; exact absurd (Value.type.inj h4) (by decide)
    have hT : s.TypeIs (.ref e) "enumerate" := ⟨_, he, rfl⟩
    unfold pyNext
    refine wpAny_bind (wpAny_attempt (wpAny_callSpecial?_slot (name := Str.ofString "__next__") hT F.slot_enumerate_next
      (wpAny_call_entry F.slot_enumerate_next hT F.entry_enumerate_next ?_ (F.args_enumerate_next_1 _))))
    show wpAny _ _ (field (.ref e) 2 >>= _) _ _ _
    refine wpAny_bind (wpAny_field he rfl (x := .ref it) rfl ?_)
    refine wpAny_bind (wpAny_nextOf_tuple_end (I.ok.hd hc) hit p' (by simp; omega) fun h' x he' hx' => ?_)
    obtain ⟨o, ho, hc⟩ := hx'
    refine wpAny_bind (wpAny_isInstance (T := "StopIteration") (b := true) ⟨o, ho, hc⟩ isSubtype_stop ?_)
    exact wpAny_pure ⟨rfl, I.turned (t' := s.toks) (fun b o hb q => he' b o hb q) f0 f1 f3 f4 f5⟩
  self := fun A i s Q E st h => let ⟨⟨_, he⟩, _⟩ := st; wpAny_pyIter_enum he h
theorem turn_enumS {P : Program} {w : World} {K : PySem.W.Frag} {elts : List Expr} {kk : Nat} {tpos : Pos} (x : Str) (t : Tok) (e it : Addr) :
    Turn P w K (.Tuple elts kk tpos) (Ites x) [e, it] e (fun i h => (∃ old, IsEnum h e it ((i : Nat) : Int) old) ∧ h.IsStrIter it (strIterType x) x t i ∧ e ≠ it) where
  mem := by simp
  obj := fun i h st b hb => by
    obtain ⟨⟨old, he⟩, ⟨o, ho, hc, hd⟩, _⟩ := st
    have e' : b = e ∨ b = it := by simpa using hb
    rcases e' with z | z
    · rw [z]; exact ⟨_, he, fun v q => nomatch q⟩
    · rw [z]; exact ⟨o, ho, fun v q => by rw [hd] at q; cases q⟩
  keep := fun i h h' st k => let ⟨⟨old, he⟩, ⟨o, ho, r⟩, hne⟩ := st; ⟨⟨old, k e (by simp) _ he⟩, ⟨o, k it (by simp) o ho, r⟩, hne⟩
  item := by
    intro X hP hw hK hc i pins s σ H E I hf st hg
    subst hP hw hK
    obtain ⟨⟨old, he⟩, hit, hne⟩ := st
    have hel : e < s.heap.objs.size := Heap.lt_size he
    have hil : it < s.heap.objs.size := by obtain ⟨_, q, _⟩ := hit; exact Heap.lt_size q
    have D := Draws.text (prog := X.prog) (w := X.w) (A := X.A.in1) (I.ok.hd hc) it x t
    refine wpAny_pyNext_enum_itemD D he hit hg hne (by simp [hne]) fun y h' tk hy ho hit' hT hsz hk => ?_
    obtain ⟨c, u, hcx, rfl⟩ := hy
    refine ⟨_, rfl, wpAny_letOwnedTupleGo_enum (s := { s with heap := h', toks := tk + 1 }) ho fun h'' he' sb => ?_⟩
    have hT2 : h''.get? s.heap.objs.size = some { cls := .type "tuple", data := .seq #[.int i tk, .str ⟨#[c]⟩ u] } := (sb.2 _ (Nat.ne_of_gt hel)).trans hT
    have new : ObjOk X.prog X.w (upd H s.heap.objs.size (.tup [.int (i : Nat), .str ⟨#[c]⟩])) h'' s.heap.objs.size (.tup [.int (i : Nat), .str ⟨#[c]⟩]) :=
      ⟨by show 2 ≤ sizeLine; decide, [.int i tk, .str ⟨#[c]⟩ u], .cons ⟨_, rfl⟩ (.cons ⟨_, rfl⟩ .nil), ⟨_, hT2, rfl, _, rfl⟩⟩
    have I1 : Inv X pins σ (upd H s.heap.objs.size (.tup [.int (i : Nat), .str ⟨#[c]⟩])) { s with heap := h'', toks := tk + 1 } :=
      I.turnedNew (ch := [e, it]) (fun b ob hb q => (sb.2 b (fun z => hb (by simp [z]))).trans (hk b ob (fun z => hb (by simp [z])) (fun z => hb (by simp [z])) q)) hf (Nat.le_refl _) new
    obtain ⟨oi, ho1, r⟩ := hit'
    refine ⟨.ref s.heap.objs.size, _, I1, rfl, ⟨_, c, rfl, I.hok.fresh (Nat.le_refl _), rfl, hcx⟩, ⟨⟨.str ⟨#[c]⟩ u, ?_⟩, ⟨oi, (sb.2 it (Ne.symm hne)).trans ho1, r⟩, hne⟩, fun b hb => ?_⟩
    · have e1 : ((i + 1 : Nat) : Int) = (i : Int) + 1 := by omega
      rw [e1]; exact he'
    · have hb' : b < s.heap.objs.size := by
        have e' : b = e ∨ b = it := by simpa using hb
        rcases e' with z | z
        · rw [z]; exact hel
        · rw [z]; exact hil
      rw [upd_ne (Nat.ne_of_lt hb')]
      exact (hf b hb).1
  done := by
    intro X hP hw hK hc i pins s σ H E I hf st hg
    subst hP hw hK
    obtain ⟨⟨old, he⟩, hit, hne⟩ := st
    obtain ⟨f0, f1, f2, f3, f4, f5⟩ := hf it (by simp)
    have hx : x.cps[i]? = none := Array.getElem?_eq_none hg
    have hT : s.TypeIs (.ref e) "enumerate" := ⟨_, he, rfl⟩
    unfold pyNext
    refine wpAny_bind (wpAny_attempt (wpAny_callSpecial?_slot (name := Str.ofString "__next__") hT F.slot_enumerate_next
      (wpAny_call_entry F.slot_enumerate_next hT F.entry_enumerate_next ?_ (F.args_enumerate_next_1 _))))
    show wpAny _ _ (field (.ref e) 2 >>= _) _ _ _
    refine wpAny_bind (wpAny_field he rfl (x := .ref it) rfl ?_)
    have fin : ∀ h' (x : Addr), Heap.ExtBut it s.heap h' → (∃ o, h'.get? x = some o ∧ o.cls = .type "StopIteration") → wpAny (model X.prog X.w) X.A ((isInstance (.ref x) (.type "StopIteration")) >>= fun b => (pure b : Sem Bool)) (fun b s' => b = true ∧ s' = { s with heap := h' }) (fun _ _ => False) { s with heap := h' } := fun h' x he' hx' => by
      obtain ⟨o, ho, hc⟩ := hx'
      exact wpAny_bind (wpAny_isInstance (T := "StopIteration") (b := true) ⟨o, ho, hc⟩ isSubtype_stop (wpAny_pure ⟨rfl, rfl⟩))
    cases ha : x.cps.all (· < 128)
    · simp only [strIterType, ha, Bool.false_eq_true, if_false] at hit
      refine wpAny_bind (wpAny_nextOf_wide_end (I.ok.hd hc) hit hx fun h' x he' hx' => ?_)
      obtain ⟨o, ho, hc⟩ := hx'
      refine wpAny_bind (wpAny_isInstance (T := "StopIteration") (b := true) ⟨o, ho, hc⟩ isSubtype_stop ?_)
      exact wpAny_pure ⟨rfl, I.turned (t' := s.toks) (fun b o hb q => he' b o hb q) f0 f1 f3 f4 f5⟩
    · simp only [strIterType, ha, if_true] at hit
      refine wpAny_bind (wpAny_nextOf_ascii_end (I.ok.hd hc) hit hx fun h' x he' hx' => ?_)
      obtain ⟨o, ho, hc⟩ := hx'
      refine wpAny_bind (wpAny_isInstance (T := "StopIteration") (b := true) ⟨o, ho, hc⟩ isSubtype_stop ?_)
      exact wpAny_pure ⟨rfl, I.turned (t' := s.toks) (fun b o hb q => he' b o hb q) f0 f1 f3 f4 f5⟩
  self := fun A i s Q E st h => let ⟨⟨_, he⟩, _⟩ := st; wpAny_pyIter_enum he h
def iEnA (K : PySem.W.Frag) (te : TE) : TI := fun σ H R => te σ H fun v H1 => (∃ a, v = .ref a ∧ (((∃ xs, SqL K H1 a xs) ∧ R (Ite K a) H1) ∨ ((∃ xs, SqT K H1 a xs) ∧ R (Itet K a) H1))) ∨ ∃ z, v = .str z ∧ R (Ites z) H1
theorem pi_enA {X : Cx} {e : Expr} {te : TE} {p pos tpos : Pos} {elts : List Expr} {kk : Nat} (hg : Gl X "enumerate") (hm : X.mg "enumerate" = none) (he : PE X e te) (hs : starEach [e] X.env = [(false, eval e X.env)] := by rfl) :
    PI X (.Tuple elts kk tpos) (.Call (.Name "enumerate" p) [e] [] pos) (iEnA X.K te) := by
  refine ⟨fun pins s σ H R I h => ?_⟩
  let Q' : List V → Hp → Prop := fun vs H1 => match vs with
    | [v] => (∃ a, v = .ref a ∧ (((∃ xs, SqL X.K H1 a xs) ∧ R (Ite X.K a) H1) ∨ ((∃ xs, SqT X.K H1 a xs) ∧ R (Itet X.K a) H1))) ∨ ∃ z, v = .str z ∧ R (Ites z) H1
    | _ => False
  have h' : tCons te tNil σ H Q' := h
  refine Call_ (ld_blt I hg hm boot_enumerate (PyProof.Rows.callWith_type1 (thn ((pa_cons he pa_nil hs).run pos pins s σ H Q' I h') fun us s1 ⟨vs, H1, I1, r1, q1⟩ => ?_) hs rfl))
  cases r1 with
  | nil => exact q1.elim
  | cons r rr =>
    cases rr with
    | cons _ _ => exact q1.elim
    | nil =>
      rename_i v u hAP
      have q1 : (∃ a, v = .ref a ∧ (((∃ xs, SqL X.K H1 a xs) ∧ R (Ite X.K a) H1) ∨ ((∃ xs, SqT X.K H1 a xs) ∧ R (Itet X.K a) H1))) ∨ ∃ z, v = .str z ∧ R (Ites z) H1 := q1
      have fp : ∀ b ∈ [s1.heap.objs.size + 1, s1.heap.objs.size], FpOk X pins H1 b := fun b hb => by
        have e' : b = s1.heap.objs.size + 1 ∨ b = s1.heap.objs.size := by simpa using hb
        have hle : s1.heap.objs.size ≤ b := by
          rcases e' with z | z
          · rw [z]; exact Nat.le_add_right _ _
          · rw [z]; exact Nat.le_refl _
        exact I1.fpOk hle (I1.hok.fresh hle)
      rcases q1 with ⟨a, rfl, q⟩ | ⟨z, rfl, q⟩
      · obtain rfl : u = Value.ref a := r
        rcases q with ⟨⟨xs, hq⟩, q⟩ | ⟨⟨xs, hq⟩, q⟩
        · obtain ⟨its, rv, p', hz⟩ := I1.list hq
          refine m3_enum_begins (begins_list a its.toArray) p'.isList fun h' he ho hsz hk => wpAny_pyIter_enum he ?_
          have I2 : Inv X pins σ H1 { s1 with heap := h' } := I1.kept (t' := s1.toks) hk
          exact ⟨s1.heap.objs.size + 1, [s1.heap.objs.size + 1, s1.heap.objs.size], _, _, H1, rfl, I2, turn_enum a (s1.heap.objs.size + 1) s1.heap.objs.size, ⟨⟨.none, he⟩, ⟨_, ho, rfl, rfl⟩, Nat.succ_ne_self _⟩, fp, q⟩
        · obtain ⟨its, rv, p', hz⟩ := I1.tuple hq
          refine m3_enum_begins (begins_tuple a its.toArray) p' fun h' he ho hsz hk => wpAny_pyIter_enum he ?_
          have I2 : Inv X pins σ H1 { s1 with heap := h' } := I1.kept (t' := s1.toks) hk
          exact ⟨s1.heap.objs.size + 1, [s1.heap.objs.size + 1, s1.heap.objs.size], _, _, H1, rfl, I2, turn_enumT a (s1.heap.objs.size + 1) s1.heap.objs.size, ⟨⟨.none, he⟩, ⟨_, ho, rfl, rfl⟩, Nat.succ_ne_self _⟩, fp, q⟩
      · obtain ⟨t, rfl⟩ := r
        refine m3_enum_begins (begins_text z t) True.intro fun h' he ho hsz hk => wpAny_pyIter_enum he ?_
        have I2 : Inv X pins σ H1 { s1 with heap := h' } := I1.kept (t' := s1.toks) hk
        exact ⟨s1.heap.objs.size + 1, [s1.heap.objs.size + 1, s1.heap.objs.size], _, _, H1, rfl, I2, turn_enumS z t (s1.heap.objs.size + 1) s1.heap.objs.size, ⟨⟨.none, he⟩, ⟨_, ho, rfl, rfl⟩, Nat.succ_ne_self _⟩, fp, q⟩

section
variable {X : Cx} {E : WX} {e e2 : Expr} {fa fb : ME} {f2 : MA} {p pos tpos cpos apos : Pos} {elts : List Expr} {kk : Nat}
/-- a list, a tuple, a text: its items -/
def enOf (x : Ar) : Option (List Dv) := match x with
  | .v (.str z) => if z.length ≤ sizeLine then some (z.cps.toList.map fun c => .str ⟨#[c]⟩) else none
  | x => stOf x
def numD (ds : List Dv) : List Dv := ds.mapIdx fun i d => .tup [.int (i : Nat), d]
def mEn (f : ME) : MI := fun ρ m => (f ρ m).bind fun x m1 => match enOf x with
  | some ds => .ok (numD ds) m1
  | none => .no
theorem numD_get {ds : List Dv} {i : Nat} {d : Dv} (h : (numD ds)[i]? = some d) : ∃ d', ds[i]? = some d' ∧ d = .tup [.int (i : Nat), d'] := by
  unfold numD at h
  rw [List.getElem?_mapIdx, Option.map_eq_some_iff] at h
  obtain ⟨d', h1, h2⟩ := h
  exact ⟨d', h1, h2.symm⟩
theorem two_le : (2 : Nat) ≤ sizeLine := by decide
theorem jok_enL {c : Cf} {a : Addr} {d : Dv} {ds : List Dv} (hl : ∀ (μ : List Addr) (G H : Hp), Stands G H → Rep c.K c.mg μ G d (.ref a) → ∃ vs, SqL c.K H a vs ∧ RepL c.K c.mg μ G ds vs) : JOk c (Ite c.K a) [tv (.ref a) d] (numD ds) := by
  intro ρ m σ H T i hT ⟨G, μ, s⟩
  have r := s.at (hT (tv (.ref a) d) (by simp))
  obtain ⟨vs, h1, h2⟩ := hl μ G H s.mem.st r
  have hlen := h2.length
  have hn : (numD ds).length = ds.length := by simp [numD]
  rw [hn]
  refine ⟨fun hi => ⟨vs, vs[i]'(by omega), h1, List.getElem?_eq_getElem _⟩, fun d' hd x H' y => ?_, fun hi => ⟨vs, h1, by omega⟩⟩
  obtain ⟨T', x', e1, e2, e3, e4⟩ := y
  subst e1; subst e3
  obtain ⟨d0, g1, rfl⟩ := numD_get hd
  obtain ⟨v, hv, rv⟩ := h2.get g1
  have := e4 vs h1
  rw [hv] at this; cases this
  exact s.newT (.cons (.int _) (.cons rv .nil)) two_le e2
theorem jok_enT {c : Cf} {a : Addr} {d : Dv} {ds : List Dv} (hl : ∀ (μ : List Addr) (G H : Hp), Stands G H → Rep c.K c.mg μ G d (.ref a) → ∃ vs, SqT c.K H a vs ∧ RepL c.K c.mg μ G ds vs) : JOk c (Itet c.K a) [tv (.ref a) d] (numD ds) := by
  intro ρ m σ H T i hT ⟨G, μ, s⟩
  have r := s.at (hT (tv (.ref a) d) (by simp))
  obtain ⟨vs, h1, h2⟩ := hl μ G H s.mem.st r
  have hlen := h2.length
  have hn : (numD ds).length = ds.length := by simp [numD]
  rw [hn]
  refine ⟨fun hi => ⟨vs, vs[i]'(by omega), h1, List.getElem?_eq_getElem _⟩, fun d' hd x H' y => ?_, fun hi => ⟨vs, h1, by omega⟩⟩
  obtain ⟨T', x', e1, e2, e3, e4⟩ := y
  subst e1; subst e3
  obtain ⟨d0, g1, rfl⟩ := numD_get hd
  obtain ⟨v, hv, rv⟩ := h2.get g1
  have := e4 vs h1
  rw [hv] at this; cases this
  exact s.newT (.cons (.int _) (.cons rv .nil)) two_le e2
theorem jok_enS {c : Cf} {z : Str} : JOk c (Ites z) [] (numD (z.cps.toList.map fun c => .str ⟨#[c]⟩)) := by
  intro ρ m σ H T i hT ⟨G, μ, s⟩
  have hn : (numD (z.cps.toList.map fun c => Dv.str ⟨#[c]⟩)).length = z.cps.size := by simp [numD]
  rw [hn]
  refine ⟨fun hi => hi, fun d hd x H' y => ?_, fun hi => hi⟩
  obtain ⟨T', c', e1, e2, e3, e4⟩ := y
  subst e1; subst e3
  obtain ⟨d0, g1, rfl⟩ := numD_get hd
  simp only [List.getElem?_map, Option.map_eq_some_iff] at g1
  obtain ⟨c2, h1, rfl⟩ := g1
  rw [Array.getElem?_toList, e4] at h1
  cases h1
  exact s.newT (.cons (.int _) (.cons (.str _) .nil)) two_le e2
theorem st_kind {K : PySem.W.Frag} {mg : Str → Option Value} {d : Dv} {ds : List Dv} {a : Addr} (e : stOf (.v d) = some ds) {μ0 : List Addr} {G0 H0 : Hp} (s0 : Stands G0 H0) (r0 : Rep K mg μ0 G0 d (.ref a)) :
    ((∃ xs, SqL K H0 a xs) ∧ ∀ (μ : List Addr) (G H : Hp), Stands G H → Rep K mg μ G d (.ref a) → ∃ vs, SqL K H a vs ∧ RepL K mg μ G ds vs) ∨ ((∃ xs, SqT K H0 a xs) ∧ ∀ (μ : List Addr) (G H : Hp), Stands G H → Rep K mg μ G d (.ref a) → ∃ vs, SqT K H a vs ∧ RepL K mg μ G ds vs) := by
  cases d with
  | lst xs =>
    cases e
    cases r0 with
    | lst h z r => exact .inl ⟨⟨_, SqL.of (s0.l h)⟩, fun μ G H st r => by cases r with | lst h z r => exact ⟨_, SqL.of (st.l h), r⟩⟩
  | scr ns =>
    simp [stOf] at e
    obtain ⟨_, e⟩ := e
    subst e
    cases r0 with
    | scr h => exact .inl ⟨⟨_, s0.lst h⟩, fun μ G H st r => by cases r with | scr h => exact ⟨_, st.lst h, ints_rep _⟩⟩
  | tup xs =>
    cases e
    cases r0 with
    | tup h z r => exact .inr ⟨⟨_, SqT.of (s0.t h)⟩, fun μ G H st r => by cases r with | tup h z r => exact ⟨_, SqT.of (st.t h), r⟩⟩
  | ktp xs =>
    simp [stOf] at e
    obtain ⟨_, e⟩ := e
    subst e
    cases r0 with
    | ktp h r => exact .inr ⟨⟨_, s0.tup h⟩, fun μ G H st r => by cases r with | ktp h r => exact ⟨_, st.tup h, r⟩⟩
  | _ => cases e
theorem i_en (hg : Gl X "enumerate") (hm : X.mg "enumerate" = none) (he : PX X E e fa) (hs : starEach [e] X.env = [(false, eval e X.env)] := by rfl) : PIx X E (.Tuple elts kk tpos) (.Call (.Name "enumerate" p) [e] [] pos) (mEn fa) :=
  PIi (pi_enA hg hm he hs) fun σ H R ⟨b, ρ, m, T, S, w⟩ => by
    refine ⟨b, ρ, m, T, S, ?_⟩
    unfold mEn at w
    revert w
    cases fa ρ m with
    | no => exact id
    | ex x m1 => exact id
    | ok x m1 =>
      intro w v H1 ⟨G, μ, s⟩ hb
      rw [Rs.bind_ok] at w
      cases e : enOf x with
      | none => rw [e] at w; exact w.elim
      | some ds =>
        rw [e] at w
        cases x with
        | b i => cases e
        | v d =>
          have r : Rep X.K X.mg μ G d v := St3.top (T := T) s
          have hz : (numD ds).length = ds.length := by simp [numD]
          have std : stOf (.v d) = some ds → (∃ a, v = .ref a ∧ (((∃ xs, SqL X.K H1 a xs) ∧ R (Ite X.K a) H1) ∨ ((∃ xs, SqT X.K H1 a xs) ∧ R (Itet X.K a) H1))) := fun e => by
            obtain ⟨a, vs, rfl, ha, ra, z⟩ := st_rep s.mem.st r e
            refine ⟨a, rfl, ?_⟩
            rcases st_kind e s.mem.st r with ⟨h1, h2⟩ | ⟨h1, h2⟩
            · exact .inl ⟨h1, w _ H1 [tv (.ref a) d] (tva_own (v := .ref a) (x := .v d)) (by rw [hz]; exact z) ⟨G, μ, s⟩ (jok_enL h2)⟩
            · exact .inr ⟨h1, w _ H1 [tv (.ref a) d] (tva_own (v := .ref a) (x := .v d)) (by rw [hz]; exact z) ⟨G, μ, s⟩ (jok_enT h2)⟩
          cases d with
          | str z =>
            cases r
            simp only [enOf] at e
            split at e
            · rename_i hl
              cases e
              exact .inr ⟨z, rfl, w _ H1 [] (by simp) (by rw [hz]; simpa [Str.length] using hl) ⟨G, μ, s.pop⟩ jok_enS⟩
            · cases e
          | _ => first | exact .inl (std e) | cases e

/-! ### zip -/
def zipD : List Dv → List Dv → List Dv
  | d :: ds, e :: es => .tup [d, e] :: zipD ds es
  | _, _ => []
theorem zipD_get : ∀ {ds es : List Dv} {i : Nat}, (zipD ds es)[i]? = (match ds[i]?, es[i]? with | some d, some e => some (.tup [d, e]) | _, _ => none)
  | [], es, i => by simp [zipD]
  | d :: ds, [], i => by
    cases h : (d :: ds)[i]? <;> simp [zipD]
  | d :: ds, e :: es, 0 => by simp [zipD]
  | d :: ds, e :: es, i + 1 => by simpa [zipD] using zipD_get
theorem zipD_len : ∀ {ds es : List Dv}, (zipD ds es).length = min ds.length es.length
  | [], es => by simp [zipD]
  | d :: ds, [] => by simp [zipD]
  | d :: ds, e :: es => by simp [zipD, zipD_len]
/-- two lists, two tuples -/
def isL : Dv → Bool
  | .lst _ => true
  | .scr _ => true
  | _ => false
def mZip (f : MA) : MI := fun ρ m => (f ρ m).bind fun ds m1 => match ds with
  | [x, y] => match stOf (.v x), stOf (.v y) with
    | some ds, some es => if isL x = isL y then .ok (zipD ds es) m1 else .no
    | _, _ => .no
  | _ => .no
end
end M3

set_option Elab.async false
set_option linter.all false
set_option autoImplicit false
set_option maxRecDepth 100000
set_option maxHeartbeats 2000000
/-! M3q: dict comprehensions, d.get, dict(..), isinstance, raise, displays with a star. -/
namespace M3
open PySem L2 PySem.Spec PyProof.Rows

/-! ### {k: v for ..} -/
def dcL (g : MG) (t : MB) (fk fv : ME) (ρ : Sl) : List Dv → List (Key × Dv) → Mm → Rs (List (Key × Dv))
  | [], acc, m => .ok acc m
  | d :: ds, acc, m => match g d ρ with
    | none => .no
    | some ρ1 => match t ρ1 m with
      | .ok k m1 => if k = true then match fk ρ1 m1 with
          | .ok (.v y) m2 => match fv ρ1 m2 with
            | .ok (.v z) m3 => match keyD y with
              | some k => if acc.length < sizeLine then dcL g t fk fv ρ ds (dput acc k z) m3 else .no
              | none => .no
            | _ => .no
          | _ => .no
        else dcL g t fk fv ρ ds acc m1
      | _ => .no
def mDc (vs : List Nat) (it : MI) (g : MG) (t : MB) (fk fv : ME) : MN := fun ρ m => (it ρ m).bind fun ds m1 => match dcL g t fk fv (wipeR ρ vs) ds [] m1 with
  | .ok ys m2 => .ok (.dct ys) m2
  | _ => .no
section
variable {X : Cx} {E : WX} {tg iter elt kx vx e e2 o : Expr} {ifs : List Expr} {scope : Scope} {own : List (Str × Nat)} {fa fb fk fv fo : ME} {pos apos p : Pos} {g : MG} {it : MI} {t : MB} {is : List Nat} {x : Str}
theorem dc_want {K : PySem.W.Frag} {mg : Str → Option Value} {vs : List Nat} (his : ∀ i ∈ is, i ∈ vs) (hon : ∀ d ρ ρ', g d ρ = some ρ' → OnlyR is ρ ρ') {σ : L2.St} {H : Hp} {Q : VK} (h : tnOf K mg E (mDc vs it g t fk fv) σ H Q) :
    tDc (tiOf K mg E it) (tgOf K mg is g) (tbOf K mg EN t) (tOf K mg EN fk) (tOf K mg EN fv) vs σ H Q := by
  obtain ⟨b, ρ, m, T, S, w⟩ := h
  refine ⟨b, ρ, m, T, S, ?_⟩
  unfold mDc at w
  revert w
  cases it ρ m with
  | no => exact id
  | ex x m1 => exact id
  | ok ds m1 =>
    intro w J H1 T' hT' hz S1 hJ D hD
    rw [Rs.bind_ok] at w
    let c := b.cf K mg
    let U := saved σ ρ vs ++ (T' ++ T)
    have hl := S.len
    have S2 : S3 c (wipeR ρ vs) m1 (wipe σ vs) (upd H1 D (.dK [])) ((some (.ref D), .own (.dct [])) :: U) := by
      obtain ⟨G, μ, s⟩ := S1
      exact ⟨G, μ, (s.wipeIn (vs := vs)).newO hD ⟨[], upd_same, .nil⟩⟩
    let R := fun (r : Rs (List (Key × Dv))) => ∃ ys m2, r = .ok ys m2 ∧ WantN E c ρ σ T Q (.ok (.dct ys) m2)
    have w0 : R (dcL g t fk fv (wipeR ρ vs) ds [] m1) := by
      revert w
      cases dcL g t fk fv (wipeR ρ vs) ds [] m1 with
      | no => exact fun w => w.elim
      | ex x m2 => exact fun w => w.elim
      | ok ys m2 => exact fun w => ⟨ys, m2, rfl, w⟩
    refine ⟨fun i k H => k = ds.length - i ∧ i ≤ ds.length ∧ ∃ (m : Mm) (acc : List (Key × Dv)), S3 c (wipeR ρ vs) m (wipe σ vs) H ((some (.ref D), .own (.dct acc)) :: U) ∧ R (dcL g t fk fv (wipeR ρ vs) (ds.drop i) acc m), ⟨ds.length, by simp, Nat.zero_le _, m1, [], S2, by simpa using w0⟩, ?_⟩
    rintro i k H ⟨rfl, hi, m, acc, S, ys, m2, e, w⟩
    obtain ⟨j1, j2, j3⟩ := hJ (wipeR ρ vs) m (wipe σ vs) H ((some (.ref D), .own (.dct acc)) :: U) i (fun p hp => List.mem_cons_of_mem _ (List.mem_append_right _ (List.mem_append_left _ hp))) S
    by_cases hlt : i < ds.length
    · have hd : ds.drop i = ds[i] :: ds.drop (i + 1) := List.drop_eq_getElem_cons hlt
      rw [hd] at e
      unfold dcL at e
      refine .inr ⟨j1 hlt, fun H' => ∃ (m : Mm) (acc : List (Key × Dv)), S3 c (wipeR ρ vs) m (wipe σ vs) H' ((some (.ref D), .own (.dct acc)) :: U) ∧ R (dcL g t fk fv (wipeR ρ vs) (ds.drop (i + 1)) acc m), fun H' q => ⟨ds.length - (i + 1), by omega, rfl, hlt, q⟩, fun x H' y => ?_⟩
      have S2 := j2 ds[i] (List.getElem?_eq_getElem hlt) x H' y
      cases hg' : g ds[i] (wipeR ρ vs) with
      | none => rw [hg'] at e; cases e
      | some ρ1 =>
        rw [hg'] at e
        simp only at e
        refine ⟨b, wipeR ρ vs, m, (some (.ref D), .own (.dct acc)) :: U, ds[i], S2, ρ1, hg', fun σ2 H2 on S3' => ⟨?_, b, ρ1, m, (some (.ref D), .own (.dct acc)) :: U, S3', ?_⟩⟩
        · rw [on vs his, wipe_idem]
        have back : ∀ {m' : Mm} {H' : Hp} {V : Tm}, S3 c ρ1 m' σ2 H' V → S3 c (wipeR ρ vs) m' (wipe σ vs) H' V := fun {m' H' V} s => by
          have q := s.wipeIn (vs := vs)
          rw [on vs his, wipe_idem, hon _ _ _ hg' vs his, wipeR_idem] at q
          exact q.pops
        cases ht : t ρ1 m with
        | no => rw [ht] at e; cases e
        | ex x m1 => rw [ht] at e; cases e
        | ok k m1 =>
          rw [ht] at e
          simp only at e
          intro H3 S4
          by_cases hk : k = true
          · rw [if_pos hk] at e ⊢
            refine ⟨b, ρ1, m1, (some (.ref D), .own (.dct acc)) :: U, S4, ?_⟩
            cases hf : fk ρ1 m1 with
            | no => rw [hf] at e; cases e
            | ex x m3 => rw [hf] at e; cases e
            | ok x m3 =>
              rw [hf] at e
              intro yv H4 S5 hb5
              cases x with
              | b j => cases e
              | v yd =>
                simp only at e
                refine ⟨b, ρ1, m3, tv yv yd :: (some (.ref D), .own (.dct acc)) :: U, S5, ?_⟩
                cases hv : fv ρ1 m3 with
                | no => rw [hv] at e; cases e
                | ex x m4 => rw [hv] at e; cases e
                | ok x m4 =>
                  rw [hv] at e
                  intro zv H5 S6 hb6
                  cases x with
                  | b j => cases e
                  | v zd =>
                    simp only at e
                    cases hky : keyD yd with
                    | none => rw [hky] at e; cases e
                    | some ky =>
                      rw [hky] at e
                      simp only at e
                      by_cases hzl : acc.length < sizeLine
                      · rw [if_pos hzl] at e
                        obtain ⟨G, μ, s⟩ := back S6
                        have s : St3 c (wipeR ρ vs) m4 (wipe σ vs) H5 (tv zv zd :: tv yv yd :: (some (.ref D), .own (.dct acc)) :: U) G μ := s
                        obtain ⟨a, ea, ⟨wsD, hvs, rD⟩, _⟩ := s.cells (some (.ref D), .own (.dct acc)) (by simp)
                        cases ea
                        have hlen := rD.length
                        have s2 := s.pop.pop.putTop (o' := .dct (dput acc ky zd)) (u := .dK (putK wsD ky zv)) ⟨_, upd_same, repK_put s.top rD⟩
                        exact ⟨wsD, ky, keyD_rep s.pop.top hky, hvs, by omega, m4, dput acc ky zd, ⟨G, μ, s2⟩, ys, m2, e, w⟩
                      · rw [if_neg hzl] at e; cases e
          · rw [if_neg hk] at e ⊢
            exact ⟨m1, acc, back S4, ys, m2, e, w⟩
    · have ei : i = ds.length := by omega
      subst ei
      rw [List.drop_length] at e
      unfold dcL at e
      cases e
      refine .inl ⟨j3 (Nat.le_refl _), w D H ?_⟩
      have q : S3 c (wipeR ρ vs) m (wipe σ vs) H (saved σ ρ vs ++ ((some (.ref D), .own (.dct acc)) :: (T' ++ T))) := S.perm (List.perm_middle)
      obtain ⟨G, μ, s⟩ := S3.wipeOut hl q
      refine ⟨G, μ, s.weak (fun p hp => ?_) ?_⟩
      · rcases List.mem_cons.mp hp with h | h
        · rw [h]; exact List.mem_cons_self
        · exact List.mem_cons_of_mem _ (List.mem_append_right _ h)
      · rw [fm_cons, fm_cons, List.filterMap_append]
        exact List.Sublist.append (List.Sublist.refl _) (List.sublist_append_right _ _)
theorem n_dc (hc : X.calm = true) (hN : X.N.Nodup) (hi : PIx X E tg iter it) (ok : BlkOk X.N X.env.scope scope own) (his : ∀ i ∈ is, i ∈ own.map (·.2))
    (hg : ∀ (s : Shared) (H : Hp) (C : Addr) (cl : List (Str × Addr)) (fp : List Addr), PGx (X.blk s H scope (compEnvC scope cl C X.env) fp) is tg g) (ht : ∀ (s : Shared) (H : Hp) (C : Addr) (cl : List (Str × Addr)) (fp : List Addr), PBs (X.blk s H scope (compEnvC scope cl C X.env) fp) EN ifs t)
    (hk : ∀ (s : Shared) (H : Hp) (C : Addr) (cl : List (Str × Addr)) (fp : List Addr), PX (X.blk s H scope (compEnvC scope cl C X.env) fp) EN kx fk)
    (he : ∀ (s : Shared) (H : Hp) (C : Addr) (cl : List (Str × Addr)) (fp : List Addr), PX (X.blk s H scope (compEnvC scope cl C X.env) fp) EN vx fv) (hs : ∀ x, foldedSetIterable iter X.env x = pure x := by intro _; rfl) :
    PN X E (.DictComp kx vx [⟨tg, iter, ifs, 0⟩] scope pos) (mDc (own.map (·.2)) it g t fk fv) :=
  ⟨fun pins s σ H Q I h => (pe_dc hc hN hi ok (fun s H C cl fp => (hg s H C cl fp).pg) ht hk he hs).run pins s σ H Q I (dc_want his (hg s H 0 [] []).on h)⟩

/-! ### d.get(k, x) -/
def isDct (ρ : Sl) (m : Mm) (x : Ar) : Bool := (dctOf ρ m x).isSome || (dcTOf ρ m x).isSome
def mGet2 (fo fa fb : ME) : ME := fun ρ m => (fo ρ m).bind fun x m1 => if isDct ρ m1 x = true then (fa ρ m1).bind fun y m2 => match y with
    | .v yd => (fb ρ m2).bind fun z m3 => match z with
      | .v d => match dlook ρ m3 x (.v yd) with
        | some (some r) => .ok (.v r) m3
        | some none => .ok (.v d) m3
        | none => .no
      | .b _ => .no
    | .b _ => .no
  else .no
theorem isD_of {c : Cf} {ρ : Sl} {m : Mm} {σ : L2.St} {H : Hp} {T : Tm} {G : Hp} {μ : List Addr} (s : St3 c ρ m σ H T G μ) {x : Ar} {v : V} (r : ArAt c.K c.mg μ G σ v x) (e : isDct ρ m x = true) : ∃ a, v = .ref a ∧ IsD H a := by
  unfold isDct at e
  rcases Bool.or_eq_true_iff.mp e with h | h
  · obtain ⟨kvs, h⟩ := Option.isSome_iff_exists.mp h
    obtain ⟨a, ws, rfl, ha, _⟩ := dct_at s r h
    exact ⟨a, rfl, .inl ⟨ws, ha⟩⟩
  · obtain ⟨kvs, h⟩ := Option.isSome_iff_exists.mp h
    obtain ⟨a, ws, rfl, ha, _⟩ := dcT_at s r h
    exact ⟨a, rfl, .inr ⟨ws, ha⟩⟩
theorem x_get2 (hu : X.A.units + 1 < cLine) (ho : PX X E o fo) (he : PX X E e fa) (hf : PX X E e2 fb) (m : M2 X o "get" apos e e2 pos) : PX X E (.Call (.Attribute o "get" apos) [e, e2] [] pos) (mGet2 fo fa fb) :=
  PEi (pe_dget2 hu ho he hf m) fun σ H Q ⟨b, ρ, m, T, S, w⟩ => by
    refine ⟨b, ρ, m, T, S, ?_⟩
    unfold mGet2 at w
    revert w
    cases fo ρ m with
    | no => exact id
    | ex x m1 => exact id
    | ok x m1 =>
      intro w v H1 S1 hb
      rw [Rs.bind_ok] at w
      by_cases hd : isDct ρ m1 x = true
      · rw [if_pos hd] at w
        obtain ⟨G, μ, s⟩ := id S1
        obtain ⟨a, rfl, ha⟩ := isD_of s.pops (s.ar (S := T) hb) hd
        refine ⟨a, rfl, ha, b, ρ, m1, tva (.ref a) x ++ T, S1, ?_⟩
        revert w
        cases fa ρ m1 with
        | no => exact id
        | ex x m1 => exact fun w => WantX.weak w
        | ok y m2 =>
          intro w u H2 S2 hb2
          rw [Rs.bind_ok] at w
          cases y with
          | b i => exact w.elim
          | v yd =>
            simp only at w
            refine ⟨b, ρ, m2, tv u yd :: (tva (.ref a) x ++ T), S2, ?_⟩
            revert w
            cases fb ρ m2 with
            | no => exact id
            | ex x m1 => exact fun w => WantX.weak (S := [tv u yd]) (WantX.weak w)
            | ok z m3 =>
              intro w t H3 ⟨G3, μ3, s3⟩ hb3
              rw [Rs.bind_ok] at w
              cases z with
              | b i => exact w.elim
              | v d =>
                simp only at w
                have s3 : St3 (b.cf X.K X.mg) ρ m3 σ H3 (tv t d :: tv u yd :: (tva (.ref a) x ++ T)) G3 μ3 := s3
                have rt := s3.top
                have ru := s3.pop.top
                have rx := s3.pop.pop.ar (S := T) hb
                have sT := s3.pop.pop.pops
                cases e : dlook ρ m3 x (.v yd) with
                | none => rw [e] at w; exact w.elim
                | some o =>
                  rw [e] at w
                  obtain ⟨a', r, ea, g1, g2, g3⟩ := dlook_at s3 rx (y := .v yd) ru e
                  cases ea
                  refine ⟨r, g1, ?_⟩
                  cases o with
                  | none =>
                    rw [g3 rfl]
                    exact w.v ⟨G3, μ3, sT.push rt⟩
                  | some dd =>
                    obtain ⟨w', e1, e2⟩ := g2 dd rfl
                    rw [e1]
                    exact w.v ⟨G3, μ3, sT.push e2⟩
      · rw [if_neg hd] at w; exact w.elim

/-! ### dict(pairs) -/
def prD : Dv → Option (Key × Dv)
  | .tup [k, v] => (keyD k).map fun k => (k, v)
  | _ => none
def prsD : List Dv → Option (List (Key × Dv))
  | [] => some []
  | d :: ds => match prD d, prsD ds with
    | some p, some ps => some (p :: ps)
    | _, _ => none
def mergeD (acc : List (Key × Dv)) (kvs : List (Key × Dv)) : List (Key × Dv) := kvs.foldl (fun acc kv => dput acc kv.1 kv.2) acc
def gDict : Sl → Mm → Ar → Rs Ob := fun ρ m x => match dctOf ρ m x with
  | some kvs => .ok (.dct kvs) m
  | none => match (lstOf ρ m x).bind prsD with
    | some kvs => .ok (.dct (mergeD [] kvs)) m
    | none => .no
theorem merge_rep {K : PySem.W.Frag} {mg : Str → Option Value} {μ : List Addr} {G : Hp} {kvs : List (Key × Dv)} : ∀ {ws : List (Key × V)} {acc : List (Key × Dv)} {as : List (Key × V)}, RepK K mg μ G kvs ws → RepK K mg μ G acc as → RepK K mg μ G (mergeD acc kvs) (mergeK as ws) := by
  induction kvs with
  | nil => intro ws acc as h h'; cases h; exact h'
  | cons kv kvs ih =>
    intro ws acc as h h'
    cases h with
    | @cons _ k d v _ _ a b =>
      have q := ih b (repK_put (k := k) a h')
      exact q
theorem prs_rep {K : PySem.W.Frag} {mg : Str → Option Value} {μ : List Addr} {G H : Hp} (st : Stands G H) : ∀ {ds : List Dv} {vs : List V} {kvs : List (Key × Dv)}, RepL K mg μ G ds vs → prsD ds = some kvs → ∃ (ps : List Addr) (ws : List (Key × V)), vs = ps.map V.ref ∧ Paired (fun p kv => SqT K H p [kV kv.1, kv.2]) ps ws ∧ RepK K mg μ G kvs ws
  | [], _, kvs, .nil, e => by
    simp [prsD] at e; subst e
    exact ⟨[], [], rfl, .nil, .nil⟩
  | d :: ds, _, kvs, .cons a b, e => by
    simp only [prsD] at e
    split at e
    · rename_i pr ps h1 h2
      cases e
      obtain ⟨qs, ws, e1, e2, e3⟩ := prs_rep st b h2
      unfold prD at h1
      split at h1
      · rename_i k v
        rw [Option.map_eq_some_iff] at h1
        obtain ⟨ky, h3, rfl⟩ := h1
        cases a with
        | @tup _ q vs h z r =>
          cases r with
          | cons r1 r =>
            cases r with
            | cons r2 r =>
              cases r
              rename_i kv wv
              have : kv = kV ky := keyD_rep r1 h3
              subst this
              exact ⟨q :: qs, (ky, wv) :: ws, by rw [e1]; rfl, .cons (SqT.of (st.t h)) e2, .cons r2 e3⟩
      · cases h1
    · cases e
def rDict (K : PySem.W.Frag) : List V → Hp → VK → Prop := fun xs H Q => (∃ a kvs, xs = [.ref a] ∧ Rd H a (.dK kvs) ∧ ∀ p, H p = none → Q (.ref p) (upd H p (.dK kvs))) ∨
  (∃ (a : Addr) (ps : List Addr) (kvs : List (Key × V)), xs = [.ref a] ∧ SqL K H a (ps.map V.ref) ∧ Paired (fun p kv => SqT K H p [kV kv.1, kv.2]) ps kvs ∧ ∀ p, H p = none → Q (.ref p) (upd H p (.dK (mergeK [] kvs))))
theorem call_dictU (hc : X.calm = true) : CallR X (.type "dict") (rDict X.K) := by
  refine CallR.or ?_ (call_dictP hc)
  intro pins s σ H xs us Q I r q
  obtain ⟨a, kvs, ex, ha, q⟩ := q
  subst ex
  obtain ⟨u, eu, rx⟩ := vals1 r
  subst eu
  cases rx
  exact d_copyOf I ha fun p s' hp I' => ⟨.ref p, _, I', rfl, q p hp⟩
theorem unN_dict {K : PySem.W.Frag} {mg : Str → Option Value} : UnN K mg E (fun v => rDict K [v]) gDict := fun b ρ m σ H T G μ v x Q s r w => by
  unfold gDict at w
  split at w
  · rename_i kvs e
    obtain ⟨a, ws, rfl, ha, ra⟩ := dct_at s r e
    exact .inl ⟨a, ws, rfl, ha, fun p hp => w p _ ⟨G, μ, s.newO hp ⟨ws, upd_same, ra⟩⟩⟩
  · split at w
    · rename_i kvs e
      obtain ⟨ds, h1, h2⟩ := Option.bind_eq_some_iff.mp e
      obtain ⟨a, vs, rfl, ha, ra⟩ := lst_at s r h1
      obtain ⟨ps, ws, rfl, e2, e3⟩ := prs_rep s.mem.st ra h2
      exact .inr ⟨a, ps, ws, rfl, SqL.of ha, e2, fun p hp => w p _ ⟨G, μ, s.newO hp ⟨_, upd_same, merge_rep e3 .nil⟩⟩⟩
    · exact w.elim
end
end M3

set_option Elab.async false
set_option linter.all false
set_option autoImplicit false
set_option maxRecDepth 100000
set_option maxHeartbeats 2000000
/-! M3s: sets of ints made by a comprehension, sorted; len(set(..)). -/
namespace PpSet
open PySem PySem.Spec PyProof.Rows L2
theorem addI_ok {X : Cx} {pins : List (Addr × Obj)} {σ : L2.St} {H : Hp} {s : Shared} {E : Value → Shared → Prop} {D : Addr} {S : Int → Bool} {n : Nat} {y : Int} {tk : Tok} {Q : Value → Shared → Prop} (I : Inv X pins σ H s) (hD : H D = some (SetO X.w D S n)) (room : n + 1 < scanBound)
    (h : ∀ s', Inv X pins σ (upd H D (SetO X.w D (fun j => S j || decide (j = y)) (if S y = true then n else n + 1))) s' → Q .none s') : wpAny (model X.prog X.w) X.A (call (.builtin "set.add") [.ref D, .int y tk]) Q E s := by
  have R := setO_get I hD
  refine setR_add R room fun h' sb new => ?_
  have he : ∃ u, h'.get? D = some u := by
    have ⟨o, _, _, _, ho, _⟩ := new
    exact ⟨o, ho⟩
  exact h _ (I.write (e := D) (t' := s.toks + 1) (by rw [hD]; trivial) (.inl rfl) (fun b u hb hu => (sb.2 b hb).trans hu) he (setO_new new))
section
variable {X : Cx}
/-- {elt for target in iter if ..}, elt a truth value: D the new set -/
def tSci (w : World) (wi : TI) (g : TG) (tt : TT) (te : TE) (vs : List Nat) : TE := fun σ H Q => wi σ H fun J H1 => ∀ D, H1 D = none → ∃ W : Nat → Nat → Hp → Prop, (∃ m, W 0 m (upd H1 D (SetO w D (fun _ => false) 0))) ∧ ∀ i m H, W i m H →
  (J.stop i H ∧ Q (.ref D) H) ∨ (J.go i H ∧ ∃ Nx : Hp → Prop, (∀ H', Nx H' → ∃ m', m' < m ∧ W (i + 1) m' H') ∧ ∀ x H', J.yld i H x H' → g x (wipe σ vs) H' fun σ2 H2 => wipe σ2 vs = wipe σ vs ∧ tt σ2 H2 fun b H3 =>
    if b = true then te σ2 H3 fun y H4 => ∃ (c : Int) (S : Int → Bool) (n : Nat), y = .int c ∧ H4 D = some (SetO w D S n) ∧ n + 1 < scanBound ∧ Nx (upd H4 D (SetO w D (fun j => S j || decide (j = c)) (if S c = true then n else n + 1))) else Nx H3)
theorem sci_core {pins : List (Addr × Obj)} {s : Shared} {σ : L2.St} {H : Hp} {Q : VK} {elt tg iter : Expr} {ifs : List Expr} {scope : Scope} {own : List (PySem.Str × Nat)} {pos pos' : Pos} {wi : TI} {g : TG} {tt : TT} {te : TE} {use : Option (Value → Sem Unit)} {Qf : Value → Shared → Prop}
    (hc : X.calm = true) (hN : X.N.Nodup) (I : Inv X pins σ H s) (hi : PI X tg iter wi) (ok : BlkOk X.N X.env.scope scope own)
    (hg : ∀ (s : Shared) (H : Hp) (C : Addr) (cl : List (PySem.Str × Addr)) (fp : List Addr), PG (X.blk s H scope (compEnvC scope cl C X.env) fp) tg g) (ht : ∀ (s : Shared) (H : Hp) (C : Addr) (cl : List (PySem.Str × Addr)) (fp : List Addr), PTs (X.blk s H scope (compEnvC scope cl C X.env) fp) ifs tt)
    (he : ∀ (s : Shared) (H : Hp) (C : Addr) (cl : List (PySem.Str × Addr)) (fp : List Addr), PE (X.blk s H scope (compEnvC scope cl C X.env) fp) elt te) (hs : ∀ x, foldedSetIterable iter X.env x = pure x)
    (h : tSci X.w wi g tt te (own.map (·.2)) σ H Q)
    (hRR : ∀ D C s' m H', Inv X pins σ H' s' → Q (.ref D) H' → s'.heap.Ns C m → FpOk X pins H' C → compPost (model X.prog X.w) X.A X.xe use Qf (.ref D) C (.ok .next) s') :
    wpAny (model X.prog X.w) X.A (comprehension (.SetComp elt [⟨tg, iter, ifs, 0⟩] scope pos) scope X.env pos' (newSet (.type "set")) false (eval iter X.env) use) Qf X.xe s := by
  have hfree : ∀ y ∈ scope.names, y.2 = .free → ∃ c, X.env.cells.lookup y.1 = some c := fun y hy e => by
    rcases ok.free y hy e with k | k
    · exact I.ok.has _ (.inl k)
    · exact I.ok.has _ (.inr k)
  refine wpAny_comprehension_free (use := use) rfl hs (closure_ok hfree) ok.kind (fun y hy e => by rw [ok.uniq y hy, e])
    (thn (hi.run pins s σ H _ I h) fun xv s1 hx => thn hx fun itv s2 h2 => ?_)
  obtain ⟨it, fp, tn, J, H2, e, I2, T, st2, f2, q⟩ := h2
  subst e
  refine newSet_ok (newEnv_comp ?_)
  generalize hD : s2.heap.objs.size = D
  have hDn : H2 D = none := I2.hok.fresh (Nat.le_of_eq hD)
  obtain ⟨W, ⟨m0, w0⟩, turn⟩ := q D hDn
  -- the new list
  generalize hs3 : ({ s2 with heap := s2.heap.push { cls := .type "set", dict := none, data := .set #[] 0 (.fresh 0 0 (!X.w.params.followText "set-order")) } } : Shared) = s3
  have I3 : Inv X pins σ (upd H2 D (SetO X.w D (fun _ => false) 0)) s3 := by
    rw [← hs3]
    refine I2.laid (t' := s2.toks) (fun b o e => Heap.get?_push_of_some _ e) (Nat.le_of_eq hD) ?_
    rw [← hD]
    exact setO_new (setR_fresh X.w)
  have h3 : s3.heap = s2.heap.push { cls := .type "set", dict := none, data := .set #[] 0 (.fresh 0 0 (!X.w.params.followText "set-order")) } := by rw [← hs3]
  have sz : ∀ b ∈ fp, b < s2.heap.objs.size := fun b hb => by
    obtain ⟨o, e, _⟩ := T.obj _ _ st2 b hb
    exact Heap.lt_size e
  have f3 : ∀ b ∈ fp, FpOk X pins (upd H2 D (SetO X.w D (fun _ => false) 0)) b ∧ b < s3.heap.objs.size := fun b hb => by
    have hlt := sz b hb
    refine ⟨⟨?_, (f2 b hb).2⟩, by rw [h3, Heap.size_push]; exact Nat.lt_succ_of_lt hlt⟩
    rw [upd_ne (by rw [← hD]; exact Nat.ne_of_lt hlt)]
    exact (f2 b hb).1
  have st3 : tn 0 s3.heap := T.keep _ _ _ st2 fun b _ o e => by rw [h3]; exact Heap.get?_push_of_some _ e
  have I4 := block_start I3 ok hN f3
  have pg := hg s3 (upd H2 D (SetO X.w D (fun _ => false) 0)) s3.heap.objs.size (cellsFrom (s3.heap.objs.size + 1) scope.names (cloFrom X.env.cells scope.names [])) fp
  have pt := ht s3 (upd H2 D (SetO X.w D (fun _ => false) 0)) s3.heap.objs.size (cellsFrom (s3.heap.objs.size + 1) scope.names (cloFrom X.env.cells scope.names [])) fp
  have pe := he s3 (upd H2 D (SetO X.w D (fun _ => false) 0)) s3.heap.objs.size (cellsFrom (s3.heap.objs.size + 1) scope.names (cloFrom X.env.cells scope.names [])) fp
  show codeAny _ _ (.compStart (.SetComp elt [⟨tg, iter, ifs, 0⟩] scope pos) 0 (.ref it) (.ref D) (compEnvC scope (cellsFrom (s3.heap.objs.size + 1) scope.names (cloFrom X.env.cells scope.names [])) s3.heap.objs.size X.env)) (compPost (model X.prog X.w) X.A X.xe use Qf (.ref D) s3.heap.objs.size) { s3 with heap := pushCells (s3.heap.push { cls := .type "dict", data := .dict #[] }) scope.names }
  have nfp : ∀ b ∈ fp, (upd H2 D (SetO X.w D (fun _ => false) 0)) b = none := fun b hb => (f3 b hb).1.1
  generalize hce : compEnvC scope (cellsFrom (s3.heap.objs.size + 1) scope.names (cloFrom X.env.cells scope.names [])) s3.heap.objs.size X.env = ce at I4 pg pt pe ⊢
  have cL : ce.locals = s3.heap.objs.size := by subst hce; rfl
  generalize hH3 : upd H2 D (SetO X.w D (fun _ => false) 0) = H3 at I3 I4 pg pt pe w0 nfp f3
  generalize hs4 : ({ s3 with heap := pushCells (s3.heap.push { cls := .type "dict", data := .dict #[] }) scope.names } : Shared) = s4 at I4 ⊢
  have st4 : tn 0 s4.heap := T.keep _ _ _ st3 fun b _ o e => by rw [← hs4]; exact pushCells_keeps _ _ _ _ (Heap.get?_push_of_some _ e)
  have stat : ∀ {σ' : L2.St} {H' : Hp} {s' : Shared}, Inv (X.blk s3 H3 scope ce fp) [] σ' H' s' → (∀ b ∈ fp, H' b = none) → ∀ b ∈ fp, FpOk (X.blk s3 H3 scope ce fp) [] H' b := fun {σ' H' s'} I' hn b hb =>
    ⟨hn b hb, (I'.ok.exf b hb).1, I'.ok.exfs b hb, .inl hb, fun x c e => (I'.ok.exf b hb).2 x c e, fun p hp => absurd (show p ∈ ([] : List (Addr × Obj)) ++ [] from hp) (by simp)⟩
  have loop : codeAny (model X.prog X.w) X.A (.compLoop (.SetComp elt [⟨tg, iter, ifs, 0⟩] scope pos) 0 (.ref it) (.ref D) ce) (compPost (model X.prog X.w) X.A X.xe use Qf (.ref D) s3.heap.objs.size) s4 := by
    refine compLoopS_any (fun n s' => ∃ i H', Inv (X.blk s3 H3 scope ce fp) [] (wipe σ (own.map (·.2))) H' s' ∧ tn i s'.heap ∧ (∀ b ∈ fp, H' b = none) ∧ W i n H') ?_ m0 ⟨0, H3, I4, st4, nfp, w0⟩
    rintro n s5 ⟨i, H5, I5, st5, n5, w5⟩
    rcases turn i n H5 w5 with ⟨stop, qq⟩ | ⟨go, Nx, hNx, step⟩
    · have td := T.done (X.blk s3 H3 scope ce fp) rfl rfl rfl hc i [] s5 _ H5 (fun _ _ => False) I5 (stat I5 n5) st5 stop
      refine thnF td fun r s6 ⟨hr, I6⟩ => ?_
      subst hr
      -- back in the def's context
      have I7 : Inv X pins σ H5 s6 := I3.call' (ch := fp) I6.os I6.base I6.hok I6.bare fun b hb => ⟨(f3 b hb).1.2.2.2.1, (f3 b hb).1.2.1, (f3 b hb).1.2.2.2.2.1, (f3 b hb).1.2.2.2.2.2⟩
      have nC : H5 s3.heap.objs.size = none := by
        have z : H5 ce.locals = none := I6.free
        rw [cL] at z
        exact z
      obtain ⟨m, hn, _⟩ := I6.loc
      have hn : s6.heap.Ns ce.locals m := hn
      rw [cL] at hn
      exact hRR D s3.heap.objs.size s6 m H5 I7 qq hn (I3.fpOk (Nat.le_refl _) nC)
    · have ti := T.item (X.blk s3 H3 scope ce fp) rfl rfl rfl hc i [] s5 _ H5 (fun _ _ => False) I5 (stat I5 n5) st5 go
      refine thnF ti fun r s6 ⟨u, hr, h6⟩ => ?_
      subst hr
      refine thnF h6 fun _ s7 ⟨x, H7, I7, r7, y7, st7, n7⟩ => ?_
      have I7' := I7.pinned (stat I7 n7) (T.obj _ _ st7)
      refine thnF (pg.run _ s7 _ H7 x u _ I7' r7 (step x H7 y7)) fun _ s8 ⟨σ8, H8, I8, hw8, q8⟩ => ?_
      refine thnF (pt.run _ s8 σ8 H8 _ I8 q8) fun b s9 ⟨H9, I9, q9⟩ => ?_
      -- the turn's end
      have fin : ∀ {s' : Shared} {H' : Hp}, Inv (X.blk s3 H3 scope ce fp) ([] ++ pinsAt fp s7.heap) σ8 H' s' → Nx H' → ∃ m, m < n ∧ ∃ i H', Inv (X.blk s3 H3 scope ce fp) [] (wipe σ (own.map (·.2))) H' s' ∧ tn i s'.heap ∧ (∀ b ∈ fp, H' b = none) ∧ W i m H' := fun {s' H'} I' nx => by
        obtain ⟨m', hm, w'⟩ := hNx H' nx
        have pin' : ∀ b ∈ fp, ∀ o, s7.heap.get? b = some o → s'.heap.get? b = some o ∧ H' b = none := fun b hb o e =>
          let z := I'.pin (b, o) (List.mem_append_right _ (List.mem_append_right _ (mem_pinsAt hb e)))
          ⟨z.1, z.2.1⟩
        have hl : (wipe σ (own.map (·.2))).length = σ8.length := by rw [← hw8, wipe_length]
        refine ⟨m', hm, i + 1, H', (I'.unpinned (pins := [])).weak hl (fun j v e => ?_), T.keep _ _ _ st7 fun b hb o e => (pin' b hb o e).1, fun b hb => ?_, w'⟩
        · rw [← hw8] at e
          exact (wipe_some e).1
        · obtain ⟨o, e, _⟩ := T.obj _ _ st7 b hb
          exact (pin' b hb o e).2
      cases b with
      | false =>
        simp only [Bool.false_eq_true, if_false] at q9 ⊢
        exact fin I9 q9
      | true =>
        simp only [if_true] at q9 ⊢
        refine thnF (pe.run _ s9 σ8 H9 _ I9 q9) fun z s10 ⟨yv, H10, I10, r10, cb, S0, n0, ey, hD10, hz10, nx⟩ => ?_
        subst ey
        obtain ⟨tk10, rfl⟩ := r10
        exact addI_ok (X := X.blk s3 H3 scope ce fp) I10 hD10 hz10 fun s11 I11 => fin I11 nx
  exact codeAny_compStart_set loop (T.self X.A 0 _ _ _ st4 loop)
/-- as a value -/
theorem pe_sci {elt tg iter : Expr} {ifs : List Expr} {scope : Scope} {own : List (PySem.Str × Nat)} {pos : Pos} {wi : TI} {g : TG} {tt : TT} {te : TE} (hc : X.calm = true) (hN : X.N.Nodup) (hi : PI X tg iter wi) (ok : BlkOk X.N X.env.scope scope own)
    (hg : ∀ (s : Shared) (H : Hp) (C : Addr) (cl : List (PySem.Str × Addr)) (fp : List Addr), PG (X.blk s H scope (compEnvC scope cl C X.env) fp) tg g) (ht : ∀ (s : Shared) (H : Hp) (C : Addr) (cl : List (PySem.Str × Addr)) (fp : List Addr), PTs (X.blk s H scope (compEnvC scope cl C X.env) fp) ifs tt)
    (he : ∀ (s : Shared) (H : Hp) (C : Addr) (cl : List (PySem.Str × Addr)) (fp : List Addr), PE (X.blk s H scope (compEnvC scope cl C X.env) fp) elt te) (hs : ∀ x, foldedSetIterable iter X.env x = pure x := by intro _; rfl) :
    PE X (.SetComp elt [⟨tg, iter, ifs, 0⟩] scope pos) (tSci X.w wi g tt te (own.map (·.2))) := by
  refine ⟨fun pins s σ H Q I h => ?_⟩
  rw [eval_SetComp]
  refine sci_core hc hN I hi ok hg ht he hs h fun D C s' m H' I' q hn f => ⟨m, hn, fun h'' sb => ?_⟩
  obtain ⟨f0, f1, f2, f3, f4, f5⟩ := f
  exact ⟨.ref D, H', I'.turned (t' := s'.toks) (fun b o hb e => (sb.2 b hb).trans e) f0 f1 f3 f4 f5, rfl, q⟩
end
end PpSet

namespace M3
open PySem L2 PySem.Spec PyProof.Rows
def insU (i : Int) : List Int → List Int
  | [] => [i]
  | j :: r => if i < j then i :: j :: r else if i = j then j :: r else j :: insU i r
def sortU : List Int → List Int
  | [] => []
  | i :: r => insU i (sortU r)
theorem insU_mem (i k : Int) : ∀ l : List Int, k ∈ insU i l ↔ k = i ∨ k ∈ l
  | [] => by simp [insU]
  | j :: r => by
    unfold insU
    split
    · simp
    · split
      · rename_i h1 h2; subst h2; simp
      · rw [List.mem_cons, insU_mem i k r, List.mem_cons]
        constructor <;> (intro h; rcases h with h | h | h <;> simp [h])
theorem sortU_mem (k : Int) : ∀ l : List Int, k ∈ sortU l ↔ k ∈ l
  | [] => by simp [sortU]
  | i :: r => by rw [sortU, insU_mem, sortU_mem k r, List.mem_cons]
theorem insU_asc (i : Int) : ∀ {l : List Int}, l.Pairwise (· < ·) → (insU i l).Pairwise (· < ·)
  | [], _ => by simp [insU]
  | j :: r, h => by
    unfold insU
    obtain ⟨h1, h2⟩ := List.pairwise_cons.mp h
    split
    · rename_i hij
      refine List.pairwise_cons.mpr ⟨fun k hk => ?_, h⟩
      rcases List.mem_cons.mp hk with e | e
      · omega
      · have := h1 k e; omega
    · split
      · exact h
      · rename_i hij hne
        refine List.pairwise_cons.mpr ⟨fun k hk => ?_, insU_asc i h2⟩
        rcases (insU_mem i k r).mp hk with e | e
        · omega
        · exact h1 k e
theorem sortU_asc : ∀ l : List Int, (sortU l).Pairwise (· < ·)
  | [] => List.Pairwise.nil
  | i :: r => insU_asc i (sortU_asc r)
theorem asc_uniq : ∀ {l l' : List Int}, l.Pairwise (· < ·) → l'.Pairwise (· < ·) → (∀ k, k ∈ l ↔ k ∈ l') → l = l'
  | [], [], _, _, _ => rfl
  | [], j :: r, _, _, h => by have := (h j).mpr (by simp); simp at this
  | i :: r, [], _, _, h => by have := (h i).mp (by simp); simp at this
  | i :: r, j :: q, h1, h2, h => by
    obtain ⟨a1, a2⟩ := List.pairwise_cons.mp h1
    obtain ⟨b1, b2⟩ := List.pairwise_cons.mp h2
    have e : i = j := by
      have m1 := (h i).mp (by simp)
      have m2 := (h j).mpr (by simp)
      rcases List.mem_cons.mp m1 with e | e
      · exact e
      · rcases List.mem_cons.mp m2 with e' | e'
        · exact e'.symm
        · have := a1 j e'; have := b1 i e; omega
    subst e
    congr 1
    refine asc_uniq a2 b2 fun k => ?_
    have hk := h k
    simp only [List.mem_cons] at hk
    constructor
    · intro m
      rcases hk.mp (.inr m) with e | e
      · have := a1 k m; omega
      · exact e
    · intro m
      rcases hk.mpr (.inr m) with e | e
      · have := b1 k m; omega
      · exact e
def mSortSc (vs : List Nat) (it : MI) (g : MG) (t : MB) (f : ME) : MN := fun ρ m => (it ρ m).bind fun ds m1 => if ds.length < 64 then match lcL g t f (wipeR ρ vs) ds m1 with
  | .ok ys m2 => match intsD ys with
    | some ns => .ok (.lst ((sortU ns).map .int)) m2
    | none => .no
  | _ => .no
  else .no
theorem intsD_app {d : Dv} {ys : List Dv} {ns : List Int} (h : intsD (d :: ys) = some ns) : ∃ i r, d = .int i ∧ intsD ys = some r ∧ ns = i :: r := by
  cases d <;> simp only [intsD, reduceCtorEq] at h
  rw [Option.map_eq_some_iff] at h
  obtain ⟨r, h1, h2⟩ := h
  exact ⟨_, r, rfl, h1, h2.symm⟩
section
variable {X : Cx} {E : WX} {tg iter elt : Expr} {ifs : List Expr} {scope : Scope} {own : List (Str × Nat)} {fa : ME} {pos p pos2 : Pos} {g : MG} {it : MI} {t : MB} {is : List Nat}
theorem sc_want {w0 : World} {K : PySem.W.Frag} {mg : Str → Option Value} {vs : List Nat} (his : ∀ i ∈ is, i ∈ vs) (hon : ∀ d ρ ρ', g d ρ = some ρ' → OnlyR is ρ ρ') {σ : L2.St} {H : Hp} {Q : VK} (h : tnOf K mg E (mSortSc vs it g t fa) σ H Q) :
    PpSet.tSci w0 (tiOf K mg E it) (tgOf K mg is g) (tbOf K mg EN t) (tOf K mg EN fa) vs σ H (fun x H1 => rSortedSet w0 [x] H1 Q) := by
  obtain ⟨b, ρ, m, T, S, w⟩ := h
  refine ⟨b, ρ, m, T, S, ?_⟩
  unfold mSortSc at w
  revert w
  cases it ρ m with
  | no => exact id
  | ex x m1 => exact id
  | ok ds m1 =>
    intro w J H1 T' hT' hz S1 hJ D hD
    rw [Rs.bind_ok] at w
    by_cases h64 : ds.length < 64
    · rw [if_pos h64] at w
      let c := b.cf K mg
      let U := saved σ ρ vs ++ (T' ++ T)
      have hl := S.len
      have S2 : S3 c (wipeR ρ vs) m1 (wipe σ vs) (upd H1 D (SetO w0 D (fun _ => false) 0)) ((some (.ref D), .own (.raw (SetO w0 D (fun _ => false) 0))) :: U) := by
        obtain ⟨G, μ, s⟩ := S1
        exact ⟨G, μ, (s.wipeIn (vs := vs)).newO hD upd_same⟩
      let R := fun (acc : List Int) (r : Rs (List Dv)) => ∃ ys m2 ns, r = .ok ys m2 ∧ intsD ys = some ns ∧ ∃ res : List Int, res.Pairwise (· < ·) ∧ (∀ k, k ∈ res ↔ k ∈ acc ∨ k ∈ ns) ∧ WantN E c ρ σ T Q (.ok (.lst (res.map .int)) m2)
      have w1 : R [] (lcL g t fa (wipeR ρ vs) ds m1) := by
        revert w
        cases lcL g t fa (wipeR ρ vs) ds m1 with
        | no => exact fun w => w.elim
        | ex x m2 => exact fun w => w.elim
        | ok ys m2 =>
          intro w
          cases hy : intsD ys with
          | none => simp only [hy] at w; exact w.elim
          | some ns =>
            simp only [hy] at w
            exact ⟨ys, m2, ns, rfl, hy, sortU ns, sortU_asc ns, fun k => by simp [sortU_mem], w⟩
      refine ⟨fun i k H => k = ds.length - i ∧ i ≤ ds.length ∧ ∃ (m : Mm) (acc : List Int) (Sf : Int → Bool) (n : Nat), n ≤ i ∧ (∀ k, Sf k = true ↔ k ∈ acc) ∧ S3 c (wipeR ρ vs) m (wipe σ vs) H ((some (.ref D), .own (.raw (SetO w0 D Sf n))) :: U) ∧ R acc (lcL g t fa (wipeR ρ vs) (ds.drop i) m), ⟨ds.length, by simp, Nat.zero_le _, m1, [], _, _, Nat.le_refl _, fun k => by simp, S2, by simpa using w1⟩, ?_⟩
      rintro i k H ⟨rfl, hi, m, acc, Sf, n, hn, hS, S, ys, m2, ns, e, hy, res, r1, r2, w⟩
      obtain ⟨j1, j2, j3⟩ := hJ (wipeR ρ vs) m (wipe σ vs) H ((some (.ref D), .own (.raw (SetO w0 D Sf n))) :: U) i (fun p hp => List.mem_cons_of_mem _ (List.mem_append_right _ (List.mem_append_left _ hp))) S
      by_cases hlt : i < ds.length
      · have hd : ds.drop i = ds[i] :: ds.drop (i + 1) := List.drop_eq_getElem_cons hlt
        rw [hd] at e
        unfold lcL at e
        refine .inr ⟨j1 hlt, fun H' => ∃ (m : Mm) (acc : List Int) (Sf : Int → Bool) (n : Nat), n ≤ i + 1 ∧ (∀ k, Sf k = true ↔ k ∈ acc) ∧ S3 c (wipeR ρ vs) m (wipe σ vs) H' ((some (.ref D), .own (.raw (SetO w0 D Sf n))) :: U) ∧ R acc (lcL g t fa (wipeR ρ vs) (ds.drop (i + 1)) m), fun H' q => ⟨ds.length - (i + 1), by omega, rfl, hlt, q⟩, fun x H' y => ?_⟩
        have S2 := j2 ds[i] (List.getElem?_eq_getElem hlt) x H' y
        cases hg' : g ds[i] (wipeR ρ vs) with
        | none => rw [hg'] at e; cases e
        | some ρ1 =>
          rw [hg'] at e
          simp only at e
          refine ⟨b, wipeR ρ vs, m, (some (.ref D), .own (.raw (SetO w0 D Sf n))) :: U, ds[i], S2, ρ1, hg', fun σ2 H2 on S3' => ⟨?_, b, ρ1, m, (some (.ref D), .own (.raw (SetO w0 D Sf n))) :: U, S3', ?_⟩⟩
          · rw [on vs his, wipe_idem]
          have back : ∀ {m' : Mm} {H' : Hp} {V : Tm}, S3 c ρ1 m' σ2 H' V → S3 c (wipeR ρ vs) m' (wipe σ vs) H' V := fun {m' H' V} s => by
            have q := s.wipeIn (vs := vs)
            rw [on vs his, wipe_idem, hon _ _ _ hg' vs his, wipeR_idem] at q
            exact q.pops
          cases ht : t ρ1 m with
          | no => rw [ht] at e; cases e
          | ex x m1 => rw [ht] at e; cases e
          | ok k m1 =>
            rw [ht] at e
            simp only at e
            intro H3 S4
            by_cases hk : k = true
            · rw [if_pos hk] at e ⊢
              refine ⟨b, ρ1, m1, (some (.ref D), .own (.raw (SetO w0 D Sf n))) :: U, S4, ?_⟩
              cases hf : fa ρ1 m1 with
              | no => rw [hf] at e; cases e
              | ex x m3 => rw [hf] at e; cases e
              | ok x m3 =>
                rw [hf] at e
                intro yv H4 S5 hb5
                cases x with
                | b j => cases e
                | v yd =>
                  simp only at e
                  cases hr : lcL g t fa (wipeR ρ vs) (ds.drop (i + 1)) m3 with
                  | no => rw [hr] at e; cases e
                  | ex x m4 => rw [hr] at e; cases e
                  | ok zs m4 =>
                    rw [hr] at e
                    cases e
                    obtain ⟨ci, ri, rfl, hzs, rfl⟩ := intsD_app hy
                    obtain ⟨G, μ, s⟩ := back S5
                    have s : St3 c (wipeR ρ vs) m3 (wipe σ vs) H4 (tv yv (.int ci) :: (some (.ref D), .own (.raw (SetO w0 D Sf n))) :: U) G μ := s
                    obtain ⟨a, ea, hvs, _⟩ := s.cells (some (.ref D), .own (.raw (SetO w0 D Sf n))) (by simp)
                    cases ea
                    have hvs : H4 D = some (SetO w0 D Sf n) := hvs
                    have rv := s.top
                    cases rv
                    have s2 := s.pop.putTop (o' := .raw (SetO w0 D (fun j => Sf j || decide (j = ci)) (if Sf ci = true then n else n + 1))) (u := SetO w0 D (fun j => Sf j || decide (j = ci)) (if Sf ci = true then n else n + 1)) upd_same
                    refine ⟨ci, Sf, n, rfl, hvs, by unfold scanBound; omega, m3, acc ++ [ci], _, _, by split <;> omega, fun k => ?_, ⟨G, μ, s2⟩, zs, m2, ri, hr, hzs, res, r1, fun k => ?_, w⟩
                    · simp [hS]
                    · rw [r2]; simp [or_assoc]
            · rw [if_neg hk] at e ⊢
              exact ⟨m1, acc, Sf, n, by omega, hS, back S4, ys, m2, ns, e, hy, res, r1, r2, w⟩
      · have ei : i = ds.length := by omega
        subst ei
        rw [List.drop_length] at e
        unfold lcL at e
        cases e
        simp [intsD] at hy
        subst hy
        have q : S3 c (wipeR ρ vs) m (wipe σ vs) H (saved σ ρ vs ++ ((some (.ref D), .own (.raw (SetO w0 D Sf n))) :: (T' ++ T))) := S.perm (List.perm_middle)
        obtain ⟨G, μ, s⟩ := S3.wipeOut hl q
        obtain ⟨a, ea, hvs, _⟩ := s.cells (some (.ref D), .own (.raw (SetO w0 D Sf n))) (by simp)
        cases ea
        refine .inl ⟨j3 (Nat.le_refl _), D, Sf, n, rfl, hvs, by omega, fun ns p hp hm hlen hnone => ?_⟩
        have : ns = res := asc_uniq hp r1 fun k => by rw [hm, hS, r2]; simp
        subst this
        exact w p _ (s.pop.pops.newOL (ints_rep _) hnone)
    · rw [if_neg h64] at w; exact w.elim
theorem n_sortSc {x : Str} (hc : X.calm = true) (hN : X.N.Nodup) (hgl : Gl X x) (hm : X.mg x = none) (hv : bootBuiltins x = some (.builtin "sorted")) (hi : PIx X E tg iter it) (ok : BlkOk X.N X.env.scope scope own) (his : ∀ i ∈ is, i ∈ own.map (·.2))
    (hg : ∀ (s : Shared) (H : Hp) (C : Addr) (cl : List (Str × Addr)) (fp : List Addr), PGx (X.blk s H scope (compEnvC scope cl C X.env) fp) is tg g) (ht : ∀ (s : Shared) (H : Hp) (C : Addr) (cl : List (Str × Addr)) (fp : List Addr), PBs (X.blk s H scope (compEnvC scope cl C X.env) fp) EN ifs t)
    (he : ∀ (s : Shared) (H : Hp) (C : Addr) (cl : List (Str × Addr)) (fp : List Addr), PX (X.blk s H scope (compEnvC scope cl C X.env) fp) EN elt fa) (hs : ∀ x, foldedSetIterable iter X.env x = pure x := by intro _; rfl) (hn : x ≠ "__name__" := by decide) (hdb : (x == ("__debug__" : Str)) = false := by decide)
    (hst : starEach [.SetComp elt [⟨tg, iter, ifs, 0⟩] scope pos2] X.env = (false, eval (.SetComp elt [⟨tg, iter, ifs, 0⟩] scope pos2) X.env) :: starEach [] X.env := by rfl) (hpl : (backTo pos (starEach [] X.env)).any (·.1) = false := by rfl) :
    PN X E (.Call (.Name x p) [.SetComp elt [⟨tg, iter, ifs, 0⟩] scope pos2] [] pos) (mSortSc (own.map (·.2)) it g t fa) :=
  PEi (pe_callB (cr_sortedSet hc) hgl hm hv (pa_cons (PpSet.pe_sci hc hN hi ok (fun s H C cl fp => (hg s H C cl fp).pg) ht he hs) pa_nil hst) hn hdb hst hpl) fun σ H Q h => sc_want his (hg X.s_0 H 0 [] []).on h
end
end M3

set_option Elab.async false
set_option linter.all false
set_option autoImplicit false
set_option maxRecDepth 100000
set_option maxHeartbeats 2000000
/-! M3t: len(set(..)) of ints and texts; isinstance; what is not reached. -/
namespace M3
open PySem L2 PySem.Spec PyProof.Rows
/-- the keys of a list, each once, in the order in which they come first -/
def hasK (l : List Key) (k : Key) : Bool := l.any fun x => decide (x = k)
theorem hasK_iff {l : List Key} {k : Key} : hasK l k = true ↔ k ∈ l := by
  unfold hasK
  rw [List.any_eq_true]
  constructor
  · rintro ⟨x, h1, h2⟩
    rw [← of_decide_eq_true h2]; exact h1
  · exact fun h => ⟨k, h, decide_eq_true rfl⟩
def addK (l : List Key) (k : Key) : List Key := if hasK l k = true then l else l ++ [k]
def fstK (ks : List Key) : List Key := ks.foldl addK []
theorem fstK_snoc (ks : List Key) (k : Key) : fstK (ks ++ [k]) = addK (fstK ks) k := by unfold fstK; rw [List.foldl_append]; rfl
theorem addK_has {l : List Key} {k k' : Key} : hasK (addK l k) k' = (hasK l k' || decide (k' = k)) := by
  unfold addK
  split
  · rename_i h
    by_cases e : k' = k
    · subst e; rw [h]; rfl
    · simp [e]
  · unfold hasK
    rw [List.any_append]
    congr 1
    by_cases e : k' = k
    · subst e; simp
    · simp [e]; exact fun z => e z.symm
theorem addK_len {l : List Key} {k : Key} : (addK l k).length = if hasK l k = true then l.length else l.length + 1 := by
  unfold addK; split <;> simp
theorem foldK_le : ∀ (ks l : List Key), (ks.foldl addK l).length ≤ l.length + ks.length
  | [], l => Nat.le_refl _
  | k :: ks, l => by
    rw [List.foldl_cons]
    have h1 := foldK_le ks (addK l k)
    have h2 := addK_len (l := l) (k := k)
    rw [List.length_cons]
    split at h2 <;> omega
theorem fstK_le (ks : List Key) : (fstK ks).length ≤ ks.length := by
  have := foldK_le ks []
  simpa [fstK] using this
theorem setOf_to {prog : Program} {w : World} {K : Type} [DecidableEq K] {knd : KeyKind prog w K} {h : Heap} {a : Addr} {S S' : K → Bool} {n n' : Nat} (hS : h.SetOf knd a S n) (e : ∀ k, S k = S' k) (en : n = n') : h.SetOf knd a S' n' := by
  have : S = S' := funext e
  subst this; subst en; exact hS
section
variable {prog : Program} {w : World} {A : Around} {R : Result → Shared → Prop} {I : Addr} {fp wr : List Addr} {G : Array GenState → Array GenState → Prop} {n : Nat} {P : Nat → Value → Prop} {St : Nat → Shared → Prop}
theorem loopK (W : WalksS prog w A.in1 I fp wr G n P St) (S : Addr) (hSf : S ∉ fp) (ks : List Key) (hsz : ks.length = n) (hb : n + 1 < scanBound)
    (hval : ∀ i v, P i v → ∃ k, ks[i]? = some k ∧ (mixKind prog w).is k v = true ∧ v.scannable = true) :
    ∀ (k i : Nat) (s : Shared), n - i = k → i ≤ n → St i s →
      s.heap.SetOf (mixKind prog w) S (fun k' => hasK (fstK (ks.take i)) k') (fstK (ks.take i)).length →
      (∀ s', Moved (S :: wr) G s s' → s'.heap.SetOf (mixKind prog w) S (fun k' => hasK (fstK (ks.take n)) k') (fstK (ks.take n)).length → R (.ok (.ret .none)) s') →
      codeAny (model prog w) A (.builtin "set.update.loop" ⟨[.ref S, .ref I], []⟩) R s := by
  have hSw : S ∉ wr := fun h => hSf (W.sub _ h)
  have hsub : ∀ b ∈ wr, b ∈ S :: wr := fun b hb => List.mem_cons_of_mem _ hb
  intro k
  induction k with
  | zero =>
    intro i s hk hi hst hS hR
    have hin : i = n := by omega
    subst hin
    refine codeAny_builtin PyProof.Rows.F.entry_set_update_loop ?_
    rw [Around.under_plainId PyProof.Rows.F.plain_set_update_loop _]
    show wpAny _ A.in1 (pyNext (.ref I) >>= _) _ _ s
    refine wpAny_bind (W.done s _ _ hst fun s' hm => ?_)
    show wpAny _ A.in1 (ret Value.none) _ _ s'
    exact wpAny_pure (hR s' (hm.mono hsub) (by
      obtain ⟨o, es, ep, t, ho, rest⟩ := hS
      exact ⟨o, es, ep, t, hm.heap S _ hSw ho, rest⟩))
  | succ k ih =>
    intro i s hk hi hst hS hR
    have hlt : i < n := by omega
    refine codeAny_builtin PyProof.Rows.F.entry_set_update_loop ?_
    rw [Around.under_plainId PyProof.Rows.F.plain_set_update_loop _]
    show wpAny _ A.in1 (pyNext (.ref I) >>= _) _ _ s
    refine wpAny_bind (W.item i s _ _ hlt hst fun v s' hP hst' hm => ?_)
    obtain ⟨ky, hky, his, hsc⟩ := hval i v hP
    have hS' : s'.heap.SetOf (mixKind prog w) S (fun k' => hasK (fstK (ks.take i)) k') (fstK (ks.take i)).length := by
      obtain ⟨o, es, ep, tb, ho, rest⟩ := hS
      exact ⟨o, es, ep, tb, hm.heap S _ hSw ho, rest⟩
    show wpAny _ A.in1 (holding [v] (setAdd S v) >>= _) _ _ s'
    refine wpAny_bind (wpAny_holding ?_)
    unfold setAdd
    refine wpAny_holding ?_
    refine wpAny_bind ((mixKind prog w).pyHash (k := ky) his ?_)
    have hle : (fstK (ks.take i)).length ≤ i := by
      have := fstK_le (ks.take i)
      rw [List.length_take] at this; omega
    refine wpAny_setAddHashed_of (knd := mixKind prog w) (s := { s' with toks := s'.toks + 1 }) his hsc hS' (by omega) fun h' hsb hS2 => ?_
    have htk : ks.take (i + 1) = ks.take i ++ [ky] := by
      rw [List.take_succ, hky]; rfl
    have hSi : h'.SetOf (mixKind prog w) S (fun k' => hasK (fstK (ks.take (i + 1))) k') (fstK (ks.take (i + 1))).length := by
      refine setOf_to hS2 (fun k' => ?_) ?_
      · rw [htk, fstK_snoc, addK_has]
      · rw [htk, fstK_snoc, addK_len]
    refine wpAny_pure ⟨plainId_quiet PyProof.Rows.F.plain_set_update_loop _, ih (i + 1) _ (by omega) hlt (W.frame _ s' _ _ hst' (Nat.le_succ _) fun b hb o e => ?_) hSi fun s'' hm'' hS'' => ?_⟩
    · rw [hsb.2 b (fun h : b = S => hSf (by rw [← h]; exact hb))]; exact e
    · refine hR s'' (Moved.trans W.gtrans ((hm.mono hsub).then_heap (Nat.le_succ _) fun b o hb e => ?_) hm'') hS''
      rw [hsb.2 b (fun h : b = S => hb (by rw [h]; exact List.mem_cons_self))]; exact e
end
section
variable {prog : Program} {w : World} {A : Around} {E : Value → Shared → Prop} {s : Shared}
set_option maxHeartbeats 3200000 in
theorem call_set_listK {l : Addr} {items : Array Value} {ks : List Key} {Q : Value → Shared → Prop}
    (hh : A.handled = none) (hl : s.heap.IsList l items) (hlen : ks.length = items.size) (hval : ∀ (i : Nat) (v : Value), items[i]? = some v → ∃ k, ks[i]? = some k ∧ (mixKind prog w).is k v = true ∧ v.scannable = true) (hb : items.size + 1 < scanBound)
    (h : ∀ (h' : Heap) (tk : Nat), h'.SetOf (mixKind prog w) s.heap.objs.size (fun k' => hasK (fstK (ks.take items.size)) k') (fstK (ks.take items.size)).length →
      (∀ b o, b < s.heap.objs.size → s.heap.get? b = some o → h'.get? b = some o) → Q (.ref s.heap.objs.size) { s with heap := h', toks := tk }) :
    wpAny (model prog w) A (call (.type "set") [.ref l]) Q E s := by
  obtain ⟨c, tl, hmro⟩ := PySem.F.called_set.mro
  have hmade := PySem.F.called_set.made
  have hsub := PySem.F.called_set.sub
  refine wpAny_call (codeAny_of_tree ?_)
  show wpAny _ _ (callAny (.type "set") _) _ _ _
  refine wpAny_pure ⟨Code.quiet_builtin _ (by decide +kernel), codeAny_builtin PySem.F.entry_type_call ?_⟩
  rw [Around.under_plain (weight_type_call_type "set" [.ref l] []) rfl]
  have h1 := PySem.F.called_set.notType
  have h2 := PySem.F.called_set.canCreate
  have hct := PySem.F.typeCall_set_1 (.ref l)
  repeat (any_goals (first | assumption | wp_step))

  refine codeAny_mono (code_set_new_1 (.ref l) (E := E) (Q₁ := fun obj s₁ => ∃ led : Bool, obj = .ref s.heap.objs.size ∧ s₁ = { s with heap := s.heap.push { cls := .type "set", dict := none, data := .set #[] 0 (.fresh 0 0 led) } }) fun led => ⟨led, rfl, rfl⟩) fun r s₁ hr => ?_
  cases r with
  | error e => exact hr
  | ok fl =>
    cases fl with
    | ret obj =>
      obtain ⟨led, rfl, rfl⟩ := hr
      have hS : (s.heap.push { cls := .type "set", dict := none, data := .set #[] 0 (.fresh 0 0 led) }).get? s.heap.objs.size = some { cls := .type "set", dict := none, data := .set #[] 0 (.fresh 0 0 led) } := Heap.get?_push_size _ rfl
      have hT : Shared.TypeIs { s with heap := s.heap.push { cls := .type "set", dict := none, data := .set #[] 0 (.fresh 0 0 led) } } (.ref s.heap.objs.size) "set" := ⟨_, hS, rfl⟩
      have hli := PySem.F.called_set.init.lookup
      have hbi := PySem.F.called_set.init.bind (.ref s.heap.objs.size)
      repeat (any_goals (first | assumption | wp_step))

      refine codeAny_mono (codeAny_call_builtin (R := wants (fun r s₂ => r = .none ∧ ∃ h' tk, s₂ = { s with heap := h', toks := tk } ∧
          h'.SetOf (mixKind prog w) s.heap.objs.size (fun k' => hasK (fstK (ks.take items.size)) k') (fstK (ks.take items.size)).length ∧
          (∀ b o, b < s.heap.objs.size → s.heap.get? b = some o → h'.get? b = some o)) E) PySem.F.called_set.init.plain PySem.F.entry_set_init (check_set_init_1 hT ?_)) fun r₂ s₂ hr₂ => ?_
      · obtain ⟨ol, hol, hcl, nl, hdl⟩ := hl
        obtain ⟨ocls, odict, odata, oslots⟩ := ol
        simp only at hcl hdl
        subst hcl; subst hdl
        have hol' : (s.heap.push { cls := .type "set", dict := none, data := .set #[] 0 (.fresh 0 0 led) }).get? l = some { cls := .type "list", dict := odict, data := .seq items nl, slots := oslots } := Heap.get?_push_of_some _ hol
        have hsls := PySem.F.sub_list_set
        have hslf := PySem.F.sub_list_frozenset
        have hne : (Value.type "list" == Value.type "dict") = false := by decide
        have hl1 : (s.heap.push { cls := .type "set", dict := none, data := .set #[] 0 (.fresh 0 0 led) }).IsList l items := ⟨_, hol', rfl, nl, rfl⟩
        unfold Builtin.«set.__init__» noKeywords Builtin.Frozenset.updateFrom
        generalize hPI : pyIter = PI
        wp_walk
        subst hPI

        refine wpAny_pyIter_list hl1 ?_
        refine wpAny_bind (wpAny_runValue ?_)
        have hlS : l < s.heap.objs.size := Heap.lt_size hol
        have hh3 : A.in1.in1.in1.handled = none := by simp [hh]
        have hneI : l ≠ (s.heap.push { cls := .type "set", dict := none, data := .set #[] 0 (.fresh 0 0 led) }).objs.size := by
          rw [Heap.size_push]; exact Nat.ne_of_lt (Nat.lt_succ_of_lt hlS)
        have hSf : s.heap.objs.size ∉ [(s.heap.push { cls := .type "set", dict := none, data := .set #[] 0 (.fresh 0 0 led) }).objs.size, l] := by
          rw [Heap.size_push]; simp only [List.mem_cons, List.mem_singleton, List.not_mem_nil, or_false, not_or]
          exact ⟨Nat.ne_of_lt (Nat.lt_succ_self _), Nat.ne_of_gt hlS⟩
        refine loopK ((Walks.list hh3 _ l hneI items).toS) s.heap.objs.size
          hSf ks hlen hb hval (items.size - 0) 0 _ (by omega) (Nat.zero_le _)
          ⟨⟨_, Heap.get?_push_size _ rfl, rfl, rfl⟩, (hl1.push _)⟩ ?hS0 ?hR
        case hS0 =>
          have hget : ((s.heap.push { cls := .type "set", dict := none, data := .set #[] 0 (.fresh 0 0 led) }).push { cls := .type "list_iterator", data := .fields #[.ref l, .int 0 0] }).get? s.heap.objs.size
              = some { cls := .type "set", dict := none, data := .set #[] 0 (.fresh 0 0 led) } := Heap.get?_push_of_some _ hS
          refine setOf_to (S := fun _ => false) (n := 0) ⟨_, #[], 0, _, hget, ⟨rfl, rfl, rfl⟩, rfl, (fun e he => by simp at he), (fun k => by simp), (by decide), (by rfl), rfl⟩ (fun k => by simp [fstK, hasK]) (by simp [fstK])
        case hR =>
          intro s' hm hS'
          obtain ⟨h', g', d', tk', os'⟩ := s'
          have eg : g' = s.gens := hm.gens
          have ed : d' = s.drawn := hm.drawn
          have eo : os' = s.os := hm.os
          subst eg; subst ed; subst eo
          show wpAny _ _ _ _ _ _
          refine wpAny_pure ?_
          show wpAny _ _ (ret Value.none) _ _ _
          refine wpAny_pure ⟨rfl, h', tk', rfl, hS', fun b o hb e => ?_⟩
          have hb1 : b ≠ s.heap.objs.size := Nat.ne_of_lt hb
          have hb2 : b ≠ (s.heap.push { cls := .type "set", dict := none, data := .set #[] 0 (.fresh 0 0 led) }).objs.size := by
            rw [Heap.size_push]; exact Nat.ne_of_lt (Nat.lt_succ_of_lt hb)
          exact hm.heap b o (by simp only [List.mem_cons, List.mem_singleton, List.not_mem_nil, or_false, not_or]; exact ⟨hb1, hb2⟩) (Heap.get?_push_of_some _ (Heap.get?_push_of_some _ e))

      · cases r₂ with
        | error e => exact hr₂
        | ok fl₂ =>
          cases fl₂ with
          | ret r =>
            obtain ⟨rfl, h', tk, rfl, hS', hk'⟩ := hr₂
            repeat (any_goals (first | assumption | wp_step))
            exact h _ _ hS' hk'
          | _ => exact hr₂.elim
    | _ => exact hr.elim

end
end M3

set_option Elab.async false
set_option linter.all false
set_option autoImplicit false
set_option maxRecDepth 100000
set_option maxHeartbeats 2000000
/-! M3u: len(set(..)), isinstance, raise, what is not reached, displays with a star. -/
namespace M3
open PySem L2 PySem.Spec PyProof.Rows
theorem vals_keys {P : Program} {w : World} : ∀ {ks : List Key} {us : List Value}, Vals (ks.map kV) us → ∀ (i : Nat) (v : Value), us[i]? = some v → ∃ k, ks[i]? = some k ∧ (mixKind P w).is k v = true ∧ v.scannable = true
  | [], _, .nil, i, v, h => by simp at h
  | k :: ks, u :: us, .cons r t, 0, v, h => by
    simp at h; subst h
    exact ⟨k, rfl, kV_is r, key_scan r⟩
  | k :: ks, u :: us, .cons r t, i + 1, v, h => by
    obtain ⟨k', h1, h2⟩ := vals_keys (P := P) (w := w) t i v (by simpa using h)
    exact ⟨k', by simpa using h1, h2⟩
section
variable {X : Cx} {E : WX} {a e : Expr} {es : List Expr} {fa : ME} {fs : MA} {p p2 q pos : Pos} {ta : TE}
theorem pe_lenSetK (hc : X.calm = true) (hg : Gl X "len") (hm : X.mg "len" = none) (hg2 : Gl X "set") (hm2 : X.mg "set" = none) (ha : PE X a ta)
    (na : starEach [a] X.env = (false, eval a X.env) :: starEach [] X.env := by rfl) : PE X (.Call (.Name "len" p) [.Call (.Name "set" p2) [a] [] q] [] pos) (fun σ H Q => ta σ H fun x H1 => ∃ l, ∃ ks : List Key, x = .ref l ∧ SqL X.K H1 l (ks.map kV) ∧ ks.length < 1000 ∧ Q (.int (fstK ks).length) H1) := by
  refine ⟨fun pins s σ H Q I h => ?_⟩
  refine Call_ (ld_blt I hg hm boot_len ?_)
  refine PyProof.Rows.callWith_builtin1 (PyProof.Rows.args_cons ?_ rfl) rfl rfl
  refine Call_ (ld_blt I hg2 hm2 boot_set ?_)
  refine PyProof.Rows.callWith_type1 (PyProof.Rows.args_cons (thn (ha.run pins s σ H _ I h) fun v s1 ⟨x, H1, I1, r1, q1⟩ => PyProof.Rows.args_nil ?_) na) na rfl
  obtain ⟨l, ks, rfl, hq, h1, q1⟩ := q1
  cases r1
  obtain ⟨its, r, pl, hz⟩ := I1.list hq
  have hl : ks.length = its.toArray.size := by rw [List.size_toArray, ← r.length, List.length_map]
  refine call_set_listK (ks := ks) (I1.ok.hd hc) pl.isList hl (fun i v hv => vals_keys r i v (by simpa using hv)) (by rw [← hl]; unfold scanBound; omega) fun h' tk hS hk => ?_
  refine PyProof.Rows.args_nil ?_
  rw [← hl, List.take_length] at hS
  have hle := fstK_le ks
  obtain ⟨o, es, ep, t, ho, hex, hd, _, _, _, hf, hn⟩ := hS
  have I2 : Inv X pins σ H1 { s1 with heap := h', toks := tk } := I1.kept fun b o e => hk b o (Heap.lt_size e) e
  exact call_len_set ho hex hd hf (by rw [hn]; omega) ⟨.int (fstK ks).length, H1, I2.tok _, ⟨_, by rw [hn]⟩, q1⟩
def gLenSet : Sl → Mm → Ar → Rs Ar := fun ρ m x => match (lstOf ρ m x).bind keyDs with
  | some ks => if ks.length < 1000 then .ok (.v (.int (fstK ks).length)) m else .no
  | none => .no
theorem x_lenSet (hc : X.calm = true) (hg : Gl X "len") (hm : X.mg "len" = none) (hg2 : Gl X "set") (hm2 : X.mg "set" = none) (ha : PX X E a fa)
    (na : starEach [a] X.env = (false, eval a X.env) :: starEach [] X.env := by rfl) : PX X E (.Call (.Name "len" p) [.Call (.Name "set" p2) [a] [] q] [] pos) (mUn gLenSet fa) :=
  PEi (pe_lenSetK hc hg hm hg2 hm2 ha na) fun σ H Q h => un_want (r := fun v H Q => ∃ l, ∃ ks : List Key, v = .ref l ∧ SqL X.K H l (ks.map kV) ∧ ks.length < 1000 ∧ Q (.int (fstK ks).length) H) (fun b ρ m σ H T G μ v x Q s r w => by
    unfold gLenSet at w
    split at w
    · rename_i ks e
      obtain ⟨ds, h1, h2⟩ := Option.bind_eq_some_iff.mp e
      obtain ⟨a, vs, rfl, ha, ra⟩ := lst_at s r h1
      rw [keyDs_rep ra h2] at ha
      split at w
      · rename_i z
        exact ⟨a, ks, rfl, SqL.of ha, z, Want.s w s rfl⟩
      · exact w.elim
    · exact w.elim) h

/-! ### what is not reached -/
def mNo : ME := fun _ _ => .no
def mNoS : MS := fun _ _ => .no
theorem x_no : PX X E e mNo := ⟨fun pins s σ H Q I ⟨b, ρ, m, T, S, w⟩ => w.elim⟩
theorem s_no {st : Stmt} : PSx X E st mNoS := ⟨fun pins s σ H D I ⟨b, ρ, m, T, S, w⟩ => w.elim⟩
theorem ss_no {st : List Stmt} : PSsx X E st mNoS := ⟨fun pins s σ H D I ⟨b, ρ, m, T, S, w⟩ => w.elim⟩

/-! ### isinstance -/
def tyD : Dv → Option String
  | .non => some "NoneType"
  | .bl _ => some "bool"
  | .int _ => some "int"
  | .str _ => some "str"
  | .lst _ => some "list"
  | .scr _ => some "list"
  | .tup _ => some "tuple"
  | .ktp _ => some "tuple"
  | .dct _ => some "dict"
  | _ => none
def isT (a b : String) : Bool := a == b || (a == "bool" && b == "int")
def okT (b : String) : Bool := b == "NoneType" || b == "bool" || b == "int" || b == "str" || b == "list" || b == "tuple" || b == "dict"
theorem kit_isT {a b : String} (ha : okT a = true) (hb : okT b = true) : kitB a b = some (isT a b) := by
  unfold okT at ha hb
  simp only [Bool.or_eq_true, beq_iff_eq] at ha hb
  rcases ha with (((((rfl | rfl) | rfl) | rfl) | rfl) | rfl) | rfl <;> rcases hb with (((((rfl | rfl) | rfl) | rfl) | rfl) | rfl) | rfl <;> decide +kernel
theorem tyD_ok {d : Dv} {t : String} (h : tyD d = some t) : okT t = true := by
  cases d <;> simp only [tyD, reduceCtorEq, Option.some.injEq] at h <;> subst h <;> decide
theorem tyD_at {K : PySem.W.Frag} {mg : Str → Option Value} {μ : List Addr} {G H : Hp} {d : Dv} {v : V} {t : String} (st : Stands G H) (r : Rep K mg μ G d v) (e : tyD d = some t) : TyX K H v (.type t) := by
  have hL : ∀ {a : Addr} {xs : List V}, SqL K H a xs → TyX K H (.ref a) (.type "list") := fun {a xs} h => by
    rcases h with (h | ⟨o, h⟩) | ⟨o, its, n, h, hc, _⟩
    · exact .base (.lst h)
    · exact .base (.frz h)
    · exact .kList h hc
  have hT : ∀ {a : Addr} {xs : List V}, SqT K H a xs → TyX K H (.ref a) (.type "tuple") := fun {a xs} h => by
    rcases h with (h | ⟨o, h⟩) | ⟨o, its, n, h, hc, _⟩
    · exact .base (.tup h)
    · exact .fTuple h
    · exact .kTuple h hc
  cases r <;> simp only [tyD, reduceCtorEq, Option.some.injEq] at e <;> subst e
  case non => exact .base .non
  case bl => exact .base (.bl _)
  case int => exact .base (.int _)
  case str => exact .base (.str _)
  case lst h z r => exact hL (SqL.of (st.l h))
  case scr h => exact hL (st.lst h)
  case tup h z r => exact hT (SqT.of (st.t h))
  case ktp h r => exact hT (st.tup h)
  case dct h z r =>
    rcases st.rdD h with h | ⟨o, h⟩
    · exact .base (.dK h)
    · exact .fDict h
def tysD : List Dv → Option (List String)
  | [] => some []
  | .ty n :: r => if okT n = true then (tysD r).map (n :: ·) else none
  | _ :: _ => none
def gIsi : Sl → Mm → List Dv → Rs Ar := fun _ m ds => match ds with
  | [x, .ty n] => match tyD x with
    | some t => if okT n = true then .ok (.v (.bl (isT t n))) m else .no
    | none => .no
  | [x, .tup cs] => match tyD x, tysD cs with
    | some t, some ns => .ok (.v (.bl (ns.any (isT t)))) m
    | _, _ => .no
  | _ => .no
def rIsiU (K : PySem.W.Frag) : List V → Hp → VK → Prop := fun xs H Q => rIsi K xs H Q ∨ rIsiT K xs H Q
theorem call_isiU : CallR X (.builtin "isinstance") (rIsiU X.K) := CallR.or call_isi call_isiT
theorem tys_rep {K : PySem.W.Frag} {mg : Str → Option Value} {μ : List Addr} {G : Hp} {t : String} (ht : okT t = true) : ∀ {cs : List Dv} {vs : List V} {ns : List String}, RepL K mg μ G cs vs → tysD cs = some ns → Paired ClsV vs (ns.map Value.type) ∧ PySem.W.kitAny K (.type t) (ns.map Value.type) = some (ns.any (isT t))
  | [], _, ns, .nil, e => by simp [tysD] at e; subst e; exact ⟨.nil, kitAny_nil⟩
  | d :: ds, _, ns, .cons a b, e => by
    cases d <;> simp only [tysD, reduceCtorEq] at e
    split at e
    · rename_i hn
      rw [Option.map_eq_some_iff] at e
      obtain ⟨r, h1, rfl⟩ := e
      obtain ⟨q1, q2⟩ := tys_rep ht b h1
      cases a
      refine ⟨.cons (.ty _) q1, ?_⟩
      refine kitAny_cons (kit_ty (kit_isT ht hn)) (fun hb => ?_) (fun hb => ?_)
      · rw [List.any_cons, hb]; exact q2
      · rw [List.any_cons, hb]; rfl
    · cases e
theorem callS_isi {K : PySem.W.Frag} {mg : Str → Option Value} : CallS K mg E (rIsiU K) gIsi := fun b ρ m σ H T G μ vs ds Q s r w => by
  unfold gIsi at w
  split at w
  · split at w
    · rename_i ht
      split at w
      · rename_i hn
        cases r with
        | cons a b =>
          cases b with
          | cons b c =>
            cases b; cases c
            exact .inl ⟨_, _, _, _, _, rfl, .ty _, tyD_at s.mem.st a ht, kit_ty (kit_isT (tyD_ok ht) hn), Want.s w s rfl⟩
      · exact w.elim
    · exact w.elim
  · split at w
    · rename_i x cs t ns ht hns
      cases r with
      | cons a b =>
        cases b with
        | cons b c =>
          cases c
          cases b with
          | tup h z rr =>
            obtain ⟨q1, q2⟩ := tys_rep (tyD_ok ht) rr hns
            exact .inr ⟨_, _, _, .type t, _, _, rfl, s.mem.st.t h, q1, tyD_at s.mem.st a ht, q2, Want.s w s rfl⟩
    · exact w.elim
  · exact w.elim
/-- the name of a type -/
theorem x_ty {x : Str} {n : String} (hg : Gl X x) (hm : X.mg x = none) (hv : bootBuiltins x = some (.type n)) (hn : x ≠ "__name__" := by decide) (hd : (x == ("__debug__" : Str)) = false := by decide) : PX X E (.Name x pos) (mC (.ty n)) :=
  PEi (pe_bltn (v := .ty n) hg hm hv rfl hn hd) fun σ H Q ⟨b, ρ, m, T, ⟨G, μ, s⟩, w⟩ => Want.s w s rfl
end
end M3

set_option Elab.async false
set_option linter.all false
set_option autoImplicit false
set_option maxRecDepth 100000
set_option maxHeartbeats 2000000
/-! M3v: what is known of a module's names, told apart from a context; the rules by it. -/
namespace M3
open PySem L2 PySem.Spec PyProof.Rows
structure Sg where
  P : Program
  w : World
  K : PySem.W.Frag
  mg : Str → Option Value
  base : Heap
abbrev sg (X : Cx) : Sg := ⟨X.prog, X.w, X.K, X.mg, X.base⟩
/-- a def, called with n values and the keywords ks -/
def Gc (S : Sg) (v : Value) (n : Nat) (ks : List Str) (k : Nat) (F : MF) : Prop :=
  ∃ f, v = .ref f ∧ PySem.W.keepIn S.K (.ref f) = true ∧ ((∃ fd ps g gV F0, Fn3 S.P S.w S.K S.mg S.base k f fd ps F0 ∧ KBn S.K fd ps n ks g gV ∧ ReArg S.K S.mg ps.length (n + ks.length) F F0 fun l => gV (l.take n) (l.drop n)) ∨
    (ks = [] ∧ FnR S.P S.w S.K S.mg S.base (L2.CX S.P S.w) k f (sp3 n S.K S.mg F)))
def Gm (S : Sg) (C : Addr) (n : Nat) (ks : List Str) (k : Nat) (F : MF) : Prop :=
  ∃ f fd ps g gV F0, Mk S.K C f ∧ Fn3 S.P S.w S.K S.mg S.base k f fd ps F0 ∧ KBn S.K fd ps (n + 1) ks g gV ∧ ReArg S.K S.mg ps.length (n + ks.length + 1) F F0 fun l => gV (l.take (n + 1)) (l.drop (n + 1))
def GF (S : Sg) (x : Str) (n : Nat) (ks : List Str) (k : Nat) (F : MF) : Prop := ∃ v, S.mg x = some v ∧ Gc S v n ks k F
def GM (S : Sg) (cn mn : Str) (n : Nat) (ks : List Str) (k : Nat) (F : MF) : Prop := ∃ C f, S.mg cn = some (.ref C) ∧ Cls S.K C ∧ Meth S.K C mn f ∧ Gc S (.ref f) (n + 1) ks k F
def GS (S : Sg) (cn mn : Str) (n : Nat) (ks : List Str) (k : Nat) (F : MF) : Prop := ∃ C mc q f, S.mg cn = some (.ref C) ∧ SMet S.K C mc mn q f ∧ Gc S (.ref f) n ks k F
def GN (S : Sg) (cn : Str) (n : Nat) (ks : List Str) (k : Nat) (F : MF) : Prop := ∃ C, S.mg cn = some (.ref C) ∧ Gm S C n ks k F
def GA (S : Sg) (cn f : Str) : Prop := ∃ C, S.mg cn = some (.ref C) ∧ Cls S.K C ∧ NoAttr S.K C f
def GP (S : Sg) (cn pf : Str) (k : Nat) (F : MF) : Prop := ∃ C pr g, S.mg cn = some (.ref C) ∧ Cls S.K C ∧ PropOf S.K C pf pr g ∧ Def3n S.P S.w S.K S.mg S.base k g 1 F
def GK (S : Sg) (x : Str) (d : Dv) : Prop := ∃ u v, S.mg x = some u ∧ RelV v u ∧ ∀ μ G, Rep S.K S.mg μ G d v
section
variable {X : Cx} {E : WX} {v : Value} {n k k' : Nat} {ks : List Str} {F : MF} {C : Addr}
theorem Gc.mono {S : Sg} (G : Gc S v n ks k F) (h : k ≤ k') : Gc S v n ks k' F := by
  obtain ⟨f, rfl, hk, q⟩ := G
  rcases q with ⟨fd, ps, g, gV, F0, ok, hb, re⟩ | ⟨rfl, ok⟩
  · exact ⟨f, rfl, hk, .inl ⟨fd, ps, g, gV, F0, FnOk.mono ok h, hb, re⟩⟩
  · exact ⟨f, rfl, hk, .inr ⟨rfl, FnR.mono ok h⟩⟩
theorem Gc.call (G : Gc (sg X) v n ks k F) (hr : Room k X.A) (tk : Takes X E) : CallV X E v n ks F := by
  obtain ⟨f, rfl, hk, q⟩ := G
  rcases q with ⟨fd, ps, g, gV, F0, ok, hb, re⟩ | ⟨rfl, ok⟩
  · exact callV_of ok hk hr tk hb re
  · exact callV_R ok hk hr tk
theorem Gm.call (G : Gm (sg X) C n ks k F) (hr : Room (k + 1) X.A) (tk : Takes X E) : CallM X E C n ks F := by
  obtain ⟨f, fd, ps, g, gV, F0, M, ok, hb, re⟩ := G
  exact callM_of M ok hr tk hb re
end
section
variable {X : Cx} {E : WX} {x cn mn : Str} {o e : Expr} {args es : List Expr} {kws : List Keyword} {fo : ME} {fs fk : MA} {pos p apos : Pos} {n k : Nat} {ks : List Str} {F : MF} {d : Dv}
theorem y_fn (G : GF (sg X) x n [] k F) (hr : Room k X.A) (tk : Takes X E) (hg : Gl X x) (ha : PXs X E args fs) (A : ArgsOk pos args [] [] X.env) (hn : args = [] → fs = mNil) (hdb : (x == ("__debug__" : Str)) = false := by decide) : PX X E (.Call (.Name x p) args [] pos) (mCall n F fs) :=
  let ⟨_, hm, g⟩ := G
  x_callP (g.call hr tk) hm hg ha A hn hdb
theorem y_fnK (G : GF (sg X) x n ks k F) (hr : Room k X.A) (tk : Takes X E) (hg : Gl X x) (ha : PXs X E args fs) (hk : PKs X E kws fk) (A : ArgsOk pos args kws ks X.env) (hn : args = [] → fs = mNil) (hdb : (x == ("__debug__" : Str)) = false := by decide) : PX X E (.Call (.Name x p) args kws pos) (mCall (n + ks.length) F (mArgs n ks.length fs fk)) :=
  let ⟨_, hm, g⟩ := G
  x_callK (g.call hr tk) hm hg ha hk A hn hdb
theorem y_me {pl : Sem Bool} (G : GM (sg X) cn mn n [] k F) (hr : Room k X.A) (tk : Takes X E) (ho : PX X E o fo) (ha : PXs X E args fs) (A : ArgsOk pos args [] [] X.env) (hn : args = [] → fs = mNil)
    (ht : eval (.Call (.Attribute o mn apos) args [] pos) X.env = (do
      let ov ← eval o X.env
      standAt apos.atName
      let (f, first) ← holding [ov] (getMethod ov mn pl)
      callWith pos f first (backTo pos (starEach args X.env)) (backToKw pos (keywordEach [] X.env))) := by rfl) : PX X E (.Call (.Attribute o mn apos) args [] pos) (mMeth cn mn (n + 1) F fo fs) :=
  let ⟨_, _, hC, c, hm, g⟩ := G
  x_methP hC c hm (g.call hr tk) ho ha A hn ht
theorem y_meK {pl : Sem Bool} (G : GM (sg X) cn mn n ks k F) (hr : Room k X.A) (tk : Takes X E) (ho : PX X E o fo) (ha : PXs X E args fs) (hk : PKs X E kws fk) (A : ArgsOk pos args kws ks X.env) (hn : args = [] → fs = mNil)
    (ht : eval (.Call (.Attribute o mn apos) args kws pos) X.env = (do
      let ov ← eval o X.env
      standAt apos.atName
      let (f, first) ← holding [ov] (getMethod ov mn pl)
      callWith pos f first (backTo pos (starEach args X.env)) (backToKw pos (keywordEach kws X.env))) := by rfl) : PX X E (.Call (.Attribute o mn apos) args kws pos) (mMeth cn mn (n + ks.length + 1) F fo (mArgs n ks.length fs fk)) :=
  let ⟨_, _, hC, c, hm, g⟩ := G
  x_methK hC c hm (g.call hr tk) ho ha hk A hn ht
theorem y_st {pl : Sem Bool} (G : GS (sg X) cn mn n [] k F) (hr : Room k X.A) (tk : Takes X E) (hg : Gl X cn) (ha : PXs X E args fs) (A : ArgsOk pos args [] [] X.env) (hn : args = [] → fs = mNil) (hdb : (cn == ("__debug__" : Str)) = false := by decide)
    (ht : eval (.Call (.Attribute (.Name cn p) mn apos) args [] pos) X.env = (do
      let ov ← eval (.Name cn p) X.env
      standAt apos.atName
      let (f, first) ← holding [ov] (getMethod ov mn pl)
      callWith pos f first (backTo pos (starEach args X.env)) (backToKw pos (keywordEach [] X.env))) := by rfl) : PX X E (.Call (.Attribute (.Name cn p) mn apos) args [] pos) (mCall n F fs) :=
  let ⟨_, _, _, _, hC, M, g⟩ := G
  x_statP hC hg M (g.call hr tk) ha A hn hdb ht
theorem y_stK {pl : Sem Bool} (G : GS (sg X) cn mn n ks k F) (hr : Room k X.A) (tk : Takes X E) (hg : Gl X cn) (ha : PXs X E args fs) (hk : PKs X E kws fk) (A : ArgsOk pos args kws ks X.env) (hn : args = [] → fs = mNil) (hdb : (cn == ("__debug__" : Str)) = false := by decide)
    (ht : eval (.Call (.Attribute (.Name cn p) mn apos) args kws pos) X.env = (do
      let ov ← eval (.Name cn p) X.env
      standAt apos.atName
      let (f, first) ← holding [ov] (getMethod ov mn pl)
      callWith pos f first (backTo pos (starEach args X.env)) (backToKw pos (keywordEach kws X.env))) := by rfl) : PX X E (.Call (.Attribute (.Name cn p) mn apos) args kws pos) (mCall (n + ks.length) F (mArgs n ks.length fs fk)) :=
  let ⟨_, _, _, _, hC, M, g⟩ := G
  x_statK hC hg M (g.call hr tk) ha hk A hn hdb ht
theorem y_mk (G : GN (sg X) x n [] k F) (hr : Room (k + 1) X.A) (tk : Takes X E) (hg : Gl X x) (ha : PXs X E args fs) (A : ArgsOk pos args [] [] X.env) (hn : args = [] → fs = mNil) (hdb : (x == ("__debug__" : Str)) = false := by decide) : PN X E (.Call (.Name x p) args [] pos) (mMake x (n + 1) F fs) :=
  let ⟨_, hC, g⟩ := G
  n_makeP hC hg (g.call hr tk) ha A hn hdb
theorem y_mkK (G : GN (sg X) x n ks k F) (hr : Room (k + 1) X.A) (tk : Takes X E) (hg : Gl X x) (ha : PXs X E args fs) (hk : PKs X E kws fk) (A : ArgsOk pos args kws ks X.env) (hn : args = [] → fs = mNil) (hdb : (x == ("__debug__" : Str)) = false := by decide) : PN X E (.Call (.Name x p) args kws pos) (mMake x (n + ks.length + 1) F (mArgs n ks.length fs fk)) :=
  let ⟨_, hC, g⟩ := G
  n_makeK hC hg (g.call hr tk) ha hk A hn hdb
theorem y_fld {f : Str} (G : GA (sg X) cn f) (ho : PX X E o fo) (hb : attributeBase o f X.env (eval o X.env) = eval o X.env := by rfl) : PX X E (.Attribute o f pos) (mFld cn f fo) :=
  let ⟨_, hC, c, h⟩ := G
  x_fld hC c h ho hb
theorem y_set {f : Str} {fv : ME} {pos' : Pos} (G : GA (sg X) cn f) (ho : PX X E o fo) (hv : PX X E e fv) (hs : swapsWith e (some (.Attribute o f pos')) pos.line X.env = pure false := by rfl) : PSx X E (.Assign [.Attribute o f pos'] e pos) (mStF cn f fv fo) :=
  let ⟨_, hC, c, h⟩ := G
  s_fld hC c h ho hv hs
theorem y_pr {pf : Str} (G : GP (sg X) cn pf k F) (hr : Room (k + 1) X.A) (ho : PX X E o fo) (hab : attributeBase o pf X.env (eval o X.env) = eval o X.env := by rfl) : PX X E (.Attribute o pf pos) (mProp cn F fo) :=
  let ⟨_, _, _, hC, c, hp, D⟩ := G
  x_prop hC c hp D hr ho hab
theorem y_con (G : GK (sg X) x d) (hg : Gl X x) (hd : (x == ("__debug__" : Str)) = false := by decide) : PX X E (.Name x pos) (mC d) :=
  let ⟨_, _, hm, r, h⟩ := G
  x_glob hg hm r h hd
theorem tk_blk {scope : Scope} {s : Shared} {H : Hp} {cenv : Env} {fp : List Addr} : Takes (X.blk s H scope cenv fp) EN := fun u s' ⟨_, _, _, _, _, _, _, _, _, _, _, _, _, _, _, _, w⟩ => w.elim
end
end M3

set_option Elab.async false
set_option linter.all false
set_option autoImplicit false
set_option maxRecDepth 100000
set_option maxHeartbeats 2000000
/-! M3w: words for the printed walks. -/
namespace M3
open PySem L2 PySem.Spec PyProof.Rows
def visB (sc : Scope) (x : Str) : Bool := match sc.names.lookup x with
  | some .local => true
  | some .cell => true
  | some .free => true
  | _ => false
def locB (sc : Scope) (x : Str) : Bool := match sc.names.lookup x with
  | some .local => true
  | some .cell => true
  | _ => false
def flB (sc fsc : Scope) (x : Str) : Bool := match sc.names.lookup x with
  | some .local => true
  | _ => match fsc.names.lookup x with
    | some .cell => true
    | _ => false
section
variable {X : Cx} {N : List Str} {sc fsc : Scope} (h : Nm X N sc fsc) {x : Str}
include h
theorem Nm.vis (e : visB sc x = true) : Vis X.env.scope x := by
  unfold visB at e
  split at e
  · exact h.loc (by assumption)
  · exact h.cell (by assumption)
  · exact h.free (by assumption)
  · cases e
theorem Nm.lo (e : locB sc x = true) : Loc X.env.scope x := by
  unfold locB at e
  split at e
  · exact h.locL (by assumption)
  · exact h.locC (by assumption)
  · cases e
theorem Nm.fl (e : flB sc fsc x = true) : X.fn x = true ∨ X.env.scope.names.lookup x = some .local := by
  unfold flB at e
  split at e
  · exact h.fnL (by assumption)
  · split at e
    · exact h.fnC (by assumption)
    · cases e
theorem Nm.sw {elt : Expr} {gs : List Comprehension} {scope : Scope} {pos py : Pos} {l : Nat} (hk : sc.kind = .function) (e : sc.names.lookup x = some .local) (hl : (py.line == pos.line) = true)
    (ha : (scope.names.any fun (n, k) => n == x && (k == .local || k == .cell)) = false) : swapsWith (.ListComp elt gs scope pos) (some (.Name x py)) l X.env = pure true :=
  sw_true (by rw [h.hsc]; exact hk) (h.lk e) hl ha
end
def envS (sc : Scope) : Env := { scope := sc, locals := 0, globals := 0, cells := [], qual := Str.empty, func := none, code := .none, frame := none, builtins := 0 }
theorem Nm.swp {X : Cx} {N : List Str} {sc fsc : Scope} (h : Nm X N sc fsc) {ts : List Expr} {v : Expr} {r : Sem (Option (List Str))} (e : swappedStores ts v (envS sc) = r) : swappedStores ts v X.env = r := by
  have q : swappedStores ts v X.env = swappedStores ts v (envS X.env.scope) := rfl
  rw [q, h.hsc]; exact e
/-- x, y = e1, e2 where the stores are not swapped -/
theorem s_parC {X : Cx} {E : WX} {i j : Nat} {x y : Str} {a b : Expr} {f : MC} {px py pt pos : Pos} {kt k2 pt2} (hc : X.calm = true) (hN : X.N.Nodup) (hi : X.N[i]? = some x) (hj : X.N[j]? = some y)
    (hx : Loc X.env.scope x) (hy : Loc X.env.scope y) (fx : X.fn x = true ∨ X.env.scope.names.lookup x = some .local) (fy : X.fn y = true ∨ X.env.scope.names.lookup y = some .local) (ha : PCs X E [a, b] f)
    (hw : swappedStores [.Tuple [.Name x px, .Name y py] kt pt] (.Tuple [a, b] k2 pt2) X.env = pure none)
    (hs : swapsWithSole [.Tuple [.Name x px, .Name y py] kt pt] (.Tuple [a, b] k2 pt2) pos.line X.env = pure false := by rfl) :
    PSx X E (.Assign [.Tuple [.Name x px, .Name y py] kt pt] (.Tuple [a, b] k2 pt2) pos) (mPar i j f) :=
  PSi (ps_asg (pe_tup ha) (pg_tup (n := 2) hc (pgs_cons (pg_name hN hi hx fx) (pgs_cons (pg_name hN hj hy fy) pgs_nil))) hs hw) fun D σ H ⟨b, ρ, m, T, S, w⟩ => by
    refine ⟨b, ρ, m, T, S, ?_⟩
    unfold mPar at w
    revert w
    cases f ρ m with
    | no => exact fun h => h
    | ex x m1 => exact fun w => w σ
    | ok ys m1 =>
      intro w vs H1 hl S1
      rw [Rs.st_ok] at w
      split at w
      · rename_i x y
        split at w
        · rename_i z
          match vs, hl, S1 with
          | [u, v], _, S1 =>
            have S1 : S3 (b.cf X.K X.mg) ρ m1 σ H1 ((some u, x) :: (some v, y) :: T) := S1
            refine ⟨by show 2 ≤ sizeLine; decide, fun p hp => ⟨p, [u, v], rfl, SqT.of upd_same, rfl, u, [v], rfl, v, [], rfl, rfl, w _ _ ?_⟩⟩
            obtain ⟨G, μ, s⟩ := S1
            have S2 : S3 (b.cf X.K X.mg) ρ m1 σ (upd H1 p (.tup [u, v])) ((some u, x) :: (some v, y) :: T) := ⟨G, μ, s.newU hp⟩
            have := S2.setC (i := i) (fun e => by subst e; simp [isUn] at z)
            exact this.setC (i := j) (fun e => by subst e; simp [isUn] at z)
        · exact w.elim
      · exact w.elim
theorem bt_len : bootBuiltins "len" = some (.builtin "len") := by decide +kernel
theorem bt_all : bootBuiltins "all" = some (.builtin "all") := by decide +kernel
theorem bt_any : bootBuiltins "any" = some (.builtin "any") := by decide +kernel
theorem bt_sum : bootBuiltins "sum" = some (.builtin "sum") := by decide +kernel
theorem bt_max : bootBuiltins "max" = some (.builtin "max") := by decide +kernel
theorem bt_min : bootBuiltins "min" = some (.builtin "min") := by decide +kernel
theorem bt_sorted : bootBuiltins "sorted" = some (.builtin "sorted") := by decide +kernel
theorem bt_isinstance : bootBuiltins "isinstance" = some (.builtin "isinstance") := by decide +kernel
theorem bt_int : bootBuiltins "int" = some (.type "int") := by decide +kernel
theorem bt_str : bootBuiltins "str" = some (.type "str") := by decide +kernel
theorem bt_bool : bootBuiltins "bool" = some (.type "bool") := by decide +kernel
theorem bt_list : bootBuiltins "list" = some (.type "list") := by decide +kernel
theorem bt_tuple : bootBuiltins "tuple" = some (.type "tuple") := by decide +kernel
theorem bt_dict : bootBuiltins "dict" = some (.type "dict") := by decide +kernel
theorem hu64_of {A : Around} {k : Nat} (hr : Room k A) : A.units + 64 < cLine := by have := hr.un; omega
theorem hu65_of {A : Around} {k : Nat} (hr : Room k A) : A.units + 65 < cLine := by have := hr.un; omega
theorem hu1_of {A : Around} {k : Nat} (hr : Room k A) : A.units + 1 < cLine := by have := hr.un; omega
section
variable {P : Program} {w : World} {K : PySem.W.Frag} {mg : Str → Option Value} {base : Heap} {N : List Str} {qual : Str} {sc : Scope} {f : Addr} {cdv : Value} {A : Around} {outer : List Env} {s : Shared} {H : Hp} {E : XK}
theorem tk_def : Takes (cxOf (L2.CX P w) P w K mg base N qual sc f cdv A outer s H E) (WF E) := takes_of rfl rfl rfl rfl
theorem hp_def : PassesOwn (model P w) (cxOf (L2.CX P w) P w K mg base N qual sc f cdv A outer s H E).A (cxOf (L2.CX P w) P w K mg base N qual sc f cdv A outer s H E).env (cxOf (L2.CX P w) P w K mg base N qual sc f cdv A outer s H E).xe :=
  passes_of (X := cxOf (L2.CX P w) P w K mg base N qual sc f cdv A outer s H E) rfl
end
end M3

set_option Elab.async false
set_option linter.all false
set_option autoImplicit false
set_option maxRecDepth 100000
set_option maxHeartbeats 2000000
/-! M3x: what the top has written, the law's own head. -/
namespace M3
open PySem L2 PySem.Spec PyProof.Rows
section
variable {P : Program} {w : World} {K : PySem.W.Frag} {mg : Str → Option Value} {base : Heap} {k n : Nat} {f : Addr} {fd : FuncData} {ps ks : List Str} {F F' : MF} {g : List Value → List Value → List Value} {gV : List V → List V → List V} {C : Addr} {cn mn x : Str}
theorem gc_all (ok : Fn3 P w K mg base k f fd ps F) (hk : PySem.W.keepIn K (.ref f) = true) (hb : Binds K fd ps []) (hn : ps.length = n) : Gc ⟨P, w, K, mg, base⟩ (.ref f) n [] k F := by
  subst hn
  exact ⟨f, rfl, hk, .inl ⟨fd, ps, _, _, F, ok, kbn_all hb, reArg_id⟩⟩
theorem gc_kw (ok : Fn3 P w K mg base k f fd ps F) (hk : PySem.W.keepIn K (.ref f) = true) (kb : KBn K fd ps n ks g gV) (re : ReArg K mg ps.length (n + ks.length) F' F fun l => gV (l.take n) (l.drop n)) : Gc ⟨P, w, K, mg, base⟩ (.ref f) n ks k F' :=
  ⟨f, rfl, hk, .inl ⟨fd, ps, g, gV, F, ok, kb, re⟩⟩
theorem gc_star {j : Nat} (ok : FnR P w K mg base (L2.CX P w) k f (sp3 n K mg (starF j F))) (hk : PySem.W.keepIn K (.ref f) = true) : Gc ⟨P, w, K, mg, base⟩ (.ref f) n [] k (starF j F) :=
  ⟨f, rfl, hk, .inr ⟨rfl, ok⟩⟩
theorem gm_all (M : Mk K C f) (ok : Fn3 P w K mg base k f fd ps F) (hb : Binds K fd ps []) (hn : ps.length = n + 1) : Gm ⟨P, w, K, mg, base⟩ C n [] k F := by
  have kb := kbn_all hb
  have re : ReArg K mg ps.length ps.length F F fun l => l.take ps.length := reArg_id
  rw [hn] at kb
  refine ⟨f, fd, ps, _, _, F, M, ok, kb, ?_⟩
  rw [hn] at re ⊢
  exact re
theorem gm_kw (M : Mk K C f) (ok : Fn3 P w K mg base k f fd ps F) (kb : KBn K fd ps (n + 1) ks g gV) (re : ReArg K mg ps.length (n + ks.length + 1) F' F fun l => gV (l.take (n + 1)) (l.drop (n + 1))) : Gm ⟨P, w, K, mg, base⟩ C n ks k F' :=
  ⟨f, fd, ps, g, gV, F, M, ok, kb, re⟩
/-- arguments by their places -/
def pick {α : Type} (ix : List Nat) (l : List α) : List α := ix.filterMap fun i => l[i]?
theorem pick_vals {vs : List V} {us : List Value} (r : Vals vs us) : ∀ ix : List Nat, Vals (pick ix vs) (pick ix us)
  | [] => .nil
  | i :: ix => by
    unfold pick
    rw [List.filterMap_cons, List.filterMap_cons]
    have hl := r.length
    by_cases h : i < vs.length
    · have h' : i < us.length := by omega
      obtain ⟨u, hu, ru⟩ := r.get (List.getElem?_eq_getElem h)
      rw [List.getElem?_eq_getElem h, hu]
      exact .cons ru (pick_vals r ix)
    · rw [List.getElem?_eq_none (by omega), List.getElem?_eq_none (by omega)]
      exact pick_vals r ix
theorem pick_rep {μ : List Addr} {G : Hp} {ds : List Dv} {vs : List V} (r : RepL K mg μ G ds vs) : ∀ ix : List Nat, RepL K mg μ G (pick ix ds) (pick ix vs)
  | [] => .nil
  | i :: ix => by
    unfold pick
    rw [List.filterMap_cons, List.filterMap_cons]
    have hl := r.length
    by_cases h : i < ds.length
    · obtain ⟨u, hu, ru⟩ := r.get (List.getElem?_eq_getElem h)
      rw [List.getElem?_eq_getElem h, hu]
      exact .cons ru (pick_rep r ix)
    · rw [List.getElem?_eq_none (by omega), List.getElem?_eq_none (by omega)]
      exact pick_rep r ix
theorem pick_len {α : Type} {l : List α} : ∀ {ix : List Nat}, (∀ i ∈ ix, i < l.length) → (pick ix l).length = ix.length
  | [], _ => rfl
  | i :: ix, h => by
    unfold pick
    rw [List.filterMap_cons, List.getElem?_eq_getElem (h i List.mem_cons_self)]
    exact congrArg Nat.succ (pick_len fun j hj => h j (List.mem_cons_of_mem _ hj))
theorem re_pick {pl n k : Nat} (ix : List Nat) (hn : ix.length = pl) (hb : ∀ i ∈ ix, i < n + k) : ReArg K mg pl (n + k) (fun l m => F (pick ix l) m) F fun l => (fun vs zs => pick ix (vs ++ zs)) (l.take n) (l.drop n) :=
  ⟨fun l => pick ix l, fun ds m h => rfl, fun μ G ds vs h r => ⟨by rw [pick_len (by rw [h]; exact hb)]; exact hn, by
    show RepL K mg μ G (pick ix ds) (pick ix (vs.take n ++ vs.drop n))
    rw [List.take_append_drop]; exact pick_rep r ix⟩⟩
/-- the promise that a law's def makes to its caller -/
def spLaw (K : PySem.W.Frag) (F : MF) : Sp := fun vs H Q E => ∀ mg : Str → Option Value, sp3 1 K mg F vs H Q E
theorem walk3 {l : PySem.W.OpenLaw} {q : Program} {loose : List Str} {XP : (Str → Option Value) → Heap → Prop} {YP : World → Heap → Prop} {d : DefRec} {Kp : Params → PySem.W.Frag} (k : Nat) (x : Str) (F : MF) (hr : Room k callerA) (hn : l.most = some 63) (hdf : d.params.defaults = [])
    (hY : ∀ (w : World) (h : Heap), YP w h → (Kp w.params).In h) (hF : ∀ ns : List Int, ns.length ≤ 63 → ∃ m, F [.scr ns] [] = .ok (.bl true) m)
    (A : ∀ (w : World) (mg : Str → Option Value) (fa : Addr) (h : Heap), (Kp w.params).In h → h.Ns mainGlobals mg → mg d.name = some (.ref fa) →
      ∃ fd : FuncData, (∀ (s : Shared) (u : Value), BindsTo s fd ⟨[u], []⟩ [(x, u)]) ∧ ∀ base : Heap, (Kp w.params).In base → base.Ns mainGlobals mg → Fn3 l.prog w (Kp w.params) mg base k fa fd [x] F) :
    PySem.W.WalkO q loose XP YP l.row.toRowW d [] (fun f vs => PySem.call f vs) :=
  L2.walk_of (n := 63) (k := k) (x := x) (CX := fun w => L2.CX l.prog w) (sp := fun w => spLaw (Kp w.params) F) hn (by decide) hdf hr hY
    (fun w mg fa h h1 h2 h3 => by
      obtain ⟨fd, b, ok⟩ := A w mg fa h h1 h2 h3
      exact ⟨fd, b, fun base k1 k2 => (ok base k1 k2).imp fun vs H Q E q => q mg⟩)
    (fun w H a ns hl hO hS mg => by
      obtain ⟨m, e⟩ := hF ns hl
      refine ⟨H, [], [], [.scr ns], rfl, ⟨fun a u e => .inl e, rfl, fun i j a e => by simp at e, fun n o e => by simp at e, fun a h => by simp at h⟩, .cons (.scr hS) .nil, ?_⟩
      rw [e]
      intro v H' G' μ' _ _ r
      cases r; rfl)
    fun w H s e s' => by
      rintro ⟨a, B, H', cls, d, z⟩
      simp at z
end
end M3

set_option Elab.async false
set_option linter.all false
set_option autoImplicit false
set_option maxRecDepth 100000
set_option maxHeartbeats 2000000
/-! M3y: stars in displays; match over rows of texts and names. -/
namespace M3
open PySem L2 PySem.Spec PyProof.Rows

theorem tvs_push {c : Cf} {ρ : Sl} {m : Mm} {σ : L2.St} {H : Hp} {T : Tm} {G : Hp} {μ : List Addr} : ∀ {vs : List V} {ds : List Dv}, RepL c.K c.mg μ G ds vs → St3 c ρ m σ H T G μ → St3 c ρ m σ H (tvs vs ds ++ T) G μ
  | [], [], _, s => s
  | v :: vs, d :: ds, r, s => by
    cases r with
    | cons a b => exact (tvs_push b s).push a
theorem tvs_none : ∀ (vs : List V) (ds : List Dv), (tvs vs ds).filterMap ownA = []
  | [], _ => rfl
  | _ :: _, [] => rfl
  | v :: vs, d :: ds => by
    show (tv v d :: tvs vs ds).filterMap ownA = []
    rw [List.filterMap_cons, ownA_val]; exact tvs_none vs ds
section
variable {X : Cx} {E : WX} {e : Expr} {fa : ME} {pos p : Pos}
/-- *e in a display -/
def mStar (f : ME) (g : MA) : MA := fun ρ m => (f ρ m).bind fun x m1 => match x with
  | .v d => match seqOf ρ m1 (.v d) with
    | some ds => (g ρ m1).bind fun es m2 => .ok (ds ++ es) m2
    | none => .no
  | .b _ => .no
theorem xs_star {es : List Expr} {g : MA} (ha : PX X E e fa) (hr : PXs X E es g) (hs : starEach (.Starred e p :: es) X.env = (true, eval e X.env) :: starEach es X.env) : PXs X E (.Starred e p :: es) (mStar fa g) :=
  PAi (StX.pa_star ha hr hs) fun σ H Q ⟨b, ρ, m, T, S, w⟩ => by
    refine ⟨b, ρ, m, T, S, ?_⟩
    unfold mStar at w
    revert w
    cases fa ρ m with
    | no => exact id
    | ex x m1 => exact id
    | ok x m1 =>
      intro w v H1 S1 hb
      cases x with
      | b i => exact w.elim
      | v d =>
        rw [Rs.bind_ok] at w
        simp only [] at w
        cases e1 : seqOf ρ m1 (.v d) with
        | none => rw [e1] at w; exact w.elim
        | some ds =>
          rw [e1] at w
          obtain ⟨G, μ, s⟩ := S1
          obtain ⟨a, vs, rfl, hq, r⟩ := seq_at s (x := .v d) (St3.top (T := T) s) e1
          have hlen := r.length
          refine ⟨a, vs, rfl, hq.symm, b, ρ, m1, tvs vs ds ++ T, ⟨G, μ, tvs_push r s.pop⟩, ?_⟩
          have w : WantA E (b.cf X.K X.mg) ρ σ T Q ((g ρ m1).bind fun es m2 => .ok (ds ++ es) m2) := w
          revert w
          cases hg : g ρ m1 with
          | no => exact id
          | ex x m2 => exact fun w => WantX.weak (S := tvs vs ds) w
          | ok es' m2 =>
            intro w ws H2 hl ⟨G2, μ2, s2⟩
            refine w (vs ++ ws) H2 (by simp [hl, hlen]) ⟨G2, μ2, ?_⟩
            rw [tvs_app hlen.symm]
            refine s2.weak (fun p hp => ?_) ?_
            · simp only [List.mem_append] at hp ⊢
              rcases hp with q | q | q
              · exact .inr (.inl q)
              · exact .inl q
              · exact .inr (.inr q)
            · simp only [List.filterMap_append, tvs_none, List.nil_append]
              exact List.Sublist.refl _
end

/-! ### match -/
inductive PItem where
  | lit (s : Str) | cap (i : Nat)
structure MCase where
  ps : List PItem
  g : Option MB
  b : MS
/-- what a row of patterns makes of a row of values: not known; no match; the names' values -/
def eachV : List PItem → List V → Option (Option (List (Nat × V)))
  | [], [] => some (some [])
  | .lit s :: ps, v :: vs => if scal v (.str s) = true then if v = .str s then eachV ps vs else some none else none
  | .cap i :: ps, v :: vs => match eachV ps vs with
    | some (some bs) => some (some ((i, v) :: bs))
    | r => r
  | _, _ => none
def bindV : List (Nat × V) → L2.St → L2.St
  | [], σ => σ
  | (i, v) :: bs, σ => bindV bs (σ.set i (some v))
section
variable {X : Cx}
/-- a name that may be stored -/
structure NmOk (X : Cx) (i : Nat) (x : Str) : Prop where
  hN : X.N.Nodup
  hi : X.N[i]? = some x
  hx : Loc X.env.scope x
  hf : X.fn x = true ∨ X.env.scope.names.lookup x = some .local
inductive PatsOk (X : Cx) : List Pattern → List PItem → Prop
  | nil : PatsOk X [] []
  | lit {s : Str} {j : Nat} {p1 p2 : Pos} {ps : List Pattern} {qs : List PItem} (r : PatsOk X ps qs) : PatsOk X (.MatchValue (.Constant (.str s) j p1) p2 :: ps) (.lit s :: qs)
  | cap {i : Nat} {x : Str} {p1 : Pos} {ps : List Pattern} {qs : List PItem} (h : NmOk X i x) (r : PatsOk X ps qs) : PatsOk X (.MatchAs none (some x) p1 :: ps) (.cap i :: qs)
inductive BsOk (X : Cx) : List (Str × Value) → List (Nat × V) → Prop
  | nil : BsOk X [] []
  | cons {i : Nat} {x : Str} {u : Value} {v : V} {bl : List (Str × Value)} {bs : List (Nat × V)} (h : NmOk X i x) (r : RelV v u) (t : BsOk X bl bs) : BsOk X ((x, u) :: bl) ((i, v) :: bs)
theorem PatsOk.len {ps : List Pattern} {qs : List PItem} (h : PatsOk X ps qs) : ps.length = qs.length := by
  induction h with
  | nil => rfl
  | lit r ih => simp [ih]
  | cap h r ih => simp [ih]
theorem each_ok {ps : List Pattern} {qs : List PItem} (h : PatsOk X ps qs) : ∀ {pins : List (Addr × Obj)} {σ : L2.St} {H : Hp} {s : Shared} {us : List Value} {vs : List V} {r : Option (List (Nat × V))} {Q : Option (List (Str × Value)) → Shared → Prop}, Inv X pins σ H s → Vals vs us → eachV qs vs = some r →
    (∀ o s', Inv X pins σ H s' → (match r with | none => o = none | some bs => ∃ bl, o = some bl ∧ BsOk X bl bs) → Q o s') → wpAny (model X.prog X.w) X.A (matchEach ps X.env us) Q X.xe s := by
  induction h with
  | nil =>
    intro pins σ H s us vs r Q I rv e k
    cases rv with
    | nil =>
      cases e
      exact wpAny_matchEach_nil (k _ _ I ⟨[], rfl, .nil⟩)
    | cons a b => cases e
  | @lit z j p1 p2 ps qs rr ih =>
    intro pins σ H s us vs r Q I rv e k
    cases rv with
    | nil => cases e
    | @cons v u vs us rx rxs =>
      unfold eachV at e
      by_cases hs : scal v (.str z) = true
      · rw [if_pos hs] at e
        refine wpAny_matchEach_cons (wpAny_matchPattern_Value ?_)
        refine thn ((pe_str (x := z) (j := j) (pos := p1)).run pins s σ H (fun w H1 => w = .str z ∧ H1 = H) I ⟨rfl, rfl⟩) fun w s1 ⟨w', H1, I1, r1, e1, e2⟩ => ?_
        subst e1; subst e2
        refine thn (op_eq pins s1 σ H1 v (.str z) u w (fun y H2 => y = .bl (decide (v = .str z)) ∧ H2 = H1) I1 rx r1 ⟨hs, rfl, rfl⟩) fun c s2 ⟨y, H2, I2, r2, e3, e4⟩ => ?_
        subst e3; subst e4
        cases r2
        refine wpAny_truthy_bool ?_
        by_cases hv : v = .str z
        · rw [if_pos hv] at e
          simp only [hv, decide_true, if_true]
          refine ih I2 rxs e fun o s' I' q => ?_
          cases r with
          | none => simp only [] at q; subst q; exact k none s' I' rfl
          | some bs =>
            obtain ⟨bl, rfl, ok⟩ := q
            exact k _ s' I' ⟨bl, rfl, ok⟩
        · rw [if_neg hv] at e
          cases e
          simp only [hv, decide_false, Bool.false_eq_true, if_false]
          exact k none s2 I2 rfl
      · rw [if_neg hs] at e; cases e
  | @cap i x p1 ps qs hn rr ih =>
    intro pins σ H s us vs r Q I rv e k
    cases rv with
    | nil => cases e
    | @cons v u vs us rx rxs =>
      unfold eachV at e
      refine wpAny_matchEach_cons (wpAny_matchPattern_Capture ?_)
      simp only [Option.map_some, Option.toList_some]
      cases e2 : eachV qs vs with
      | none => rw [e2] at e; cases e
      | some r2 =>
        rw [e2] at e
        refine ih I rxs e2 fun o s' I' q => ?_
        cases r2 with
        | none =>
          simp only [] at q e
          subst q; cases e
          exact k none s' I' rfl
        | some bs =>
          simp only [] at e
          cases e
          obtain ⟨bl, rfl, ok⟩ := q
          exact k _ s' I' ⟨_, rfl, .cons hn rx ok⟩
theorem bind_ok {bl : List (Str × Value)} {bs : List (Nat × V)} (h : BsOk X bl bs) : ∀ {pins : List (Addr × Obj)} {σ : L2.St} {H : Hp} {s : Shared} {Q : Unit → Shared → Prop}, Inv X pins σ H s → (∀ s', Inv X pins (bindV bs σ) H s' → Q () s') →
    wpAny (model X.prog X.w) X.A (assignInOrder (bl.map fun (n, _) => bindName X.env n) (bl.map (·.2))) Q X.xe s := by
  induction h with
  | nil => intro pins σ H s Q I k; exact wpAny_assignInOrder_none (k s I)
  | @cons i x u v bl bs hn r t ih =>
    intro pins σ H s Q I k
    refine wpAny_assignInOrder_more (wpAny_bindName (store_ok I hn.hN hn.hi hn.hx r (fun s' I' => ?_) hn.hf))
    exact ih I' fun s2 I2 => k s2 I2
/-- a pattern that is a row -/
theorem seq_ok {ps : List Pattern} {qs : List PItem} (h : PatsOk X ps qs) (hc : X.calm = true) {pos : Pos} {pins : List (Addr × Obj)} {σ : L2.St} {H : Hp} {s : Shared} {a : Addr} {xs : List V} {Q : Option (List (Str × Value)) → Shared → Prop} (I : Inv X pins σ H s) (hq : SqL X.K H a xs ∨ SqT X.K H a xs)
    (hstar : ps.findIdx? (·.isStar) = none) (hwild : (ps.all fun p => p.isWildcard || (p.isStar && p.names.isEmpty)) = false)
    (miss : xs.length ≠ qs.length → ∀ s', Inv X pins σ H s' → Q none s')
    (hit : xs.length = qs.length → ∃ r, eachV qs xs = some r ∧ ∀ o s', Inv X pins σ H s' → (match r with | none => o = none | some bs => ∃ bl, o = some bl ∧ BsOk X bl bs) → Q o s') :
    wpAny (model X.prog X.w) X.A (matchPattern (.MatchSequence ps pos) X.env (.ref a)) Q X.xe s := by
  have hl := h.len
  have hn := line63
  rcases hq with hq | hq
  · obtain ⟨its, rv, pl, hz⟩ := I.list hq
    have hlen := rv.length
    by_cases e : xs.length = qs.length
    · obtain ⟨r, e1, k⟩ := hit e
      refine matchSeq_list_hit pl.isList (by simp only [List.size_toArray]; omega) (by simp only [List.size_toArray]; omega) ?_ hstar hwild
      have I1 : Inv X pins σ H { s with toks := s.toks + 1 + 1 } := I.tok _
      have hps : ps.length = its.toArray.size := by simp only [List.size_toArray]; omega
      rw [hps]
      refine PySem.W.kun_itemsOf (I.ok.hd hc) pl.isList fun h' hx => ?_
      have I2 : Inv X pins σ H { s with heap := h', toks := s.toks + 1 + 1 } := I.kept fun b o e => hx b o (Nat.ne_of_lt (Heap.lt_size e)) e
      exact each_ok h I2 (by simpa using rv) e1 k
    · exact matchSeq_list_miss pl.isList (by simp only [List.size_toArray]; omega) (by simp only [List.size_toArray]; omega) (miss e _ (I.tok _)) hstar hwild
  · obtain ⟨its, rv, pl, hz⟩ := I.tuple hq
    have hlen := rv.length
    by_cases e : xs.length = qs.length
    · obtain ⟨r, e1, k⟩ := hit e
      refine matchSeq_tuple_hit pl (by simp only [List.size_toArray]; omega) (by simp only [List.size_toArray]; omega) ?_ hstar hwild
      have hps : ps.length = its.toArray.size := by simp only [List.size_toArray]; omega
      rw [hps]
      refine unpackItems_tuple (I.ok.hd hc) pl fun h' hx => ?_
      have I2 : Inv X pins σ H { s with heap := h', toks := s.toks + 1 + 1 } := I.kept fun b o e => hx b o (Nat.ne_of_lt (Heap.lt_size e)) e
      exact each_ok h I2 (by simpa using rv) e1 k
    · exact matchSeq_tuple_miss pl (by simp only [List.size_toArray]; omega) (by simp only [List.size_toArray]; omega) (miss e _ (I.tok _)) hstar hwild
abbrev TCase := List PItem × Option TT × TS
def tCases (K : PySem.W.Frag) : List TCase → V → TS
  | [], x => fun D σ H => D.nx σ H
  | (ps, g, t) :: cs, x => fun D σ H => ∃ a xs, x = .ref a ∧ (SqL K H a xs ∨ SqT K H a xs) ∧ (xs.length ≠ ps.length → tCases K cs x D σ H) ∧ (xs.length = ps.length → ∃ r, eachV ps xs = some r ∧
      match r with
      | none => tCases K cs x D σ H
      | some bs => match g with
        | none => t D (bindV bs σ) H
        | some tt => tt (bindV bs σ) H fun k H2 => if k = true then t D (bindV bs σ) H2 else tCases K cs x D (bindV bs σ) H2)
inductive CasesOk (X : Cx) : List MatchCase → List TCase → Prop
  | nil : CasesOk X [] []
  | plain {ps : List Pattern} {qs : List PItem} {pos : Pos} {body : List Stmt} {t : TS} {cs : List MatchCase} {ts : List TCase} (hp : PatsOk X ps qs) (hstar : ps.findIdx? (·.isStar) = none) (hwild : (ps.all fun p => p.isWildcard || (p.isStar && p.names.isEmpty)) = false) (hb : PSs X body t) (r : CasesOk X cs ts) :
      CasesOk X (⟨.MatchSequence ps pos, none, body⟩ :: cs) ((qs, none, t) :: ts)
  | guard {ps : List Pattern} {qs : List PItem} {pos : Pos} {g : Expr} {tt : TT} {body : List Stmt} {t : TS} {cs : List MatchCase} {ts : List TCase} (hp : PatsOk X ps qs) (hstar : ps.findIdx? (·.isStar) = none) (hwild : (ps.all fun p => p.isWildcard || (p.isStar && p.names.isEmpty)) = false) (hg : PT X g tt) (hb : PSs X body t) (r : CasesOk X cs ts) :
      CasesOk X (⟨.MatchSequence ps pos, some g, body⟩ :: cs) ((qs, some tt, t) :: ts)
theorem cases_ok {cs : List MatchCase} {ts : List TCase} (h : CasesOk X cs ts) (hc : X.calm = true) : ∀ {pins : List (Addr × Obj)} {s : Shared} {σ : L2.St} {H : Hp} {D : Ends} {x : V} {u : Value} {first : Bool}, Inv X pins σ H s → RelV x u → tCases X.K ts x D σ H → wpAny (model X.prog X.w) X.A (matchCases cs X.env u first) (SP X pins D) X.xe s := by
  induction h with
  | nil => intro pins s σ H D x u first I r q; exact wpAny_matchCases_nil ⟨σ, H, I, q⟩
  | @plain ps qs pos body t cs ts hp hstar hwild hb rr ih =>
    intro pins s σ H D x u first I r q
    obtain ⟨a, xs, rfl, hq, miss, hit⟩ := q
    obtain rfl : u = Value.ref a := r
    refine wpAny_matchCases_cons (seq_ok hp hc I hq hstar hwild (fun e s' I' => ?_) fun e => ?_)
    · exact ih (x := .ref a) I' rfl (miss e)
    · obtain ⟨r, e1, k⟩ := hit e
      refine ⟨r, e1, fun o s' I' q => ?_⟩
      cases r with
      | none => simp only [] at q; subst q; exact ih (x := .ref a) I' rfl k
      | some bs =>
        obtain ⟨bl, rfl, ok⟩ := q
        refine bind_ok ok I' fun s2 I2 => ?_
        exact hb.run pins s2 _ H D I2 k
  | @guard ps qs pos g tt body t cs ts hp hstar hwild hg hb rr ih =>
    intro pins s σ H D x u first I r q
    obtain ⟨a, xs, rfl, hq, miss, hit⟩ := q
    obtain rfl : u = Value.ref a := r
    refine wpAny_matchCases_cons (seq_ok hp hc I hq hstar hwild (fun e s' I' => ?_) fun e => ?_)
    · exact ih (x := .ref a) I' rfl (miss e)
    · obtain ⟨r, e1, k⟩ := hit e
      refine ⟨r, e1, fun o s' I' q => ?_⟩
      cases r with
      | none => simp only [] at q; subst q; exact ih (x := .ref a) I' rfl k
      | some bs =>
        obtain ⟨bl, rfl, ok⟩ := q
        refine bind_ok ok I' fun s2 I2 => ?_
        refine thn (hg.run pins s2 _ H _ I2 k) fun b s3 ⟨H3, I3, q3⟩ => ?_
        cases b with
        | true => exact hb.run pins s3 _ H3 D I3 q3
        | false => exact ih (x := .ref a) I3 rfl q3
theorem ps_match {subj : Expr} {cs : List MatchCase} {pos : Pos} {te : TE} {ts : List TCase} (hc : X.calm = true) (he : PE X subj te) (h : CasesOk X cs ts) : PS X (.Match subj cs pos) (fun D σ H => te σ H fun x H1 => tCases X.K ts x D σ H1) := by
  refine ⟨fun pins s σ H D I q => ?_⟩
  exact wpAny_Match (thn (he.run pins s σ H _ I q) fun v s1 ⟨x, H1, I1, r1, q1⟩ => cases_ok h hc I1 r1 q1)
end
/-! the mirror -/
def eachD : List PItem → List Dv → Option (Option (List (Nat × Dv)))
  | [], [] => some (some [])
  | .lit s :: ps, d :: ds => match d with
    | .str z => if z = s then eachD ps ds else some none
    | .int _ => some none
    | .bl _ => some none
    | .non => some none
    | _ => none
  | .cap i :: ps, d :: ds => match eachD ps ds with
    | some (some bs) => some (some ((i, d) :: bs))
    | r => r
  | _, _ => none
def bindD : List (Nat × Dv) → Sl → Sl
  | [], ρ => ρ
  | (i, d) :: bs, ρ => bindD bs (ρ.set i (.val d))
def mCases : List MCase → Dv → MS
  | [], _ => fun ρ m => .nx ρ m
  | c :: cs, d => fun ρ m => match seqOf ρ m (.v d) with
    | none => .no
    | some ds => if ds.length = c.ps.length then match eachD c.ps ds with
        | none => .no
        | some none => mCases cs d ρ m
        | some (some bs) => match c.g with
          | none => c.b (bindD bs ρ) m
          | some t => (t (bindD bs ρ) m).st (bindD bs ρ) fun k m2 => if k = true then c.b (bindD bs ρ) m2 else mCases cs d (bindD bs ρ) m2
      else mCases cs d ρ m
def mMatch (f : ME) (cs : List MCase) : MS := fun ρ m => (f ρ m).st ρ fun x m1 => match x with
  | .v d => mCases cs d ρ m1
  | .b _ => .no
section
variable {X : Cx} {E : WX}
inductive BsRep (K : PySem.W.Frag) (mg : Str → Option Value) (μ : List Addr) (G : Hp) : List (Nat × Dv) → List (Nat × V) → Prop
  | nil : BsRep K mg μ G [] []
  | cons {i : Nat} {d : Dv} {v : V} {bs : List (Nat × Dv)} {cs : List (Nat × V)} (r : Rep K mg μ G d v) (t : BsRep K mg μ G bs cs) : BsRep K mg μ G ((i, d) :: bs) ((i, v) :: cs)
theorem each_rep {K : PySem.W.Frag} {mg : Str → Option Value} {μ : List Addr} {G : Hp} : ∀ {ps : List PItem} {ds : List Dv} {vs : List V} {r : Option (List (Nat × Dv))}, RepL K mg μ G ds vs → eachD ps ds = some r →
    ∃ r', eachV ps vs = some r' ∧ match r with | none => r' = none | some bs => ∃ cs, r' = some cs ∧ BsRep K mg μ G bs cs := by
  intro ps
  induction ps with
  | nil =>
    intro ds vs r h e
    cases h with
    | nil => cases e; exact ⟨_, rfl, [], rfl, .nil⟩
    | cons a b => cases e
  | cons p ps ih =>
    intro ds vs r h e
    cases h with
    | nil => cases p <;> cases e
    | @cons d v ds vs a b =>
      cases p with
      | lit z =>
        cases a with
        | str y =>
          unfold eachD at e
          unfold eachV
          rw [if_pos (show scal (.str y) (.str z) = true from rfl)]
          by_cases hz : y = z
          · subst hz
            simp only [if_true] at e ⊢
            exact ih b e
          · simp only [hz, if_false] at e
            cases e
            rw [if_neg (fun q => hz (by cases q; rfl))]
            exact ⟨none, rfl, rfl⟩
        | int i => cases e; exact ⟨none, by unfold eachV; rw [if_pos (show scal (.int i) (.str z) = true from rfl), if_neg (fun q => by cases q)], rfl⟩
        | bl i => cases e; exact ⟨none, by unfold eachV; rw [if_pos (show scal (.bl i) (.str z) = true from rfl), if_neg (fun q => by cases q)], rfl⟩
        | non => cases e; exact ⟨none, by unfold eachV; rw [if_pos (show scal .non (.str z) = true from rfl), if_neg (fun q => by cases q)], rfl⟩
        | _ => cases e
      | cap i =>
        unfold eachD at e
        unfold eachV
        cases e2 : eachD ps ds with
        | none => rw [e2] at e; cases e
        | some r2 =>
          rw [e2] at e
          obtain ⟨r', q1, q2⟩ := ih b e2
          rw [q1]
          cases r2 with
          | none =>
            simp only [] at q2 e
            subst q2; cases e
            exact ⟨none, rfl, rfl⟩
          | some bs =>
            simp only [] at q2 e
            cases e
            obtain ⟨cs, rfl, q3⟩ := q2
            exact ⟨_, rfl, _, rfl, .cons a q3⟩
theorem bind_st {c : Cf} {m : Mm} {H : Hp} {T : Tm} {G : Hp} {μ : List Addr} : ∀ {bs : List (Nat × Dv)} {cs : List (Nat × V)} {ρ : Sl} {σ : L2.St}, BsRep c.K c.mg μ G bs cs → St3 c ρ m σ H T G μ → St3 c (bindD bs ρ) m (bindV cs σ) H T G μ
  | [], [], _, _, _, s => s
  | (i, d) :: bs, (_, v) :: cs, ρ, σ, r, s => by
    cases r with
    | cons a b =>
      show St3 c (bindD bs (ρ.set i (.val d))) m (bindV cs (σ.set i (some v))) H T G μ
      exact bind_st (bs := bs) (cs := cs) b (s.push a).setV
inductive CasesX (X : Cx) (E : WX) : List MatchCase → List MCase → Prop
  | nil : CasesX X E [] []
  | plain {ps : List Pattern} {qs : List PItem} {pos : Pos} {body : List Stmt} {f : MS} {cs : List MatchCase} {ms : List MCase} (hp : PatsOk X ps qs) (hstar : ps.findIdx? (·.isStar) = none) (hwild : (ps.all fun p => p.isWildcard || (p.isStar && p.names.isEmpty)) = false) (hb : PSsx X E body f) (r : CasesX X E cs ms) :
      CasesX X E (⟨.MatchSequence ps pos, none, body⟩ :: cs) (⟨qs, none, f⟩ :: ms)
  | guard {ps : List Pattern} {qs : List PItem} {pos : Pos} {g : Expr} {t : MB} {body : List Stmt} {f : MS} {cs : List MatchCase} {ms : List MCase} (hp : PatsOk X ps qs) (hstar : ps.findIdx? (·.isStar) = none) (hwild : (ps.all fun p => p.isWildcard || (p.isStar && p.names.isEmpty)) = false) (hg : PB X E g t) (hb : PSsx X E body f) (r : CasesX X E cs ms) :
      CasesX X E (⟨.MatchSequence ps pos, some g, body⟩ :: cs) (⟨qs, some t, f⟩ :: ms)
def tcM (K : PySem.W.Frag) (mg : Str → Option Value) (E : WX) (c : MCase) : TCase := (c.ps, c.g.map (tbOf K mg E), tsOf K mg E c.b)
theorem CasesX.ok {cs : List MatchCase} {ms : List MCase} (h : CasesX X E cs ms) : CasesOk X cs (ms.map (tcM X.K X.mg E)) := by
  induction h with
  | nil => exact .nil
  | plain hp hs hw hb r ih => exact .plain hp hs hw hb ih
  | guard hp hs hw hg hb r ih => exact .guard hp hs hw hg hb ih
theorem cases_want {K : PySem.W.Frag} {mg : Str → Option Value} {b : Bs} {T : Tm} {D : Ends} {d : Dv} {v : V} : ∀ {ms : List MCase} {ρ : Sl} {m : Mm} {σ : L2.St} {H : Hp}, S3 (b.cf K mg) ρ m σ H (tv v d :: T) → WantS E (b.cf K mg) T D (mCases ms d ρ m) → tCases K (ms.map (tcM K mg E)) v D σ H := by
  intro ms
  induction ms with
  | nil => intro ρ m σ H S w; exact w σ H S.pop
  | cons c ms ih =>
    intro ρ m σ H S w
    unfold mCases at w
    cases e1 : seqOf ρ m (.v d) with
    | none => rw [e1] at w; exact w.elim
    | some ds =>
      rw [e1] at w
      simp only [] at w
      obtain ⟨G, μ, s⟩ := S
      obtain ⟨a, vs, rfl, hq, r⟩ := seq_at s (x := .v d) (St3.top (T := T) s) e1
      have hlen := r.length
      refine ⟨a, vs, rfl, hq, fun e => ?_, fun e => ?_⟩
      · rw [if_neg (by rw [hlen]; exact e)] at w
        exact ih ⟨G, μ, s⟩ w
      · rw [if_pos (by rw [hlen]; exact e)] at w
        cases e2 : eachD c.ps ds with
        | none => rw [e2] at w; exact w.elim
        | some r2 =>
          rw [e2] at w
          obtain ⟨r', q1, q2⟩ := each_rep r e2
          refine ⟨r', q1, ?_⟩
          cases r2 with
          | none =>
            simp only [] at q2 w
            subst q2
            exact ih ⟨G, μ, s⟩ w
          | some bs =>
            obtain ⟨cs, rfl, rr⟩ := q2
            simp only [] at w
            have s2 := bind_st rr s
            obtain ⟨ps, g, f⟩ := c
            cases g with
            | none => exact ⟨b, _, m, T, ⟨G, μ, s2.pop⟩, w⟩
            | some t =>
              refine ⟨b, bindD bs ρ, m, tv (.ref a) d :: T, ⟨G, μ, s2⟩, ?_⟩
              simp only [] at w
              revert w
              cases t (bindD bs ρ) m with
              | no => exact id
              | ex x m2 => exact fun w => WantX.weak (S := [tv (.ref a) d]) (w _)
              | ok k m2 =>
                intro w H2 S2
                rw [Rs.st_ok] at w
                by_cases hk : k = true
                · rw [if_pos hk] at w ⊢
                  exact ⟨b, _, m2, T, S2.pop, w⟩
                · rw [if_neg hk] at w ⊢
                  exact ih S2 w
theorem s_match {subj : Expr} {cs : List MatchCase} {pos : Pos} {f : ME} {ms : List MCase} (hc : X.calm = true) (he : PX X E subj f) (h : CasesX X E cs ms) : PSx X E (.Match subj cs pos) (mMatch f ms) :=
  PSi (ps_match hc he h.ok) fun D σ H ⟨b, ρ, m, T, S, w⟩ => by
    refine ⟨b, ρ, m, T, S, ?_⟩
    unfold mMatch at w
    revert w
    cases f ρ m with
    | no => exact id
    | ex x m1 => exact fun w => w σ
    | ok x m1 =>
      intro w v H1 S1 hb
      cases x with
      | b i => exact w.elim
      | v d => exact cases_want S1 w
end
end M3

set_option Elab.async false
set_option linter.all false
set_option autoImplicit false
set_option maxRecDepth 100000
set_option maxHeartbeats 2000000
/-! M3z: a fresh object that a call hands back is its caller's own; slices and own slots handed back. -/
namespace M3
open PySem L2 PySem.Spec PyProof.Rows
/-! ### data whose numbers lie below k -/
mutual
def lowD (k : Nat) : Dv → Bool
  | .lst ds => lowL k ds
  | .tup ds => lowL k ds
  | .ktp ds => lowL k ds
  | .dct ds => lowK1 k ds
  | .dcT ds => lowK2 k ds
  | .ins _ ds => lowK3 k ds
  | .loc n => decide (n < k)
  | .lck _ _ ds => lowK1 k ds
  | .lckT _ _ ds => lowK2 k ds
  | .non => true
  | .bl _ => true
  | .int _ => true
  | .str _ => true
  | .ty _ => true
  | .glb _ => true
  | .scr _ => true
def lowL (k : Nat) : List Dv → Bool
  | [] => true
  | d :: ds => lowD k d && lowL k ds
def lowK1 (k : Nat) : List (Key × Dv) → Bool
  | [] => true
  | (_, d) :: ds => lowD k d && lowK1 k ds
def lowK2 (k : Nat) : List (List Key × Dv) → Bool
  | [] => true
  | (_, d) :: ds => lowD k d && lowK2 k ds
def lowK3 (k : Nat) : List (Str × Dv) → Bool
  | [] => true
  | (_, d) :: ds => lowD k d && lowK3 k ds
end
def lowO (k : Nat) : Ob → Bool
  | .lst ds => lowL k ds
  | .dct kvs => lowK1 k kvs
  | .dcT kvs => lowK2 k kvs
  | .ins _ fs => lowK3 k fs
  | .raw _ => true
section
variable {K : PySem.W.Frag} {mg : Str → Option Value} {μ μ' : List Addr} {G G' : Hp} {k : Nat}
mutual
theorem Rep.low : ∀ {d : Dv} {v : V}, Rep K mg μ G d v → lowD μ.length d = true
  | _, _, .non => rfl
  | _, _, .bl b => rfl
  | _, _, .int b => rfl
  | _, _, .str b => rfl
  | _, _, .ty b => rfl
  | _, _, .lst s z r => RepL.low r
  | _, _, .scr s => rfl
  | _, _, .tup s z r => RepL.low r
  | _, _, .ktp s r => RepL.low r
  | _, _, .dct s z r => RepK.low1 r
  | _, _, .dcT s z r => RepK.low2 r
  | _, _, .ins c s r => RepK.low3 r
  | _, _, .glb h r => rfl
  | _, _, .loc h => decide_eq_true (List.getElem?_eq_some_iff.mp h).1
  | _, _, .lck h r => RepK.low1 r
  | _, _, .lckT h r => RepK.low2 r
theorem RepL.low : ∀ {d : List Dv} {v : List V}, RepL K mg μ G d v → lowL μ.length d = true
  | _, _, .nil => rfl
  | _, _, .cons a b => Bool.and_eq_true_iff.mpr ⟨Rep.low a, RepL.low b⟩
theorem RepK.low1 : ∀ {d : List (Key × Dv)} {v : List (Key × V)}, RepK K mg μ G d v → lowK1 μ.length d = true
  | _, _, .nil => rfl
  | _, _, .cons a b => Bool.and_eq_true_iff.mpr ⟨Rep.low a, RepK.low1 b⟩
theorem RepK.low2 : ∀ {d : List (List Key × Dv)} {v : List (List Key × V)}, RepK K mg μ G d v → lowK2 μ.length d = true
  | _, _, .nil => rfl
  | _, _, .cons a b => Bool.and_eq_true_iff.mpr ⟨Rep.low a, RepK.low2 b⟩
theorem RepK.low3 : ∀ {d : List (Str × Dv)} {v : List (Str × V)}, RepK K mg μ G d v → lowK3 μ.length d = true
  | _, _, .nil => rfl
  | _, _, .cons a b => Bool.and_eq_true_iff.mpr ⟨Rep.low a, RepK.low3 b⟩
end
mutual
theorem Rep.cut : ∀ {d : Dv} {v : V}, Rep K mg μ G d v → lowD k d = true → Rep K mg (μ.take k) G d v
  | _, _, .non, _ => .non
  | _, _, .bl b, _ => .bl b
  | _, _, .int b, _ => .int b
  | _, _, .str b, _ => .str b
  | _, _, .ty b, _ => .ty b
  | _, _, .lst s z r, p => .lst s z (RepL.cut r p)
  | _, _, .scr s, _ => .scr s
  | _, _, .tup s z r, p => .tup s z (RepL.cut r p)
  | _, _, .ktp s r, p => .ktp s (RepL.cut r p)
  | _, _, .dct s z r, p => .dct s z (RepK.cut1 r p)
  | _, _, .dcT s z r, p => .dcT s z (RepK.cut2 r p)
  | _, _, .ins c s r, p => .ins c s (RepK.cut3 r p)
  | _, _, .glb h r, _ => .glb h r
  | _, _, .loc h, p => .loc (by rw [List.getElem?_take_of_lt (of_decide_eq_true p)]; exact h)
  | _, _, .lck h r, p => .lck h (RepK.cut1 r p)
  | _, _, .lckT h r, p => .lckT h (RepK.cut2 r p)
theorem RepL.cut : ∀ {d : List Dv} {v : List V}, RepL K mg μ G d v → lowL k d = true → RepL K mg (μ.take k) G d v
  | _, _, .nil, _ => .nil
  | _, _, .cons a b, p => .cons (Rep.cut a (Bool.and_eq_true_iff.mp p).1) (RepL.cut b (Bool.and_eq_true_iff.mp p).2)
theorem RepK.cut1 : ∀ {d : List (Key × Dv)} {v : List (Key × V)}, RepK K mg μ G d v → lowK1 k d = true → RepK K mg (μ.take k) G d v
  | _, _, .nil, _ => .nil
  | _, _, .cons a b, p => .cons (Rep.cut a (Bool.and_eq_true_iff.mp p).1) (RepK.cut1 b (Bool.and_eq_true_iff.mp p).2)
theorem RepK.cut2 : ∀ {d : List (List Key × Dv)} {v : List (List Key × V)}, RepK K mg μ G d v → lowK2 k d = true → RepK K mg (μ.take k) G d v
  | _, _, .nil, _ => .nil
  | _, _, .cons a b, p => .cons (Rep.cut a (Bool.and_eq_true_iff.mp p).1) (RepK.cut2 b (Bool.and_eq_true_iff.mp p).2)
theorem RepK.cut3 : ∀ {d : List (Str × Dv)} {v : List (Str × V)}, RepK K mg μ G d v → lowK3 k d = true → RepK K mg (μ.take k) G d v
  | _, _, .nil, _ => .nil
  | _, _, .cons a b, p => .cons (Rep.cut a (Bool.and_eq_true_iff.mp p).1) (RepK.cut3 b (Bool.and_eq_true_iff.mp p).2)
end
theorem obAt_low {H : Hp} {a : Addr} {o : Ob} (h : ObAt K mg μ G H a o) : lowO μ.length o = true := by
  cases o with
  | lst ds => obtain ⟨vs, x, r⟩ := h; exact r.low
  | dct ds => obtain ⟨vs, x, r⟩ := h; exact r.low1
  | dcT ds => obtain ⟨vs, x, r⟩ := h; exact r.low2
  | ins c fs => obtain ⟨C, dx, ws, q, x, r⟩ := h; exact r.low3
  | raw u => rfl
theorem obAt_cut {H : Hp} {a : Addr} {o : Ob} (h : ObAt K mg μ G H a o) (p : lowO k o = true) : ObAt K mg (μ.take k) G H a o := by
  cases o with
  | lst ds => obtain ⟨vs, x, r⟩ := h; exact ⟨vs, x, r.cut p⟩
  | dct ds => obtain ⟨vs, x, r⟩ := h; exact ⟨vs, x, r.cut1 p⟩
  | dcT ds => obtain ⟨vs, x, r⟩ := h; exact ⟨vs, x, r.cut2 p⟩
  | ins c fs => obtain ⟨C, dx, ws, q, x, r⟩ := h; exact ⟨C, dx, ws, q, x, r.cut3 p⟩
  | raw u => exact h
end
/-- all numbers of a cell lie below k -/
def lowC (k : Nat) : Cell → Prop
  | .un => True
  | .val d => lowD k d = true
  | .own o => lowO k o = true
theorem St3.lowT {c : Cf} {ρ : Sl} {m : Mm} {σ : L2.St} {H : Hp} {T : Tm} {G : Hp} {μ : List Addr} (s : St3 c ρ m σ H T G μ) : ∀ p ∈ T ++ σ.zip ρ, lowC m.length p.2 := fun p hp => by
  have k := s.cells p hp
  rw [← s.mem.len]
  obtain ⟨x, y⟩ := p
  cases y with
  | un => trivial
  | val d => obtain ⟨v, e, r⟩ := k; exact r.low
  | own o => obtain ⟨a, e, ob, _⟩ := k; exact obAt_low ob
/-- the last number is taken back: its object is a temporary's own -/
theorem St3.popM {c : Cf} {ρ : Sl} {m : Mm} {o : Ob} {σ : L2.St} {H : Hp} {T : Tm} {G : Hp} {μ : List Addr} {v : V} (s : St3 c ρ (m ++ [some o]) σ H (tv v (.loc m.length) :: T) G μ) (hl : ∀ p ∈ T ++ σ.zip ρ, lowC m.length p.2)
    (hm : ∀ (n : Nat) (o : Ob), m[n]? = some (some o) → lowO m.length o = true) (ho : lowO m.length o = true) (hk : c.μ0.length ≤ m.length) : ∃ a, v = .ref a ∧ St3 c ρ m σ H ((some (.ref a), .own o) :: T) G (μ.take m.length) := by
  have hlen : μ.length = m.length + 1 := by rw [s.mem.len]; simp
  have r : Rep c.K c.mg μ G (.loc m.length) v := s.top
  have sp := s.pop
  cases r with
  | @loc _ a ha =>
    refine ⟨a, rfl, ?_⟩
    obtain ⟨a', e1, e2, e3⟩ := s.mem.ob m.length o (by rw [List.getElem?_append_right (Nat.le_refl _)]; simp)
    rw [ha] at e1; cases e1
    have tk : ∀ {n : Nat} {b : Addr}, (μ.take m.length)[n]? = some b → n < m.length ∧ μ[n]? = some b := fun {n b} e => by
      by_cases hn : n < m.length
      · rw [List.getElem?_take_of_lt hn] at e; exact ⟨hn, e⟩
      · rw [List.getElem?_eq_none (by rw [List.length_take]; omega)] at e; cases e
    have hna : a ∉ μ.take m.length := fun hm => by
      obtain ⟨n, hn⟩ := List.getElem?_of_mem hm
      obtain ⟨q1, q2⟩ := tk hn
      have := s.mem.nd n m.length a q2 ha
      omega
    have h0 : c.H0 a = none := by
      cases e : c.H0 a with
      | none => rfl
      | some u =>
        cases g0 : c.G0 a with
        | some w =>
          rcases s.le.ex a w g0 with q | ⟨_, _, q⟩ <;> rw [e2] at q <;> cases q
        | none =>
          by_cases hmem : a ∈ c.μ0
          · obtain ⟨n, hn⟩ := List.getElem?_of_mem hmem
            have q := s.le.pre n a hn
            have := s.mem.nd n m.length a q ha
            have := (List.getElem?_eq_some_iff.mp hn).1
            omega
          · exact absurd (List.mem_of_getElem? ha) (s.le.prv a u e g0 hmem).2.2
    have mem : MemOk c.K c.mg G (μ.take m.length) H m := by
      refine ⟨s.mem.st, by rw [List.length_take]; omega, fun i j b ei ej => s.mem.nd i j b (tk ei).2 (tk ej).2, fun n ob e => ?_, fun b hb => s.mem.th b (List.mem_of_mem_take hb)⟩
      have hn : n < m.length := (List.getElem?_eq_some_iff.mp e).1
      obtain ⟨b, q1, q2, q3⟩ := s.mem.ob n ob (by rw [List.getElem?_append_left hn]; exact e)
      exact ⟨b, by rw [List.getElem?_take_of_lt hn]; exact q1, q2, obAt_cut q3 (hm n ob e)⟩
    have le : Le c.G0 c.μ0 c.H0 G (μ.take m.length) H := ⟨s.le.ex, fun n b e => by
      have hn := (List.getElem?_eq_some_iff.mp e).1
      rw [List.getElem?_take_of_lt (by omega)]; exact s.le.pre n b e, fun b u h1 h2 h3 => by
      obtain ⟨k1, k2, k3⟩ := s.le.prv b u h1 h2 h3
      exact ⟨k1, k2, fun z => k3 (List.mem_of_mem_take z)⟩, s.le.th⟩
    have base : St3 c ρ m σ H T G (μ.take m.length) := by
      refine ⟨s.len, mem, le, fun p hp => ?_, sp.nd⟩
      have k := sp.cells p hp
      have low := hl p hp
      obtain ⟨x, y⟩ := p
      cases y with
      | un => trivial
      | val d => obtain ⟨w, e, r⟩ := k; exact ⟨w, e, r.cut low⟩
      | own ob => obtain ⟨b, e, ra, g, n, z⟩ := k; exact ⟨b, e, obAt_cut ra low, g, fun hb => n (List.mem_of_mem_take hb), z⟩
    refine base.pushO (obAt_cut e3 ho) e2 hna h0 fun q hq e => ?_
    obtain ⟨ob', rfl⟩ := ownA_some e
    obtain ⟨b, eb, _, _, n, _⟩ := sp.cells _ hq
    cases eb
    exact n (List.mem_of_getElem? ha)
def memLow (k : Nat) : Mm → Bool
  | [] => true
  | none :: m => memLow k m
  | some o :: m => lowO k o && memLow k m
theorem memLow_at {k : Nat} : ∀ {m : Mm} {n : Nat} {o : Ob}, memLow k m = true → m[n]? = some (some o) → lowO k o = true
  | [], n, o, h, e => by simp at e
  | none :: m, 0, o, h, e => by simp at e
  | none :: m, n + 1, o, h, e => memLow_at (m := m) h (by simpa using e)
  | some o' :: m, 0, o, h, e => by
    simp at e; subst e
    exact (Bool.and_eq_true_iff.mp h).1
  | some o' :: m, n + 1, o, h, e => memLow_at (m := m) (Bool.and_eq_true_iff.mp h).2 (by simpa using e)
/-- a fresh object handed back by its number, the last one: its caller's own -/
def ownE2 (k : Nat) (m : Mm) : Option (Option Ob) → Rs Ob
  | some (some o) => if memLow k (m.take k) = true ∧ lowO k o = true then .ok o (m.take k) else .no
  | _ => .no
def ownEnd (k : Nat) : Rs Ar → Rs Ob
  | .ok (.v (.loc n)) m => if n = k ∧ m.length = k + 1 then ownE2 k m m[k]? else .no
  | .ex x m => .ex x m
  | _ => .no
def mOwnE (f : ME) : MN := fun ρ m => ownEnd m.length (f ρ m)
theorem Pre.le {μ μ' : List Addr} (p : Pre μ μ') : μ.length ≤ μ'.length := by
  rcases Nat.lt_or_ge μ'.length μ.length with h | h
  · have e : μ[μ'.length]? = some μ[μ'.length] := List.getElem?_eq_getElem h
    have := (List.getElem?_eq_some_iff.mp (p _ _ e)).1
    omega
  · exact h
section
variable {X : Cx} {E : WX} {e : Expr} {f : ME}
theorem n_own (h : PX X E e f) : PN X E e (mOwnE f) :=
  PEi h fun σ H Q ⟨b, ρ, m, T, S, w⟩ => by
    refine ⟨b, ρ, m, T, S, ?_⟩
    unfold mOwnE at w
    obtain ⟨G, μ, s⟩ := S
    have low := s.lowT
    have hk : (b.cf X.K X.mg).μ0.length ≤ m.length := by rw [← s.mem.len]; exact s.le.pre.le
    revert w
    cases f ρ m with
    | no => exact id
    | ex x m1 => exact id
    | ok x m1 =>
      intro w v H1 S1 hb
      cases x with
      | b i => exact w.elim
      | v d =>
        cases d with
        | loc n =>
          rw [show ownEnd m.length (.ok (.v (.loc n)) m1) = if n = m.length ∧ m1.length = m.length + 1 then ownE2 m.length m1 m1[m.length]? else .no from rfl] at w
          by_cases hn : n = m.length ∧ m1.length = m.length + 1
          · rw [if_pos hn] at w
            obtain ⟨hn, hl⟩ := hn
            subst hn
            cases he : m1[m.length]? with
            | none => rw [he] at w; exact w.elim
            | some q =>
              rw [he] at w
              cases q with
              | none => exact w.elim
              | some o =>
                rw [show ownE2 m.length m1 (some (some o)) = if memLow m.length (m1.take m.length) = true ∧ lowO m.length o = true then .ok o (m1.take m.length) else .no from rfl] at w
                by_cases hp : memLow m.length (m1.take m.length) = true ∧ lowO m.length o = true
                · rw [if_pos hp] at w
                  have hm1 : m1 = m1.take m.length ++ [some o] := by
                    have h1 : m1.drop m.length = [some o] := by
                      have h2 : m1.drop m.length = m1[m.length] :: m1.drop (m.length + 1) := List.drop_eq_getElem_cons (by omega)
                      rw [h2, List.drop_eq_nil_of_le (by omega)]
                      rw [List.getElem?_eq_getElem (by omega)] at he
                      exact congrArg (fun z => [z]) (Option.some.inj he)
                    rw [← h1, List.take_append_drop]
                  have hlen : (m1.take m.length).length = m.length := by rw [List.length_take]; omega
                  obtain ⟨G1, μ1, s1⟩ := S1
                  have s1 : St3 (b.cf X.K X.mg) ρ m1 σ H1 (tv v (.loc m.length) :: T) G1 μ1 := s1
                  rw [hm1] at s1
                  have s2 : St3 (b.cf X.K X.mg) ρ (m1.take m.length ++ [some o]) σ H1 (tv v (.loc (m1.take m.length).length) :: T) G1 μ1 := by rw [hlen]; exact s1
                  obtain ⟨a, rfl, s3⟩ := s2.popM (by rw [hlen]; exact low) (fun n o' e' => by rw [hlen]; exact memLow_at hp.1 e') (by rw [hlen]; exact hp.2) (by rw [hlen]; exact hk)
                  exact w a H1 ⟨_, _, s3⟩
                · rw [if_neg hp] at w; exact w.elim
          · rw [if_neg hn] at w; exact w.elim
        | _ => exact w.elim
end
/-! ### a slice of a list as a new list -/
section
variable {X : Cx} {E : WX} {a : Expr} {fa : ME} {fl fh : MO} {lo hi : Option Expr} {pos p2 : Pos}
def gSlN (ρ : Sl) (m : Mm) (x : Ar) (lo hi : Option Int) : Rs Ob := match lstOf ρ m x with
  | some ds => .ok (.lst (cutD ds lo hi)) m
  | none => .no
def mSlN (fa : ME) (fl fh : MO) : MN := fun ρ m => (fa ρ m).bind fun x m1 => (fl ρ m1).bind fun lo m2 => (fh ρ m2).bind fun hi m3 => gSlN ρ m3 x lo hi
theorem sl_new {X : Cx} : SlR X (rSlL X.K) := sl_list
theorem n_sl (ha : PX X E a fa) (hl : POx X E lo fl) (hh : POx X E hi fh) : PN X E (.Subscript a (.Slice lo hi none p2) pos) (mSlN fa fl fh) :=
  PEi (pe_slice sl_list ha hl hh) fun σ H Q ⟨b, ρ, m, T, S, w⟩ => by
    refine ⟨b, ρ, m, T, S, ?_⟩
    unfold mSlN at w
    revert w
    cases fa ρ m with
    | no => exact id
    | ex x m1 => exact id
    | ok x m1 =>
      intro w v H1 S1 hb
      refine ⟨b, ρ, m1, tva v x ++ T, S1, ?_⟩
      rw [Rs.bind_ok] at w
      revert w
      cases fl ρ m1 with
      | no => exact id
      | ex x m1 => exact fun w => WantX.weak w
      | ok lo m2 =>
        intro w H2 S2
        refine ⟨b, ρ, m2, tva v x ++ T, S2, ?_⟩
        rw [Rs.bind_ok] at w
        revert w
        cases fh ρ m2 with
        | no => exact id
        | ex x m1 => exact fun w => WantX.weak w
        | ok hi m3 =>
          intro w H3 ⟨G, μ, s⟩
          rw [Rs.bind_ok] at w
          unfold gSlN at w
          cases e : lstOf ρ m3 x with
          | none => rw [e] at w; exact w.elim
          | some ds =>
            rw [e] at w
            obtain ⟨a, vs, rfl, h1, h2⟩ := lst_at s.pops (s.ar (S := T) hb) e
            refine ⟨a, vs, rfl, SqL.of h1, fun p hp => w p _ ⟨G, μ, s.pops.newO hp ⟨_, upd_same, cutD_rep h2 lo hi⟩⟩⟩
end
end M3

set_option Elab.async false
set_option linter.all false
set_option autoImplicit false
set_option maxRecDepth 100000
set_option maxHeartbeats 2000000
/-! M3zz: zip of two lists, xs[::-1]. -/
namespace M3
open PySem L2 PySem.Spec PyProof.Rows
section
variable {X : Cx} {E : WX} {e e2 a : Expr} {fa : ME} {fs : MA} {p pos tpos p1 p2 p3 : Pos} {elts : List Expr} {kk k : Nat}
def mZipL (f : MA) : MI := fun ρ m => (f ρ m).bind fun ds m1 => match ds with
  | [.lst xs, .lst ys] => if xs.length ≤ sizeLine then .ok (zipD xs ys) m1 else .no
  | _ => .no
theorem jok_zip {c : Cf} {a b : Addr} {ds es : List Dv} : JOk c (Itz c.K a b) [tv (.ref a) (.lst ds), tv (.ref b) (.lst es)] (zipD ds es) := by
  intro ρ m σ H T i hT ⟨G, μ, s⟩
  have r1 := s.at (hT (tv (.ref a) (.lst ds)) (by simp))
  have r2 := s.at (hT (tv (.ref b) (.lst es)) (by simp))
  cases r1 with
  | @lst _ _ vs h1 z1 r1 =>
    cases r2 with
    | @lst _ _ ws h2 z2 r2 =>
      have q1 : SqL c.K H a vs := SqL.of (s.mem.st.l h1)
      have q2 : SqL c.K H b ws := SqL.of (s.mem.st.l h2)
      have l1 := r1.length
      have l2 := r2.length
      rw [zipD_len]
      refine ⟨fun hi => ⟨vs, ws, vs[i]'(by omega), ws[i]'(by omega), q1, q2, List.getElem?_eq_getElem _, List.getElem?_eq_getElem _⟩, fun d hd x H' y => ?_, fun hi => ⟨vs, ws, q1, q2, by omega⟩⟩
      obtain ⟨T', x', y', e1, e2, e3, e4, e5⟩ := y
      subst e1; subst e3
      rw [zipD_get] at hd
      cases g1 : ds[i]? with
      | none => rw [g1] at hd; cases hd
      | some d1 =>
        cases g2 : es[i]? with
        | none => rw [g1, g2] at hd; cases hd
        | some d2 =>
          rw [g1, g2] at hd
          cases hd
          obtain ⟨v1, hv1, rv1⟩ := r1.get g1
          obtain ⟨v2, hv2, rv2⟩ := r2.get g2
          have t1 := e4 vs q1
          have t2 := e5 ws q2
          rw [hv1] at t1; cases t1
          rw [hv2] at t2; cases t2
          exact s.newT (.cons rv1 (.cons rv2 .nil)) two_le e2
theorem i_zip (hg : Gl X "zip") (hm : X.mg "zip" = none) (ha : PXs X E [e, e2] fs) (hs : starEach [e, e2] X.env = (false, eval e X.env) :: starEach [e2] X.env := by rfl) (hpl : (backTo pos (starEach [e2] X.env)).any (·.1) = false := by rfl) :
    PIx X E (.Tuple elts kk tpos) (.Call (.Name "zip" p) [e, e2] [] pos) (mZipL fs) :=
  PIi (RZ.pi_zipA hg hm ha hs hpl) fun σ H R ⟨b, ρ, m, T, S, w⟩ => by
    refine ⟨b, ρ, m, T, S, ?_⟩
    unfold mZipL at w
    revert w
    cases fs ρ m with
    | no => exact id
    | ex x m1 => exact id
    | ok ds m1 =>
      intro w vs H1 hl ⟨G, μ, s⟩
      rw [Rs.bind_ok] at w
      have r := tvs_rep hl s
      split at w
      · rename_i xs ys
        split at w
        · rename_i hz
          cases r with
          | cons r1 r =>
            cases r with
            | cons r2 r =>
              cases r
              obtain ⟨G0, μ0, s0⟩ := (show S3 (b.cf X.K X.mg) ρ m1 σ H1 _ from ⟨G, μ, s⟩)
              cases id r1 with
              | @lst _ a1 v1 h1 z1 q1 =>
                cases id r2 with
                | @lst _ a2 v2 h2 z2 q2 =>
                  refine ⟨a1, a2, v1, v2, rfl, .inl ⟨SqL.of (s.mem.st.l h1), SqL.of (s.mem.st.l h2), ?_⟩⟩
                  exact w _ H1 [tv (.ref a1) (.lst xs), tv (.ref a2) (.lst ys)] (fun p hp => by
                    simp only [List.mem_cons, List.not_mem_nil, or_false] at hp
                    rcases hp with rfl | rfl <;> exact ownA_val) (by rw [zipD_len]; omega) ⟨G, μ, s⟩ jok_zip
        · exact w.elim
      · exact w.elim
/-- xs[::-1], a list -/
def mRevN (f : ME) : MN := fun ρ m => (f ρ m).bind fun x m1 => match lstOf ρ m1 x with
  | some ds => .ok (.lst ds.reverse) m1
  | none => .no
theorem n_rev (ha : PX X E e fa) : PN X E (.Subscript e (.Slice none none (some (.UnaryOp .USub (.Constant (.int 1) k p1) p2)) p3) pos) (mRevN fa) :=
  PEi (L2.pe_revL ha) fun σ H Q ⟨b, ρ, m, T, S, w⟩ => by
    refine ⟨b, ρ, m, T, S, ?_⟩
    unfold mRevN at w
    revert w
    cases fa ρ m with
    | no => exact id
    | ex x m1 => exact id
    | ok x m1 =>
      intro w v H1 ⟨G, μ, s⟩ hb
      rw [Rs.bind_ok] at w
      cases e1 : lstOf ρ m1 x with
      | none => rw [e1] at w; exact w.elim
      | some ds =>
        rw [e1] at w
        obtain ⟨a, vs, rfl, h1, h2⟩ := lst_at s.pops (s.ar (S := T) hb) e1
        exact ⟨a, vs, rfl, SqL.of h1, fun p hp => w p _ ⟨G, μ, s.pops.newO hp ⟨_, upd_same, h2.rev⟩⟩⟩
end
end M3

set_option Elab.async false
set_option linter.all false
set_option autoImplicit false
set_option maxRecDepth 100000
set_option maxHeartbeats 2000000
/-! M3aa: the module's own dicts with text keys, read. -/
namespace M3
open PySem L2 PySem.Spec PyProof.Rows
/-- a written dict: what stands in it, and what does not -/
def GD (S : Sg) (x : Str) (kvs : List (Str × Dv)) (neg : List Str) : Prop :=
  ∃ d es n, S.mg x = some (.ref d) ∧ KDict S.K S.w d es n ∧ (∀ z dv, kvs.lookup z = some dv → ∃ u v, PySem.W.nsIn S.K d z = some (some u) ∧ RelV v u ∧ ∀ μ G, Rep S.K S.mg μ G dv v) ∧ ∀ z ∈ neg, PySem.W.nsIn S.K d z = some none
def gInKd (nm : Str) (kvs : List (Str × Dv)) (neg : List Str) : Sl → Mm → Ar → Ar → Rs Ar := fun _ m x y => match x, y with
  | .v (.str z), .v (.glb w) => if w = nm then match kvs.lookup z with
      | some _ => .ok (.v (.bl true)) m
      | none => if neg.contains z = true then .ok (.v (.bl false)) m else .no
    else .no
  | _, _ => .no
def gIxKd (nm : Str) (kvs : List (Str × Dv)) : Sl → Mm → Ar → Ar → Rs Ar := fun _ m x y => match x, y with
  | .v (.glb w), .v (.str z) => if w = nm then match kvs.lookup z with
      | some d => .ok (.v d) m
      | none => .no
    else .no
  | _, _ => .no
theorem relV_ref {v : V} {d : Addr} (h : L2.RelV v (.ref d)) : v = .ref d := by
  cases v with
  | ref a => cases h; rfl
  | int i => obtain ⟨t, e⟩ := h; cases e
  | str i => obtain ⟨t, e⟩ := h; cases e
  | byt i => obtain ⟨t, e⟩ := h; cases e
  | flt i => obtain ⟨t, e⟩ := h; cases e
  | _ => cases h
section
variable {X : Cx} {E : WX} {nm : Str} {kvs : List (Str × Dv)} {neg : List Str}
def rInKd (X : Cx) (d : Addr) : R2 := fun x y H Q => ∃ (z : Str) (r : Option Value), x = .str z ∧ y = .ref d ∧ PySem.W.nsIn X.K d z = some r ∧ Q (.bl r.isSome) H
theorem opS_inKd {d : Addr} (h1 : X.mg nm = some (.ref d)) (h3 : ∀ z dv, kvs.lookup z = some dv → ∃ u v, PySem.W.nsIn X.K d z = some (some u) ∧ L2.RelV v u ∧ ∀ μ G, Rep X.K X.mg μ G dv v) (h4 : ∀ z ∈ neg, PySem.W.nsIn X.K d z = some none) : OpS X.K X.mg E (rInKd X d) (gInKd nm kvs neg) :=
  fun b' ρ m σ H T G μ v u x y Q s r1 r2 w => by
  unfold gInKd at w
  split at w
  · rename_i z w'
    split at w
    · rename_i e
      subst e
      cases r1
      cases r2 with
      | @glb _ u' _ e1 e2 =>
        have e1 : X.mg w' = some u' := e1
        rw [h1] at e1; cases e1
        have e2 := relV_ref e2
        subst e2
        split at w
        · rename_i dv hl
          obtain ⟨u0, v0, k1, k2, k3⟩ := h3 z dv hl
          exact ⟨z, _, rfl, rfl, k1, Want.s w s rfl⟩
        · split at w
          · rename_i hn
            exact ⟨z, _, rfl, rfl, h4 z (by simpa using hn), Want.s w s rfl⟩
          · exact w.elim
    · exact w.elim
  · exact w.elim
theorem x_inKd {a b : Expr} {fa fb : ME} {pos : Pos} (D : GD (sg X) nm kvs neg) (ha : PX X E a fa) (hb : PX X E b fb) (hm : behindInMarks .In b = false) : PX X E (.Compare a [.In] [b] pos) (mBin (gInKd nm kvs neg) fa fb) := by
  obtain ⟨d, es, n, h1, h2, h3, h4⟩ := D
  exact x_cmp (r := rInKd X d) (op_in_kd h2) (opS_inKd h1 h3 h4) ha hb hm
theorem b_inKd {a b : Expr} {fa fb : ME} {pos : Pos} (D : GD (sg X) nm kvs neg) (ha : PX X E a fa) (hb : PX X E b fb) (hm : behindInMarks .In b = false) : PB X E (.Compare a [.In] [b] pos) (mIsB (mBin (gInKd nm kvs neg) fa fb)) := by
  obtain ⟨d, es, n, h1, h2, h3, h4⟩ := D
  exact b_cmp (r := rInKd X d) (op_in_kd h2) (opS_inKd h1 h3 h4) ha hb hm
theorem x_ixKd {a b : Expr} {fa fb : ME} {pos : Pos} (D : GD (sg X) nm kvs neg) (ha : PX X E a fa) (hb : PX X E b fb) (hs : PlainIx b) : PX X E (.Subscript a b pos) (mBin (gIxKd nm kvs) fa fb) := by
  obtain ⟨d, es, n, h1, h2, h3, h4⟩ := D
  refine x_ix ix_kdict (fun b' ρ m σ H T G μ v u x y Q s r1 r2 w => ?_) ha hb hs
  unfold gIxKd at w
  split at w
  · rename_i w' z
    split at w
    · rename_i e
      subst e
      cases r2
      cases r1 with
      | @glb _ u' _ e1 e2 =>
        have e1 : X.mg w' = some u' := e1
        have h1 : X.mg w' = some (.ref d) := h1
        rw [h1] at e1; cases e1
        have e2 := relV_ref e2
        subst e2
        split at w
        · rename_i dv hl
          obtain ⟨u0, v0, k1, k2, k3⟩ := h3 z dv hl
          exact ⟨d, z, v0, rfl, rfl, ⟨es, n, u0, h2.at_, h2.lit, k1, k2⟩, w.v ⟨G, μ, s.push (k3 μ G)⟩⟩
        · exact w.elim
    · exact w.elim
  · exact w.elim
/-- the pairs of a written dict, one by one -/
def AllKd (K : PySem.W.Frag) (mg : Str → Option Value) (d : Addr) (kvs : List (Str × Dv)) : Prop := ∀ p ∈ kvs, ∃ u v, PySem.W.nsIn K d p.1 = some (some u) ∧ L2.RelV v u ∧ ∀ μ G, Rep K mg μ G p.2 v
theorem ak_nil {K : PySem.W.Frag} {mg : Str → Option Value} {d : Addr} : AllKd K mg d [] := fun p h => by cases h
theorem ak_cons {K : PySem.W.Frag} {mg : Str → Option Value} {d : Addr} {z : Str} {dv : Dv} {kvs : List (Str × Dv)} {u : Value} {v : V} (h1 : PySem.W.nsIn K d z = some (some u)) (h2 : L2.RelV v u) (h3 : ∀ μ G, Rep K mg μ G dv v) (t : AllKd K mg d kvs) : AllKd K mg d ((z, dv) :: kvs) := fun p h => by
  rcases List.mem_cons.mp h with e | e
  · subst e; exact ⟨u, v, h1, h2, h3⟩
  · exact t p e
theorem lookup_mem {z : Str} {dv : Dv} : ∀ {kvs : List (Str × Dv)}, kvs.lookup z = some dv → (z, dv) ∈ kvs
  | [], h => by cases h
  | (y, e) :: r, h => by
    by_cases q : z = y
    · subst q
      simp [List.lookup] at h
      subst h; simp
    · have q' : (z == y) = false := by simpa using q
      simp only [List.lookup, q'] at h
      exact List.mem_cons_of_mem _ (lookup_mem h)
theorem gd_mk {S : Sg} {x : Str} {d : Addr} {kvs : List (Str × Dv)} {ks : List Str} (hm : S.mg x = some (.ref d)) (hd : He.dicW S.K d = some (He.keysIn S.w.params ks)) (h : AllKd S.K S.mg d kvs) : GD S x kvs [] := by
  obtain ⟨es, n, kd⟩ := He.dicW_ok hd
  exact ⟨d, es, n, hm, kd, fun z dv e => h _ (lookup_mem e), fun z e => by cases e⟩
end
end M3

set_option Elab.async false
set_option linter.all false
set_option autoImplicit false
set_option maxRecDepth 100000
set_option maxHeartbeats 2000000
/-! M3ab: x, y, z = a, b, c with plain local names. -/
namespace M3
open PySem L2 PySem.Spec PyProof.Rows
def mPar3 (i j l : Nat) (f : MC) : MS := fun ρ m => (f ρ m).st ρ fun ys m1 => match ys with
  | [x, y, z] => if isUn x = false ∧ isUn y = false ∧ isUn z = false then .nx (((ρ.set i x).set j y).set l z) m1 else .no
  | _ => .no
section
variable {X : Cx} {E : WX}
theorem s_par3 {i j l : Nat} {x y z : Str} {a b c : Expr} {f : MC} {px py pz pt pos : Pos} {kt k2 pt2} (hc : X.calm = true) (hN : X.N.Nodup) (hi : X.N[i]? = some x) (hj : X.N[j]? = some y) (hl : X.N[l]? = some z) (hij : i ≠ j) (hil : i ≠ l) (hjl : j ≠ l)
    (hx : X.env.scope.names.lookup x = some .local) (hy : X.env.scope.names.lookup y = some .local) (hz : X.env.scope.names.lookup z = some .local) (ha : PCs X E [a, b, c] f)
    (hw : swappedStores [.Tuple [.Name x px, .Name y py, .Name z pz] kt pt] (.Tuple [a, b, c] k2 pt2) X.env = pure (some [x, y, z]))
    (hs : swapsWithSole [.Tuple [.Name x px, .Name y py, .Name z pz] kt pt] (.Tuple [a, b, c] k2 pt2) pos.line X.env = pure false := by rfl) :
    PSx X E (.Assign [.Tuple [.Name x px, .Name y py, .Name z pz] kt pt] (.Tuple [a, b, c] k2 pt2) pos) (mPar3 i j l f) :=
  PSi (ps_par3 hc hN hi hj hl hij hil hjl hx hy hz ha hw hs) fun D σ H ⟨b, ρ, m, T, S, w⟩ => by
    refine ⟨b, ρ, m, T, S, ?_⟩
    unfold mPar3 at w
    revert w
    cases f ρ m with
    | no => exact fun h => h
    | ex x m1 => exact fun w => w σ
    | ok ys m1 =>
      intro w vs H1 hl S1
      rw [Rs.st_ok] at w
      split at w
      · rename_i x y z
        split at w
        · rename_i q
          match vs, hl, S1 with
          | [u, v, r], _, S1 =>
            have S1 : S3 (b.cf X.K X.mg) ρ m1 σ H1 ((some u, x) :: (some v, y) :: (some r, z) :: T) := S1
            refine ⟨u, v, r, rfl, w _ _ ?_⟩
            have h1 := S1.setC (i := i) (fun e => by subst e; simp [isUn] at q)
            have h2 := h1.setC (i := j) (fun e => by subst e; simp [isUn] at q)
            exact h2.setC (i := l) (fun e => by subst e; simp [isUn] at q)
        · exact w.elim
      · exact w.elim
end
section
variable {X : Cx} {N : List Str} {sc fsc : Scope} (h : Nm X N sc fsc)
include h
theorem Nm.swE {e : Expr} {t : Option Expr} {l : Nat} {r : Sem Bool} (q : swapsWith e t l (envS sc) = r) : swapsWith e t l X.env = r := by
  have z : swapsWith e t l X.env = swapsWith e t l (envS X.env.scope) := rfl
  rw [z, h.hsc]; exact q
end
section
variable {X : Cx} {E : WX}
/-! a if t else b as a test -/
def mIfB (t f g : MB) : MB := fun ρ m => (t ρ m).bind fun k m1 => if k = true then f ρ m1 else g ρ m1
section
variable {c a b : Expr} {pos : Pos} {tc ta tb : MB} {tA tA1 tA2 : TT}
def tIfT (t t1 t2 : TT) : TT := fun σ H Q => t σ H fun k H1 => if k = true then t1 σ H1 Q else t2 σ H1 Q
theorem pt_ifExp (hc : PT X c tA) (ha : PT X a tA1) (hb : PT X b tA2) : PT X (.IfExp c a b pos) (tIfT tA tA1 tA2) := by
  refine ⟨fun pins s σ H Q I h => ?_⟩
  show wpAny _ _ (do if ← isTrue c X.env (eval c X.env) then isTrue a X.env (eval a X.env) else isTrue b X.env (eval b X.env)) _ _ _
  refine wpAny_bind (thn (hc.run pins s σ H _ I h) fun d s1 ⟨H1, I1, q1⟩ => ?_)
  cases d with
  | true => exact ha.run pins s1 σ H1 Q I1 q1
  | false => exact hb.run pins s1 σ H1 Q I1 q1
theorem b_if (hc : PB X E c tc) (ha : PB X E a ta) (hb : PB X E b tb) : PB X E (.IfExp c a b pos) (mIfB tc ta tb) :=
  PTi (pt_ifExp hc ha hb) fun σ H Q ⟨b, ρ, m, T, S, w⟩ => by
    refine ⟨b, ρ, m, T, S, ?_⟩
    unfold mIfB at w
    revert w
    cases tc ρ m with
    | no => exact id
    | ex x m1 => exact id
    | ok k m1 =>
      intro w H1 S1
      have w : WantB E (b.cf X.K X.mg) ρ σ T Q (if k = true then ta ρ m1 else tb ρ m1) := w
      by_cases hk : k = true
      · rw [if_pos hk] at w ⊢; exact ⟨b, ρ, m1, T, S1, w⟩
      · rw [if_neg hk] at w ⊢; exact ⟨b, ρ, m1, T, S1, w⟩
end
end
/-! str of an int or a text -/
def gStr2 : Sl → Mm → Ar → Rs Ar := fun _ m x => match x with
  | .v (.int i) => if i.natAbs.log2 < 1920 then .ok (.v (.str (toString i))) m else .no
  | .v (.str a) => .ok (.v (.str a)) m
  | _ => .no
def rStr2 : List V → Hp → VK → Prop := fun xs H Q => (∃ i, xs = [.int i] ∧ i.natAbs.log2 < 1920 ∧ Q (.str (toString i)) H) ∨ ∃ a, xs = [.str a] ∧ Q (.str a) H
theorem call_str2 {X : Cx} : CallR X (.type "str") rStr2 := CallR.or call_str_int SkE.call_str_str
section
variable {K : PySem.W.Frag} {mg : Str → Option Value} {E : WX}
theorem unS_str2 : UnS K mg E (fun v => rStr2 [v]) gStr2 := fun b ρ m σ H T G μ v x Q s r w => by
  unfold gStr2 at w
  split at w
  · split at w
    · rename_i z
      cases r; exact .inl ⟨_, rfl, z, Want.s w s rfl⟩
    · exact w.elim
  · cases r; exact .inr ⟨_, rfl, Want.s w s rfl⟩
  · exact w.elim
end
end M3

set_option Elab.async false
set_option linter.all false
set_option autoImplicit false
set_option maxRecDepth 100000
set_option maxHeartbeats 4000000
/-! M3ac: sorted of a list or a tuple of ints. -/
namespace M3
section
open PySem PySem.Builtin PyProof.Rows Srt SrtO
variable {prog : Program} {w : World} {A : Around} {E : Value → Shared → Prop} {s : Shared}
theorem collect_tup {l : Addr} {vs : List Value} {Q : List Value → Shared → Prop} (hl : IsTup s.heap l vs.toArray)
    (h : Q vs { s with heap := (s.heap.push (seqObj "list" #[] 0)).update s.heap.objs.size (Obj.mapSeq (· ++ vs.toArray)) }) (hsz : vs.length ≤ sizeLine) :
    wpAny (model prog w) A (collect (.ref l)) Q E s := by
  obtain ⟨o, ho, hc, n, hd⟩ := id hl
  unfold collect
  refine wpAny_bind (wpAny_runValue (codeAny_builtin entry_proto_collect' ?_))
  show wpAny _ _ (do again (.builtin "list.__iadd__" ⟨[← newList [], .ref l], []⟩)) _ _ s
  refine wpAny_bind (wpAny_newList (wpAny_pure ⟨Code.quiet_builtin _ (by decide +kernel), codeAny_builtin entry_list_iadd' ?_⟩))
  show wpAny _ _ (Builtin.List.listExtendWith (.ref s.heap.objs.size) (.ref l) (.ref s.heap.objs.size)) _ _ { s with heap := s.heap.push (seqObj "list" #[] 0) }
  unfold Builtin.List.listExtendWith
  have ho' : (s.heap.push (seqObj "list" #[] 0)).get? l = some o := Heap.get?_push_of_some _ ho
  refine wpAny_bind (wpAny_typeOf (T := "tuple") ⟨o, ho', hc⟩ ?_)
  have ht : (Value.type "tuple" == Value.type "tuple") = true := by rfl
  rw [if_pos (by rw [ht]; simp)]
  refine wpAny_bind (listItems_at ho' hd ?_)
  refine wpAny_bind (listItems_at (xs := #[]) (n := 0) (Heap.get?_push_size _ rfl) rfl ?_)
  rw [if_neg (by simp)]
  refine wpAny_bind (listUpdate_at (xs := #[]) (n := 0) (Heap.get?_push_size _ rfl) rfl ?_ (Nat.zero_le _) (by show (#[] ++ vs.toArray).size ≤ sizeLine + 1; simp only [Array.size_append, List.size_toArray, List.length_nil]; omega))
  refine wpAny_pure ?_
  show wpAny (model prog w) A (do
      let o ← load s.heap.objs.size
      match o.data with
      | .seq xs _ => pure xs.toList
      | _ => unsupported "internal:collect") Q E { s with heap := (s.heap.push (seqObj "list" #[] 0)).update s.heap.objs.size (Obj.mapSeq (· ++ vs.toArray)) }
  refine wpAny_bind (wpAny_load (get?_update_seq (Heap.get?_push_size _ rfl) _) ?_)
  show wpAny _ _ (pure ((#[] : Array Value) ++ vs.toArray).toList) Q E _
  rw [show ((#[] : Array Value) ++ vs.toArray).toList = vs by simp]
  exact wpAny_pure h
theorem sorted_ord_tup {l : Addr} {vs : List Value} {ltv : Value → Value → Bool} {Q : Value → Shared → Prop} (O : Swo ltv) (hl : IsTup s.heap l vs.toArray) (hz : vs.length ≤ sizeLine)
    (hS : 2 ≤ vs.length → ∀ (h₁ : Heap) (a : Addr), h₁.get? a = some (seqObj "list" vs.toArray 0) → (∀ b o, s.heap.get? b = some o → b ≠ a ∧ h₁.get? b = some o) → SortableO prog w A.in1.in1 { s with heap := h₁ } a vs ltv)
    (h : ∀ out : List Value, Srtd ltv out → Stb ltv out vs → Q (.ref (s.heap.objs.size + 1)) { s with heap := sortedAll s.heap vs out.toArray }) :
    wpAny (model prog w) A (call (.builtin "sorted") [.ref l]) Q E s := by
  refine Calls.call_function_entry kind_sorted plain_sorted entry_sorted (args_sorted1 _) ?_
  unfold Builtin.«sorted»
  refine wpAny_bind (m := checkCount "sorted" 1 1 _) (wpAny_pure ?_)
  refine wpAny_bind (collect_tup hl ?_ hz)
  refine wpAny_bind (wpAny_newList ?_ hz)
  have hsz : ((s.heap.push (seqObj "list" #[] 0)).update s.heap.objs.size (Obj.mapSeq (· ++ vs.toArray))).objs.size = s.heap.objs.size + 1 := by
    rw [Heap.size_update, size_push']
  have hoL : (((s.heap.push (seqObj "list" #[] 0)).update s.heap.objs.size (Obj.mapSeq (· ++ vs.toArray))).push (seqObj "list" vs.toArray 0)).get? (s.heap.objs.size + 1) = some (seqObj "list" vs.toArray 0) := by
    rw [← hsz]; exact Heap.get?_push_size _ rfl
  have keep : ∀ b o, s.heap.get? b = some o → b ≠ s.heap.objs.size + 1 ∧ (((s.heap.push (seqObj "list" #[] 0)).update s.heap.objs.size (Obj.mapSeq (· ++ vs.toArray))).push (seqObj "list" vs.toArray 0)).get? b = some o := fun b o q => by
    have hlt : b < s.heap.objs.size := Heap.lt_size q
    refine ⟨Nat.ne_of_lt (Nat.lt_succ_of_lt hlt), Heap.get?_push_of_some _ ?_⟩
    rw [Heap.get?_update_ne _ _ _ _ (Nat.ne_of_lt hlt)]
    exact Heap.get?_push_of_some _ q
  show wpAny _ _ _ _ _ { s with heap := ((s.heap.push (seqObj "list" #[] 0)).update s.heap.objs.size (Obj.mapSeq (· ++ vs.toArray))).push (seqObj "list" vs.toArray 0) }
  rw [hsz]
  refine wpAny_bind (wpAny_holding (wpAny_call_entry slot_list_sort ⟨_, hoL, rfl⟩ entry_list_sort (list_sort_ord O hoL hz (fun h2 => hS h2 _ _ hoL keep) fun out hs hb => ⟨_, rfl, ?_⟩) (args_list_sort _)))
  exact wpAny_pure ⟨_, rfl, h out hs hb⟩
end
open PySem L2 PySem.Spec PyProof.Rows
def rSortedU (K : PySem.W.Frag) : List V → Hp → VK → Prop := fun vs H Q => ∃ (a : Addr) (ns : List Int), vs = [V.ref a] ∧ (SqL K H a (ns.map V.int) ∨ SqT K H a (ns.map V.int)) ∧
  ∀ (ns' : List Int) (p : Addr), ns'.Perm ns → ns'.Pairwise (· ≤ ·) → H p = none → Q (.ref p) (upd H p (.lst (ns'.map V.int)))
theorem cr_sortedU {X : Cx} : CallR X (.builtin "sorted") (rSortedU X.K) := by
  intro pins s σ H vs us Q I r h
  obtain ⟨a, ns, rfl, hs, q⟩ := h
  rcases hs with hs | hs
  · exact cr_sortedI pins s σ H _ us Q I r ⟨a, ns, rfl, hs, q⟩
  · obtain ⟨its, rv, hl, hz⟩ := I.tuple hs
    rw [Vals.ref1 r]
    have hi := rv.ints
    refine sorted_ord_tup SrtO.swo_int hl (by rw [← rv.length]; exact hz) (fun h2 h₁ a' _ _ => SrtO.ints_sortable hi h2) fun out h1 h2 => ?_
    obtain ⟨k1, k2, k3⟩ := SrtO.ints_out hi h1 h2
    obtain ⟨ep, he'⟩ := PyProof.Rows.sortedAll_at s.heap its out.toArray
    have hlen : ((out.map SrtO.iv).map V.int).length ≤ sizeLine := by
      rw [List.length_map, k2.length_eq]
      rw [List.length_map] at hz
      exact hz
    exact ⟨.ref _, upd H (s.heap.objs.size + 1) (.lst ((out.map SrtO.iv).map V.int)), I.laid (t' := s.toks) (fun _ _ => PyProof.Rows.sortedAll_old) (Nat.le_succ _) ⟨hlen, out, ep, vals_of_ints k1, he'⟩, rfl, q _ _ k2 k3 (I.hok.fresh (Nat.le_succ _))⟩
def gSortU : Sl → Mm → Ar → Rs Ob := fun ρ m x => match (seqOf ρ m x).bind intsD with
  | some ns => .ok (.lst ((sortI ns).map .int)) m
  | none => .no
section
variable {K : PySem.W.Frag} {mg : Str → Option Value} {E : WX}
theorem unN_sortU : UnN K mg E (fun v => rSortedU K [v]) gSortU := fun b ρ m σ H T G μ v x Q s r w => by
  unfold gSortU at w
  split at w
  · rename_i ns e
    obtain ⟨ds, h1, h2⟩ := Option.bind_eq_some_iff.mp e
    obtain ⟨a, vs, rfl, ha, ra⟩ := seq_at s r h1
    rw [intsD_rep ra h2] at ha
    refine ⟨a, ns, rfl, ha, fun ns' p hp hs hn => ?_⟩
    have : ns' = sortI ns := sorted_uniq (hp.trans (sortI_perm ns).symm) hs (sortI_sorted ns)
    subst this
    exact w p _ (s.newOL (ints_rep _) hn)
  · exact w.elim
end
end M3

set_option Elab.async false
set_option linter.all false
set_option autoImplicit false
set_option maxRecDepth 100000
set_option maxHeartbeats 2000000
/-! M3ad: a number that a block took for a name is given back at the block's end. -/
namespace M3
open PySem L2 PySem.Spec PyProof.Rows
def lowCb (k : Nat) : Cell → Bool
  | .un => true
  | .val d => lowD k d
  | .own o => lowO k o
def lowS (k : Nat) : Sl → Bool
  | [] => true
  | y :: r => lowCb k y && lowS k r
theorem lowS_mem {k : Nat} : ∀ {ρ : Sl} {y : Cell}, lowS k ρ = true → y ∈ ρ → lowC k y
  | x :: r, y, h, hy => by
    unfold lowS at h
    rw [Bool.and_eq_true] at h
    rcases List.mem_cons.mp hy with e | e
    · subst e
      have h1 := h.1
      cases y with
      | un => trivial
      | val d => exact h1
      | own o => exact h1
    · exact lowS_mem h.2 e
theorem mem_zip_un {σ : L2.St} : ∀ {ρ : Sl} {i : Nat} {p : Option V × Cell}, p ∈ σ.zip (ρ.set i .un) → p ∈ σ.zip ρ ∨ p.2 = .un := by
  induction σ with
  | nil => intro ρ i p h; simp at h
  | cons s σ ih =>
    intro ρ i p h
    cases ρ with
    | nil => simp at h
    | cons r ρ =>
      cases i with
      | zero =>
        rw [List.set_cons_zero, List.zip_cons_cons] at h
        rcases List.mem_cons.mp h with e | e
        · subst e; exact .inr rfl
        · exact .inl (by rw [List.zip_cons_cons]; exact List.mem_cons_of_mem _ e)
      | succ i =>
        rw [List.set_cons_succ, List.zip_cons_cons] at h
        rcases List.mem_cons.mp h with e | e
        · subst e; exact .inl (by rw [List.zip_cons_cons]; exact List.mem_cons_self ..)
        · rcases ih e with q | q
          · exact .inl (by rw [List.zip_cons_cons]; exact List.mem_cons_of_mem _ q)
          · exact .inr q
theorem zip_un_own {σ : L2.St} {ρ : Sl} {i : Nat} : ((σ.zip (ρ.set i .un)).filterMap ownA).Sublist ((σ.zip ρ).filterMap ownA) := ownA_zip_set_un fun x => ownA_un
theorem St3.setUn {c : Cf} {ρ : Sl} {m : Mm} {σ : L2.St} {H : Hp} {T : Tm} {G : Hp} {μ : List Addr} {i : Nat} (s : St3 c ρ m σ H T G μ) : St3 c (ρ.set i .un) m σ H T G μ where
  len := by rw [List.length_set]; exact s.len
  mem := s.mem
  le := s.le
  cells := fun p hp => by
    rcases List.mem_append.mp hp with q | q
    · exact s.cells p (List.mem_append_left _ q)
    · rcases mem_zip_un q with z | z
      · exact s.cells p (List.mem_append_right _ z)
      · obtain ⟨x, y⟩ := p
        cases z
        trivial
  nd := by
    rw [List.filterMap_append]
    have := s.nd
    rw [List.filterMap_append] at this
    exact this.sublist (List.Sublist.append (List.Sublist.refl _) zip_un_own)
def dropE (k i : Nat) (ρ : Sl) (m : Mm) : Option (Option Ob) → RS
  | some (some o) => if m.length = k + 1 ∧ memLow k (m.take k) = true ∧ lowO k o = true ∧ lowS k (ρ.set i .un) = true then .nx (ρ.set i .un) (m.take k) else .no
  | _ => .no
/-- the block's end, the name i forgotten, its number given back -/
def dropR (k i : Nat) : RS → RS
  | .nx ρ m => dropE k i ρ m m[k]?
  | .rt d m => .rt d m
  | .ex x ρ m => .ex x ρ m
  | _ => .no
def mDropS (i : Nat) (f : MS) : MS := fun ρ m => dropR m.length i (f ρ m)
theorem ss_drop {X : Cx} {E : WX} {sts : List Stmt} {f : MS} {i : Nat} (h : PSsx X E sts f) : PSsx X E sts (mDropS i f) :=
  PSsi h fun D σ H ⟨b, ρ, m, T, S, w⟩ => by
    refine ⟨b, ρ, m, T, S, ?_⟩
    unfold mDropS at w
    obtain ⟨G, μ, s⟩ := S
    have low := s.lowT
    have hk : (b.cf X.K X.mg).μ0.length ≤ m.length := by rw [← s.mem.len]; exact s.le.pre.le
    revert w
    cases f ρ m with
    | no => exact id
    | rt d m' => exact id
    | ex x ρ' m' => exact id
    | bk ρ' m' => exact fun w => w.elim
    | ct ρ' m' => exact fun w => w.elim
    | nx ρ' m' =>
      intro w σ' H' S'
      rw [show dropR m.length i (.nx ρ' m') = dropE m.length i ρ' m' m'[m.length]? from rfl] at w
      cases he : m'[m.length]? with
      | none => rw [he] at w; exact w.elim
      | some q =>
        rw [he] at w
        cases q with
        | none => exact w.elim
        | some o =>
          rw [show dropE m.length i ρ' m' (some (some o)) = if m'.length = m.length + 1 ∧ memLow m.length (m'.take m.length) = true ∧ lowO m.length o = true ∧ lowS m.length (ρ'.set i .un) = true then .nx (ρ'.set i .un) (m'.take m.length) else .no from rfl] at w
          by_cases hp : m'.length = m.length + 1 ∧ memLow m.length (m'.take m.length) = true ∧ lowO m.length o = true ∧ lowS m.length (ρ'.set i .un) = true
          · rw [if_pos hp] at w
            obtain ⟨hl, p1, p2, p3⟩ := hp
            have hm1 : m' = m'.take m.length ++ [some o] := by
              have h1 : m'.drop m.length = [some o] := by
                have h2 : m'.drop m.length = m'[m.length] :: m'.drop (m.length + 1) := List.drop_eq_getElem_cons (by omega)
                rw [h2, List.drop_eq_nil_of_le (by omega)]
                rw [List.getElem?_eq_getElem (by omega)] at he
                exact congrArg (fun z => [z]) (Option.some.inj he)
              rw [← h1, List.take_append_drop]
            have hlen : (m'.take m.length).length = m.length := by rw [List.length_take]; omega
            obtain ⟨G1, μ1, s1⟩ := S'
            have s2 := s1.setUn (i := i)
            have hμ : μ1.length = m.length + 1 := by rw [s2.mem.len, hl]
            have ha : μ1[m.length]? = some (μ1[m.length]'(by omega)) := List.getElem?_eq_getElem (by omega)
            rw [hm1] at s2
            have s3 := s2.push (Rep.loc ha)
            have s4 : St3 (b.cf X.K X.mg) (ρ'.set i .un) (m'.take m.length ++ [some o]) σ' H' (tv (.ref (μ1[m.length]'(by omega))) (.loc (m'.take m.length).length) :: T) G1 μ1 := by rw [hlen]; exact s3
            obtain ⟨a, _, s5⟩ := s4.popM (fun p hp => by
              rw [hlen]
              rcases List.mem_append.mp hp with q | q
              · exact low p (List.mem_append_left _ q)
              · exact lowS_mem p3 (List.of_mem_zip (a := p.1) (b := p.2) q).2) (fun n o' e' => by rw [hlen]; exact memLow_at p1 e') (by rw [hlen]; exact p2) (by rw [hlen]; exact hk)
            exact w σ' H' ⟨_, _, s5.pop⟩
          · rw [if_neg hp] at w; exact w.elim
end M3

set_option Elab.async false
set_option linter.all false
set_option autoImplicit false
set_option maxRecDepth 100000
set_option maxHeartbeats 2000000
/-! M3ae: isinstance of a list with a number. -/
namespace M3
open PySem L2 PySem.Spec PyProof.Rows
def tyM (m : Mm) : Dv → Option String
  | .loc n => match lstOf [] m (.v (.loc n)) with
    | some _ => some "list"
    | none => none
  | d => tyD d
theorem tyM_eq {m : Mm} {d : Dv} (h : ∀ n, d ≠ .loc n) : tyM m d = tyD d := by
  cases d with
  | loc n => exact absurd rfl (h n)
  | _ => rfl
theorem tyM_ok {m : Mm} {d : Dv} {t : String} (h : tyM m d = some t) : okT t = true := by
  cases d with
  | loc n =>
    have h : (match lstOf [] m (.v (.loc n)) with | some _ => some "list" | none => (none : Option String)) = some t := h
    split at h
    · cases h; decide
    · cases h
  | _ => rw [tyM_eq (by intro n z; cases z)] at h; exact tyD_ok h
theorem tyM_at {c : Cf} {ρ : Sl} {m : Mm} {σ : L2.St} {H : Hp} {T : Tm} {G : Hp} {μ : List Addr} {v : V} {d : Dv} {t : String} (s : St3 c ρ m σ H T G μ) (r : Rep c.K c.mg μ G d v) (e : tyM m d = some t) : TyX c.K H v (.type t) := by
  cases d with
  | loc n =>
    have e : (match lstOf [] m (.v (.loc n)) with | some _ => some "list" | none => (none : Option String)) = some t := e
    split at e
    · rename_i ds q
      cases e
      have q' : lstOf ρ m (.v (.loc n)) = some ds := q
      obtain ⟨a, vs, rfl, ha, _⟩ := lst_at s (x := .v (.loc n)) r q'
      rcases SqL.of ha with (h | ⟨o, h⟩) | ⟨o, its, n, h, hc, _⟩
      · exact .base (.lst h)
      · exact .base (.frz h)
      · exact .kList h hc
    · cases e
  | _ => rw [tyM_eq (by intro n z; cases z)] at e; exact tyD_at s.mem.st r e
def gIsiM : Sl → Mm → List Dv → Rs Ar := fun _ m ds => match ds with
  | [x, .ty n] => match tyM m x with
    | some t => if okT n = true then .ok (.v (.bl (isT t n))) m else .no
    | none => .no
  | [x, .tup cs] => match tyM m x, tysD cs with
    | some t, some ns => .ok (.v (.bl (ns.any (isT t)))) m
    | _, _ => .no
  | _ => .no
theorem callS_isiM {E : WX} {K : PySem.W.Frag} {mg : Str → Option Value} : CallS K mg E (rIsiU K) gIsiM := fun b ρ m σ H T G μ vs ds Q s r w => by
  unfold gIsiM at w
  split at w
  · split at w
    · rename_i ht
      split at w
      · rename_i hn
        cases r with
        | cons a b =>
          cases b with
          | cons b c =>
            cases b; cases c
            exact .inl ⟨_, _, _, _, _, rfl, .ty _, tyM_at s a ht, kit_ty (kit_isT (tyM_ok ht) hn), Want.s w s rfl⟩
      · exact w.elim
    · exact w.elim
  · split at w
    · rename_i x cs t ns ht hns
      cases r with
      | cons a b =>
        cases b with
        | cons b c =>
          cases c
          cases b with
          | tup h z rr =>
            obtain ⟨q1, q2⟩ := tys_rep (tyM_ok ht) rr hns
            exact .inr ⟨_, _, _, .type t, _, _, rfl, s.mem.st.t h, q1, tyM_at s a ht, q2, Want.s w s rfl⟩
    · exact w.elim
  · exact w.elim
theorem gd_mk2 {S : Sg} {x : Str} {d : Addr} {kvs : List (Str × Dv)} {es : Array DictEntry} {n : Nat} (hm : S.mg x = some (.ref d)) (hl : S.K.lookup d = some ⟨.type "dict", none, .dict es n, #[]⟩) (hk : PySem.W.KeysLit S.w.params es.toList) (hs : (d == sysModules) = false) (h : AllKd S.K S.mg d kvs) : GD S x kvs [] :=
  ⟨d, es, n, hm, ⟨hl, hk, hs⟩, fun z dv e => h _ (lookup_mem e), fun z e => by cases e⟩
end M3

set_option Elab.async false
set_option linter.all false
set_option autoImplicit false
set_option maxRecDepth 100000
set_option maxHeartbeats 2000000
/-! M3af: own ==, !=, repr, ~, &, |. -/
namespace M3
open PySem L2 PySem.Spec PyProof.Rows
/-- what is known of a class's def under a special name -/
structure GOb (S : Sg) (cn mn : Str) (n k : Nat) (F : MF) (C f : Addr) : Prop where
  mg : S.mg cn = some (.ref C)
  at_ : PySem.W.findIn S.K (.ref C) mn = some (some (.ref f))
  fn : PySem.W.isFn S.K (.ref f) = true
  D : Def3n S.P S.w S.K S.mg S.base k f n F
def GO (S : Sg) (cn mn : Str) (n k : Nat) (F : MF) : Prop := ∃ C f, GOb S cn mn n k F C f
/-- != by the own == -/
def GNe (S : Sg) (cn : Str) : Prop := ∃ C, S.mg cn = some (.ref C) ∧ PySem.W.findIn S.K (.ref C) "__ne__" = some (some (.builtin "object.__ne__")) ∧ PySem.W.mroIn S.K C (.type "object") = some true
/-- a text is no object of the class -/
def GTy (S : Sg) (cn : Str) : Prop := ∃ C, S.mg cn = some (.ref C) ∧ PySem.W.subIn S.K (.type "str") (.ref C) = some false
section
variable {X : Cx} {E : WX} {k n : Nat} {f C : Addr} {F : MF} {cn mn : Str} {EE : XK}
theorem call_at {A : Around} {pins : List (Addr × Obj)} {s : Shared} {σ : L2.St} {H : Hp} {vs : List V} {us : List Value} {Q : VK} (D : Def3n X.prog X.w X.K X.mg X.base k f n F) (sb : Sub X k A) (px : PassesAt (L2.CX X.prog X.w) X σ EE) (I : Inv X pins σ H s) (r : Vals vs us)
    (h : sp3 n X.K X.mg F vs H Q EE) : wpAny (model X.prog X.w) A (call (.ref f) us) (EP X pins σ Q) X.xe s := by
  obtain ⟨fd, ps, hn, ok, hk, hb⟩ := D
  subst hn
  have e0 : Env0 X.prog X.w X.K X.mg X.base A X.stack s H := by
    have e := I.env0
    exact ⟨by rw [sb.fr]; exact e.frames, e.mod, e.bs, e.bsz, e.funs, e.frf, e.hok, e.bare⟩
  have hl := ok.len _ _ _ _ h
  have hlu := r.length
  refine wpAny_call (codeAny_mono (ok.run A X.stack s H ⟨us, []⟩ us vs Q EE sb.room e0 (by
    have := hb s us I.kIn (by simp; omega)
    simpa using this) r h) fun r s' hq => ?_)
  cases r with
  | error e => exact px pins H s e s' I hq
  | ok fl =>
    cases fl with
    | ret w => exact I.after hq
    | next => exact False.elim hq
    | brk => exact False.elim hq
    | cont => exact False.elim hq
/-- the other side: of the same class, or a text -/
def okD (cn : Str) : Dv → Bool
  | .ins c' _ => decide (c' = cn)
  | .str _ => true
  | _ => false
def OkV (C : Addr) (v : V) (H : Hp) : Prop := (∃ a dx fs, v = .ref a ∧ H a = some (.ins C dx fs)) ∨ ∃ z, v = .str z
theorem okD_at {c : Cf} {ρ : Sl} {m : Mm} {σ : L2.St} {H : Hp} {T : Tm} {G : Hp} {μ : List Addr} (hC : c.mg cn = some (.ref C)) (s : St3 c ρ m σ H T G μ) {d : Dv} {v : V} (r : Rep c.K c.mg μ G d v) (e : okD cn d = true) : OkV C v H := by
  cases d <;> simp [okD] at e
  · cases r; exact .inr ⟨_, rfl⟩
  · rename_i c' fs
    subst e
    obtain ⟨a, C', dx, ws, rfl, hC', hp, _⟩ := ins_at (x := .v (.ins c' fs)) s r rfl
    rw [hC] at hC'; cases hC'
    exact .inl ⟨a, dx, ws, rfl, hp⟩
theorem okV_type {pins : List (Addr × Obj)} {s : Shared} {σ : L2.St} {H : Hp} {v : V} {u : Value} (hs : PySem.W.subIn X.K (.type "str") (.ref C) = some false) (I : Inv X pins σ H s) (ru : RelV v u) (ok : OkV C v H) :
    ∃ tb, PySem.W.Looks (model X.prog X.w) s.heap (typeOf u) tb ∧ PySem.W.notFirst X.K C tb = true := by
  rcases ok with ⟨a, dx, fs, rfl, h⟩ | ⟨z, rfl⟩
  · obtain rfl : u = Value.ref a := ru
    obtain ⟨mA, J, _⟩ := ins_get I.hok h
    obtain ⟨od, J, _⟩ := J.look
    exact ⟨.ref C, J.type, by simp [PySem.W.notFirst]⟩
  · obtain ⟨t, rfl⟩ := ru
    exact ⟨.type "str", PySem.W.Looks.of_pure rfl, by simp [PySem.W.notFirst, hs]⟩
def rEqO (n : Nat) (K : PySem.W.Frag) (mg : Str → Option Value) (F : MF) (C : Addr) : R2 := fun x y H Q => (∃ a dx fs, x = .ref a ∧ H a = some (.ins C dx fs)) ∧ OkV C y H ∧ sp3 n K mg F [x, y] H Q E0
theorem relV_ne {v : V} {u : Value} (r : RelV v u) : u ≠ .notImplemented := by
  intro e; subst e
  cases v <;> first | exact nomatch r | (obtain ⟨_, r⟩ := r; cases r)
theorem cmpBack_of {Q : Value → Shared → Prop} {u : Value} {s' : Shared} (h : u ≠ .notImplemented) (q : Q u s') : PySem.W.CmpBack Q u s' := by
  cases u <;> first | exact absurd rfl h | exact q
theorem op_eqO (G : GOb (sg X) cn "__eq__" 2 k F C f) (hs : PySem.W.subIn X.K (.type "str") (.ref C) = some false) (hr : Room k X.A) : OpR X (compareOp .Eq) (rEqO 2 X.K X.mg F C) := by
  intro pins s σ H x y v u Q I rx ry ⟨⟨a, dx, fs, ex, ha⟩, ok, sp⟩
  subst ex
  obtain rfl : v = Value.ref a := rx
  obtain ⟨mA, J, _⟩ := ins_get I.hok ha
  obtain ⟨od, J, _⟩ := J.look
  obtain ⟨m, hF⟩ := I.fr
  obtain ⟨tb, ht, hn⟩ := okV_type hs I ry ok
  refine PySem.W.cmp_ofEq (PySem.W.cmp_K (op := .Eq) (tb := tb) hr.units0 hF I.ok.mod.kin J ht hn G.at_ G.fn ?_)
  refine thn (call_at (EE := E0) (A := X.A) G.D ⟨hr, rfl⟩ (fun pins H s e s' I q => passL (X := X) pins σ H s e s' I q) I (.cons (show L2.RelV (.ref a) (.ref a) from rfl) (.cons ry .nil)) sp) fun z s' q => ?_
  obtain ⟨z', H', I', r', q'⟩ := id q
  exact cmpBack_of (relV_ne r') q
def gEqO (cn : Str) (F : MF) : Sl → Mm → Ar → Ar → Rs Ar := fun ρ m x y => match x, y with
    | .v d, .v d2 => match insOf ρ m (.v d) with
      | some (c', _) => if c' = cn ∧ okD cn d2 = true then match F [d, d2] m with
          | .ok r m2 => .ok (.v r) m2
          | _ => .no
        else .no
      | none => .no
    | _, _ => .no
def gNeO (cn : Str) (F : MF) : Sl → Mm → Ar → Ar → Rs Ar := fun ρ m x y => match x, y with
    | .v d, .v d2 => match insOf ρ m (.v d) with
      | some (c', _) => if c' = cn ∧ okD cn d2 = true then match F [d, d2] m with
          | .ok (.bl r) m2 => .ok (.v (.bl (!r))) m2
          | _ => .no
        else .no
      | none => .no
    | _, _ => .no
theorem opS_eqO {K : PySem.W.Frag} {mg : Str → Option Value} (hC : mg cn = some (.ref C)) : OpS K mg E (rEqO 2 K mg F C) (gEqO cn F) := by
  intro b ρ m σ H T G μ v u x y Q s r1 r2 w
  cases x with
  | b i => exact w.elim
  | v d =>
    cases y with
    | b i => exact w.elim
    | v d2 =>
      unfold gEqO at w
      simp only at w
      cases e : insOf ρ m (.v d) with
      | none => simp only [e] at w; exact w.elim
      | some q =>
        obtain ⟨c', fs⟩ := q
        simp only [e] at w
        obtain ⟨a, C', dx, ws, rfl, hC', hp, rk⟩ := ins_at s r1 e
        by_cases z : c' = cn ∧ okD cn d2 = true
        · rw [if_pos z] at w
          have hC' : mg c' = some (.ref C') := hC'
          rw [z.1, hC] at hC'; cases hC'
          refine ⟨⟨a, dx, ws, rfl, hp⟩, okD_at (c := b.cf K mg) hC s r2 z.2, G, μ, m, [d, d2], rfl, s.mem, .cons r1 (.cons r2 .nil), ?_⟩
          revert w
          cases F [d, d2] m with
          | no => exact id
          | ex x m' => exact fun w => w.elim
          | ok r m' => exact fun w v H' G' μ' mem le rp => Want.v w ⟨G', μ', (s.next mem le).push rp⟩
        · rw [if_neg z] at w; exact w.elim
def rNeO (n : Nat) (K : PySem.W.Frag) (mg : Str → Option Value) (F : MF) (C : Addr) : R2 := fun x y H Q => (∃ a dx fs, x = .ref a ∧ H a = some (.ins C dx fs)) ∧ OkV C y H ∧ sp3 n K mg F [x, y] H (fun v H' => ∃ r, v = .bl r ∧ Q (.bl (!r)) H') E0
theorem opS_neO {K : PySem.W.Frag} {mg : Str → Option Value} (hC : mg cn = some (.ref C)) : OpS K mg E (rNeO 2 K mg F C) (gNeO cn F) := by
  intro b ρ m σ H T G μ v u x y Q s r1 r2 w
  cases x with
  | b i => exact w.elim
  | v d =>
    cases y with
    | b i => exact w.elim
    | v d2 =>
      unfold gNeO at w
      simp only at w
      cases e : insOf ρ m (.v d) with
      | none => simp only [e] at w; exact w.elim
      | some q =>
        obtain ⟨c', fs⟩ := q
        simp only [e] at w
        obtain ⟨a, C', dx, ws, rfl, hC', hp, rk⟩ := ins_at s r1 e
        by_cases z : c' = cn ∧ okD cn d2 = true
        · rw [if_pos z] at w
          have hC' : mg c' = some (.ref C') := hC'
          rw [z.1, hC] at hC'; cases hC'
          refine ⟨⟨a, dx, ws, rfl, hp⟩, okD_at (c := b.cf K mg) hC s r2 z.2, G, μ, m, [d, d2], rfl, s.mem, .cons r1 (.cons r2 .nil), ?_⟩
          revert w
          cases F [d, d2] m with
          | no => exact id
          | ex x m' => exact fun w => w.elim
          | ok r m' =>
            cases r with
            | bl r => exact fun w v H' G' μ' mem le rp => by cases rp; exact ⟨r, rfl, Want.v w ⟨G', μ', (s.next mem le).push (.bl _)⟩⟩
            | _ => exact fun w => w.elim
        · rw [if_neg z] at w; exact w.elim
section
variable {M : Model} {prog : Program} {w : World} {A : Around} {EX : Value → Shared → Prop} {s : Shared} {K : PySem.W.Frag} {x C f L : Addr} {ox : Obj} {od : Option Obj} {b tb : Value} {h₀ : Heap} {mm : Str → Option Value}
theorem ifBoundB {args : List Value} {name : Str} {id : String} {Q : Option Value → Shared → Prop} (X : K.In s.heap) (I : PySem.W.InstAt s.heap x ox C od) (hs : PySem.W.findIn K (.ref C) name = some (some (.builtin id))) (hb : ∀ self, bindSpecial (.builtin id) self = pure (.builtin id, [self]))
    (h : wpAny M A (call (.builtin id) (.ref x :: args)) (fun v => Q (some v)) EX s) : wpAny M A (callSpecialIfBound? (.ref x) name args) Q EX s := by
  simp only [callSpecialIfBound?, bindSpecialIfBound?]
  refine wpAny_holding (wpAny_bind (wpAny_bind (wpAny_bind (I.type.here ((PySem.W.looks_findIn X hs).here ?_)))))
  refine wpAny_bind (wpAny_askSetting (wpAny_ite ?_))
  have fin : wpAny M A (call (.builtin id) ([.ref x] ++ args) >>= fun v => pure (some v)) Q EX s := wpAny_bind (wpAny_mono h (fun v s' h' => wpAny_pure h') fun _ _ h' => h')
  split
  · exact wpAny_bind ((PySem.W.Looks.of_pure (hb _)).here (wpAny_pure (by exact fin)))
  · exact wpAny_tryCatch (wpAny_bind ((PySem.W.Looks.of_pure (hb _)).here (wpAny_pure (by exact fin))))
theorem call_one {Q : Value → Shared → Prop} (hu : A.in1.units < cLine) (X : K.In s.heap) (I : PySem.W.InstAt s.heap x ox C od) (hm : PySem.W.mroIn K C (.type "object") = some true) (hs : PySem.W.findIn K (.ref C) "__eq__" = some (some (.ref f))) (hf : PySem.W.isFn K (.ref f) = true)
    (h : wpAny (model prog w) A.in1 (call (.ref f) [.ref x, b]) (fun v s' => ∃ r, v = .bool r ∧ Q (.bool (!r)) s') EX s) : wpAny (model prog w) A (call (.builtin "object.__ne__") [.ref x, b]) Q EX s := by
  refine wpAny_call (codeAny_call_builtin PySem.F.cmp_object.ne.plain PySem.F.cmpEntry_ne (PySem.W.check_slot PySem.F.cmpKind_ne PySem.F.cmpSplit_ne (I.type.andThen (PySem.W.looks_mroIn X hm)) (PySem.F.cmpArgs_ne _ _) ?_))
  unfold Builtin.«object.__ne__»
  refine wpAny_bind (m := slotArgs "__ne__" 1 _) (wpAny_pure ?_)
  refine wpAny_bind (m := cRoomFor _ _) (wpAny_cRoomFor hu ?_)
  refine wpAny_bind (m := callSpecialIfBound? (.ref x) (Str.ofString "__eq__") _) (PySem.W.ifBound_K X I hs hf (wpAny_mono h (fun r s' hq => ?_) fun _ _ y => y))
  obtain ⟨r, rfl, q⟩ := hq
  refine wpAny_bind (m := truthy (.bool r)) (wpAny_truthy_bool ?_)
  exact wpAny_pure q
theorem ne_own {Q : Value → Shared → Prop} (hu : A.units < cLine) (hu1 : A.in1.units < cLine) (F : PyProof.Rows.Fr h₀ L s.heap mm) (X₀ : K.In h₀) (I : PySem.W.InstAt s.heap x ox C od) (hb : PySem.W.Looks (model prog w) s.heap (typeOf b) tb) (hn : PySem.W.notFirst K C tb = true)
    (hne : PySem.W.findIn K (.ref C) "__ne__" = some (some (.builtin "object.__ne__"))) (hm : PySem.W.mroIn K C (.type "object") = some true)
    (hs : PySem.W.findIn K (.ref C) "__eq__" = some (some (.ref f))) (hf : PySem.W.isFn K (.ref f) = true)
    (h : wpAny (model prog w) A.in1 (call (.ref f) [.ref x, b]) (fun v s' => ∃ r, v = .bool r ∧ Q (.bool (!r)) s') EX s) : wpAny (model prog w) A (richCompare .NotEq (.ref x) b) Q EX s := by
  have X := X₀.keeps F.keep
  have one : wpAny (model prog w) A (tryCompare (.ref x) (cmpInfo .NotEq).2.1 b) (fun r s' => ∃ v, r = some v ∧ Q v s') EX s := by
    unfold tryCompare
    refine wpAny_bind (ifBoundB X I hne PySem.F.cmp_object.ne.bind (wpAny_mono (call_one hu1 X I hm hs hf (Q := fun v s' => ∃ r, v = .bool r ∧ Q v s') (wpAny_mono h (fun v s' hv => ?_) fun _ _ e => e)) (fun v s' hv => ?_) fun _ _ e => e))
    · obtain ⟨r, e, q⟩ := hv
      exact ⟨r, e, _, rfl, q⟩
    · obtain ⟨r, rfl, q⟩ := hv
      exact wpAny_pure ⟨_, rfl, q⟩
  unfold richCompare
  simp only [oneThing_ref]
  refine wpAny_holding (wpAny_bind (wpAny_cRoomFor hu ?_))
  refine wpAny_bind (I.type.here (wpAny_bind (hb.here ?_)))
  split
  · rename_i q
    have e : PySem.W.subIn K tb (.ref C) = some false := by
      rcases Bool.or_eq_true_iff.mp hn with e | e
      · rw [beq_iff_eq.mp e] at q; simp at q
      · exact beq_iff_eq.mp e
    refine wpAny_bind ((PySem.W.looks_subIn X e).here ?_)
    simp only [Bool.false_eq_true, if_false]
    refine wpAny_bind (wpAny_mono one (fun r s' z => ?_) fun _ _ e => e)
    obtain ⟨v, rfl, hq⟩ := z
    exact wpAny_pure hq
  · refine wpAny_bind (wpAny_pure ?_)
    simp only [Bool.false_eq_true, if_false]
    refine wpAny_bind (wpAny_mono one (fun r s' z => ?_) fun _ _ e => e)
    obtain ⟨v, rfl, hq⟩ := z
    exact wpAny_pure hq
end
theorem op_neO (G : GOb (sg X) cn "__eq__" 2 k F C f) (N : PySem.W.findIn X.K (.ref C) "__ne__" = some (some (.builtin "object.__ne__"))) (hm : PySem.W.mroIn X.K C (.type "object") = some true) (hs : PySem.W.subIn X.K (.type "str") (.ref C) = some false) (hr : Room (k + 1) X.A) : OpR X (compareOp .NotEq) (rNeO 2 X.K X.mg F C) := by
  intro pins s σ H x y v u Q I rx ry ⟨⟨a, dx, fs, ex, ha⟩, ok, sp⟩
  subst ex
  obtain rfl : v = Value.ref a := rx
  obtain ⟨mA, J, _⟩ := ins_get I.hok ha
  obtain ⟨od, J, _⟩ := J.look
  obtain ⟨m, hF⟩ := I.fr
  obtain ⟨tb, ht, hn⟩ := okV_type hs I ry ok
  have sb : Sub X k X.A.in1 := Sub.in1 (X := X) (A := X.A) ⟨hr, rfl⟩
  refine PySem.W.cmp_ofNotEq (ne_own (tb := tb) hr.units0 sb.room.units0 hF I.ok.mod.kin J ht hn N hm G.at_ G.fn ?_)
  refine thn (call_at (EE := E0) (A := X.A.in1) G.D sb (fun pins H s e s' I q => passL (X := X) pins σ H s e s' I q) I (.cons (show L2.RelV (.ref a) (.ref a) from rfl) (.cons ry .nil)) sp) fun z s' q => ?_
  obtain ⟨z', H', I', r', b, e', q'⟩ := q
  subst e'
  cases r'
  exact ⟨b, rfl, .bl (!b), H', I', rfl, q'⟩
/-! ### repr -/
def rRepr (K : PySem.W.Frag) (mg : Str → Option Value) (F : MF) (C : Addr) : V → Hp → VK → Prop := fun x H Q => (∃ a dx fs, x = .ref a ∧ H a = some (.ins C dx fs)) ∧ sp3 1 K mg F [x] H (fun v H' => ∃ z, v = .str z ∧ Q v H') E0
def gRepr (cn : Str) (F : MF) : Sl → Mm → Ar → Rs Ar := fun ρ m x => match x with
    | .v d => match insOf ρ m (.v d) with
      | some (c', _) => if c' = cn then match F [d] m with
          | .ok (.str r) m2 => .ok (.v (.str r)) m2
          | _ => .no
        else .no
      | none => .no
    | _ => .no
theorem call_reprO (G : GOb (sg X) cn "__repr__" 1 k F C f) (hr : Room (k + 1) X.A) : CallR X (.builtin "repr") (fun xs H Q => ∃ x, xs = [x] ∧ rRepr X.K X.mg F C x H Q) := by
  intro pins s σ H xs us Q I r ⟨x, ex, ⟨a, dx, fs, ex2, ha⟩, sp⟩
  subst ex; subst ex2
  obtain ⟨u, us', rfl, ru, r'⟩ : ∃ u us', us = u :: us' ∧ L2.RelV (.ref a) u ∧ Vals [] us' := by
    cases r with
    | cons a b => exact ⟨_, _, rfl, a, b⟩
  cases r'
  obtain rfl : u = Value.ref a := ru
  obtain ⟨mA, J, _⟩ := ins_get I.hok ha
  obtain ⟨od, J, _⟩ := J.look
  obtain ⟨m, hF⟩ := I.fr
  have sb : Sub X k X.A.in1 := Sub.in1 (X := X) (A := X.A) ⟨hr, rfl⟩
  refine PySem.W.repr_K sb.room.units0 hF I.ok.mod.kin J G.at_ G.fn ?_
  refine thn (call_at (EE := E0) (A := X.A.in1) G.D sb (fun pins H s e s' I q => passL (X := X) pins σ H s e s' I q) I (.cons (show L2.RelV (.ref a) (.ref a) from rfl) .nil) sp) fun z s' q => ?_
  obtain ⟨z', H', I', r', b, e', q'⟩ := q
  subst e'
  obtain ⟨t, rfl⟩ := r'
  exact ⟨.str b, H', I', (show L2.RelV (.str b) _ from ⟨_, rfl⟩), q'⟩
theorem unS_reprO {K : PySem.W.Frag} {mg : Str → Option Value} (hC : mg cn = some (.ref C)) : UnS K mg E (fun v => (fun xs H Q => ∃ x, xs = [x] ∧ rRepr K mg F C x H Q) [v]) (gRepr cn F) := by
  intro b ρ m σ H T G μ v x Q s r1 w
  refine ⟨v, rfl, ?_⟩
  unfold gRepr at w
  cases x with
  | b i => exact w.elim
  | v d =>
      simp only at w
      cases e : insOf ρ m (.v d) with
      | none => simp only [e] at w; exact w.elim
      | some q =>
        obtain ⟨c', fs⟩ := q
        simp only [e] at w
        obtain ⟨a, C', dx, ws, rfl, hC', hp, rk⟩ := ins_at s r1 e
        by_cases z : c' = cn
        · rw [if_pos z] at w
          have hC' : mg c' = some (.ref C') := hC'
          rw [z, hC] at hC'; cases hC'
          refine ⟨⟨a, dx, ws, rfl, hp⟩, G, μ, m, [d], rfl, s.mem, .cons r1 .nil, ?_⟩
          revert w
          cases F [d] m with
          | no => exact id
          | ex x m' => exact fun w => w.elim
          | ok r m' =>
            cases r with
            | str r => exact fun w v H' G' μ' mem le rp => by cases rp; exact ⟨r, rfl, Want.v w ⟨G', μ', (s.next mem le).push (.str _)⟩⟩
            | _ => exact fun w => w.elim
        · rw [if_neg z] at w; exact w.elim
/-! ### told by the module's names -/
def rEqY (K : PySem.W.Frag) (mg : Str → Option Value) (cn : Str) (F : MF) : R2 := fun x y H Q => ∃ C, mg cn = some (.ref C) ∧ rEqO 2 K mg F C x y H Q
def rNeY (K : PySem.W.Frag) (mg : Str → Option Value) (cn : Str) (F : MF) : R2 := fun x y H Q => ∃ C, mg cn = some (.ref C) ∧ rNeO 2 K mg F C x y H Q
theorem op_eqY (G : GO (sg X) cn "__eq__" 2 k F) (Y : GTy (sg X) cn) (hr : Room (k + 1) X.A) : OpR X (compareOp .Eq) (rEqY X.K X.mg cn F) := by
  intro pins s σ H x y v u Q I rx ry ⟨C, hC, q⟩
  obtain ⟨C1, f, g⟩ := G
  obtain ⟨C2, e2, hs⟩ := Y
  have e1 := g.mg
  have e1 : X.mg cn = some (.ref C1) := e1
  have e2 : X.mg cn = some (.ref C2) := e2
  rw [hC] at e1 e2; cases e1; cases e2
  exact op_eqO g hs (hr.mono (Nat.le_succ _)) pins s σ H x y v u Q I rx ry q
theorem opS_eqY (G : GO (sg X) cn "__eq__" 2 k F) : OpS X.K X.mg E (rEqY X.K X.mg cn F) (gEqO cn F) := by
  intro b ρ m σ H T G1 μ v u x y Q s r1 r2 w
  obtain ⟨C, f, g⟩ := G
  exact ⟨C, g.mg, opS_eqO g.mg b ρ m σ H T G1 μ v u x y Q s r1 r2 w⟩
theorem op_neY (G : GO (sg X) cn "__eq__" 2 k F) (Y : GTy (sg X) cn) (N : GNe (sg X) cn) (hr : Room (k + 1) X.A) : OpR X (compareOp .NotEq) (rNeY X.K X.mg cn F) := by
  intro pins s σ H x y v u Q I rx ry ⟨C, hC, q⟩
  obtain ⟨C1, f, g⟩ := G
  obtain ⟨C2, e2, hs⟩ := Y
  obtain ⟨C3, e3, h1, h2⟩ := N
  have e1 := g.mg
  have e1 : X.mg cn = some (.ref C1) := e1
  have e2 : X.mg cn = some (.ref C2) := e2
  have e3 : X.mg cn = some (.ref C3) := e3
  rw [hC] at e1 e2 e3; cases e1; cases e2; cases e3
  exact op_neO g h1 h2 hs hr pins s σ H x y v u Q I rx ry q
theorem opS_neY (G : GO (sg X) cn "__eq__" 2 k F) : OpS X.K X.mg E (rNeY X.K X.mg cn F) (gNeO cn F) := by
  intro b ρ m σ H T G1 μ v u x y Q s r1 r2 w
  obtain ⟨C, f, g⟩ := G
  exact ⟨C, g.mg, opS_neO g.mg b ρ m σ H T G1 μ v u x y Q s r1 r2 w⟩
def rReprY (K : PySem.W.Frag) (mg : Str → Option Value) (cn : Str) (F : MF) : List V → Hp → VK → Prop := fun xs H Q => ∃ C, mg cn = some (.ref C) ∧ ∃ x, xs = [x] ∧ rRepr K mg F C x H Q
theorem call_reprY (G : GO (sg X) cn "__repr__" 1 k F) (hr : Room (k + 1) X.A) : CallR X (.builtin "repr") (rReprY X.K X.mg cn F) := by
  intro pins s σ H xs us Q I r ⟨C, hC, q⟩
  obtain ⟨C1, f, g⟩ := G
  have e1 : X.mg cn = some (.ref C1) := g.mg
  rw [hC] at e1; cases e1
  exact call_reprO g hr pins s σ H xs us Q I r q
theorem unS_reprY (G : GO (sg X) cn "__repr__" 1 k F) : UnS X.K X.mg E (fun v => rReprY X.K X.mg cn F [v]) (gRepr cn F) := by
  intro b ρ m σ H T G1 μ v x Q s r1 w
  obtain ⟨C, f, g⟩ := G
  exact ⟨C, g.mg, unS_reprO g.mg b ρ m σ H T G1 μ v x Q s r1 w⟩
theorem bt_repr : bootBuiltins "repr" = some (.builtin "repr") := by decide +kernel
theorem GO.mono {S : Sg} {k' : Nat} (G : GO S cn mn n k F) (h : k ≤ k') : GO S cn mn n k' F := by
  obtain ⟨C, f, g⟩ := G
  obtain ⟨fd, ps, hn, ok, hk, hb⟩ := g.D
  exact ⟨C, f, g.mg, g.at_, g.fn, fd, ps, hn, ok.mono h, hk, hb⟩
/-- C.a is a constant -/
def GV (S : Sg) (cn a : Str) (d : Dv) : Prop := ∃ C mc u v, S.mg cn = some (.ref C) ∧ ClX.CRead S.K C mc ∧ ClX.CVal S.K C mc a v u ∧ vOf d = some v
theorem y_cv {p pos : Pos} {a : Str} {d : Dv} (G : GV (sg X) cn a d) (hg : Gl X cn) (hd : (cn == ("__debug__" : Str)) = false := by decide) (hb : attributeBase (.Name cn p) a X.env (eval (.Name cn p) X.env) = eval (.Name cn p) X.env := by rfl) : PX X E (.Attribute (.Name cn p) a pos) (mC d) := by
  obtain ⟨C, mc, u, v, hC, r, cv, e⟩ := G
  exact PEi (ClX.pe_cval (pe_glob (v := .ref C) hg hC rfl hd) hb) fun σ H Q ⟨b, ρ, m, T, ⟨G, μ, s⟩, w⟩ => ⟨C, mc, v, u, rfl, r, cv, Want.s w s e⟩
/-! ### isinstance against an own class -/
structure IsC (K : PySem.W.Frag) (C : Addr) : Prop where
  cl : Cls K C
  ha : PySem.W.findIn K (.ref C) "__class__" = some (some (.builtin "object.__class__"))
  hn : PySem.W.specialIn K (.builtin "object.__class__") "__get__" = some (some (.builtin "getset_descriptor.__get__"))
  htk : PySem.W.takesIn K (.builtin "object.__class__") = some true
  hm : PySem.W.mroIn K C (.type "object") = some true
  hc : PySem.W.isClsIn K C = true
  ht : PySem.W.typeIn K (.ref C) = some (.type "type")
  hs : PySem.W.subIn K (.type "str") (.ref C) = some false
def GIs (S : Sg) (cn : Str) : Prop := ∃ C, S.mg cn = some (.ref C) ∧ IsC S.K C
def gIsiO (cn : Str) : Sl → Mm → List Dv → Rs Ar := fun ρ m ds => match ds with
  | [.ins c' fs, .glb y] => if c' = cn ∧ y = cn then .ok (.v (.bl true)) m else .no
  | [.str z, .glb y] => if y = cn then .ok (.v (.bl false)) m else .no
  | _ => .no
theorem glb_ref {K : PySem.W.Frag} {mg : Str → Option Value} {μ : List Addr} {G : Hp} {y : Str} {v : V} (r : Rep K mg μ G (.glb y) v) (h : mg y = some (.ref C)) : v = .ref C := by
  cases r with
  | glb h1 h2 =>
    rw [h] at h1; cases h1
    cases v with
    | ref a => cases h2; rfl
    | non => cases h2
    | bl => cases h2
    | ty => cases h2
    | int => obtain ⟨_, z⟩ := h2; cases z
    | str => obtain ⟨_, z⟩ := h2; cases z
    | byt => obtain ⟨_, z⟩ := h2; cases z
    | flt => obtain ⟨_, z⟩ := h2; cases z
theorem callS_isiO {K : PySem.W.Frag} {mg : Str → Option Value} (hC : mg cn = some (.ref C)) (c : IsC K C) : CallS K mg E (rIsi K) (gIsiO cn) := by
  intro b ρ m σ H T G μ vs ds Q s r w
  unfold gIsiO at w
  split at w
  · rename_i c' fs y
    by_cases z : c' = cn ∧ y = cn
    · rw [if_pos z] at w
      obtain ⟨rfl, rfl⟩ := z
      cases r with
      | cons r1 r2 =>
        cases r2 with
        | cons r2 r3 =>
          cases r3
          obtain ⟨a, C', dx, ws, rfl, hC', hp, _⟩ := ins_at (x := .v (.ins _ fs)) s r1 rfl
          have hC' : mg _ = some (.ref C') := hC'
          rw [hC] at hC'; cases hC'
          have hv := glb_ref r2 hC
          subst hv
          exact ⟨_, _, .ref C, .ref C, true, rfl, .own C, .base (.ins hp c.cl c.ha c.hn c.htk c.hm), by simp [PySem.W.kitOne], Want.s w s rfl⟩
    · rw [if_neg z] at w; exact w.elim
  · rename_i z y
    by_cases e : y = cn
    · rw [if_pos e] at w
      subst e
      cases r with
      | cons r1 r2 =>
        cases r2 with
        | cons r2 r3 =>
          cases r3
          cases r1
          have hv := glb_ref r2 hC
          subst hv
          refine ⟨_, _, .type "str", .ref C, false, rfl, .own C, .base (.str _), ?_, Want.s w s rfl⟩
          have h1 : (PySem.W.clsIn K C).isSome = true := c.hc
          simp [PySem.W.kitOne, PySem.W.kitCls, h1, c.ht, c.hs]
    · rw [if_neg e] at w; exact w.elim
  · exact w.elim
def rIsiY (K : PySem.W.Frag) (mg : Str → Option Value) (cn : Str) : List V → Hp → VK → Prop := rIsi K
theorem callS_isiY (G : GIs (sg X) cn) : CallS X.K X.mg E (rIsi X.K) (gIsiO cn) := let ⟨_, h, c⟩ := G; callS_isiO h c
end
end M3

set_option Elab.async false
set_option linter.all false
set_option autoImplicit false
set_option maxRecDepth 100000
set_option maxHeartbeats 2000000
/-! M4a: the mirrors run step by step: frames and their rules, each by rfl. -/
namespace M3
open PySem L2
section
variable {ρ : Sl} {m m1 : Mm} {fa fb fc f : ME} {g : Sl → Mm → Ar → Ar → Rs Ar} {g' : Sl → Mm → Ar → Ar → Rs Ar} {u : Sl → Mm → Ar → Rs Ar} {un : Sl → Mm → Ar → Rs Ob} {x y : Ar} {d d' : Dv} {ds es : List Dv} {a b : MS} {t t' : MB} {i j n k : Nat} {o o' : Ob} {cn fn mn : Str} {F : MF} {fs fk : MA} {it : MI} {tg : MG} {tgs : MGs} {vs : List Nat} {kk : Bool}
/-! ### values -/
def kV (i : Nat) (m : Mm) : Option Cell → Rs Ar
  | some (.val d) => .ok (.v d) m
  | some (.own _) => .ok (.b i) m
  | _ => .no
theorem e_var : mVar i ρ m = kV i m ρ[i]? := by
  unfold mVar kV; cases ρ[i]? with
  | none => rfl
  | some c => cases c <;> rfl
theorem kV_val : kV i m (some (.val d)) = .ok (.v d) m := rfl
theorem kV_own : kV i m (some (.own o)) = .ok (.b i) m := rfl
theorem e_c : mC d ρ m = .ok (.v d) m := rfl
def kU (u : Sl → Mm → Ar → Rs Ar) (ρ : Sl) (r : Rs Ar) : Rs Ar := r.bind fun x m => u ρ m x
theorem e_un : mUn u fa ρ m = kU u ρ (fa ρ m) := rfl
theorem kU_ok : kU u ρ (.ok x m) = u ρ m x := rfl
theorem kU_ex : kU u ρ (.ex d m) = .ex d m := rfl
def kUN (u : Sl → Mm → Ar → Rs Ob) (ρ : Sl) (r : Rs Ar) : Rs Ob := r.bind fun x m => u ρ m x
theorem e_unN : mUnN un fa ρ m = kUN un ρ (fa ρ m) := rfl
theorem kUN_ok : kUN un ρ (.ok x m) = un ρ m x := rfl
theorem kUN_ex : kUN un ρ (.ex d m) = .ex d m := rfl
def kB1 (g : Sl → Mm → Ar → Ar → Rs Ar) (ρ : Sl) (x : Ar) (r : Rs Ar) : Rs Ar := r.bind fun y m => g ρ m x y
def kB2 (g : Sl → Mm → Ar → Ar → Rs Ar) (fb : ME) (ρ : Sl) (r : Rs Ar) : Rs Ar := r.bind fun x m1 => (fb ρ m1).bind fun y m2 => g ρ m2 x y
theorem e_bin : mBin g fa fb ρ m = kB2 g fb ρ (fa ρ m) := rfl
theorem kB2_ok : kB2 g fb ρ (.ok x m) = kB1 g ρ x (fb ρ m) := rfl
theorem kB2_ex : kB2 g fb ρ (.ex d m) = .ex d m := rfl
theorem kB1_ok : kB1 g ρ x (.ok y m) = g ρ m x y := rfl
theorem kB1_ex : kB1 g ρ x (.ex d m) = .ex d m := rfl
def kTr (ρ : Sl) (r : Rs Ar) : Rs Bool := r.bind fun x m1 => match truOf ρ m1 x with
  | some k => .ok k m1
  | none => .no
def kT1 (m : Mm) : Option Bool → Rs Bool
  | some k => .ok k m
  | none => .no
theorem e_tru : mTru fa ρ m = kTr ρ (fa ρ m) := rfl
theorem kTr_ok : kTr ρ (.ok x m) = kT1 m (truOf ρ m x) := rfl
theorem kTr_ex : kTr ρ (.ex d m) = .ex d m := rfl
theorem kT1_some : kT1 m (some kk) = .ok kk m := rfl
def kIB (r : Rs Ar) : Rs Bool := r.bind fun x m1 => match x with
  | .v (.bl k) => .ok k m1
  | _ => .no
theorem e_isB : mIsB fa ρ m = kIB (fa ρ m) := rfl
theorem kIB_ok : kIB (.ok (.v (.bl kk)) m) = .ok kk m := rfl
theorem kIB_ex : kIB (.ex d m) = .ex d m := rfl
def kNt (r : Rs Bool) : Rs Bool := r.bind fun k m1 => .ok (!k) m1
theorem e_not : mNot t ρ m = kNt (t ρ m) := rfl
theorem kNt_ok : kNt (.ok kk m) = .ok (!kk) m := rfl
theorem kNt_ex : kNt (.ex d m) = .ex d m := rfl
def kAB (t : MB) (ρ : Sl) (r : Rs Bool) : Rs Bool := r.bind fun k m1 => if k = true then t ρ m1 else .ok false m1
theorem e_andB : mAndB t t' ρ m = kAB t' ρ (t ρ m) := rfl
theorem kAB_t : kAB t ρ (.ok true m) = t ρ m := rfl
theorem kAB_f : kAB t ρ (.ok false m) = .ok false m := rfl
theorem kAB_ex : kAB t ρ (.ex d m) = .ex d m := rfl
def kOB (t : MB) (ρ : Sl) (r : Rs Bool) : Rs Bool := r.bind fun k m1 => if k = true then .ok true m1 else t ρ m1
theorem e_orB : mOrB t t' ρ m = kOB t' ρ (t ρ m) := rfl
theorem kOB_t : kOB t ρ (.ok true m) = .ok true m := rfl
theorem kOB_f : kOB t ρ (.ok false m) = t ρ m := rfl
theorem kOB_ex : kOB t ρ (.ex d m) = .ex d m := rfl
def kAV (f : ME) (ρ : Sl) (r : Rs Ar) : Rs Ar := r.bind fun x m1 => match truOf ρ m1 x with
  | some k => if k = true then f ρ m1 else .ok x m1
  | none => .no
def kAV1 (f : ME) (ρ : Sl) (m : Mm) (x : Ar) : Option Bool → Rs Ar
  | some k => if k = true then f ρ m else .ok x m
  | none => .no
theorem e_andV : mAndV fa fb ρ m = kAV fb ρ (fa ρ m) := rfl
theorem kAV_ok : kAV f ρ (.ok x m) = kAV1 f ρ m x (truOf ρ m x) := rfl
theorem kAV_ex : kAV f ρ (.ex d m) = .ex d m := rfl
theorem kAV1_t : kAV1 f ρ m x (some true) = f ρ m := rfl
theorem kAV1_f : kAV1 f ρ m x (some false) = .ok x m := rfl
def kOV (f : ME) (ρ : Sl) (r : Rs Ar) : Rs Ar := r.bind fun x m1 => match truOf ρ m1 x with
  | some k => if k = true then .ok x m1 else f ρ m1
  | none => .no
def kOV1 (f : ME) (ρ : Sl) (m : Mm) (x : Ar) : Option Bool → Rs Ar
  | some k => if k = true then .ok x m else f ρ m
  | none => .no
theorem e_orV : mOrV fa fb ρ m = kOV fb ρ (fa ρ m) := rfl
theorem kOV_ok : kOV f ρ (.ok x m) = kOV1 f ρ m x (truOf ρ m x) := rfl
theorem kOV_ex : kOV f ρ (.ex d m) = .ex d m := rfl
theorem kOV1_t : kOV1 f ρ m x (some true) = .ok x m := rfl
theorem kOV1_f : kOV1 f ρ m x (some false) = f ρ m := rfl
def kNV (ρ : Sl) (r : Rs Ar) : Rs Ar := r.bind fun x m1 => match truOf ρ m1 x with
  | some k => .ok (.v (.bl (!k))) m1
  | none => .no
def kNV1 (m : Mm) : Option Bool → Rs Ar
  | some k => .ok (.v (.bl (!k))) m
  | none => .no
theorem e_notV : mNotV fa ρ m = kNV ρ (fa ρ m) := rfl
theorem kNV_ok : kNV ρ (.ok x m) = kNV1 m (truOf ρ m x) := rfl
theorem kNV_ex : kNV ρ (.ex d m) = .ex d m := rfl
theorem kNV1_some : kNV1 m (some kk) = .ok (.v (.bl (!kk))) m := rfl
def kIf (f g : ME) (ρ : Sl) (r : Rs Bool) : Rs Ar := r.bind fun k m1 => if k = true then f ρ m1 else g ρ m1
theorem e_if : mIf t fa fb ρ m = kIf fa fb ρ (t ρ m) := rfl
theorem kIf_t : kIf fa fb ρ (.ok true m) = fa ρ m := rfl
theorem kIf_f : kIf fa fb ρ (.ok false m) = fb ρ m := rfl
theorem kIf_ex : kIf fa fb ρ (.ex d m) = .ex d m := rfl
def kC3 (g' : Sl → Mm → Ar → Ar → Rs Ar) (fc : ME) (ρ : Sl) (y : Ar) (r : Rs Ar) : Rs Ar := r.bind fun z m3 => match z with
  | .v (.bl k) => if k = true then (fc ρ m3).bind fun w m4 => g' ρ m4 y w else .ok (.v (.bl false)) m3
  | _ => .no
def kC2 (g g' : Sl → Mm → Ar → Ar → Rs Ar) (fc : ME) (ρ : Sl) (x : Ar) (r : Rs Ar) : Rs Ar := r.bind fun y m2 => kC3 g' fc ρ y (g ρ m2 x y)
def kC1 (g g' : Sl → Mm → Ar → Ar → Rs Ar) (fb fc : ME) (ρ : Sl) (r : Rs Ar) : Rs Ar := r.bind fun x m1 => kC2 g g' fc ρ x (fb ρ m1)
theorem e_chain : mChain g g' fa fb fc ρ m = kC1 g g' fb fc ρ (fa ρ m) := rfl
theorem kC1_ok : kC1 g g' fb fc ρ (.ok x m) = kC2 g g' fc ρ x (fb ρ m) := rfl
theorem kC2_ok : kC2 g g' fc ρ x (.ok y m) = kC3 g' fc ρ y (g ρ m x y) := rfl
theorem kC3_t : kC3 g' fc ρ y (.ok (.v (.bl true)) m) = kB1 g' ρ y (fc ρ m) := rfl
theorem kC3_f : kC3 g' fc ρ y (.ok (.v (.bl false)) m) = .ok (.v (.bl false)) m := rfl
def kFl1 (cn f : Str) (m : Mm) : Option (Str × List (Str × Dv)) → Rs Ar
  | some (c', fs) => if c' = cn then match fs.lookup f with
    | some d => .ok (.v d) m
    | none => .no
    else .no
  | none => .no
def kFl (cn f : Str) (ρ : Sl) (r : Rs Ar) : Rs Ar := r.bind fun x m1 => kFl1 cn f m1 (insOf ρ m1 x)
theorem e_fld : mFld cn fn fa ρ m = kFl cn fn ρ (fa ρ m) := by
  unfold mFld kFl; congr 1
theorem kFl_ok : kFl cn fn ρ (.ok x m) = kFl1 cn fn m (insOf ρ m x) := rfl
theorem kFl_ex : kFl cn fn ρ (.ex d m) = .ex d m := rfl
def kFl2 (m : Mm) : Option Dv → Rs Ar
  | some d => .ok (.v d) m
  | none => .no
theorem kFl1_some {ps : List (Str × Dv)} : kFl1 cn fn m (some (cn, ps)) = kFl2 m (ps.lookup fn) := by
  unfold kFl1; simp only [if_true]; cases ps.lookup fn <;> rfl
theorem kFl2_some : kFl2 m (some d) = .ok (.v d) m := rfl
theorem lk_ne {a b : Str} {r : List (Str × Dv)} (h : (a == b) = false) : List.lookup a ((b, d) :: r) = List.lookup a r := by simp [List.lookup, h]
theorem lk_eq {a : Str} {r : List (Str × Dv)} : List.lookup a ((a, d) :: r) = some d := by simp [List.lookup]
theorem e_nil : mNil ρ m = .ok [] m := rfl
def kCs2 (d : Dv) (r : Rs (List Dv)) : Rs (List Dv) := r.bind fun ds m2 => .ok (d :: ds) m2
def kCs1 (fs : MA) (ρ : Sl) (r : Rs Ar) : Rs (List Dv) := r.bind fun x m1 => match x with
  | .v d => kCs2 d (fs ρ m1)
  | .b _ => .no
theorem e_cons : mCons f fs ρ m = kCs1 fs ρ (f ρ m) := rfl
theorem kCs1_v : kCs1 fs ρ (.ok (.v d) m) = kCs2 d (fs ρ m) := rfl
theorem kCs1_ex : kCs1 fs ρ (.ex d m) = .ex d m := rfl
theorem kCs2_ok : kCs2 d (.ok ds m) = .ok (d :: ds) m := rfl
theorem kCs2_ex : kCs2 d (.ex d' m) = .ex d' m := rfl
def kTp (r : Rs (List Dv)) : Rs Ar := r.bind fun ds m1 => if ds.length ≤ sizeLine then .ok (.v (.tup ds)) m1 else .no
theorem e_tup : mTup fs ρ m = kTp (fs ρ m) := rfl
theorem kTp_ok (h : ds.length ≤ 16777216) : kTp (.ok ds m) = .ok (.v (.tup ds)) m := if_pos h
theorem kTp_ex : kTp (.ex d m) = .ex d m := rfl
def kLs (r : Rs (List Dv)) : Rs Ob := r.bind fun ds m1 => if ds.length ≤ sizeLine then .ok (.lst ds) m1 else .no
theorem e_lst : mLst fs ρ m = kLs (fs ρ m) := rfl
theorem kLs_ok (h : ds.length ≤ 16777216) : kLs (.ok ds m) = .ok (.lst ds) m := if_pos h
theorem kLs_ex : kLs (.ex d m) = .ex d m := rfl
def kFr (r : Rs Ob) : Rs Ar := r.bind fun o m1 => if obZ o = true then .ok (.v (obD o)) m1 else .no
theorem e_frz {p : MN} : mFrz p ρ m = kFr (p ρ m) := rfl
theorem kFr_lst (h : ds.length ≤ 16777216) : kFr (.ok (.lst ds) m) = .ok (.v (.lst ds)) m := by unfold kFr; rw [Rs.bind_ok, if_pos (show obZ (.lst ds) = true from decide_eq_true h)]; rfl
theorem kFr_dct {kvs : List (Key × Dv)} (h : kvs.length ≤ 16777216) : kFr (.ok (.dct kvs) m) = .ok (.v (.dct kvs)) m := by unfold kFr; rw [Rs.bind_ok, if_pos (show obZ (.dct kvs) = true from decide_eq_true h)]; rfl
theorem kFr_dcT {kvs : List (List Key × Dv)} (h : kvs.length ≤ 16777216) : kFr (.ok (.dcT kvs) m) = .ok (.v (.dcT kvs)) m := by unfold kFr; rw [Rs.bind_ok, if_pos (show obZ (.dcT kvs) = true from decide_eq_true h)]; rfl
theorem kFr_ins {ps : List (Str × Dv)} : kFr (.ok (.ins cn ps) m) = .ok (.v (.ins cn ps)) m := rfl
theorem kFr_ex : kFr (.ex d m) = .ex d m := rfl
def kCB (q : Sl → Mm → List Dv → Rs Ar) (ρ : Sl) (r : Rs (List Dv)) : Rs Ar := r.bind fun ds m1 => q ρ m1 ds
theorem e_cb {q : Sl → Mm → List Dv → Rs Ar} : mCB q fs ρ m = kCB q ρ (fs ρ m) := rfl
theorem kCB_ok {q : Sl → Mm → List Dv → Rs Ar} : kCB q ρ (.ok ds m) = q ρ m ds := rfl
theorem kCB_ex {q : Sl → Mm → List Dv → Rs Ar} : kCB q ρ (.ex d m) = .ex d m := rfl
/-! ### calls -/
theorem rsA_ok : rsA (.ok d m) = .ok (.v d) m := rfl
theorem rsA_ex : rsA (.ex d m) = .ex d m := rfl
def kCa (n : Nat) (F : MF) (r : Rs (List Dv)) : Rs Ar := r.bind fun ds m1 => if ds.length = n then rsA (F ds m1) else .no
theorem e_call : mCall n F fs ρ m = kCa n F (fs ρ m) := rfl
theorem kCa_ok (h : ds.length = n) : kCa n F (.ok ds m) = rsA (F ds m) := by unfold kCa; rw [Rs.bind_ok, if_pos h]
theorem kCa_ex : kCa n F (.ex d m) = .ex d m := rfl
def kMe3 (n : Nat) (F : MF) (d : Dv) (r : Rs (List Dv)) : Rs Ar := r.bind fun ds m2 => if ds.length + 1 = n then rsA (F (d :: ds) m2) else .no
def kMe2 (cn mn : Str) (n : Nat) (F : MF) (fs : MA) (ρ : Sl) (m : Mm) (d : Dv) : Option (Str × List (Str × Dv)) → Rs Ar
  | some (c', fl) => if c' = cn ∧ fl.lookup mn = none then kMe3 n F d (fs ρ m) else .no
  | none => .no
def kMe1 (cn mn : Str) (n : Nat) (F : MF) (fs : MA) (ρ : Sl) (r : Rs Ar) : Rs Ar := r.bind fun x m1 => match x with
  | .v d => kMe2 cn mn n F fs ρ m1 d (insOf ρ m1 (.v d))
  | .b _ => .no
theorem e_meth : mMeth cn mn n F fa fs ρ m = kMe1 cn mn n F fs ρ (fa ρ m) := by
  unfold mMeth kMe1; congr 1
theorem kMe1_v : kMe1 cn mn n F fs ρ (.ok (.v d) m) = kMe2 cn mn n F fs ρ m d (insOf ρ m (.v d)) := rfl
theorem kMe1_ex : kMe1 cn mn n F fs ρ (.ex d m) = .ex d m := rfl
def kMe2' (n : Nat) (F : MF) (fs : MA) (ρ : Sl) (m : Mm) (d : Dv) : Option Dv → Rs Ar
  | none => kMe3 n F d (fs ρ m)
  | some _ => .no
theorem kMe2_some {ps : List (Str × Dv)} : kMe2 cn mn n F fs ρ m d (some (cn, ps)) = kMe2' n F fs ρ m d (ps.lookup mn) := by
  unfold kMe2
  simp only []
  cases h : ps.lookup mn with
  | none => simp [kMe2']
  | some x => simp [kMe2']
theorem kMe2'_none : kMe2' n F fs ρ m d none = kMe3 n F d (fs ρ m) := rfl
theorem kMe3_ok (h : ds.length + 1 = n) : kMe3 n F d (.ok ds m) = rsA (F (d :: ds) m) := by unfold kMe3; rw [Rs.bind_ok, if_pos h]
theorem kMe3_ex : kMe3 n F d (.ex d' m) = .ex d' m := rfl
def kPr2 : Rs Dv → Rs Ar
  | .ok r m2 => .ok (.v r) m2
  | _ => .no
def kPr1 (cn : Str) (F : MF) (m : Mm) (d : Dv) : Option (Str × List (Str × Dv)) → Rs Ar
  | some (c', fl) => if c' = cn then kPr2 (F [d] m) else .no
  | none => .no
def kPr (cn : Str) (F : MF) (ρ : Sl) (r : Rs Ar) : Rs Ar := r.bind fun x m1 => match x with
  | .v d => kPr1 cn F m1 d (insOf ρ m1 (.v d))
  | .b _ => .no
theorem e_prop : mProp cn F fa ρ m = kPr cn F ρ (fa ρ m) := by
  unfold mProp kPr kPr1 kPr2; rfl
theorem kPr_v : kPr cn F ρ (.ok (.v d) m) = kPr1 cn F m d (insOf ρ m (.v d)) := rfl
theorem kPr_ex : kPr cn F ρ (.ex d m) = .ex d m := rfl
theorem kPr1_some {ps : List (Str × Dv)} : kPr1 cn F m d (some (cn, ps)) = kPr2 (F [d] m) := by unfold kPr1; exact if_pos rfl
theorem kPr2_ok : kPr2 (.ok d m) = .ok (.v d) m := rfl
theorem i_ins {ps : List (Str × Dv)} : insOf ρ m (.v (.ins cn ps)) = some (cn, ps) := rfl
def kMk (cn : Str) (n : Nat) (F : MF) (r : Rs (List Dv)) : Rs Ob := r.bind fun ds m1 => if ds.length + 1 = n ∧ pureL ds = true then mkEnd m1 (F (.loc 0 :: ds) [some (.ins cn [])]) else .no
theorem e_make : mMake cn n F fs ρ m = kMk cn n F (fs ρ m) := rfl
theorem kMk_ok (h : ds.length + 1 = n) (h2 : pureL ds = true) : kMk cn n F (.ok ds m) = mkEnd m (F (.loc 0 :: ds) [some (.ins cn [])]) := by unfold kMk; rw [Rs.bind_ok, if_pos ⟨h, h2⟩]
theorem kMk_ex : kMk cn n F (.ex d m) = .ex d m := rfl
theorem mkEnd_ok (h : pureO o = true) : mkEnd m (.ok .non [some o]) = .ok o m := by unfold mkEnd; exact if_pos h
def kAr2 (n k : Nat) (ds : List Dv) (r : Rs (List Dv)) : Rs (List Dv) := r.bind fun es m2 => if ds.length = n ∧ es.length = k then .ok (ds ++ es) m2 else .no
def kAr1 (n k : Nat) (fk : MA) (ρ : Sl) (r : Rs (List Dv)) : Rs (List Dv) := r.bind fun ds m1 => kAr2 n k ds (fk ρ m1)
theorem e_args : mArgs n k fs fk ρ m = kAr1 n k fk ρ (fs ρ m) := rfl
theorem kAr1_ok : kAr1 n k fk ρ (.ok ds m) = kAr2 n k ds (fk ρ m) := rfl
theorem kAr1_ex : kAr1 n k fk ρ (.ex d m) = .ex d m := rfl
theorem kAr2_ok (h : ds.length = n) (h2 : es.length = k) : kAr2 n k ds (.ok es m) = .ok (ds ++ es) m := by unfold kAr2; rw [Rs.bind_ok, if_pos ⟨h, h2⟩]
theorem kAr2_ex : kAr2 n k ds (.ex d m) = .ex d m := rfl
def kLo (r : Rs Ob) : Rs Ar := r.bind fun o m1 => .ok (.v (.loc m1.length)) (m1 ++ [some o])
theorem e_loc {p : MN} : mLoc p ρ m = kLo (p ρ m) := rfl
theorem kLo_ok : kLo (.ok o m) = .ok (.v (.loc m.length)) (m ++ [some o]) := rfl
/-! ### slices, texts -/
def kSl3 (ρ : Sl) (x : Ar) (lo : Option Int) (r : Rs (Option Int)) : Rs Ar := r.bind fun hi m3 => gSl ρ m3 x lo hi
def kSl2 (fh : MO) (ρ : Sl) (x : Ar) (r : Rs (Option Int)) : Rs Ar := r.bind fun lo m2 => kSl3 ρ x lo (fh ρ m2)
def kSl1 (fl fh : MO) (ρ : Sl) (r : Rs Ar) : Rs Ar := r.bind fun x m1 => kSl2 fh ρ x (fl ρ m1)
theorem e_sl {fl fh : MO} : mSl fa fl fh ρ m = kSl1 fl fh ρ (fa ρ m) := rfl
theorem kSl1_ok {fl fh : MO} : kSl1 fl fh ρ (.ok x m) = kSl2 fh ρ x (fl ρ m) := rfl
theorem kSl1_ex {fl fh : MO} : kSl1 fl fh ρ (.ex d m) = .ex d m := rfl
theorem kSl2_ok {fh : MO} {lo : Option Int} : kSl2 fh ρ x (.ok lo m) = kSl3 ρ x lo (fh ρ m) := rfl
theorem kSl3_ok {lo hi : Option Int} : kSl3 ρ x lo (.ok hi m) = gSl ρ m x lo hi := rfl
theorem e_o0 : mO0 ρ m = .ok none m := rfl
def kO1 (r : Rs Ar) : Rs (Option Int) := r.bind fun x m1 => match x with
  | .v (.int i) => .ok (some i) m1
  | _ => .no
theorem e_o1 : mO1 fa ρ m = kO1 (fa ρ m) := rfl
theorem kO1_ok {z : Int} : kO1 (.ok (.v (.int z)) m) = .ok (some z) m := rfl
def kS0 (q : Str → Sl → Mm → Rs Ar) (ρ : Sl) (r : Rs Ar) : Rs Ar := r.bind fun x m1 => match x with
  | .v (.str a) => q a ρ m1
  | _ => .no
theorem e_s0 {q : Str → Sl → Mm → Rs Ar} : mS0 q fa ρ m = kS0 q ρ (fa ρ m) := rfl
theorem kS0_ok {q : Str → Sl → Mm → Rs Ar} {z : Str} : kS0 q ρ (.ok (.v (.str z)) m) = q z ρ m := rfl
def kS12 (q : Str → Sl → Mm → Ar → Rs Ar) (ρ : Sl) (a : Str) (r : Rs Ar) : Rs Ar := r.bind fun y m2 => q a ρ m2 y
def kS11 (q : Str → Sl → Mm → Ar → Rs Ar) (fb : ME) (ρ : Sl) (r : Rs Ar) : Rs Ar := r.bind fun x m1 => match x with
  | .v (.str a) => kS12 q ρ a (fb ρ m1)
  | _ => .no
theorem e_s1 {q : Str → Sl → Mm → Ar → Rs Ar} : mS1 q fa fb ρ m = kS11 q fb ρ (fa ρ m) := rfl
theorem kS11_ok {q : Str → Sl → Mm → Ar → Rs Ar} {z : Str} : kS11 q fb ρ (.ok (.v (.str z)) m) = kS12 q ρ z (fb ρ m) := rfl
theorem kS12_ok {q : Str → Sl → Mm → Ar → Rs Ar} {z : Str} : kS12 q ρ z (.ok x m) = q z ρ m x := rfl
def kFm (r : Rs Ar) : Rs Ar := r.bind fun x m1 => match x with
  | .v (.str y) => if y.length ≤ sizeLine then .ok (.v (.str y)) m1 else .no
  | .v (.int i) => if i.natAbs.log2 < 1920 then .ok (.v (.str (toString i))) m1 else .no
  | _ => .no
theorem e_fmt : mFmt fa ρ m = kFm (fa ρ m) := rfl
theorem kFm_str {z : Str} (h : z.length ≤ 16777216) : kFm (.ok (.v (.str z)) m) = .ok (.v (.str z)) m := by unfold kFm; rw [Rs.bind_ok]; exact if_pos h
theorem kFm_int {z : Int} (h : z.natAbs.log2 < 1920) : kFm (.ok (.v (.int z)) m) = .ok (.v (.str (toString z))) m := by unfold kFm; rw [Rs.bind_ok]; exact if_pos h
def kJ1 (fl : List ME) (acc : Str) (ρ : Sl) (r : Rs Ar) : Rs Str := r.bind fun x m1 => match x with
  | .v (.str y) => if (acc ++ y).length ≤ sizeLine then jsM fl (acc ++ y) ρ m1 else .no
  | _ => .no
theorem e_jsM {fl : List ME} {acc : Str} : jsM (f :: fl) acc ρ m = kJ1 fl acc ρ (f ρ m) := rfl
theorem e_jsN {acc : Str} : jsM [] acc ρ m = .ok acc m := rfl
theorem kJ1_ok {fl : List ME} {acc z : Str} (h : (acc ++ z).length ≤ 16777216) : kJ1 fl acc ρ (.ok (.v (.str z)) m) = jsM fl (acc ++ z) ρ m := by unfold kJ1; rw [Rs.bind_ok]; exact if_pos h
def kJs (r : Rs Str) : Rs Ar := r.bind fun s m1 => .ok (.v (.str s)) m1
theorem e_js {fl : List ME} : mJs fl ρ m = kJs (jsM fl Str.empty ρ m) := rfl
theorem kJs_ok {z : Str} : kJs (.ok z m) = .ok (.v (.str z)) m := rfl
def kG3 (ρ : Sl) (x : Ar) (y : Dv) (r : Rs Ar) : Rs Ar := r.bind fun z m3 => match z with
  | .v d => match dlook ρ m3 x (.v y) with
    | some (some r) => .ok (.v r) m3
    | some none => .ok (.v d) m3
    | none => .no
  | .b _ => .no
def kG3' (m : Mm) (d : Dv) : Option (Option Dv) → Rs Ar
  | some (some r) => .ok (.v r) m
  | some none => .ok (.v d) m
  | none => .no
def kG2 (fb : ME) (ρ : Sl) (x : Ar) (r : Rs Ar) : Rs Ar := r.bind fun y m2 => match y with
  | .v yd => kG3 ρ x yd (fb ρ m2)
  | .b _ => .no
def kG1 (fa fb : ME) (ρ : Sl) (r : Rs Ar) : Rs Ar := r.bind fun x m1 => if isDct ρ m1 x = true then kG2 fb ρ x (fa ρ m1) else .no
theorem e_get2 : mGet2 fa fb fc ρ m = kG1 fb fc ρ (fa ρ m) := by
  unfold mGet2 kG1; congr 1
theorem kG1_ok (h : isDct ρ m x = true) : kG1 fa fb ρ (.ok x m) = kG2 fb ρ x (fa ρ m) := by unfold kG1; rw [Rs.bind_ok, if_pos h]
theorem kG2_ok : kG2 fb ρ x (.ok (.v d) m) = kG3 ρ x d (fb ρ m) := rfl
theorem kG3_ok : kG3 ρ x d' (.ok (.v d) m) = kG3' m d (dlook ρ m x (.v d')) := rfl
theorem kG3_s : kG3' m d (some (some d')) = .ok (.v d') m := rfl
theorem kG3_n : kG3' m d (some none) = .ok (.v d) m := rfl
/-! ### statements -/
def kSq (b : MS) : RS → RS
  | .nx ρ m => b ρ m
  | .rt d m => .rt d m
  | .bk ρ m => .bk ρ m
  | .ct ρ m => .ct ρ m
  | .ex x ρ m => .ex x ρ m
  | .no => .no
theorem e_seq : mSeq a b ρ m = kSq b (a ρ m) := by unfold mSeq kSq; cases a ρ m <;> rfl
theorem kSq_nx : kSq b (.nx ρ m) = b ρ m := rfl
theorem kSq_rt : kSq b (.rt d m) = .rt d m := rfl
theorem kSq_bk : kSq b (.bk ρ m) = .bk ρ m := rfl
theorem kSq_ct : kSq b (.ct ρ m) = .ct ρ m := rfl
theorem kSq_ex : kSq b (.ex d ρ m) = .ex d ρ m := rfl
theorem e_next : mNext ρ m = .nx ρ m := rfl
theorem e_break : mBreak ρ m = .bk ρ m := rfl
theorem e_cont : mCont ρ m = .ct ρ m := rfl
def kIS (a b : MS) (ρ : Sl) (r : Rs Bool) : RS := r.st ρ fun k m1 => if k = true then a ρ m1 else b ρ m1
theorem e_ifS : mIfS t a b ρ m = kIS a b ρ (t ρ m) := rfl
theorem kIS_t : kIS a b ρ (.ok true m) = a ρ m := rfl
theorem kIS_f : kIS a b ρ (.ok false m) = b ρ m := rfl
theorem kIS_ex : kIS a b ρ (.ex d m) = .ex d ρ m := rfl
def kG (m : Mm) : Option Sl → RS
  | some ρ => .nx ρ m
  | none => .no
theorem kG_some : kG m (some ρ) = .nx ρ m := rfl
def kAs (tg : MG) (ρ : Sl) (r : Rs Ar) : RS := r.st ρ fun x m1 => match x with
  | .v d => kG m1 (tg d ρ)
  | .b _ => .no
theorem e_asg : mAsg fa tg ρ m = kAs tg ρ (fa ρ m) := by
  unfold mAsg kAs kG; rfl
theorem kAs_v : kAs tg ρ (.ok (.v d) m) = kG m (tg d ρ) := rfl
theorem kAs_ex : kAs tg ρ (.ex d m) = .ex d ρ m := rfl
theorem e_gn : mGn i d ρ = some (ρ.set i (.val d)) := rfl
theorem e_gnil : mGnil [] ρ = some ρ := rfl
def kGc (tgs : MGs) (ds : List Dv) : Option Sl → Option Sl
  | some ρ => tgs ds ρ
  | none => none
theorem e_gcons : mGcons tg tgs (d :: ds) ρ = kGc tgs ds (tg d ρ) := by
  unfold mGcons kGc
  first | rfl | (simp only []; cases tg d ρ <;> rfl) | simp only []
theorem kGc_some : kGc tgs ds (some ρ) = tgs ds ρ := rfl
theorem e_gt (h : ds.length = n) : mGt n tgs (.tup ds) ρ = tgs ds ρ := by unfold mGt tupOf; exact if_pos h
theorem e_gtk (h : ds.length = n) : mGt n tgs (.ktp ds) ρ = tgs ds ρ := by unfold mGt tupOf; exact if_pos h
def kAO (i : Nat) (ρ : Sl) (r : Rs Ob) : RS := r.st ρ fun o m1 => .nx (ρ.set i (.own o)) m1
theorem e_asgO {p : MN} : mAsgO i p ρ m = kAO i ρ (p ρ m) := rfl
theorem kAO_ok : kAO i ρ (.ok o m) = .nx (ρ.set i (.own o)) m := rfl
theorem kAO_ex : kAO i ρ (.ex d m) = .ex d ρ m := rfl
def kEx (ρ : Sl) (r : Rs Ar) : RS := r.st ρ fun _ m1 => .nx ρ m1
theorem e_expr : mExpr fa ρ m = kEx ρ (fa ρ m) := rfl
theorem kEx_ok : kEx ρ (.ok x m) = .nx ρ m := rfl
theorem kEx_ex : kEx ρ (.ex d m) = .ex d ρ m := rfl
def kRt (ρ : Sl) (r : Rs Ar) : RS := r.st ρ fun x m1 => match x with
  | .v d => .rt d m1
  | .b _ => .no
theorem e_ret : mRet fa ρ m = kRt ρ (fa ρ m) := rfl
theorem kRt_v : kRt ρ (.ok (.v d) m) = .rt d m := rfl
theorem kRt_ex : kRt ρ (.ex d m) = .ex d ρ m := rfl
theorem e_retN : mRetN ρ m = .rt .non m := rfl
def kFz (i : Nat) (a : MS) (ρ : Sl) (m : Mm) : Option Cell → RS
  | some (.own o) => if obZ o = true then a (ρ.set i (.val (obD o))) m else .no
  | _ => a ρ m
theorem e_fz : mFz i a ρ m = kFz i a ρ m ρ[i]? := by unfold mFz kFz; cases ρ[i]? with
  | none => rfl
  | some c => cases c <;> rfl
theorem kFz_lst (h : ds.length ≤ 16777216) : kFz i a ρ m (some (.own (.lst ds))) = a (ρ.set i (.val (.lst ds))) m := by unfold kFz; exact if_pos (decide_eq_true h)
theorem kFz_dct {kvs : List (Key × Dv)} (h : kvs.length ≤ 16777216) : kFz i a ρ m (some (.own (.dct kvs))) = a (ρ.set i (.val (.dct kvs))) m := by unfold kFz; exact if_pos (decide_eq_true h)
theorem kFz_val : kFz i a ρ m (some (.val d)) = a ρ m := rfl
theorem kFz_un : kFz i a ρ m (some .un) = a ρ m := rfl
theorem fin_nx : (RS.nx ρ m).fin = .ok .non m := rfl
theorem fin_rt : (RS.rt d m).fin = .ok d m := rfl
theorem fin_ex : (RS.ex d ρ m).fin = .ex d m := rfl
/-! ### loops -/
def kFo (tg : MG) (a : MS) (ρ : Sl) (r : Rs (List Dv)) : RS := r.st ρ fun ds m1 => forL tg a ds ρ m1
theorem e_for : mFor it tg a ρ m = kFo tg a ρ (it ρ m) := rfl
theorem kFo_ok : kFo tg a ρ (.ok ds m) = forL tg a ds ρ m := rfl
theorem kFo_ex : kFo tg a ρ (.ex d m) = .ex d ρ m := rfl
def kF2 (tg : MG) (a : MS) (ds : List Dv) : RS → RS
  | .nx ρ m => forL tg a ds ρ m
  | .ct ρ m => forL tg a ds ρ m
  | .bk ρ m => .nx ρ m
  | .rt d m => .rt d m
  | .ex x ρ m => .ex x ρ m
  | .no => .no
def kF1 (tg : MG) (a : MS) (ds : List Dv) (m : Mm) : Option Sl → RS
  | some ρ => kF2 tg a ds (a ρ m)
  | none => .no
theorem e_forN : forL tg a [] ρ m = .nx ρ m := rfl
theorem e_forC : forL tg a (d :: ds) ρ m = kF1 tg a ds m (tg d ρ) := by
  show (match tg d ρ with | none => _ | some ρ1 => _) = _
  unfold kF1
  cases tg d ρ with
  | none => rfl
  | some ρ1 => unfold kF2; simp only []; cases a ρ1 m <;> rfl
theorem kF1_some : kF1 tg a ds m (some ρ) = kF2 tg a ds (a ρ m) := rfl
theorem kF2_nx : kF2 tg a ds (.nx ρ m) = forL tg a ds ρ m := rfl
theorem kF2_ct : kF2 tg a ds (.ct ρ m) = forL tg a ds ρ m := rfl
theorem kF2_bk : kF2 tg a ds (.bk ρ m) = .nx ρ m := rfl
theorem kF2_rt : kF2 tg a ds (.rt d m) = .rt d m := rfl
theorem kF2_ex : kF2 tg a ds (.ex d ρ m) = .ex d ρ m := rfl
def kW2 (t : MB) (a : MS) (n : Nat) : RS → RS
  | .nx ρ m => whileN t a n ρ m
  | .ct ρ m => whileN t a n ρ m
  | .bk ρ m => .nx ρ m
  | .rt d m => .rt d m
  | .ex x ρ m => .ex x ρ m
  | .no => .no
def kW1 (t : MB) (a : MS) (n : Nat) (ρ : Sl) : Rs Bool → RS
  | .ok k m => if k = true then kW2 t a n (a ρ m) else .nx ρ m
  | .ex x m => .ex x ρ m
  | .no => .no
/-- one turn of a while -/
theorem e_while : whileN t a (n + 1) ρ m = kW1 t a n ρ (t ρ m) := by
  show (t ρ m).st ρ _ = _
  cases t ρ m with
  | no => rfl
  | ex x m => rfl
  | ok k m => unfold kW1; rw [Rs.st_ok]; cases k <;> simp only [if_true] <;> unfold kW2 <;> cases a ρ m <;> rfl
theorem kW1_t : kW1 t a n ρ (.ok true m) = kW2 t a n (a ρ m) := rfl
theorem kW1_f : kW1 t a n ρ (.ok false m) = .nx ρ m := rfl
theorem kW1_ex : kW1 t a n ρ (.ex d m) = .ex d ρ m := rfl
theorem kW2_nx : kW2 t a n (.nx ρ m) = whileN t a n ρ m := rfl
theorem kW2_ct : kW2 t a n (.ct ρ m) = whileN t a n ρ m := rfl
theorem kW2_bk : kW2 t a n (.bk ρ m) = .nx ρ m := rfl
theorem kW2_rt : kW2 t a n (.rt d m) = .rt d m := rfl
theorem kW2_ex : kW2 t a n (.ex d ρ m) = .ex d ρ m := rfl
def kIA (r : Rs Ar) : Rs (List Dv) := r.bind fun x m1 => match itOf x with
  | some ds => .ok ds m1
  | none => .no
def kI1 (m : Mm) : Option (List Dv) → Rs (List Dv)
  | some ds => .ok ds m
  | none => .no
theorem e_itA : mItA fa ρ m = kIA (fa ρ m) := rfl
theorem kIA_ok : kIA (.ok x m) = kI1 m (itOf x) := rfl
theorem kIA_ex : kIA (.ex d m) = .ex d m := rfl
theorem kI1_some : kI1 m (some ds) = .ok ds m := rfl
def kIE (r : Rs Ar) : Rs (List Dv) := r.bind fun x m1 => match enOf x with
  | some ds => .ok (numD ds) m1
  | none => .no
def kI2 (m : Mm) : Option (List Dv) → Rs (List Dv)
  | some ds => .ok (numD ds) m
  | none => .no
theorem e_en : mEn fa ρ m = kIE (fa ρ m) := rfl
theorem kIE_ok : kIE (.ok x m) = kI2 m (enOf x) := rfl
theorem kI2_some : kI2 m (some ds) = .ok (numD ds) m := rfl
theorem it_lst : itOf (.v (.lst ds)) = some ds := rfl
theorem it_tup : itOf (.v (.tup ds)) = some ds := rfl
theorem it_ktp (h : ds.length ≤ 16777216) : itOf (.v (.ktp ds)) = some ds := if_pos h
theorem it_dct {kvs : List (Key × Dv)} : itOf (.v (.dct kvs)) = some (kvs.map fun p => kD p.1) := rfl
theorem en_lst : enOf (.v (.lst ds)) = some ds := rfl
theorem en_tup : enOf (.v (.tup ds)) = some ds := rfl
def kR1 (r : Rs (List Dv)) : Rs (List Dv) := r.bind fun ds m1 => match ds with
  | [.int j] => if -(2 ^ 62) ≤ j ∧ j < 2 ^ 62 ∧ j.toNat ≤ sizeLine then .ok (rngD 0 j.toNat) m1 else .no
  | _ => .no
theorem e_rng1 : mRng1 fs ρ m = kR1 (fs ρ m) := rfl
theorem kR1_ok {z : Int} (h : 0 ≤ z) (h2 : z ≤ 16777216) : kR1 (.ok [.int z] m) = .ok (rngD 0 z.toNat) m := by
  unfold kR1; rw [Rs.bind_ok]; exact if_pos ⟨by omega, by omega, by show z.toNat ≤ 16777216; omega⟩
def kR2 (r : Rs (List Dv)) : Rs (List Dv) := r.bind fun ds m1 => match ds with
  | [.int i, .int j] => if (-(2 ^ 62) ≤ i ∧ i < 2 ^ 62 ∧ -(2 ^ 62) ≤ j ∧ j < 2 ^ 62) ∧ (j - i).toNat ≤ sizeLine then .ok (rngD i (j - i).toNat) m1 else .no
  | _ => .no
theorem e_rng2 : mRng2 fs ρ m = kR2 (fs ρ m) := rfl
theorem kR2_ok {z w : Int} (h : -1000000 ≤ z ∧ z ≤ 1000000) (h2 : -1000000 ≤ w ∧ w ≤ 1000000) : kR2 (.ok [.int z, .int w] m) = .ok (rngD z (w - z).toNat) m := by
  unfold kR2; rw [Rs.bind_ok]; exact if_pos ⟨by omega, by show (w - z).toNat ≤ 16777216; omega⟩
/-! ### comprehensions -/
theorem w_1 : wipeR ρ [i] = ρ.set i .un := rfl
theorem w_2 : wipeR ρ [i, j] = (ρ.set j .un).set i .un := rfl
theorem w_3 {l : Nat} : wipeR ρ [i, j, l] = ((ρ.set l .un).set j .un).set i .un := rfl
theorem e_yes : mYes ρ m = .ok true m := rfl
def kLc2 : Rs (List Dv) → Rs Ob
  | .ok ys m2 => .ok (.lst ys) m2
  | _ => .no
def kLc1 (vs : List Nat) (tg : MG) (t : MB) (f : ME) (ρ : Sl) (r : Rs (List Dv)) : Rs Ob := r.bind fun ds m1 => kLc2 (lcL tg t f (wipeR ρ vs) ds m1)
theorem e_lc : mLc vs it tg t f ρ m = kLc1 vs tg t f ρ (it ρ m) := by
  unfold mLc kLc1; congr 1
theorem kLc1_ok : kLc1 vs tg t f ρ (.ok ds m) = kLc2 (lcL tg t f (wipeR ρ vs) ds m) := rfl
theorem kLc1_ex : kLc1 vs tg t f ρ (.ex d m) = .ex d m := rfl
theorem kLc2_ok : kLc2 (.ok ds m) = .ok (.lst ds) m := rfl
def kl4 (y : Dv) : Rs (List Dv) → Rs (List Dv)
  | .ok ys m3 => .ok (y :: ys) m3
  | _ => .no
def kl3 (tg : MG) (t : MB) (f : ME) (ρ : Sl) (ds : List Dv) : Rs Ar → Rs (List Dv)
  | .ok (.v y) m2 => kl4 y (lcL tg t f ρ ds m2)
  | _ => .no
def kl2 (tg : MG) (t : MB) (f : ME) (ρ ρ1 : Sl) (ds : List Dv) : Rs Bool → Rs (List Dv)
  | .ok k m1 => if k = true then kl3 tg t f ρ ds (f ρ1 m1) else lcL tg t f ρ ds m1
  | _ => .no
def kl1 (tg : MG) (t : MB) (f : ME) (ρ : Sl) (ds : List Dv) (m : Mm) : Option Sl → Rs (List Dv)
  | none => .no
  | some ρ1 => kl2 tg t f ρ ρ1 ds (t ρ1 m)
theorem e_lcN : lcL tg t f ρ [] m = .ok [] m := rfl
theorem e_lcC : lcL tg t f ρ (d :: ds) m = kl1 tg t f ρ ds m (tg d ρ) := by
  show (match tg d ρ with | none => _ | some ρ1 => _) = _
  unfold kl1
  cases tg d ρ with
  | none => rfl
  | some ρ1 =>
    simp only []
    unfold kl2
    cases t ρ1 m with
    | no => rfl
    | ex x m => rfl
    | ok k m1 =>
      cases k with
      | false => rfl
      | true =>
        simp only [if_true]
        unfold kl3
        cases f ρ1 m1 with
        | no => rfl
        | ex x m => rfl
        | ok y m2 =>
          cases y with
          | b i => rfl
          | v y =>
            simp only []
            unfold kl4
            cases lcL tg t f ρ ds m2 <;> rfl
theorem kl1_some {ρ1 : Sl} : kl1 tg t f ρ ds m (some ρ1) = kl2 tg t f ρ ρ1 ds (t ρ1 m) := rfl
theorem kl2_t {ρ1 : Sl} : kl2 tg t f ρ ρ1 ds (.ok true m) = kl3 tg t f ρ ds (f ρ1 m) := rfl
theorem kl2_f {ρ1 : Sl} : kl2 tg t f ρ ρ1 ds (.ok false m) = lcL tg t f ρ ds m := rfl
theorem kl3_ok : kl3 tg t f ρ ds (.ok (.v d) m) = kl4 d (lcL tg t f ρ ds m) := rfl
theorem kl4_ok : kl4 d (.ok ds m) = .ok (d :: ds) m := rfl
/-- a comprehension over typed items, no draw in it -/
theorem lcL_map {α : Type} {e : α → Dv} {p : α → Bool} {h : α → Dv} : ∀ {xs : List α}, (∀ z ∈ xs, ∃ ρ1, tg (e z) ρ = some ρ1 ∧ t ρ1 m = .ok (p z) m ∧ (p z = true → f ρ1 m = .ok (.v (h z)) m)) → lcL tg t f ρ (xs.map e) m = .ok ((xs.filter p).map h) m
  | [], _ => rfl
  | z :: xs, H => by
    obtain ⟨ρ1, h1, h2, h3⟩ := H z (by simp)
    have ih := lcL_map (xs := xs) (fun w hw => H w (by simp [hw]))
    rw [List.map_cons, e_lcC, h1, kl1_some, h2, List.filter_cons]
    cases hp : p z with
    | false => rw [kl2_f, ih]; simp
    | true => rw [kl2_t, h3 hp, kl3_ok, ih]; simp [kl4_ok]
theorem lcL_all {α : Type} {e : α → Dv} {h : α → Dv} {xs : List α} (H : ∀ z ∈ xs, ∃ ρ1, tg (e z) ρ = some ρ1 ∧ t ρ1 m = .ok true m ∧ f ρ1 m = .ok (.v (h z)) m) : lcL tg t f ρ (xs.map e) m = .ok (xs.map h) m := by
  have := lcL_map (p := fun _ => true) (h := h) (fun z hz => let ⟨r, a, b, c⟩ := H z hz; ⟨r, a, b, fun _ => c⟩)
  rw [this, List.filter_eq_self.mpr (fun _ _ => rfl)]
/-! ### changes -/
def kMb : Option Cell → Option Ob
  | some (.own o) => some o
  | _ => none
def kMo : Option (Option Ob) → Option Ob
  | some (some o) => some o
  | _ => none
theorem mb_b : mobOf ρ m (.b i) = kMb ρ[i]? := rfl
theorem kMb_some : kMb (some (.own o)) = some o := rfl
theorem mb_l : mobOf ρ m (.v (.loc n)) = kMo m[n]? := rfl
theorem kMo_some : kMo (some (some o)) = some o := rfl
theorem mb_own (h : ρ[i]? = some (.own o)) : mobOf ρ m (.b i) = some o := by unfold mobOf; simp only [h]
theorem mb_loc (h : m[n]? = some (some o)) : mobOf ρ m (.v (.loc n)) = some o := by unfold mobOf; simp only [h]
theorem mp_b : mobPut ρ m (.b i) o = some (ρ.set i (.own o), m) := rfl
theorem mp_loc : mobPut ρ m (.v (.loc n)) o = some (ρ, m.set n (some o)) := rfl
def kM6 (k : Dv → Sl → Mm → RS) (d : Dv) : Option (Sl × Mm) → RS
  | some (ρ', m') => k d ρ' m'
  | none => .no
def kM5 (k : Dv → Sl → Mm → RS) (ρ : Sl) (m : Mm) (x : Ar) : Option (Ob × Dv) → RS
  | some (o', d) => kM6 k d (mobPut ρ m x o')
  | none => .no
def kM4 (g : Ob → List Dv → Option (Ob × Dv)) (k : Dv → Sl → Mm → RS) (ρ : Sl) (m : Mm) (x : Ar) (ds : List Dv) : Option Ob → RS
  | some o2 => kM5 k ρ m x (g o2 ds)
  | none => .no
def kM3 (g : Ob → List Dv → Option (Ob × Dv)) (k : Dv → Sl → Mm → RS) (ρ : Sl) (x : Ar) (r : Rs (List Dv)) : RS := r.st ρ fun ds m2 => kM4 g k ρ m2 x ds (mobOf ρ m2 x)
def kM2 (t : String) (g : Ob → List Dv → Option (Ob × Dv)) (fs : MA) (k : Dv → Sl → Mm → RS) (ρ : Sl) (m : Mm) (x : Ar) : Option Ob → RS
  | some o => if tyOb t o = true then kM3 g k ρ x (fs ρ m) else .no
  | none => .no
def kM1 (t : String) (g : Ob → List Dv → Option (Ob × Dv)) (fs : MA) (k : Dv → Sl → Mm → RS) (ρ : Sl) (r : Rs Ar) : RS := r.st ρ fun x m1 => kM2 t g fs k ρ m1 x (mobOf ρ m1 x)
def mutK : Dv → Sl → Mm → RS := fun _ ρ m => .nx ρ m
theorem mutK_ap : mutK d ρ m = .nx ρ m := rfl
def mutA (i : Nat) : Dv → Sl → Mm → RS := fun d ρ m => .nx (ρ.set i (.val d)) m
theorem mutA_ap : mutA i d ρ m = .nx (ρ.set i (.val d)) m := rfl
theorem mutK_eq {ty : String} {q : Ob → List Dv → Option (Ob × Dv)} {k : Dv → Sl → Mm → RS} : mMutK ty q fa fs k ρ m = kM1 ty q fs k ρ (fa ρ m) := rfl
theorem e_mut {ty : String} {q : Ob → List Dv → Option (Ob × Dv)} : mMut ty q fa fs ρ m = kM1 ty q fs mutK ρ (fa ρ m) := mutK_eq
theorem e_mutA {ty : String} {q : Ob → List Dv → Option (Ob × Dv)} : mMutA ty q fa fs i ρ m = kM1 ty q fs (mutA i) ρ (fa ρ m) := mutK_eq
theorem kM1_ok {ty : String} {q : Ob → List Dv → Option (Ob × Dv)} {k : Dv → Sl → Mm → RS} : kM1 ty q fs k ρ (.ok x m) = kM2 ty q fs k ρ m x (mobOf ρ m x) := rfl
theorem kM2_lst {q : Ob → List Dv → Option (Ob × Dv)} {k : Dv → Sl → Mm → RS} : kM2 "list" q fs k ρ m x (some (.lst ds)) = kM3 q k ρ x (fs ρ m) := by
  show (if tyOb "list" (.lst ds) = true then kM3 q k ρ x (fs ρ m) else .no) = _
  exact if_pos (by simp [tyOb])
theorem kM2_dct {q : Ob → List Dv → Option (Ob × Dv)} {k : Dv → Sl → Mm → RS} {kvs : List (Key × Dv)} : kM2 "dict" q fs k ρ m x (some (.dct kvs)) = kM3 q k ρ x (fs ρ m) := by
  show (if tyOb "dict" (.dct kvs) = true then kM3 q k ρ x (fs ρ m) else .no) = _
  exact if_pos (by simp [tyOb])
theorem kM3_ok {q : Ob → List Dv → Option (Ob × Dv)} {k : Dv → Sl → Mm → RS} : kM3 q k ρ x (.ok ds m) = kM4 q k ρ m x ds (mobOf ρ m x) := rfl
theorem kM3_ex {q : Ob → List Dv → Option (Ob × Dv)} {k : Dv → Sl → Mm → RS} : kM3 q k ρ x (.ex d m) = .ex d ρ m := rfl
theorem kM4_some {q : Ob → List Dv → Option (Ob × Dv)} {k : Dv → Sl → Mm → RS} : kM4 q k ρ m x ds (some o) = kM5 k ρ m x (q o ds) := rfl
theorem kM5_some {k : Dv → Sl → Mm → RS} : kM5 k ρ m x (some (o, d)) = kM6 k d (mobPut ρ m x o) := rfl
theorem kM6_some {k : Dv → Sl → Mm → RS} : kM6 k d (some (ρ, m)) = k d ρ m := rfl
theorem g_app (h : ds.length < 16777216) : gApp (.lst ds) [d] = some (.lst (ds ++ [d]), .non) := if_pos h
theorem g_ins {z : Int} (h : ds.length < 16777216) (h2 : 0 ≤ z) (h3 : z < 16777216) : gIns (.lst ds) [.int z, d] = some (.lst (ds.take z.toNat ++ [d] ++ ds.drop z.toNat), .non) := if_pos ⟨h, h2, by omega⟩
def kX6 : Option (Sl × Mm) → RS
  | some (ρ', m') => .nx ρ' m'
  | none => .no
def kX5 (ρ : Sl) (m : Mm) (x : Ar) : Option Ob → RS
  | some o' => kX6 (mobPut ρ m x o')
  | none => .no
def kX4 (ρ : Sl) (m : Mm) (x : Ar) (i d : Dv) : Option Ob → RS
  | some o => kX5 ρ m x (gSetIx o i d)
  | none => .no
def kX3 (ρ : Sl) (d : Dv) (x : Ar) (r : Rs Ar) : RS := r.st ρ fun y m2 => match y with
  | .b _ => .no
  | .v i => kX4 ρ m2 x i d (mobOf ρ m2 x)
def kX2 (fi : ME) (ρ : Sl) (d : Dv) (r : Rs Ar) : RS := r.st ρ fun x m1 => kX3 ρ d x (fi ρ m1)
def kX1 (fo fi : ME) (ρ : Sl) (r : Rs Ar) : RS := r.st ρ fun z m0 => match z with
  | .b _ => .no
  | .v d => kX2 fi ρ d (fo ρ m0)
theorem e_setIx : mSetIx fa fb fc ρ m = kX1 fb fc ρ (fa ρ m) := rfl
theorem kX1_v : kX1 fb fc ρ (.ok (.v d) m) = kX2 fc ρ d (fb ρ m) := rfl
theorem kX1_ex : kX1 fb fc ρ (.ex d m) = .ex d ρ m := rfl
theorem kX2_ok : kX2 fc ρ d (.ok x m) = kX3 ρ d x (fc ρ m) := rfl
theorem kX3_v : kX3 ρ d x (.ok (.v d') m) = kX4 ρ m x d' d (mobOf ρ m x) := rfl
theorem kX4_some : kX4 ρ m x d' d (some o) = kX5 ρ m x (gSetIx o d' d) := rfl
theorem kX5_some : kX5 ρ m x (some o) = kX6 (mobPut ρ m x o) := rfl
theorem kX6_some : kX6 (some (ρ, m)) = .nx ρ m := rfl
def kS3 : Option (Sl × Mm) → RS
  | some (ρ', m') => .nx ρ' m'
  | none => .no
def kS2 (cn f : Str) (ρ : Sl) (m : Mm) (d : Dv) (x : Ar) : Option Ob → RS
  | some (.ins c' fs) => if c' = cn ∧ fs.length < 1000 then kS3 (mobPut ρ m x (.ins c' (fput f d fs))) else .no
  | _ => .no
def kS1b (cn f : Str) (ρ : Sl) (d : Dv) (r : Rs Ar) : RS := r.st ρ fun x m1 => kS2 cn f ρ m1 d x (mobOf ρ m1 x)
def kS1a (cn f : Str) (fo : ME) (ρ : Sl) (r : Rs Ar) : RS := r.st ρ fun z m0 => match z with
  | .b _ => .no
  | .v d => kS1b cn f ρ d (fo ρ m0)
theorem e_stF : mStF cn fn fa fb ρ m = kS1a cn fn fb ρ (fa ρ m) := rfl
theorem kS1a_v : kS1a cn fn fb ρ (.ok (.v d) m) = kS1b cn fn ρ d (fb ρ m) := rfl
theorem kS1a_ex : kS1a cn fn fb ρ (.ex d m) = .ex d ρ m := rfl
theorem kS1b_ok : kS1b cn fn ρ d (.ok x m) = kS2 cn fn ρ m d x (mobOf ρ m x) := rfl
theorem kS2_ins {ps : List (Str × Dv)} (h : ps.length < 1000) : kS2 cn fn ρ m d x (some (.ins cn ps)) = kS3 (mobPut ρ m x (.ins cn (fput fn d ps))) := if_pos ⟨rfl, h⟩
theorem kS3_some : kS3 (some (ρ, m)) = .nx ρ m := rfl
def kAu2 (i : Nat) (q : Int → Int → Int) (z : Int) (ρ : Sl) (r : Rs Ar) : RS := r.st ρ fun x m1 => match x with
  | .v (.int b) => .nx (ρ.set i (.val (.int (q z b)))) m1
  | _ => .no
def kAu (i : Nat) (q : Int → Int → Int) (f : ME) (ρ : Sl) (m : Mm) : Option Cell → RS
  | some (.val (.int a)) => kAu2 i q a ρ (f ρ m)
  | _ => .no
theorem e_aug {q : Int → Int → Int} : mAug i q f ρ m = kAu i q f ρ m ρ[i]? := by
  unfold mAug kAu
  cases ρ[i]? with
  | none => rfl
  | some c => cases c with
    | val d => cases d <;> rfl
    | _ => rfl
theorem kAu_some {q : Int → Int → Int} {z : Int} : kAu i q f ρ m (some (.val (.int z))) = kAu2 i q z ρ (f ρ m) := rfl
theorem kAu2_ok {q : Int → Int → Int} {z w : Int} : kAu2 i q z ρ (.ok (.v (.int w)) m) = .nx (ρ.set i (.val (.int (q z w)))) m := rfl
theorem e_cnil : mCNil ρ m = .ok [] m := rfl
def kC2b (c : Cell) (r : Rs (List Cell)) : Rs (List Cell) := r.bind fun ys m2 => .ok (c :: ys) m2
def kCv (p : MC) (ρ : Sl) (r : Rs Ar) : Rs (List Cell) := r.bind fun x m1 => match x with
  | .v d => kC2b (.val d) (p ρ m1)
  | .b _ => .no
def kCo (p : MC) (ρ : Sl) (r : Rs Ob) : Rs (List Cell) := r.bind fun o m1 => kC2b (.own o) (p ρ m1)
theorem e_cv {p : MC} : mCV f p ρ m = kCv p ρ (f ρ m) := rfl
theorem e_co {p : MC} {q : MN} : mCO q p ρ m = kCo p ρ (q ρ m) := rfl
theorem kCv_v {p : MC} : kCv p ρ (.ok (.v d) m) = kC2b (.val d) (p ρ m) := rfl
theorem kCo_ok {p : MC} : kCo p ρ (.ok o m) = kC2b (.own o) (p ρ m) := rfl
theorem kC2b_ok {c : Cell} {ys : List Cell} : kC2b c (.ok ys m) = .ok (c :: ys) m := rfl
def kPa (i j : Nat) (ρ : Sl) (r : Rs (List Cell)) : RS := r.st ρ fun ys m1 => match ys with
  | [x, y] => if isUn x = false ∧ isUn y = false then .nx ((ρ.set i x).set j y) m1 else .no
  | _ => .no
theorem e_par {p : MC} : mPar i j p ρ m = kPa i j ρ (p ρ m) := rfl
theorem kPa_vv : kPa i j ρ (.ok [.val d, .val d'] m) = .nx ((ρ.set i (.val d)).set j (.val d')) m := rfl
theorem kPa_vo : kPa i j ρ (.ok [.val d, .own o] m) = .nx ((ρ.set i (.val d)).set j (.own o)) m := rfl
theorem kPa_ov : kPa i j ρ (.ok [.own o, .val d] m) = .nx ((ρ.set i (.own o)).set j (.val d)) m := rfl
theorem kPa_oo : kPa i j ρ (.ok [.own o, .own o'] m) = .nx ((ρ.set i (.own o)).set j (.own o')) m := rfl
/-! ### dict comprehension, sorted set -/
def kDc2 : Rs (List (Key × Dv)) → Rs Ob
  | .ok ys m2 => .ok (.dct ys) m2
  | _ => .no
def kDc1 (vs : List Nat) (tg : MG) (t : MB) (fa fb : ME) (ρ : Sl) (r : Rs (List Dv)) : Rs Ob := r.bind fun ds m1 => kDc2 (dcL tg t fa fb (wipeR ρ vs) ds [] m1)
theorem e_dc : mDc vs it tg t fa fb ρ m = kDc1 vs tg t fa fb ρ (it ρ m) := by
  unfold mDc kDc1; congr 1
theorem kDc1_ok : kDc1 vs tg t fa fb ρ (.ok ds m) = kDc2 (dcL tg t fa fb (wipeR ρ vs) ds [] m) := rfl
theorem kDc2_ok {ys : List (Key × Dv)} : kDc2 (.ok ys m) = .ok (.dct ys) m := rfl
/-- new keys one by one: the pairs in order -/
theorem dcL_map {α : Type} {e : α → Dv} {kf : α → Key} {h : α → Dv} (hk : ∀ z, ∃ d, keyD d = some (kf z) ∧ True) : ∀ {xs : List α} {acc : List (Key × Dv)}, acc.length + xs.length < 16777216 → (acc.map (·.1) ++ xs.map kf).Nodup →
    (∀ z ∈ xs, ∃ ρ1 dk, tg (e z) ρ = some ρ1 ∧ t ρ1 m = .ok true m ∧ fa ρ1 m = .ok (.v dk) m ∧ fb ρ1 m = .ok (.v (h z)) m ∧ keyD dk = some (kf z)) →
    dcL tg t fa fb ρ (xs.map e) acc m = .ok (acc ++ xs.map fun z => (kf z, h z)) m
  | [], acc, _, _, _ => by simp [dcL]
  | z :: xs, acc, hl, hn, H => by
    obtain ⟨ρ1, dk, h1, h2, h3, h4, h5⟩ := H z (by simp)
    simp only [List.length_cons] at hl
    have hnot : acc.any (fun kv => decide (kv.1 = kf z)) = false := by
      rw [List.any_eq_false]
      intro kv hkv
      simp only [decide_eq_true_eq]
      intro hc
      have : kf z ∈ acc.map (·.1) := by rw [← hc]; exact List.mem_map_of_mem hkv
      have hd := (List.nodup_append.mp hn).2.2 (kf z) this (kf z) (by simp)
      exact hd rfl
    have hput : dput acc (kf z) (h z) = acc ++ [(kf z, h z)] := by unfold dput; rw [hnot]; rfl
    have hz : acc.length < sizeLine := by show acc.length < 16777216; omega
    rw [List.map_cons]
    show (match tg (e z) ρ with | none => _ | some ρ1 => _) = _
    rw [h1]; simp only []
    rw [h2]; simp only [if_true]
    rw [h3]; simp only []
    rw [h4]; simp only []
    rw [h5]; simp only []
    rw [if_pos hz, hput, dcL_map hk (xs := xs) (acc := acc ++ [(kf z, h z)]) (by simp; omega) (by simpa using hn) (fun w hw => H w (by simp [hw]))]
    simp
def kSs2 : Rs (List Dv) → Rs Ob
  | .ok ys m2 => match intsD ys with
    | some ns => .ok (.lst ((sortU ns).map .int)) m2
    | none => .no
  | _ => .no
def kSs1 (vs : List Nat) (tg : MG) (t : MB) (f : ME) (ρ : Sl) (r : Rs (List Dv)) : Rs Ob := r.bind fun ds m1 => if ds.length < 64 then kSs2 (lcL tg t f (wipeR ρ vs) ds m1) else .no
theorem e_ssc : mSortSc vs it tg t f ρ m = kSs1 vs tg t f ρ (it ρ m) := by
  unfold mSortSc kSs1; congr 1
theorem kSs1_ok (h : ds.length < 64) : kSs1 vs tg t f ρ (.ok ds m) = kSs2 (lcL tg t f (wipeR ρ vs) ds m) := by unfold kSs1; rw [Rs.bind_ok, if_pos h]
theorem intsD_map : ∀ ns : List Int, intsD (ns.map .int) = some ns
  | [] => rfl
  | n :: ns => by simp [intsD, intsD_map ns]
theorem kSs2_ok {ns : List Int} : kSs2 (.ok (ns.map .int) m) = .ok (.lst ((sortU ns).map .int)) m := by unfold kSs2; simp only [intsD_map]
theorem sorted_mem {x : Int} : ∀ ns : List Int, x ∈ sortU ns ↔ x ∈ ns := by
  have key : ∀ (i : Int) (l : List Int), x ∈ insU i l ↔ x = i ∨ x ∈ l := fun i l => by
    induction l with
    | nil => simp [insU]
    | cons j r ih =>
      unfold insU
      split
      · simp
      · split
        · rename_i h; subst h; simp
        · simp only [List.mem_cons, ih]
          constructor
          · rintro (h | h | h)
            · exact .inr (.inl h)
            · exact .inl h
            · exact .inr (.inr h)
          · rintro (h | h | h)
            · exact .inr (.inl h)
            · exact .inl h
            · exact .inr (.inr h)
  intro ns
  induction ns with
  | nil => simp [sortU]
  | cons n ns ih => simp only [sortU, key, ih, List.mem_cons]
end
end M3

set_option Elab.async false
set_option linter.all false
set_option autoImplicit false
set_option maxRecDepth 100000
set_option maxHeartbeats 2000000
/-! M4b: the operators on told values. -/
namespace M3
open PySem L2
section
variable {ρ : Sl} {m : Mm} {x y : Ar} {d d' : Dv} {ds es : List Dv} {i j : Int} {s z : Str} {p q : Bool} {k n : Nat} {kvs : List (Key × Dv)} {cn : Str} {ps : List (Str × Dv)}
/-! ### where a list stands -/
def kOL : Option Cell → Option (List Dv)
  | some (.own (.lst ds)) => some ds
  | _ => none
theorem lo_lst : lstOf ρ m (.v (.lst ds)) = some ds := rfl
theorem lo_tup : lstOf ρ m (.v (.tup ds)) = none := rfl
theorem lo_ktp : lstOf ρ m (.v (.ktp ds)) = none := rfl
theorem lo_str : lstOf ρ m (.v (.str s)) = none := rfl
theorem lo_int : lstOf ρ m (.v (.int i)) = none := rfl
theorem lo_b : lstOf ρ m (.b k) = kOL ρ[k]? := rfl
theorem kOL_some : kOL (some (.own (.lst ds))) = some ds := rfl
def kML : Option (Option Ob) → Option (List Dv)
  | some (some (.lst ds)) => some ds
  | _ => none
theorem lo_loc : lstOf ρ m (.v (.loc k)) = kML m[k]? := rfl
theorem kML_some : kML (some (some (.lst ds))) = some ds := rfl
def kIL : Option (Option Ob) → Option (Str × List (Str × Dv))
  | some (some (.ins c fs)) => some (c, fs)
  | _ => none
theorem i_loc : insOf ρ m (.v (.loc k)) = kIL m[k]? := rfl
theorem kIL_some : kIL (some (some (.ins cn ps))) = some (cn, ps) := rfl
def kIO : Option Cell → Option (Str × List (Str × Dv))
  | some (.own (.ins c fs)) => some (c, fs)
  | _ => none
theorem i_b : insOf ρ m (.b k) = kIO ρ[k]? := rfl
theorem kIO_some : kIO (some (.own (.ins cn ps))) = some (cn, ps) := rfl
theorem fp_nil {f : Str} : fput f d [] = [(f, d)] := rfl
theorem fp_ne {f g : Str} {r : List (Str × Dv)} (h : (g == f) = false) : fput f d ((g, d') :: r) = (g, d') :: fput f d r := by
  show (if g = f then _ else _) = _
  rw [if_neg (by simpa using h)]
theorem so_lst : seqOf ρ m (.v (.lst ds)) = some ds := rfl
theorem so_tup : seqOf ρ m (.v (.tup ds)) = some ds := rfl
theorem so_ktp : seqOf ρ m (.v (.ktp ds)) = some ds := rfl
def kOS : Option (List Dv) → Option (List Dv)
  | some ds => some ds
  | none => none
theorem so_b : seqOf ρ m (.b k) = kOL ρ[k]? := by unfold seqOf; rw [lo_b]; cases kOL ρ[k]? <;> rfl
theorem so_loc : seqOf ρ m (.v (.loc k)) = kML m[k]? := by unfold seqOf; rw [lo_loc]; cases kML m[k]? <;> rfl
/-! ### numbers -/
theorem g_int0 {g : Int → Int → Dv} : gInt0 g ρ m (.v (.int i)) (.v (.int j)) = .ok (.v (g i j)) m := rfl
theorem g_neg {g : Int → Dv} : gUn g ρ m (.v (.int i)) = .ok (.v (g i)) m := rfl
theorem log_lt {x : Int} (h : x.natAbs < 2 ^ 64) : x.natAbs.log2 < 64 := by
  by_cases hx : x.natAbs = 0
  · rw [hx]; decide
  · exact (Nat.log2_lt hx).mpr h
theorem g_fdiv (h : 0 < j) (h2 : j < 18446744073709551616) : gFdiv ρ m (.v (.int i)) (.v (.int j)) = .ok (.v (.int (i / j))) m := by
  have hl := log_lt (x := j) (by omega)
  exact if_pos ⟨h, by omega⟩
theorem g_mod (h : 0 < j) : gMod ρ m (.v (.int i)) (.v (.int j)) = .ok (.v (.int (i % j))) m := if_pos h
theorem g_mul (h : -18446744073709551616 < j ∧ j < 18446744073709551616) : gMul ρ m (.v (.int i)) (.v (.int j)) = .ok (.v (.int (i * j))) m := if_pos (.inr (.inr ⟨by omega, by omega⟩))
theorem g_pow18 : gPow ρ m (.v (.int 10)) (.v (.int 18)) = .ok (.v (.int 1000000000000000000)) m := rfl
theorem g_pow9 : gPow ρ m (.v (.int 10)) (.v (.int 9)) = .ok (.v (.int 1000000000)) m := rfl
theorem g_pow12 : gPow ρ m (.v (.int 10)) (.v (.int 12)) = .ok (.v (.int 1000000000000)) m := rfl
theorem g_add_i : gAdd ρ m (.v (.int i)) (.v (.int j)) = .ok (.v (.int (i + j))) m := rfl
theorem g_add_s (h : s.length + z.length ≤ 16777216) : gAdd ρ m (.v (.str s)) (.v (.str z)) = .ok (.v (.str (s ++ z))) m := if_pos h
def kAd (m : Mm) : Option (List Dv) → Option (List Dv) → Rs Ar
  | some xs, some ys => if xs.length + ys.length ≤ sizeLine then .ok (.v (.lst (xs ++ ys))) m else .no
  | _, _ => .no
theorem g_add_l (h : ds.length + es.length ≤ 16777216) : gAdd ρ m (.v (.lst ds)) (.v (.lst es)) = .ok (.v (.lst (ds ++ es))) m := if_pos h
theorem g_add_t (h : ds.length + es.length ≤ 16777216) (h2 : ds.isEmpty = false) : gAdd ρ m (.v (.tup ds)) (.v (.tup es)) = .ok (.v (.tup (ds ++ es))) m := if_pos ⟨h2, h⟩
theorem g_mul_l (h : 0 ≤ j) (h2 : j < 1000) (h3 : ds.length < 1000) : gMul ρ m (.v (.lst ds)) (.v (.int j)) = .ok (.v (.lst (List.replicate j.toNat ds).flatten)) m := by
  refine if_pos ⟨by omega, by omega, ?_⟩
  show ds.length * j.toNat ≤ 16777216
  have : ds.length * j.toNat ≤ 1000 * 1000 := Nat.mul_le_mul (by omega) (by omega)
  omega
/-! ### == and != -/
theorem g_eq_i : gEq ρ m (.v (.int i)) (.v (.int j)) = .ok (.v (.bl (i == j))) m := by
  show Rs.ok (Ar.v (.bl (decide (V.int i = V.int j)))) m = _; rw [dec_int]
theorem g_ne_i : gNe ρ m (.v (.int i)) (.v (.int j)) = .ok (.v (.bl (!(i == j)))) m := by
  show Rs.ok (Ar.v (.bl (!decide (V.int i = V.int j)))) m = _; rw [dec_int]
theorem g_eq_s : gEq ρ m (.v (.str s)) (.v (.str z)) = .ok (.v (.bl (s == z))) m := by
  show Rs.ok (Ar.v (.bl (decide (V.str s = V.str z)))) m = _; rw [dec_str]
theorem g_ne_s : gNe ρ m (.v (.str s)) (.v (.str z)) = .ok (.v (.bl (!(s == z)))) m := by
  show Rs.ok (Ar.v (.bl (!decide (V.str s = V.str z)))) m = _; rw [dec_str]
theorem g_eq_b : gEq ρ m (.v (.bl p)) (.v (.bl q)) = .ok (.v (.bl (p == q))) m := by
  show Rs.ok (Ar.v (.bl (decide (V.bl p = V.bl q)))) m = _; rw [dec_bl]
theorem g_ne_b : gNe ρ m (.v (.bl p)) (.v (.bl q)) = .ok (.v (.bl (!(p == q)))) m := by
  show Rs.ok (Ar.v (.bl (!decide (V.bl p = V.bl q)))) m = _; rw [dec_bl]
theorem g_eq_si : gEq ρ m (.v (.str s)) (.v (.int i)) = .ok (.v (.bl false)) m := by
  show Rs.ok (Ar.v (.bl (decide (V.str s = V.int i)))) m = _; rw [decide_eq_false (fun h => nomatch h)]
/-- two pieces of data -/
theorem g_eq_py {P Q : PyData} (h1 : aV x = none ∨ aV y = none) (h2 : pyOf ρ m x = some P) (h3 : pyOf ρ m y = some Q) (h4 : SeqAt.shaped P = true) (h5 : SeqAt.shaped Q = true) : gEq ρ m x y = .ok (.v (.bl (PyData.eqv P Q))) m := by
  unfold gEq eqOf
  rcases h1 with h1 | h1
  · rw [h1]; simp only [h2, h3, h4, h5, and_self, if_true]
  · rw [h1]
    cases aV x <;> simp only [h2, h3, h4, h5, and_self, if_true]
theorem g_ne_py {P Q : PyData} (h1 : aV x = none ∨ aV y = none) (h2 : pyOf ρ m x = some P) (h3 : pyOf ρ m y = some Q) (h4 : SeqAt.shaped P = true) (h5 : SeqAt.shaped Q = true) : gNe ρ m x y = .ok (.v (.bl (!PyData.eqv P Q))) m := by
  unfold gNe eqOf
  rcases h1 with h1 | h1
  · rw [h1]; simp only [h2, h3, h4, h5, and_self, if_true]
  · rw [h1]
    cases aV x <;> simp only [h2, h3, h4, h5, and_self, if_true]
/-! ### is None -/
theorem g_is_non : gIsN false ρ m (.v .non) (.v .non) = .ok (.v (.bl true)) m := rfl
theorem g_isnt_non : gIsN true ρ m (.v .non) (.v .non) = .ok (.v (.bl false)) m := rfl
theorem g_is_bl : gIsN false ρ m (.v (.bl p)) (.v .non) = .ok (.v (.bl false)) m := rfl
theorem g_isnt_bl : gIsN true ρ m (.v (.bl p)) (.v .non) = .ok (.v (.bl true)) m := rfl
theorem g_is_int : gIsN false ρ m (.v (.int i)) (.v .non) = .ok (.v (.bl false)) m := rfl
theorem g_isnt_int : gIsN true ρ m (.v (.int i)) (.v .non) = .ok (.v (.bl true)) m := rfl
theorem g_is_str : gIsN false ρ m (.v (.str s)) (.v .non) = .ok (.v (.bl false)) m := rfl
theorem g_isnt_str : gIsN true ρ m (.v (.str s)) (.v .non) = .ok (.v (.bl true)) m := rfl
theorem g_is_lst : gIsN false ρ m (.v (.lst ds)) (.v .non) = .ok (.v (.bl false)) m := rfl
theorem g_isnt_lst : gIsN true ρ m (.v (.lst ds)) (.v .non) = .ok (.v (.bl true)) m := rfl
theorem g_is_tup : gIsN false ρ m (.v (.tup ds)) (.v .non) = .ok (.v (.bl false)) m := rfl
theorem g_isnt_tup : gIsN true ρ m (.v (.tup ds)) (.v .non) = .ok (.v (.bl true)) m := rfl
theorem g_is_ktp : gIsN false ρ m (.v (.ktp ds)) (.v .non) = .ok (.v (.bl false)) m := rfl
theorem g_isnt_ktp : gIsN true ρ m (.v (.ktp ds)) (.v .non) = .ok (.v (.bl true)) m := rfl
theorem g_is_ins : gIsN false ρ m (.v (.ins cn ps)) (.v .non) = .ok (.v (.bl false)) m := rfl
theorem g_isnt_ins : gIsN true ρ m (.v (.ins cn ps)) (.v .non) = .ok (.v (.bl true)) m := rfl
/-! ### truth -/
theorem tr_non : truOf ρ m (.v .non) = some false := rfl
theorem tr_bl : truOf ρ m (.v (.bl p)) = some p := rfl
theorem tr_int : truOf ρ m (.v (.int i)) = some (i != 0) := rfl
theorem tr_lst : truOf ρ m (.v (.lst ds)) = some (!ds.isEmpty) := rfl
theorem tr_tup : truOf ρ m (.v (.tup ds)) = some (!ds.isEmpty) := rfl
/-! ### len -/
theorem g_len_l : gLen ρ m (.v (.lst ds)) = .ok (.v (.int (ds.length : Nat))) m := rfl
theorem g_len_t : gLen ρ m (.v (.tup ds)) = .ok (.v (.int (ds.length : Nat))) m := rfl
theorem g_len_k : gLen ρ m (.v (.ktp ds)) = .ok (.v (.int (ds.length : Nat))) m := rfl
def kLn (m : Mm) : Option (List Dv) → Rs Ar
  | some ds => .ok (.v (.int (ds.length : Nat))) m
  | none => .no
theorem g_len_b : gLen ρ m (.b k) = kLn m (kOL ρ[k]?) := by
  unfold gLen lenOf; simp only []; rw [so_b]; cases kOL ρ[k]? <;> rfl
theorem kLn_some : kLn m (some ds) = .ok (.v (.int (ds.length : Nat))) m := rfl
theorem g_len_s (h : s.length ≤ 16777216) : gLen ρ m (.v (.str s)) = .ok (.v (.int (s.length : Nat))) m := by
  unfold gLen lenOf; simp only []; rw [if_pos (show s.length ≤ sizeLine from h)]
/-! ### items -/
def kIx (m : Mm) : Option Dv → Rs Ar
  | some d => .ok (.v d) m
  | none => .no
theorem kIx_some : kIx m (some d) = .ok (.v d) m := rfl
theorem g_ix_l : gIx ρ m (.v (.lst ds)) (.v (.int i)) = kIx m (atI ds i) := by
  unfold gIx; show (match atI ds i with | some d => _ | none => _) = _; unfold kIx; cases atI ds i <;> rfl
theorem g_ix_t : gIx ρ m (.v (.tup ds)) (.v (.int i)) = kIx m (atI ds i) := by
  unfold gIx; show (match atI ds i with | some d => _ | none => _) = _; unfold kIx; cases atI ds i <;> rfl
theorem g_ix_k : gIx ρ m (.v (.ktp ds)) (.v (.int i)) = kIx m (atI ds i) := by
  unfold gIx; show (match atI ds i with | some d => _ | none => _) = _; unfold kIx; cases atI ds i <;> rfl
def kIl (m : Mm) (i : Int) : Option (Option Ob) → Rs Ar
  | some (some (.lst ds)) => kIx m (atI ds i)
  | some (some (.dct kvs)) => kIx m (dget kvs (.inl i))
  | _ => .no
theorem kIl_some : kIl m i (some (some (.lst ds))) = kIx m (atI ds i) := rfl
theorem g_ix_loc : gIx ρ m (.v (.loc k)) (.v (.int i)) = kIl m i m[k]? := by
  unfold gIx dlook dctOf dcTOf keyOf tkeyOf seqOf lstOf tupOf kIl kIx
  simp only [keyD]
  cases m[k]? with
  | none => rfl
  | some o =>
    cases o with
    | none => rfl
    | some o =>
      cases o with
      | lst ds => first | rfl | (simp only []; cases atI ds i <;> rfl) | simp only []
      | dct kvs => first | rfl | (simp only []; cases dget kvs (.inl i) <;> rfl) | simp only []
      | _ => rfl
def kIb (m : Mm) (i : Int) : Option Cell → Rs Ar
  | some (.own (.lst ds)) => kIx m (atI ds i)
  | some (.own (.dct kvs)) => kIx m (dget kvs (.inl i))
  | _ => .no
theorem kIb_lst : kIb m i (some (.own (.lst ds))) = kIx m (atI ds i) := rfl
theorem kIb_dct : kIb m i (some (.own (.dct kvs))) = kIx m (dget kvs (.inl i)) := rfl
theorem g_ix_b : gIx ρ m (.b k) (.v (.int i)) = kIb m i ρ[k]? := by
  unfold gIx dlook dctOf dcTOf keyOf tkeyOf seqOf lstOf tupOf kIb kIx
  simp only [keyD]
  cases ρ[k]? with
  | none => rfl
  | some o =>
    cases o with
    | own o =>
      cases o with
      | lst ds => first | rfl | (simp only []; cases atI ds i <;> rfl) | simp only []
      | dct kvs => first | rfl | (simp only []; cases dget kvs (.inl i) <;> rfl) | simp only []
      | _ => rfl
    | _ => rfl
theorem g_ix_ds : gIx ρ m (.v (.dct kvs)) (.v (.str s)) = kIx m (dget kvs (.inr s)) := by
  unfold gIx; show (match some (dget kvs (.inr s)) with | some (some d) => _ | some none => _ | none => _) = _
  unfold kIx; cases dget kvs (.inr s) <;> rfl
theorem g_ix_di : gIx ρ m (.v (.dct kvs)) (.v (.int i)) = kIx m (dget kvs (.inl i)) := by
  unfold gIx; show (match some (dget kvs (.inl i)) with | some (some d) => _ | some none => _ | none => _) = _
  unfold kIx; cases dget kvs (.inl i) <;> rfl
theorem at_nat {α : Type} {xs : List α} {k : Nat} : atI xs ((k : Nat) : Int) = xs[k]? := by
  unfold atI ixN
  rw [if_pos (Int.natCast_nonneg k)]
  by_cases h : k < xs.length
  · rw [if_pos (by omega)]; rfl
  · rw [if_neg (by omega), List.getElem?_eq_none (by omega)]; rfl
theorem at_nn {α : Type} {xs : List α} (h : 0 ≤ i) : atI xs i = xs[i.toNat]? := by
  obtain ⟨k, rfl⟩ := Int.eq_ofNat_of_zero_le h
  rw [at_nat]; rfl
theorem at_0 {α : Type} {a : α} {xs : List α} : atI (a :: xs) 0 = some a := at_nat (k := 0)
theorem at_1 {α : Type} {a b : α} {xs : List α} : atI (a :: b :: xs) 1 = some b := at_nat (k := 1)
theorem at_2 {α : Type} {a b c : α} {xs : List α} : atI (a :: b :: c :: xs) 2 = some c := at_nat (k := 2)
theorem at_3 {α : Type} {a b c d : α} {xs : List α} : atI (a :: b :: c :: d :: xs) 3 = some d := at_nat (k := 3)
theorem at_4 {α : Type} {a b c d e : α} {xs : List α} : atI (a :: b :: c :: d :: e :: xs) 4 = some e := at_nat (k := 4)
theorem ix_0 {n : Nat} : ixN (n + 1) 0 = some 0 := by unfold ixN; rw [if_pos (by omega), if_pos (by omega)]; rfl
theorem ix_1 {n : Nat} : ixN (n + 2) 1 = some 1 := by unfold ixN; rw [if_pos (by omega), if_pos (by omega)]; rfl
theorem ix_2 {n : Nat} : ixN (n + 3) 2 = some 2 := by unfold ixN; rw [if_pos (by omega), if_pos (by omega)]; rfl
theorem ix_3 {n : Nat} : ixN (n + 4) 3 = some 3 := by unfold ixN; rw [if_pos (by omega), if_pos (by omega)]; rfl
theorem ix_4 {n : Nat} : ixN (n + 5) 4 = some 4 := by unfold ixN; rw [if_pos (by omega), if_pos (by omega)]; rfl
theorem ix_nat {n k : Nat} (h : k < n) : ixN n ((k : Nat) : Int) = some k := by unfold ixN; rw [if_pos (by omega), if_pos (by omega)]; rfl
def kSx (ds : List Dv) (d : Dv) : Option Nat → Option Ob
  | some j => some (.lst (ds.set j d))
  | none => none
theorem s_ix : gSetIx (.lst ds) (.int i) d = kSx ds d (ixN ds.length i) := by
  unfold gSetIx kSx
  first | rfl | (simp only []; cases ixN ds.length i <;> rfl) | simp only []
theorem kSx_some : kSx ds d (some k) = some (.lst (ds.set k d)) := rfl
theorem s_dct_s (h : kvs.length < 16777216) : gSetIx (.dct kvs) (.str s) d = some (.dct (dput kvs (.inr s) d)) := if_pos h
theorem s_dct_i (h : kvs.length < 16777216) : gSetIx (.dct kvs) (.int i) d = some (.dct (dput kvs (.inl i) d)) := if_pos h
theorem kG1_d {fa fb : ME} : kG1 fa fb ρ (.ok (.v (.dct kvs)) m) = kG2 fb ρ (.v (.dct kvs)) (fa ρ m) := kG1_ok rfl
theorem kG1_dT {fa fb : ME} {kts : List (List Key × Dv)} : kG1 fa fb ρ (.ok (.v (.dcT kts)) m) = kG2 fb ρ (.v (.dcT kts)) (fa ρ m) := kG1_ok rfl
theorem isd : isDct ρ m (.v (.dct kvs)) = true := rfl
theorem dl_s : dlook ρ m (.v (.dct kvs)) (.v (.str s)) = some (dget kvs (.inr s)) := rfl
theorem dl_i : dlook ρ m (.v (.dct kvs)) (.v (.int i)) = some (dget kvs (.inl i)) := rfl
/-! ### in -/
def kIn (neg : Bool) (m : Mm) : Option Bool → Rs Ar
  | some k => .ok (.v (.bl (if neg = true then !k else k))) m
  | none => .no
theorem g_in {neg : Bool} : gIn neg ρ m x y = kIn neg m (inOf ρ m x y) := by unfold gIn kIn; cases inOf ρ m x y <;> rfl
theorem kIn_f : kIn false m (some p) = .ok (.v (.bl p)) m := rfl
theorem kIn_t : kIn true m (some p) = .ok (.v (.bl (!p))) m := rfl
theorem vOfs_str : ∀ xs : List Str, vOfs (xs.map .str) = some (xs.map V.str)
  | [] => rfl
  | x :: xs => by simp only [List.map_cons, vOfs, vOf, vOfs_str xs]
theorem vOfs_int : ∀ xs : List Int, vOfs (xs.map .int) = some (xs.map V.int)
  | [] => rfl
  | x :: xs => by simp only [List.map_cons, vOfs, vOf, vOfs_int xs]
theorem inV_str : ∀ xs : List Str, inV (.str s) (xs.map V.str) = xs.any (· == s)
  | [] => rfl
  | x :: xs => by
    have ih := inV_str xs
    unfold inV at ih ⊢
    rw [List.map_cons, List.any_cons, List.any_cons, ih]; rfl
theorem inV_int : ∀ xs : List Int, inV (.int i) (xs.map V.int) = xs.any (· == i)
  | [] => rfl
  | x :: xs => by
    have ih := inV_int xs
    unfold inV at ih ⊢
    rw [List.map_cons, List.any_cons, List.any_cons, ih]; rfl
theorem flat_str (xs : List Str) : (xs.map V.str).all flatV = true := by simp [flatV]
theorem flat_int (xs : List Int) : (xs.map V.int).all flatV = true := by simp [flatV]
theorem in_str_l {xs : List Str} : inOf ρ m (.v (.str s)) (.v (.lst (xs.map .str))) = some (xs.any (· == s)) := by
  show (match some (V.str s), (some (xs.map Dv.str)).bind vOfs with | some v, some vs => _ | _, _ => _) = _
  simp only [Option.bind_some, vOfs_str, flat_str, flatV, and_self, if_true, inV_str]
theorem in_str_t {xs : List Str} : inOf ρ m (.v (.str s)) (.v (.tup (xs.map .str))) = some (xs.any (· == s)) := by
  show (match some (V.str s), (some (xs.map Dv.str)).bind vOfs with | some v, some vs => _ | _, _ => _) = _
  simp only [Option.bind_some, vOfs_str, flat_str, flatV, and_self, if_true, inV_str]
theorem in_str_k {xs : List Str} : inOf ρ m (.v (.str s)) (.v (.ktp (xs.map .str))) = some (xs.any (· == s)) := by
  show (match some (V.str s), (some (xs.map Dv.str)).bind vOfs with | some v, some vs => _ | _, _ => _) = _
  simp only [Option.bind_some, vOfs_str, flat_str, flatV, and_self, if_true, inV_str]
theorem in_int_l {xs : List Int} : inOf ρ m (.v (.int i)) (.v (.lst (xs.map .int))) = some (xs.any (· == i)) := by
  show (match some (V.int i), (some (xs.map Dv.int)).bind vOfs with | some v, some vs => _ | _, _ => _) = _
  simp only [Option.bind_some, vOfs_int, flat_int, flatV, and_self, if_true, inV_int]
theorem in_dct_s : inOf ρ m (.v (.str s)) (.v (.dct kvs)) = some (dget kvs (.inr s)).isSome := rfl
theorem in_dct_i : inOf ρ m (.v (.int i)) (.v (.dct kvs)) = some (dget kvs (.inl i)).isSome := rfl
def kIP (P : PyData) : Option (List Dv) → Option Bool
  | some ds => match toPys ds with
    | some ps => if SeqAt.shaped P = true ∧ SeqAt.shaped (.list ps) = true then some (ps.any fun z => PyData.eqv z P) else none
    | none => none
  | none => none
theorem in_tup_b {P : PyData} (h : toPy (.tup ds) = some P) (hs : ρ[k]? = some (.own (.lst es))) : inOf ρ m (.v (.tup ds)) (.b k) = kIP P (kOL ρ[k]?) := by
  unfold inOf
  have h0 : dlook ρ m (.b k) (.v (.tup ds)) = none := by
    unfold dlook dctOf dcTOf keyOf
    simp only [hs]
  have h1 : pyOf ρ m (.v (.tup ds)) = some P := h
  rw [h0]
  simp only [aV, vOf, h1, lo_b, hs, kOL_some, Option.bind_some, kIP]
  cases toPys es <;> rfl
/-! ### slices -/
theorem g_sl_l {lo hi : Option Int} (h : ds.length ≤ 16777216) : gSl ρ m (.v (.lst ds)) lo hi = .ok (.v (.lst (cutD ds lo hi))) m := by
  unfold gSl; rw [lo_lst]; exact if_pos h
theorem g_sl_t {lo hi : Option Int} : gSl ρ m (.v (.tup ds)) lo hi = .ok (.v (.tup (cutD ds lo hi))) m := rfl
theorem g_sl_scr {ns : List Int} {lo hi : Option Int} (h : ns.length ≤ 16777216) : gSl ρ m (.v (.scr ns)) lo hi = .ok (.v (.lst (cutD (ns.map .int) lo hi))) m := if_pos h
def kSb (m : Mm) (lo hi : Option Int) : Option (List Dv) → Rs Ar
  | some ds => if ds.length ≤ sizeLine then .ok (.v (.lst (cutD ds lo hi))) m else .no
  | none => .no
theorem g_sl_b {lo hi : Option Int} : gSl ρ m (.b k) lo hi = kSb m lo hi (kOL ρ[k]?) := by
  unfold gSl kSb
  first | (rw [lo_b]; done) | (rw [lo_b]; cases kOL ρ[k]? <;> rfl)
theorem kSb_some {lo hi : Option Int} (h : ds.length ≤ 16777216) : kSb m lo hi (some ds) = .ok (.v (.lst (cutD ds lo hi))) m := if_pos h
theorem cut_take : cutD ds none (some ((k : Nat) : Int)) = ds.take k := by
  unfold cutD; rw [HT.sIx_none, HT.sIx_nat, List.drop_zero, Nat.sub_zero]
  by_cases h : k ≤ ds.length
  · rw [Nat.min_eq_left h]
  · rw [Nat.min_eq_right (by omega), List.take_length, List.take_of_length_le (by omega)]
theorem cut_drop : cutD ds (some ((k : Nat) : Int)) none = ds.drop k := by
  unfold cutD; rw [HT.sIx_none, HT.sIx_nat]
  by_cases h : k ≤ ds.length
  · rw [Nat.min_eq_left h, List.take_of_length_le (by simp)]
  · rw [Nat.min_eq_right (by omega), Nat.sub_self, List.take_zero, List.drop_eq_nil_of_le (by omega)]
/-! ### list, tuple, int, str, sum, all, any -/
theorem g_list_l : gList ρ m (.v (.lst ds)) = .ok (.lst ds) m := rfl
theorem g_list_t : gList ρ m (.v (.tup ds)) = .ok (.lst ds) m := rfl
theorem g_list_k : gList ρ m (.v (.ktp ds)) = .ok (.lst ds) m := rfl
theorem g_list_s {ns : List Int} : gList ρ m (.v (.scr ns)) = .ok (.lst (ns.map .int)) m := rfl
def kGl (m : Mm) : Option (List Dv) → Rs Ob
  | some ds => .ok (.lst ds) m
  | none => .no
theorem g_list_b : gList ρ m (.b k) = kGl m (kOL ρ[k]?) := by unfold gList allOf; simp only []; rw [so_b]; cases kOL ρ[k]? <;> rfl
theorem kGl_some : kGl m (some ds) = .ok (.lst ds) m := rfl
theorem g_tup_l (h : ds.length ≤ 16777216) : gTuple ρ m (.v (.lst ds)) = .ok (.v (.tup ds)) m := by unfold gTuple; rw [lo_lst]; exact if_pos h
theorem g_tup_t : gTuple ρ m (.v (.tup ds)) = .ok (.v (.tup ds)) m := rfl
theorem g_int1 : gInt1 ρ m (.v (.int i)) = .ok (.v (.int i)) m := rfl
theorem g_str1 (h : i.natAbs.log2 < 1920) : gStr1 ρ m (.v (.int i)) = .ok (.v (.str (toString i))) m := if_pos h
theorem blsD_map {α : Type} {q : α → Bool} : ∀ xs : List α, blsD (xs.map fun z => .bl (q z)) = some (xs.map q)
  | [] => rfl
  | x :: xs => by simp [blsD, blsD_map xs]
theorem intsD_mp {α : Type} {q : α → Int} : ∀ xs : List α, intsD (xs.map fun z => .int (q z)) = some (xs.map q)
  | [] => rfl
  | x :: xs => by simp [intsD, intsD_mp xs]
theorem strsD_mp {α : Type} {q : α → Str} : ∀ xs : List α, strsD (xs.map fun z => .str (q z)) = some (xs.map q)
  | [] => rfl
  | x :: xs => by simp [strsD, strsD_mp xs]
theorem g_all {α : Type} {q : α → Bool} {xs : List α} : gAll ρ m (.v (.lst (xs.map fun z => .bl (q z)))) = .ok (.v (.bl (xs.all q))) m := by
  unfold gAll gOnL; rw [lo_lst, Option.bind_some, blsD_map]; simp only [List.all_map]; rfl
theorem g_any {α : Type} {q : α → Bool} {xs : List α} : gAny ρ m (.v (.lst (xs.map fun z => .bl (q z)))) = .ok (.v (.bl (xs.any q))) m := by
  unfold gAny gOnL; rw [lo_lst, Option.bind_some, blsD_map]; simp only [List.any_map]; rfl
theorem g_sum {α : Type} {q : α → Int} {xs : List α} : gSum ρ m (.v (.lst (xs.map fun z => .int (q z)))) = .ok (.v (.int (xs.map q).sum)) m := by
  unfold gSum gOnL; rw [lo_lst, Option.bind_some, intsD_mp]
theorem g_join_l {α : Type} {q : α → Str} {xs : List α} (h : ((xs.map q).map (·.length)).sum + (xs.map q).length * s.length ≤ 16777216) : gJoin s ρ m (.v (.lst (xs.map fun z => .str (q z)))) = .ok (.v (.str (Txt.join s (xs.map q)))) m := by
  unfold gJoin; rw [so_lst, Option.bind_some, strsD_mp]; exact if_pos h
/-! ### isinstance -/
theorem isi_lst_list : gIsi ρ m [(.lst ds), .ty "list"] = .ok (.v (.bl true)) m := by simp [gIsi, tyD, okT, isT]
theorem isi_lst_tuple : gIsi ρ m [(.lst ds), .ty "tuple"] = .ok (.v (.bl false)) m := by simp [gIsi, tyD, okT, isT]
theorem isi_lst_bool : gIsi ρ m [(.lst ds), .ty "bool"] = .ok (.v (.bl false)) m := by simp [gIsi, tyD, okT, isT]
theorem isi_lst_int : gIsi ρ m [(.lst ds), .ty "int"] = .ok (.v (.bl false)) m := by simp [gIsi, tyD, okT, isT]
theorem isi_lst_str : gIsi ρ m [(.lst ds), .ty "str"] = .ok (.v (.bl false)) m := by simp [gIsi, tyD, okT, isT]
theorem isi_lst_dict : gIsi ρ m [(.lst ds), .ty "dict"] = .ok (.v (.bl false)) m := by simp [gIsi, tyD, okT, isT]
theorem isi_lst_lt : gIsi ρ m [(.lst ds), .tup [.ty "list", .ty "tuple"]] = .ok (.v (.bl true)) m := by simp [gIsi, tyD, tysD, okT, isT]
theorem isi_tup_list : gIsi ρ m [(.tup ds), .ty "list"] = .ok (.v (.bl false)) m := by simp [gIsi, tyD, okT, isT]
theorem isi_tup_tuple : gIsi ρ m [(.tup ds), .ty "tuple"] = .ok (.v (.bl true)) m := by simp [gIsi, tyD, okT, isT]
theorem isi_tup_bool : gIsi ρ m [(.tup ds), .ty "bool"] = .ok (.v (.bl false)) m := by simp [gIsi, tyD, okT, isT]
theorem isi_tup_int : gIsi ρ m [(.tup ds), .ty "int"] = .ok (.v (.bl false)) m := by simp [gIsi, tyD, okT, isT]
theorem isi_tup_str : gIsi ρ m [(.tup ds), .ty "str"] = .ok (.v (.bl false)) m := by simp [gIsi, tyD, okT, isT]
theorem isi_tup_dict : gIsi ρ m [(.tup ds), .ty "dict"] = .ok (.v (.bl false)) m := by simp [gIsi, tyD, okT, isT]
theorem isi_tup_lt : gIsi ρ m [(.tup ds), .tup [.ty "list", .ty "tuple"]] = .ok (.v (.bl true)) m := by simp [gIsi, tyD, tysD, okT, isT]
theorem isi_ktp_list : gIsi ρ m [(.ktp ds), .ty "list"] = .ok (.v (.bl false)) m := by simp [gIsi, tyD, okT, isT]
theorem isi_ktp_tuple : gIsi ρ m [(.ktp ds), .ty "tuple"] = .ok (.v (.bl true)) m := by simp [gIsi, tyD, okT, isT]
theorem isi_ktp_bool : gIsi ρ m [(.ktp ds), .ty "bool"] = .ok (.v (.bl false)) m := by simp [gIsi, tyD, okT, isT]
theorem isi_ktp_int : gIsi ρ m [(.ktp ds), .ty "int"] = .ok (.v (.bl false)) m := by simp [gIsi, tyD, okT, isT]
theorem isi_ktp_str : gIsi ρ m [(.ktp ds), .ty "str"] = .ok (.v (.bl false)) m := by simp [gIsi, tyD, okT, isT]
theorem isi_ktp_dict : gIsi ρ m [(.ktp ds), .ty "dict"] = .ok (.v (.bl false)) m := by simp [gIsi, tyD, okT, isT]
theorem isi_ktp_lt : gIsi ρ m [(.ktp ds), .tup [.ty "list", .ty "tuple"]] = .ok (.v (.bl true)) m := by simp [gIsi, tyD, tysD, okT, isT]
theorem isi_bl_list : gIsi ρ m [(.bl p), .ty "list"] = .ok (.v (.bl false)) m := by simp [gIsi, tyD, okT, isT]
theorem isi_bl_tuple : gIsi ρ m [(.bl p), .ty "tuple"] = .ok (.v (.bl false)) m := by simp [gIsi, tyD, okT, isT]
theorem isi_bl_bool : gIsi ρ m [(.bl p), .ty "bool"] = .ok (.v (.bl true)) m := by simp [gIsi, tyD, okT, isT]
theorem isi_bl_int : gIsi ρ m [(.bl p), .ty "int"] = .ok (.v (.bl true)) m := by simp [gIsi, tyD, okT, isT]
theorem isi_bl_str : gIsi ρ m [(.bl p), .ty "str"] = .ok (.v (.bl false)) m := by simp [gIsi, tyD, okT, isT]
theorem isi_bl_dict : gIsi ρ m [(.bl p), .ty "dict"] = .ok (.v (.bl false)) m := by simp [gIsi, tyD, okT, isT]
theorem isi_bl_lt : gIsi ρ m [(.bl p), .tup [.ty "list", .ty "tuple"]] = .ok (.v (.bl false)) m := by simp [gIsi, tyD, tysD, okT, isT]
theorem isi_int_list : gIsi ρ m [(.int i), .ty "list"] = .ok (.v (.bl false)) m := by simp [gIsi, tyD, okT, isT]
theorem isi_int_tuple : gIsi ρ m [(.int i), .ty "tuple"] = .ok (.v (.bl false)) m := by simp [gIsi, tyD, okT, isT]
theorem isi_int_bool : gIsi ρ m [(.int i), .ty "bool"] = .ok (.v (.bl false)) m := by simp [gIsi, tyD, okT, isT]
theorem isi_int_int : gIsi ρ m [(.int i), .ty "int"] = .ok (.v (.bl true)) m := by simp [gIsi, tyD, okT, isT]
theorem isi_int_str : gIsi ρ m [(.int i), .ty "str"] = .ok (.v (.bl false)) m := by simp [gIsi, tyD, okT, isT]
theorem isi_int_dict : gIsi ρ m [(.int i), .ty "dict"] = .ok (.v (.bl false)) m := by simp [gIsi, tyD, okT, isT]
theorem isi_int_lt : gIsi ρ m [(.int i), .tup [.ty "list", .ty "tuple"]] = .ok (.v (.bl false)) m := by simp [gIsi, tyD, tysD, okT, isT]
theorem isi_str_list : gIsi ρ m [(.str s), .ty "list"] = .ok (.v (.bl false)) m := by simp [gIsi, tyD, okT, isT]
theorem isi_str_tuple : gIsi ρ m [(.str s), .ty "tuple"] = .ok (.v (.bl false)) m := by simp [gIsi, tyD, okT, isT]
theorem isi_str_bool : gIsi ρ m [(.str s), .ty "bool"] = .ok (.v (.bl false)) m := by simp [gIsi, tyD, okT, isT]
theorem isi_str_int : gIsi ρ m [(.str s), .ty "int"] = .ok (.v (.bl false)) m := by simp [gIsi, tyD, okT, isT]
theorem isi_str_str : gIsi ρ m [(.str s), .ty "str"] = .ok (.v (.bl true)) m := by simp [gIsi, tyD, okT, isT]
theorem isi_str_dict : gIsi ρ m [(.str s), .ty "dict"] = .ok (.v (.bl false)) m := by simp [gIsi, tyD, okT, isT]
theorem isi_str_lt : gIsi ρ m [(.str s), .tup [.ty "list", .ty "tuple"]] = .ok (.v (.bl false)) m := by simp [gIsi, tyD, tysD, okT, isT]
theorem isi_non_list : gIsi ρ m [.non, .ty "list"] = .ok (.v (.bl false)) m := by simp [gIsi, tyD, okT, isT]
theorem isi_non_tuple : gIsi ρ m [.non, .ty "tuple"] = .ok (.v (.bl false)) m := by simp [gIsi, tyD, okT, isT]
theorem isi_non_bool : gIsi ρ m [.non, .ty "bool"] = .ok (.v (.bl false)) m := by simp [gIsi, tyD, okT, isT]
theorem isi_non_int : gIsi ρ m [.non, .ty "int"] = .ok (.v (.bl false)) m := by simp [gIsi, tyD, okT, isT]
theorem isi_non_str : gIsi ρ m [.non, .ty "str"] = .ok (.v (.bl false)) m := by simp [gIsi, tyD, okT, isT]
theorem isi_non_dict : gIsi ρ m [.non, .ty "dict"] = .ok (.v (.bl false)) m := by simp [gIsi, tyD, okT, isT]
theorem isi_non_lt : gIsi ρ m [.non, .tup [.ty "list", .ty "tuple"]] = .ok (.v (.bl false)) m := by simp [gIsi, tyD, tysD, okT, isT]
theorem isi_dct_list : gIsi ρ m [(.dct kvs), .ty "list"] = .ok (.v (.bl false)) m := by simp [gIsi, tyD, okT, isT]
theorem isi_dct_tuple : gIsi ρ m [(.dct kvs), .ty "tuple"] = .ok (.v (.bl false)) m := by simp [gIsi, tyD, okT, isT]
theorem isi_dct_bool : gIsi ρ m [(.dct kvs), .ty "bool"] = .ok (.v (.bl false)) m := by simp [gIsi, tyD, okT, isT]
theorem isi_dct_int : gIsi ρ m [(.dct kvs), .ty "int"] = .ok (.v (.bl false)) m := by simp [gIsi, tyD, okT, isT]
theorem isi_dct_str : gIsi ρ m [(.dct kvs), .ty "str"] = .ok (.v (.bl false)) m := by simp [gIsi, tyD, okT, isT]
theorem isi_dct_dict : gIsi ρ m [(.dct kvs), .ty "dict"] = .ok (.v (.bl true)) m := by simp [gIsi, tyD, okT, isT]
theorem isi_dct_lt : gIsi ρ m [(.dct kvs), .tup [.ty "list", .ty "tuple"]] = .ok (.v (.bl false)) m := by simp [gIsi, tyD, tysD, okT, isT]
end
end M3

set_option Elab.async false
set_option linter.all false
set_option autoImplicit false
set_option maxRecDepth 100000
set_option maxHeartbeats 2000000
/-! M4c: the rules of stars, match, own results. -/
namespace M3
open PySem L2
section
variable {ρ : Sl} {m : Mm} {f : ME} {fs : MA} {x : Ar} {d : Dv} {ds es : List Dv} {c : MCase} {cs : List MCase} {z y : Str} {i : Int} {n k : Nat} {ps : List PItem} {bs : List (Nat × Dv)} {o : Ob} {b : MS} {t : MB} {lo hi : Option Int}
def kSt3 (ds : List Dv) (r : Rs (List Dv)) : Rs (List Dv) := r.bind fun es m2 => .ok (ds ++ es) m2
def kSt2 (fs : MA) (ρ : Sl) (m : Mm) : Option (List Dv) → Rs (List Dv)
  | some ds => kSt3 ds (fs ρ m)
  | none => .no
def kSt1 (fs : MA) (ρ : Sl) (r : Rs Ar) : Rs (List Dv) := r.bind fun x m1 => match x with
  | .v d => kSt2 fs ρ m1 (seqOf ρ m1 (.v d))
  | .b _ => .no
theorem e_star : mStar f fs ρ m = kSt1 fs ρ (f ρ m) := by
  unfold mStar kSt1 kSt2
  rfl
theorem kSt1_v : kSt1 fs ρ (.ok (.v d) m) = kSt2 fs ρ m (seqOf ρ m (.v d)) := rfl
theorem kSt2_some : kSt2 fs ρ m (some ds) = kSt3 ds (fs ρ m) := rfl
theorem kSt3_ok : kSt3 ds (.ok es m) = .ok (ds ++ es) m := rfl
/-! match -/
def kMa (cs : List MCase) (ρ : Sl) (r : Rs Ar) : RS := r.st ρ fun x m1 => match x with
  | .v d => mCases cs d ρ m1
  | .b _ => .no
theorem e_match : mMatch f cs ρ m = kMa cs ρ (f ρ m) := rfl
theorem kMa_v : kMa cs ρ (.ok (.v d) m) = mCases cs d ρ m := rfl
theorem e_casesN : mCases [] d ρ m = .nx ρ m := rfl
def kMg (b : MS) (cs : List MCase) (d : Dv) (ρ : Sl) (r : Rs Bool) : RS := r.st ρ fun k m2 => if k = true then b ρ m2 else mCases cs d ρ m2
def kMh (g : Option MB) (b : MS) (cs : List MCase) (d : Dv) (ρ : Sl) (m : Mm) : RS := match g with
  | none => b ρ m
  | some t => kMg b cs d ρ (t ρ m)
def kMf (g : Option MB) (b : MS) (cs : List MCase) (d : Dv) (ρ : Sl) (m : Mm) : Option (Option (List (Nat × Dv))) → RS
  | none => .no
  | some none => mCases cs d ρ m
  | some (some bs) => kMh g b cs d (bindD bs ρ) m
def kMe (ps : List PItem) (g : Option MB) (b : MS) (cs : List MCase) (d : Dv) (ρ : Sl) (m : Mm) : Option (List Dv) → RS
  | none => .no
  | some ds => if ds.length = ps.length then kMf g b cs d ρ m (eachD ps ds) else mCases cs d ρ m
theorem e_casesC {g : Option MB} : mCases (⟨ps, g, b⟩ :: cs) d ρ m = kMe ps g b cs d ρ m (seqOf ρ m (.v d)) := by
  show (match seqOf ρ m (.v d) with | none => _ | some ds => _) = _
  cases seqOf ρ m (.v d) with
  | none => rfl
  | some ds =>
    simp only [kMe]
    by_cases h : ds.length = ps.length
    · rw [if_pos h, if_pos h]
      cases eachD ps ds with
      | none => rfl
      | some r =>
        cases r with
        | none => rfl
        | some bs =>
          unfold kMf kMh
          cases g <;> rfl
    · rw [if_neg h, if_neg h]
theorem kMe_ne {g : Option MB} (h : ds.length ≠ ps.length) : kMe ps g b cs d ρ m (some ds) = mCases cs d ρ m := if_neg h
theorem kMe_eq {g : Option MB} (h : ds.length = ps.length) : kMe ps g b cs d ρ m (some ds) = kMf g b cs d ρ m (eachD ps ds) := if_pos h
theorem kMf_n {g : Option MB} : kMf g b cs d ρ m (some none) = mCases cs d ρ m := rfl
theorem kMf_s {g : Option MB} : kMf g b cs d ρ m (some (some bs)) = kMh g b cs d (bindD bs ρ) m := rfl
theorem kMh_n : kMh none b cs d ρ m = b ρ m := rfl
theorem kMh_s : kMh (some t) b cs d ρ m = kMg b cs d ρ (t ρ m) := rfl
theorem kMg_t : kMg b cs d ρ (.ok true m) = b ρ m := rfl
theorem kMg_f : kMg b cs d ρ (.ok false m) = mCases cs d ρ m := rfl
theorem ea_nil : eachD [] [] = some (some []) := rfl
theorem ea_lit_eq : eachD (.lit z :: ps) (.str z :: ds) = eachD ps ds := if_pos rfl
theorem ea_lit_ne (h : (y == z) = false) : eachD (.lit z :: ps) (.str y :: ds) = some none := if_neg (by simpa using h)
theorem ea_lit_int : eachD (.lit z :: ps) (.int i :: ds) = some none := rfl
def kEc (i : Nat) (d : Dv) : Option (Option (List (Nat × Dv))) → Option (Option (List (Nat × Dv)))
  | some (some bs) => some (some ((i, d) :: bs))
  | r => r
theorem ea_cap : eachD (.cap n :: ps) (d :: ds) = kEc n d (eachD ps ds) := rfl
theorem kEc_s : kEc n d (some (some bs)) = some (some ((n, d) :: bs)) := rfl
theorem kEc_n : kEc n d (some none) = some none := rfl
theorem bd_nil : bindD [] ρ = ρ := rfl
theorem bd_cons : bindD ((n, d) :: bs) ρ = bindD bs (ρ.set n (.val d)) := rfl
/-! own results -/
theorem e_own : mOwnE f ρ m = ownEnd m.length (f ρ m) := rfl
theorem own_ok (h : memLow m.length m = true) (h2 : lowO m.length o = true) : ownEnd m.length (.ok (.v (.loc m.length)) (m ++ [some o])) = .ok o m := by
  show (if m.length = m.length ∧ (m ++ [some o]).length = m.length + 1 then ownE2 m.length (m ++ [some o]) (m ++ [some o])[m.length]? else .no) = _
  rw [if_pos ⟨rfl, by simp⟩, List.getElem?_append_right (Nat.le_refl _)]
  simp only [Nat.sub_self, List.getElem?_cons_zero]
  show (if memLow m.length ((m ++ [some o]).take m.length) = true ∧ lowO m.length o = true then Rs.ok o ((m ++ [some o]).take m.length) else .no) = _
  rw [List.take_left' rfl, if_pos ⟨h, h2⟩]
def kSn (m : Mm) (lo hi : Option Int) : Option (List Dv) → Rs Ob
  | some ds => .ok (.lst (cutD ds lo hi)) m
  | none => .no
def kSn3 (ρ : Sl) (x : Ar) (lo : Option Int) (r : Rs (Option Int)) : Rs Ob := r.bind fun hi m3 => kSn m3 lo hi (lstOf ρ m3 x)
def kSn2 (fh : MO) (ρ : Sl) (x : Ar) (r : Rs (Option Int)) : Rs Ob := r.bind fun lo m2 => kSn3 ρ x lo (fh ρ m2)
def kSn1 (fl fh : MO) (ρ : Sl) (r : Rs Ar) : Rs Ob := r.bind fun x m1 => kSn2 fh ρ x (fl ρ m1)
theorem e_slN {fl fh : MO} : mSlN f fl fh ρ m = kSn1 fl fh ρ (f ρ m) := by
  unfold mSlN kSn1 kSn2 kSn3 gSlN kSn
  rfl
theorem kSn1_ok {fl fh : MO} : kSn1 fl fh ρ (.ok x m) = kSn2 fh ρ x (fl ρ m) := rfl
theorem kSn2_ok {fh : MO} : kSn2 fh ρ x (.ok lo m) = kSn3 ρ x lo (fh ρ m) := rfl
theorem kSn3_ok : kSn3 ρ x lo (.ok hi m) = kSn m lo hi (lstOf ρ m x) := rfl
theorem kSn_some : kSn m lo hi (some ds) = .ok (.lst (cutD ds lo hi)) m := rfl
/-! zip, [::-1] -/
def kZi (r : Rs (List Dv)) : Rs (List Dv) := r.bind fun ds m1 => match ds with
  | [.lst xs, .lst ys] => if xs.length ≤ sizeLine then .ok (zipD xs ys) m1 else .no
  | _ => .no
theorem e_zip : mZipL fs ρ m = kZi (fs ρ m) := rfl
theorem kZi_ok (h : ds.length ≤ 16777216) : kZi (.ok [.lst ds, .lst es] m) = .ok (zipD ds es) m := if_pos h
def kRv (m : Mm) : Option (List Dv) → Rs Ob
  | some ds => .ok (.lst ds.reverse) m
  | none => .no
def kRv1 (ρ : Sl) (r : Rs Ar) : Rs Ob := r.bind fun x m1 => kRv m1 (lstOf ρ m1 x)
theorem e_rev : mRevN f ρ m = kRv1 ρ (f ρ m) := by unfold mRevN kRv1 kRv; rfl
theorem kRv1_ok : kRv1 ρ (.ok x m) = kRv m (lstOf ρ m x) := rfl
theorem kRv_some : kRv m (some ds) = .ok (.lst ds.reverse) m := rfl
/-! written dicts -/
def kKd (neg : List Str) (m : Mm) (z : Str) : Option Dv → Rs Ar
  | some _ => .ok (.v (.bl true)) m
  | none => if neg.contains z = true then .ok (.v (.bl false)) m else .no
theorem g_inKd {nm : Str} {kvs : List (Str × Dv)} {neg : List Str} : gInKd nm kvs neg ρ m (.v (.str z)) (.v (.glb nm)) = kKd neg m z (kvs.lookup z) := by
  unfold gInKd kKd
  simp only [if_true]
  all_goals first | rfl | (cases kvs.lookup z <;> rfl)
theorem kKd_s {neg : List Str} : kKd neg m z (some d) = .ok (.v (.bl true)) m := rfl
theorem g_ixKd {nm : Str} {kvs : List (Str × Dv)} : gIxKd nm kvs ρ m (.v (.glb nm)) (.v (.str z)) = kIx m (kvs.lookup z) := by
  unfold gIxKd kIx
  simp only [if_true]
  all_goals first | rfl | (cases kvs.lookup z <;> rfl)
end
section
variable {ρ : Sl} {m : Mm} {i j l : Nat} {p : MC} {d1 d2 d3 : Dv} {o1 : Ob}
def kPa3 (i j l : Nat) (ρ : Sl) (r : Rs (List Cell)) : RS := r.st ρ fun ys m1 => match ys with
  | [x, y, z] => if isUn x = false ∧ isUn y = false ∧ isUn z = false then .nx (((ρ.set i x).set j y).set l z) m1 else .no
  | _ => .no
theorem e_par3 : mPar3 i j l p ρ m = kPa3 i j l ρ (p ρ m) := rfl
theorem kPa3_vvv : kPa3 i j l ρ (.ok [.val d1, .val d2, .val d3] m) = .nx (((ρ.set i (.val d1)).set j (.val d2)).set l (.val d3)) m := rfl
theorem kPa3_ovv : kPa3 i j l ρ (.ok [.own o1, .val d2, .val d3] m) = .nx (((ρ.set i (.own o1)).set j (.val d2)).set l (.val d3)) m := rfl
end
section
variable {ρ : Sl} {m : Mm} {t a b : MB} {k : Bool}
def kIfB (a b : MB) (ρ : Sl) (r : Rs Bool) : Rs Bool := r.bind fun k m1 => if k = true then a ρ m1 else b ρ m1
theorem e_ifB : mIfB t a b ρ m = kIfB a b ρ (t ρ m) := rfl
theorem kIfB_t : kIfB a b ρ (.ok true m) = a ρ m := rfl
theorem kIfB_f : kIfB a b ρ (.ok false m) = b ρ m := rfl
theorem kIfB_any (h : a ρ m = b ρ m) : kIfB a b ρ (.ok k m) = a ρ m := by cases k <;> first | rfl | exact h.symm
end
theorem g_str2i {ρ : Sl} {m : Mm} {i : Int} (h : i.natAbs.log2 < 1920) : gStr2 ρ m (.v (.int i)) = .ok (.v (.str (toString i))) m := if_pos h
theorem g_str2s {ρ : Sl} {m : Mm} {z : Str} : gStr2 ρ m (.v (.str z)) = .ok (.v (.str z)) m := rfl
theorem drop_ok {ρ : Sl} {m : Mm} {o : Ob} {k i : Nat} (hl : m.length = k) (h1 : memLow k m = true) (h2 : lowO k o = true) (h3 : lowS k (ρ.set i .un) = true) : dropR k i (.nx ρ (m ++ [some o])) = .nx (ρ.set i .un) m := by
  subst hl
  have e : (m ++ [some o])[m.length]? = some (some o) := List.getElem?_concat_length
  show dropE m.length i ρ (m ++ [some o]) ((m ++ [some o])[m.length]?) = _
  rw [e]
  have et : (m ++ [some o]).take m.length = m := List.take_left
  have el : (m ++ [some o]).length = m.length + 1 := by simp
  show (if (m ++ [some o]).length = m.length + 1 ∧ memLow m.length ((m ++ [some o]).take m.length) = true ∧ lowO m.length o = true ∧ lowS m.length (ρ.set i .un) = true then RS.nx (ρ.set i .un) ((m ++ [some o]).take m.length) else .no) = _
  rw [et, if_pos ⟨el, h1, h2, h3⟩]
section
variable {ρ : Sl} {m : Mm} {r ds : List Dv} {b : Bool} {i : Int} {z : Str} {kvs : List (Key × Dv)} {k : Nat}
theorem isiM_non {c : Dv} : gIsiM ρ m [(.non), c] = gIsi ρ m [(.non), c] := by cases c <;> rfl
theorem isiM_bl {c : Dv} : gIsiM ρ m [(.bl b), c] = gIsi ρ m [(.bl b), c] := by cases c <;> rfl
theorem isiM_int {c : Dv} : gIsiM ρ m [(.int i), c] = gIsi ρ m [(.int i), c] := by cases c <;> rfl
theorem isiM_str {c : Dv} : gIsiM ρ m [(.str z), c] = gIsi ρ m [(.str z), c] := by cases c <;> rfl
theorem isiM_lst {c : Dv} : gIsiM ρ m [(.lst ds), c] = gIsi ρ m [(.lst ds), c] := by cases c <;> rfl
theorem isiM_tup {c : Dv} : gIsiM ρ m [(.tup ds), c] = gIsi ρ m [(.tup ds), c] := by cases c <;> rfl
theorem isiM_ktp {c : Dv} : gIsiM ρ m [(.ktp ds), c] = gIsi ρ m [(.ktp ds), c] := by cases c <;> rfl
theorem isiM_dct {c : Dv} : gIsiM ρ m [(.dct kvs), c] = gIsi ρ m [(.dct kvs), c] := by cases c <;> rfl
theorem isiM_loc_list (h : m[k]? = some (some (.lst ds))) : gIsiM ρ m [.loc k, .ty "list"] = .ok (.v (.bl true)) m := by
  have e : tyM m (.loc k) = some "list" := by
    show (match lstOf [] m (.v (.loc k)) with | some _ => some "list" | none => (none : Option String)) = _
    rw [lo_loc, h, kML_some]
  unfold gIsiM; simp only [e]; simp [okT, isT]
theorem isiM_loc_tuple (h : m[k]? = some (some (.lst ds))) : gIsiM ρ m [.loc k, .ty "tuple"] = .ok (.v (.bl false)) m := by
  have e : tyM m (.loc k) = some "list" := by
    show (match lstOf [] m (.v (.loc k)) with | some _ => some "list" | none => (none : Option String)) = _
    rw [lo_loc, h, kML_some]
  unfold gIsiM; simp only [e]; simp [okT, isT]
theorem isiM_loc_bool (h : m[k]? = some (some (.lst ds))) : gIsiM ρ m [.loc k, .ty "bool"] = .ok (.v (.bl false)) m := by
  have e : tyM m (.loc k) = some "list" := by
    show (match lstOf [] m (.v (.loc k)) with | some _ => some "list" | none => (none : Option String)) = _
    rw [lo_loc, h, kML_some]
  unfold gIsiM; simp only [e]; simp [okT, isT]
theorem isiM_loc_int (h : m[k]? = some (some (.lst ds))) : gIsiM ρ m [.loc k, .ty "int"] = .ok (.v (.bl false)) m := by
  have e : tyM m (.loc k) = some "list" := by
    show (match lstOf [] m (.v (.loc k)) with | some _ => some "list" | none => (none : Option String)) = _
    rw [lo_loc, h, kML_some]
  unfold gIsiM; simp only [e]; simp [okT, isT]
theorem isiM_loc_str (h : m[k]? = some (some (.lst ds))) : gIsiM ρ m [.loc k, .ty "str"] = .ok (.v (.bl false)) m := by
  have e : tyM m (.loc k) = some "list" := by
    show (match lstOf [] m (.v (.loc k)) with | some _ => some "list" | none => (none : Option String)) = _
    rw [lo_loc, h, kML_some]
  unfold gIsiM; simp only [e]; simp [okT, isT]
end
section
variable {ρ : Sl} {m : Mm} {cn : Str} {F : MF} {ps qs : List (Str × Dv)} {z : Str} {b : Bool} {d : Dv}
theorem g_eqO_i : gEqO cn F ρ m (.v (.ins cn ps)) (.v (.ins cn qs)) = kPr2 (F [.ins cn ps, .ins cn qs] m) := by
  show (if cn = cn ∧ okD cn (.ins cn qs) = true then _ else _) = _
  rw [if_pos ⟨rfl, by simp [okD]⟩]; unfold kPr2; cases F [.ins cn ps, .ins cn qs] m <;> rfl
theorem g_eqO_s : gEqO cn F ρ m (.v (.ins cn ps)) (.v (.str z)) = kPr2 (F [.ins cn ps, .str z] m) := by
  show (if cn = cn ∧ okD cn (.str z) = true then _ else _) = _
  rw [if_pos ⟨rfl, rfl⟩]; unfold kPr2; cases F [.ins cn ps, .str z] m <;> rfl
def kNe2 : Rs Dv → Rs Ar
  | .ok (.bl r) m2 => .ok (.v (.bl (!r))) m2
  | _ => .no
theorem kNe2_ok : kNe2 (.ok (.bl b) m) = .ok (.v (.bl (!b))) m := rfl
theorem g_neO_i : gNeO cn F ρ m (.v (.ins cn ps)) (.v (.ins cn qs)) = kNe2 (F [.ins cn ps, .ins cn qs] m) := by
  show (if cn = cn ∧ okD cn (.ins cn qs) = true then _ else _) = _
  rw [if_pos ⟨rfl, by simp [okD]⟩]; unfold kNe2; split <;> (first | rfl | (rename_i h; split <;> simp_all))
def kRp2 : Rs Dv → Rs Ar
  | .ok (.str r) m2 => .ok (.v (.str r)) m2
  | _ => .no
theorem kRp2_ok : kRp2 (.ok (.str z) m) = .ok (.v (.str z)) m := rfl
theorem g_repr : gRepr cn F ρ m (.v (.ins cn ps)) = kRp2 (F [.ins cn ps] m) := by
  show (if cn = cn then _ else _) = _
  rw [if_pos rfl]; unfold kRp2; split <;> (first | rfl | (rename_i h; split <;> simp_all))
theorem g_isiO_i : gIsiO cn ρ m [.ins cn ps, .glb cn] = .ok (.v (.bl true)) m := if_pos ⟨rfl, rfl⟩
theorem g_isiO_s : gIsiO cn ρ m [.str z, .glb cn] = .ok (.v (.bl false)) m := if_pos rfl
end
end M3

set_option Elab.async false
set_option linter.all false
set_option autoImplicit false
set_option maxRecDepth 100000
set_option maxHeartbeats 4000000
namespace G
open PySem L2 M3
def k_Condition : Dv := .glb "Condition"
def k_JOINS : Dv := .ktp [.str "all", .str "any"]
def k_MOST_AGE : Dv := .int 59
def k_MOST_PARTS : Dv := .int 8
def k_RANGES : Dv := .glb "RANGES"
def kv_RANGES : List (Str × Dv) := [("newest", .ktp [.int 1, .int 20]), ("oldest", .ktp [.int 1, .int 20]), ("first", .ktp [.int 2, .int 7]), ("last", .ktp [.int 2, .int 7]), ("apart", .ktp [.int 2, .int 20])]
/-! ### _law_like: _law_found, _law_due, _law_k -/
def ce1_l_like (mself : MF) : ME := (mCall 2 mself (mCons (mBin gIx (mVar 0) (mVar 2)) (mCons (mBin gIx (mVar 1) (mVar 2)) mNil)))
theorem ce1_l_like_e {mself : MF} {ρ : Sl} {m : Mm} : ce1_l_like mself ρ m = (mCall 2 mself (mCons (mBin gIx (mVar 0) (mVar 2)) (mCons (mBin gIx (mVar 1) (mVar 2)) mNil))) ρ m := rfl
def sx1_l_like (mself : MF) : MS := (mRet (mAndV (mBin gEq (mUn gLen (mVar 0)) (mUn gLen (mVar 1))) (mUn gAll (mFrz (mLc [2] (mRng1 (mCons (mUn gLen (mVar 1)) mNil)) (mGn 2) mYes (ce1_l_like mself))))))
theorem sx1_l_like_e {mself : MF} {ρ : Sl} {m : Mm} : sx1_l_like mself ρ m = (mRet (mAndV (mBin gEq (mUn gLen (mVar 0)) (mUn gLen (mVar 1))) (mUn gAll (mFrz (mLc [2] (mRng1 (mCons (mUn gLen (mVar 1)) mNil)) (mGn 2) mYes (ce1_l_like mself)))))) ρ m := rfl
def sx2_l_like : MS := (mRet (mAndV (mBin gEq (mCB gIsiM (mCons (mVar 0) (mCons (mC (.ty "str")) mNil))) (mCB gIsiM (mCons (mVar 1) (mCons (mC (.ty "str")) mNil)))) (mBin gEq (mVar 0) (mVar 1))))
theorem sx2_l_like_e {ρ : Sl} {m : Mm} : sx2_l_like ρ m = (mRet (mAndV (mBin gEq (mCB gIsiM (mCons (mVar 0) (mCons (mC (.ty "str")) mNil))) (mCB gIsiM (mCons (mVar 1) (mCons (mC (.ty "str")) mNil)))) (mBin gEq (mVar 0) (mVar 1)))) ρ m := rfl
def sx3_l_like : MS := (mSeq (mIfS (mOrB (mIsB (mBin gNe (mCB gIsiM (mCons (mVar 0) (mCons (mC (.ty "bool")) mNil))) (mCB gIsiM (mCons (mVar 1) (mCons (mC (.ty "bool")) mNil))))) (mIsB (mBin gNe (mCB gIsiM (mCons (mVar 0) (mCons (mC (.ty "int")) mNil))) (mCB gIsiM (mCons (mVar 1) (mCons (mC (.ty "int")) mNil)))))) (mRet (mC (.bl false))) mNext) sx2_l_like)
theorem sx3_l_like_e {ρ : Sl} {m : Mm} : sx3_l_like ρ m = (mSeq (mIfS (mOrB (mIsB (mBin gNe (mCB gIsiM (mCons (mVar 0) (mCons (mC (.ty "bool")) mNil))) (mCB gIsiM (mCons (mVar 1) (mCons (mC (.ty "bool")) mNil))))) (mIsB (mBin gNe (mCB gIsiM (mCons (mVar 0) (mCons (mC (.ty "int")) mNil))) (mCB gIsiM (mCons (mVar 1) (mCons (mC (.ty "int")) mNil)))))) (mRet (mC (.bl false))) mNext) sx2_l_like) ρ m := rfl
def sx4_l_like (mself : MF) : MS := (mSeq (mIfS (mTru (mCB gIsiM (mCons (mVar 1) (mCons (mTup (mCons (mC (.ty "list")) (mCons (mC (.ty "tuple")) mNil))) mNil)))) (mSeq (mIfS (mOrB (mIsB (mBin gNe (mCB gIsiM (mCons (mVar 0) (mCons (mC (.ty "list")) mNil))) (mCB gIsiM (mCons (mVar 1) (mCons (mC (.ty "list")) mNil))))) (mIsB (mBin gNe (mCB gIsiM (mCons (mVar 0) (mCons (mC (.ty "tuple")) mNil))) (mCB gIsiM (mCons (mVar 1) (mCons (mC (.ty "tuple")) mNil)))))) (mRet (mC (.bl false))) mNext) (sx1_l_like mself)) mNext) sx3_l_like)
theorem sx4_l_like_e {mself : MF} {ρ : Sl} {m : Mm} : sx4_l_like mself ρ m = (mSeq (mIfS (mTru (mCB gIsiM (mCons (mVar 1) (mCons (mTup (mCons (mC (.ty "list")) (mCons (mC (.ty "tuple")) mNil))) mNil)))) (mSeq (mIfS (mOrB (mIsB (mBin gNe (mCB gIsiM (mCons (mVar 0) (mCons (mC (.ty "list")) mNil))) (mCB gIsiM (mCons (mVar 1) (mCons (mC (.ty "list")) mNil))))) (mIsB (mBin gNe (mCB gIsiM (mCons (mVar 0) (mCons (mC (.ty "tuple")) mNil))) (mCB gIsiM (mCons (mVar 1) (mCons (mC (.ty "tuple")) mNil)))))) (mRet (mC (.bl false))) mNext) (sx1_l_like mself)) mNext) sx3_l_like) ρ m := rfl
def b_l_like (mself : MF) : MS := (mSeq (mIfS (mOrB (mIsB (mBin (gIsN false) (mVar 0) (mC .non))) (mIsB (mBin (gIsN false) (mVar 1) (mC .non)))) (mRet (mAndV (mBin (gIsN false) (mVar 0) (mC .non)) (mBin (gIsN false) (mVar 1) (mC .non)))) mNext) (sx4_l_like mself))
theorem b_l_like_e {mself : MF} {ρ : Sl} {m : Mm} : b_l_like mself ρ m = (mSeq (mIfS (mOrB (mIsB (mBin (gIsN false) (mVar 0) (mC .non))) (mIsB (mBin (gIsN false) (mVar 1) (mC .non)))) (mRet (mAndV (mBin (gIsN false) (mVar 0) (mC .non)) (mBin (gIsN false) (mVar 1) (mC .non)))) mNext) (sx4_l_like mself)) ρ m := rfl
def mf_l_like : Nat → MF
  | 0 => mDef 3 mNoS
  | n + 1 => mDef 3 (b_l_like (mf_l_like n))
def m_l_like : MF := mf_l_like 12
theorem u_l_like {a0 a1 : Dv} {m : Mm} {n : Nat} : mf_l_like (n + 1) [a0, a1] m = (b_l_like (mf_l_like n) [.val a0, .val a1, .un] m).fin := rfl
/-! ### _law_opened: _law_script -/
def b_l_opened : MS := (mRet (mLoc (mLst (mCons (mFrz (mUnN gList (mSl (mVar 0) mO0 (mO1 (mC (.int 63)))))) (mCons (mC (.int 0)) (mCons (mC (.int 0)) (mCons (mC (.int 5794)) (mCons (mC (.int 0)) mNil))))))))
theorem b_l_opened_e {ρ : Sl} {m : Mm} : b_l_opened ρ m = (mRet (mLoc (mLst (mCons (mFrz (mUnN gList (mSl (mVar 0) mO0 (mO1 (mC (.int 63)))))) (mCons (mC (.int 0)) (mCons (mC (.int 0)) (mCons (mC (.int 5794)) (mCons (mC (.int 0)) mNil)))))))) ρ m := rfl
def m_l_opened : MF := mDef 1 b_l_opened
theorem u_l_opened {a0 : Dv} {m : Mm} : m_l_opened [a0] m = (b_l_opened [.val a0] m).fin := rfl
/-! ### _law_inner: _law_tree_here -/
def sx1_l_inner : MS := (mRet (mIf (mIsB (mBin (gIn false) (mBin gIx (mVar 0) (mC (.int 0))) (mTup (mCons (mC (.str "all")) (mCons (mC (.str "any")) mNil))))) (mFrz (mUnN gList (mBin gIx (mVar 0) (mC (.int 1))))) (mFrz (mLst mNil))))
theorem sx1_l_inner_e {ρ : Sl} {m : Mm} : sx1_l_inner ρ m = (mRet (mIf (mIsB (mBin (gIn false) (mBin gIx (mVar 0) (mC (.int 0))) (mTup (mCons (mC (.str "all")) (mCons (mC (.str "any")) mNil))))) (mFrz (mUnN gList (mBin gIx (mVar 0) (mC (.int 1))))) (mFrz (mLst mNil)))) ρ m := rfl
def b_l_inner : MS := (mSeq (mIfS (mIsB (mBin gEq (mBin gIx (mVar 0) (mC (.int 0))) (mC (.str "not")))) (mRet (mFrz (mLst (mCons (mBin gIx (mVar 0) (mC (.int 1))) mNil)))) mNext) sx1_l_inner)
theorem b_l_inner_e {ρ : Sl} {m : Mm} : b_l_inner ρ m = (mSeq (mIfS (mIsB (mBin gEq (mBin gIx (mVar 0) (mC (.int 0))) (mC (.str "not")))) (mRet (mFrz (mLst (mCons (mBin gIx (mVar 0) (mC (.int 1))) mNil)))) mNext) sx1_l_inner) ρ m := rfl
def m_l_inner : MF := mDef 1 b_l_inner
theorem u_l_inner {a0 : Dv} {m : Mm} : m_l_inner [a0] m = (b_l_inner [.val a0] m).fin := rfl
/-! ### _law_parts: _law_tree_here, _law_one -/
def ce1_l_parts (mself : MF) : ME := (mCall 1 mself (mCons (mVar 1) mNil))
theorem ce1_l_parts_e {mself : MF} {ρ : Sl} {m : Mm} : ce1_l_parts mself ρ m = (mCall 1 mself (mCons (mVar 1) mNil)) ρ m := rfl
def b_l_parts (mself : MF) : MS := (mRet (mBin gAdd (mC (.int 1)) (mUn gSum (mFrz (mLc [1] (mItA (mCall 1 m_l_inner (mCons (mVar 0) mNil))) (mGn 1) mYes (ce1_l_parts mself))))))
theorem b_l_parts_e {mself : MF} {ρ : Sl} {m : Mm} : b_l_parts mself ρ m = (mRet (mBin gAdd (mC (.int 1)) (mUn gSum (mFrz (mLc [1] (mItA (mCall 1 m_l_inner (mCons (mVar 0) mNil))) (mGn 1) mYes (ce1_l_parts mself)))))) ρ m := rfl
def mf_l_parts : Nat → MF
  | 0 => mDef 2 mNoS
  | n + 1 => mDef 2 (b_l_parts (mf_l_parts n))
def m_l_parts : MF := mf_l_parts 12
theorem u_l_parts {a0 : Dv} {m : Mm} {n : Nat} : mf_l_parts (n + 1) [a0] m = (b_l_parts (mf_l_parts n) [.val a0, .un] m).fin := rfl
/-! ### _law_shared: _law_one, _law_other, _law_found -/
def wt1_l_shared : MB := (mIsB (mBin gNe (mBin gMod (mUn gInt1 (mVar 2)) (mVar 1)) (mC (.int 0))))
theorem wt1_l_shared_e {ρ : Sl} {m : Mm} : wt1_l_shared ρ m = (mIsB (mBin gNe (mBin gMod (mUn gInt1 (mVar 2)) (mVar 1)) (mC (.int 0)))) ρ m := rfl
def wb1_l_shared : MS := (mAsg (mBin gAdd (mVar 2) (mVar 0)) (mGn 2))
theorem wb1_l_shared_e {ρ : Sl} {m : Mm} : wb1_l_shared ρ m = (mAsg (mBin gAdd (mVar 2) (mVar 0)) (mGn 2)) ρ m := rfl
def sx1_l_shared : MS := (mRet (mVar 2))
theorem sx1_l_shared_e {ρ : Sl} {m : Mm} : sx1_l_shared ρ m = (mRet (mVar 2)) ρ m := rfl
def sx2_l_shared : MS := (mSeq (whileN wt1_l_shared wb1_l_shared 1000000) sx1_l_shared)
theorem sx2_l_shared_e {ρ : Sl} {m : Mm} : sx2_l_shared ρ m = (mSeq (whileN wt1_l_shared wb1_l_shared 1000000) sx1_l_shared) ρ m := rfl
def b_l_shared : MS := (mSeq (mAsg (mVar 0) (mGn 2)) sx2_l_shared)
theorem b_l_shared_e {ρ : Sl} {m : Mm} : b_l_shared ρ m = (mSeq (mAsg (mVar 0) (mGn 2)) sx2_l_shared) ρ m := rfl
def m_l_shared : MF := mDef 3 b_l_shared
theorem u_l_shared {a0 a1 : Dv} {m : Mm} : m_l_shared [a0, a1] m = (b_l_shared [.val a0, .val a1, .un] m).fin := rfl
/-! ### _law_period: _law_tree_here, _law_found, _law_one -/
def lp1_l_period (mself : MF) : MS := (mAsg (mCall 2 m_l_shared (mCons (mVar 1) (mCons (mCall 1 mself (mCons (mVar 2) mNil)) mNil))) (mGn 1))
theorem lp1_l_period_e {mself : MF} {ρ : Sl} {m : Mm} : lp1_l_period mself ρ m = (mAsg (mCall 2 m_l_shared (mCons (mVar 1) (mCons (mCall 1 mself (mCons (mVar 2) mNil)) mNil))) (mGn 1)) ρ m := rfl
def sx1_l_period : MS := (mRet (mVar 1))
theorem sx1_l_period_e {ρ : Sl} {m : Mm} : sx1_l_period ρ m = (mRet (mVar 1)) ρ m := rfl
def sx2_l_period (mself : MF) : MS := (mSeq (mFor (mItA (mCall 1 m_l_inner (mCons (mVar 0) mNil))) (mGn 2) (lp1_l_period mself)) sx1_l_period)
theorem sx2_l_period_e {mself : MF} {ρ : Sl} {m : Mm} : sx2_l_period mself ρ m = (mSeq (mFor (mItA (mCall 1 m_l_inner (mCons (mVar 0) mNil))) (mGn 2) (lp1_l_period mself)) sx1_l_period) ρ m := rfl
def b_l_period (mself : MF) : MS := (mSeq (mAsg (mIf (mIsB (mBin (gIn false) (mBin gIx (mVar 0) (mC (.int 0))) (mTup (mCons (mC (.str "day")) (mCons (mC (.str "first")) (mCons (mC (.str "last")) mNil)))))) (mBin gIx (mVar 0) (mC (.int 1))) (mC (.int 1))) (mGn 1)) (sx2_l_period mself))
theorem b_l_period_e {mself : MF} {ρ : Sl} {m : Mm} : b_l_period mself ρ m = (mSeq (mAsg (mIf (mIsB (mBin (gIn false) (mBin gIx (mVar 0) (mC (.int 0))) (mTup (mCons (mC (.str "day")) (mCons (mC (.str "first")) (mCons (mC (.str "last")) mNil)))))) (mBin gIx (mVar 0) (mC (.int 1))) (mC (.int 1))) (mGn 1)) (sx2_l_period mself)) ρ m := rfl
def mf_l_period : Nat → MF
  | 0 => mDef 3 mNoS
  | n + 1 => mDef 3 (b_l_period (mf_l_period n))
def m_l_period : MF := mf_l_period 12
theorem u_l_period {a0 : Dv} {m : Mm} {n : Nat} : mf_l_period (n + 1) [a0] m = (b_l_period (mf_l_period n) [.val a0, .un, .un] m).fin := rfl
/-! ### _law_pull: _law_bag, _law_many, _law_cell, _law_digit, _law_seed -/
def sx1_l_pull : MS := (mIfS (mIsB (mBin gGe (mVar 2) (mBin gPow (mC (.int 10)) (mC (.int 18))))) (mSetIx (mVar 2) (mVar 0) (mC (.int 2))) (mSetIx (mBin gMod (mUn gInt1 (mBin gAdd (mBin gAdd (mBin gMul (mBin gIx (mVar 0) (mC (.int 3))) (mC (.int 44017))) (mBin gMul (mBin gMod (mUn gInt1 (mVar 2)) (mC (.int 2147483543))) (mC (.int 51341)))) (mC (.int 29)))) (mC (.int 2147483579))) (mVar 0) (mC (.int 3))))
theorem sx1_l_pull_e {ρ : Sl} {m : Mm} : sx1_l_pull ρ m = (mIfS (mIsB (mBin gGe (mVar 2) (mBin gPow (mC (.int 10)) (mC (.int 18))))) (mSetIx (mVar 2) (mVar 0) (mC (.int 2))) (mSetIx (mBin gMod (mUn gInt1 (mBin gAdd (mBin gAdd (mBin gMul (mBin gIx (mVar 0) (mC (.int 3))) (mC (.int 44017))) (mBin gMul (mBin gMod (mUn gInt1 (mVar 2)) (mC (.int 2147483543))) (mC (.int 51341)))) (mC (.int 29)))) (mC (.int 2147483579))) (mVar 0) (mC (.int 3)))) ρ m := rfl
def sx2_l_pull : MS := (mSeq (mSetIx (mBin gAdd (mBin gIx (mVar 0) (mC (.int 1))) (mC (.int 1))) (mVar 0) (mC (.int 1))) sx1_l_pull)
theorem sx2_l_pull_e {ρ : Sl} {m : Mm} : sx2_l_pull ρ m = (mSeq (mSetIx (mBin gAdd (mBin gIx (mVar 0) (mC (.int 1))) (mC (.int 1))) (mVar 0) (mC (.int 1))) sx1_l_pull) ρ m := rfl
def sx3_l_pull : MS := (mRet (mVar 3))
theorem sx3_l_pull_e {ρ : Sl} {m : Mm} : sx3_l_pull ρ m = (mRet (mVar 3)) ρ m := rfl
def sx4_l_pull : MS := (mSeq (mSetIx (mBin gFdiv (mBin gIx (mVar 0) (mC (.int 2))) (mVar 1)) (mVar 0) (mC (.int 2))) sx3_l_pull)
theorem sx4_l_pull_e {ρ : Sl} {m : Mm} : sx4_l_pull ρ m = (mSeq (mSetIx (mBin gFdiv (mBin gIx (mVar 0) (mC (.int 2))) (mVar 1)) (mVar 0) (mC (.int 2))) sx3_l_pull) ρ m := rfl
def sx5_l_pull : MS := (mRet (mBin gMod (mUn gInt1 (mBin gAdd (mBin gFdiv (mBin gIx (mVar 0) (mC (.int 3))) (mC (.int 71))) (mBin gMul (mBin gMod (mUn gInt1 (mBin gIx (mVar 0) (mC (.int 3)))) (mC (.int 7919))) (mC (.int 59))))) (mVar 1)))
theorem sx5_l_pull_e {ρ : Sl} {m : Mm} : sx5_l_pull ρ m = (mRet (mBin gMod (mUn gInt1 (mBin gAdd (mBin gFdiv (mBin gIx (mVar 0) (mC (.int 3))) (mC (.int 71))) (mBin gMul (mBin gMod (mUn gInt1 (mBin gIx (mVar 0) (mC (.int 3)))) (mC (.int 7919))) (mC (.int 59))))) (mVar 1))) ρ m := rfl
def sx6_l_pull : MS := (mSeq (mSetIx (mBin gMod (mUn gInt1 (mBin gAdd (mBin gAdd (mBin gAdd (mBin gMul (mVar 4) (mVar 4)) (mBin gMul (mVar 4) (mC (.int 33029)))) (mBin gMul (mBin gIx (mVar 0) (mC (.int 4))) (mC (.int 1299709)))) (mC (.int 91229)))) (mC (.int 2147483579))) (mVar 0) (mC (.int 3))) sx5_l_pull)
theorem sx6_l_pull_e {ρ : Sl} {m : Mm} : sx6_l_pull ρ m = (mSeq (mSetIx (mBin gMod (mUn gInt1 (mBin gAdd (mBin gAdd (mBin gAdd (mBin gMul (mVar 4) (mVar 4)) (mBin gMul (mVar 4) (mC (.int 33029)))) (mBin gMul (mBin gIx (mVar 0) (mC (.int 4))) (mC (.int 1299709)))) (mC (.int 91229)))) (mC (.int 2147483579))) (mVar 0) (mC (.int 3))) sx5_l_pull) ρ m := rfl
def sx7_l_pull : MS := (mSeq (mAsg (mBin gIx (mVar 0) (mC (.int 3))) (mGn 4)) sx6_l_pull)
theorem sx7_l_pull_e {ρ : Sl} {m : Mm} : sx7_l_pull ρ m = (mSeq (mAsg (mBin gIx (mVar 0) (mC (.int 3))) (mGn 4)) sx6_l_pull) ρ m := rfl
def sx8_l_pull : MS := (mSeq (mSetIx (mBin gAdd (mBin gIx (mVar 0) (mC (.int 4))) (mC (.int 1))) (mVar 0) (mC (.int 4))) sx7_l_pull)
theorem sx8_l_pull_e {ρ : Sl} {m : Mm} : sx8_l_pull ρ m = (mSeq (mSetIx (mBin gAdd (mBin gIx (mVar 0) (mC (.int 4))) (mC (.int 1))) (mVar 0) (mC (.int 4))) sx7_l_pull) ρ m := rfl
def sx9_l_pull : MS := (mSeq (mIfS (mIsB (mBin gGt (mBin gIx (mVar 0) (mC (.int 2))) (mC (.int 0)))) (mSeq (mAsg (mBin gMod (mUn gInt1 (mBin gIx (mVar 0) (mC (.int 2)))) (mVar 1)) (mGn 3)) sx4_l_pull) mNext) sx8_l_pull)
theorem sx9_l_pull_e {ρ : Sl} {m : Mm} : sx9_l_pull ρ m = (mSeq (mIfS (mIsB (mBin gGt (mBin gIx (mVar 0) (mC (.int 2))) (mC (.int 0)))) (mSeq (mAsg (mBin gMod (mUn gInt1 (mBin gIx (mVar 0) (mC (.int 2)))) (mVar 1)) (mGn 3)) sx4_l_pull) mNext) sx8_l_pull) ρ m := rfl
def b_l_pull : MS := (mSeq (mIfS (mAndB (mIsB (mBin gEq (mBin gIx (mVar 0) (mC (.int 2))) (mC (.int 0)))) (mIsB (mBin gLt (mBin gIx (mVar 0) (mC (.int 1))) (mUn gLen (mBin gIx (mVar 0) (mC (.int 0))))))) (mSeq (mAsg (mBin gIx (mBin gIx (mVar 0) (mC (.int 0))) (mBin gIx (mVar 0) (mC (.int 1)))) (mGn 2)) sx2_l_pull) mNext) sx9_l_pull)
theorem b_l_pull_e {ρ : Sl} {m : Mm} : b_l_pull ρ m = (mSeq (mIfS (mAndB (mIsB (mBin gEq (mBin gIx (mVar 0) (mC (.int 2))) (mC (.int 0)))) (mIsB (mBin gLt (mBin gIx (mVar 0) (mC (.int 1))) (mUn gLen (mBin gIx (mVar 0) (mC (.int 0))))))) (mSeq (mAsg (mBin gIx (mBin gIx (mVar 0) (mC (.int 0))) (mBin gIx (mVar 0) (mC (.int 1)))) (mGn 2)) sx2_l_pull) mNext) sx9_l_pull) ρ m := rfl
def m_l_pull : MF := mDef 5 b_l_pull
theorem u_l_pull {a0 a1 : Dv} {m : Mm} : m_l_pull [a0, a1] m = (b_l_pull [.val a0, .val a1, .un, .un, .un] m).fin := rfl
/-! ### _law_text: _law_tree_here, _law_inner_here, _law_part, _law_one -/
def ce1_l_text : ME := (mUn gStr2 (mVar 2))
theorem ce1_l_text_e {ρ : Sl} {m : Mm} : ce1_l_text ρ m = (mUn gStr2 (mVar 2)) ρ m := rfl
def ce2_l_text (mself : MF) : ME := (mCall 1 mself (mCons (mVar 3) mNil))
theorem ce2_l_text_e {mself : MF} {ρ : Sl} {m : Mm} : ce2_l_text mself ρ m = (mCall 1 mself (mCons (mVar 3) mNil)) ρ m := rfl
def sx1_l_text (mself : MF) : MS := (mRet (mBin gAdd (mBin gAdd (mBin gAdd (mBin gIx (mVar 0) (mC (.int 0))) (mC (.str "("))) (mS1 gJoin (mC (.str ", ")) (mFrz (mLc [3] (mItA (mVar 1)) (mGn 3) mYes (ce2_l_text mself))))) (mC (.str ")"))))
theorem sx1_l_text_e {mself : MF} {ρ : Sl} {m : Mm} : sx1_l_text mself ρ m = (mRet (mBin gAdd (mBin gAdd (mBin gAdd (mBin gIx (mVar 0) (mC (.int 0))) (mC (.str "("))) (mS1 gJoin (mC (.str ", ")) (mFrz (mLc [3] (mItA (mVar 1)) (mGn 3) mYes (ce2_l_text mself))))) (mC (.str ")")))) ρ m := rfl
def sx2_l_text (mself : MF) : MS := (mSeq (mIfS (mIsB (mBin gEq (mVar 1) (mFrz (mLst mNil)))) (mRet (mS1 gJoin (mC (.str " ")) (mFrz (mLc [2] (mItA (mVar 0)) (mGn 2) mYes ce1_l_text)))) mNext) (sx1_l_text mself))
theorem sx2_l_text_e {mself : MF} {ρ : Sl} {m : Mm} : sx2_l_text mself ρ m = (mSeq (mIfS (mIsB (mBin gEq (mVar 1) (mFrz (mLst mNil)))) (mRet (mS1 gJoin (mC (.str " ")) (mFrz (mLc [2] (mItA (mVar 0)) (mGn 2) mYes ce1_l_text)))) mNext) (sx1_l_text mself)) ρ m := rfl
def b_l_text (mself : MF) : MS := (mSeq (mAsg (mCall 1 m_l_inner (mCons (mVar 0) mNil)) (mGn 1)) (sx2_l_text mself))
theorem b_l_text_e {mself : MF} {ρ : Sl} {m : Mm} : b_l_text mself ρ m = (mSeq (mAsg (mCall 1 m_l_inner (mCons (mVar 0) mNil)) (mGn 1)) (sx2_l_text mself)) ρ m := rfl
def mf_l_text : Nat → MF
  | 0 => mDef 4 mNoS
  | n + 1 => mDef 4 (b_l_text (mf_l_text n))
def m_l_text : MF := mf_l_text 12
theorem u_l_text {a0 : Dv} {m : Mm} {n : Nat} : mf_l_text (n + 1) [a0] m = (b_l_text (mf_l_text n) [.val a0, .un, .un, .un] m).fin := rfl
/-! ### _law_any: _law_bag, _law_things -/
def b_l_any : MS := (mRet (mBin gIx (mVar 1) (mCall 2 m_l_pull (mCons (mVar 0) (mCons (mUn gLen (mVar 1)) mNil)))))
theorem b_l_any_e {ρ : Sl} {m : Mm} : b_l_any ρ m = (mRet (mBin gIx (mVar 1) (mCall 2 m_l_pull (mCons (mVar 0) (mCons (mUn gLen (mVar 1)) mNil))))) ρ m := rfl
def m_l_any : MF := mDef 2 b_l_any
theorem u_l_any {a0 a1 : Dv} {m : Mm} : m_l_any [a0, a1] m = (b_l_any [.val a0, .val a1] m).fin := rfl
/-! ### _law_leaf: _law_bag, _law_high, _law_periods, _law_way, _law_low, _law_period_here -/
def sx1_l_leaf : MS := (mRet (mTup (mCons (mC (.str "age")) (mCons (mVar 4) (mCons (mBin gAdd (mVar 4) (mCall 2 m_l_pull (mCons (mVar 0) (mCons (mBin gAdd (mBin gSub (mVar 1) (mVar 4)) (mC (.int 1))) mNil)))) mNil)))))
theorem sx1_l_leaf_e {ρ : Sl} {m : Mm} : sx1_l_leaf ρ m = (mRet (mTup (mCons (mC (.str "age")) (mCons (mVar 4) (mCons (mBin gAdd (mVar 4) (mCall 2 m_l_pull (mCons (mVar 0) (mCons (mBin gAdd (mBin gSub (mVar 1) (mVar 4)) (mC (.int 1))) mNil)))) mNil))))) ρ m := rfl
def sx2_l_leaf : MS := (mRet (mTup (mCons (mC (.str "day")) (mCons (mVar 5) (mCons (mCall 2 m_l_pull (mCons (mVar 0) (mCons (mVar 5) mNil))) mNil)))))
theorem sx2_l_leaf_e {ρ : Sl} {m : Mm} : sx2_l_leaf ρ m = (mRet (mTup (mCons (mC (.str "day")) (mCons (mVar 5) (mCons (mCall 2 m_l_pull (mCons (mVar 0) (mCons (mVar 5) mNil))) mNil))))) ρ m := rfl
def sx3_l_leaf : MS := (mRet (mTup (mCons (mC (.str "apart")) (mCons (mBin gAdd (mC (.int 2)) (mCall 2 m_l_pull (mCons (mVar 0) (mCons (mCB gMin2 (mCons (mC (.int 19)) (mCons (mBin gAdd (mVar 1) (mC (.int 1))) mNil))) mNil)))) mNil))))
theorem sx3_l_leaf_e {ρ : Sl} {m : Mm} : sx3_l_leaf ρ m = (mRet (mTup (mCons (mC (.str "apart")) (mCons (mBin gAdd (mC (.int 2)) (mCall 2 m_l_pull (mCons (mVar 0) (mCons (mCB gMin2 (mCons (mC (.int 19)) (mCons (mBin gAdd (mVar 1) (mC (.int 1))) mNil))) mNil)))) mNil)))) ρ m := rfl
def sx4_l_leaf : MS := (mSeq (mIfS (mIsB (mBin gLt (mVar 3) (mC (.int 6)))) (mRet (mTup (mCons (mBin gIx (mFrz (mLst (mCons (mC (.str "first")) (mCons (mC (.str "last")) mNil)))) (mBin gSub (mVar 3) (mC (.int 4)))) (mCons (mCall 2 m_l_any (mCons (mVar 0) (mCons (mVar 2) mNil))) mNil)))) mNext) sx3_l_leaf)
theorem sx4_l_leaf_e {ρ : Sl} {m : Mm} : sx4_l_leaf ρ m = (mSeq (mIfS (mIsB (mBin gLt (mVar 3) (mC (.int 6)))) (mRet (mTup (mCons (mBin gIx (mFrz (mLst (mCons (mC (.str "first")) (mCons (mC (.str "last")) mNil)))) (mBin gSub (mVar 3) (mC (.int 4)))) (mCons (mCall 2 m_l_any (mCons (mVar 0) (mCons (mVar 2) mNil))) mNil)))) mNext) sx3_l_leaf) ρ m := rfl
def sx5_l_leaf : MS := (mSeq (mIfS (mIsB (mBin gLt (mVar 3) (mC (.int 4)))) (mRet (mTup (mCons (mBin gIx (mFrz (mLst (mCons (mC (.str "newest")) (mCons (mC (.str "oldest")) mNil)))) (mBin gSub (mVar 3) (mC (.int 2)))) (mCons (mBin gAdd (mC (.int 1)) (mCall 2 m_l_pull (mCons (mVar 0) (mCons (mCB gMin2 (mCons (mC (.int 20)) (mCons (mBin gAdd (mVar 1) (mC (.int 1))) mNil))) mNil)))) mNil)))) mNext) sx4_l_leaf)
theorem sx5_l_leaf_e {ρ : Sl} {m : Mm} : sx5_l_leaf ρ m = (mSeq (mIfS (mIsB (mBin gLt (mVar 3) (mC (.int 4)))) (mRet (mTup (mCons (mBin gIx (mFrz (mLst (mCons (mC (.str "newest")) (mCons (mC (.str "oldest")) mNil)))) (mBin gSub (mVar 3) (mC (.int 2)))) (mCons (mBin gAdd (mC (.int 1)) (mCall 2 m_l_pull (mCons (mVar 0) (mCons (mCB gMin2 (mCons (mC (.int 20)) (mCons (mBin gAdd (mVar 1) (mC (.int 1))) mNil))) mNil)))) mNil)))) mNext) sx4_l_leaf) ρ m := rfl
def sx6_l_leaf : MS := (mSeq (mIfS (mIsB (mBin gEq (mVar 3) (mC (.int 1)))) (mSeq (mAsg (mCall 2 m_l_any (mCons (mVar 0) (mCons (mVar 2) mNil))) (mGn 5)) sx2_l_leaf) mNext) sx5_l_leaf)
theorem sx6_l_leaf_e {ρ : Sl} {m : Mm} : sx6_l_leaf ρ m = (mSeq (mIfS (mIsB (mBin gEq (mVar 3) (mC (.int 1)))) (mSeq (mAsg (mCall 2 m_l_any (mCons (mVar 0) (mCons (mVar 2) mNil))) (mGn 5)) sx2_l_leaf) mNext) sx5_l_leaf) ρ m := rfl
def sx7_l_leaf : MS := (mSeq (mIfS (mIsB (mBin gEq (mVar 3) (mC (.int 0)))) (mSeq (mAsg (mCall 2 m_l_pull (mCons (mVar 0) (mCons (mBin gAdd (mVar 1) (mC (.int 1))) mNil))) (mGn 4)) sx1_l_leaf) mNext) sx6_l_leaf)
theorem sx7_l_leaf_e {ρ : Sl} {m : Mm} : sx7_l_leaf ρ m = (mSeq (mIfS (mIsB (mBin gEq (mVar 3) (mC (.int 0)))) (mSeq (mAsg (mCall 2 m_l_pull (mCons (mVar 0) (mCons (mBin gAdd (mVar 1) (mC (.int 1))) mNil))) (mGn 4)) sx1_l_leaf) mNext) sx6_l_leaf) ρ m := rfl
def b_l_leaf : MS := (mSeq (mAsg (mCall 2 m_l_pull (mCons (mVar 0) (mCons (mC (.int 7)) mNil))) (mGn 3)) sx7_l_leaf)
theorem b_l_leaf_e {ρ : Sl} {m : Mm} : b_l_leaf ρ m = (mSeq (mAsg (mCall 2 m_l_pull (mCons (mVar 0) (mCons (mC (.int 7)) mNil))) (mGn 3)) sx7_l_leaf) ρ m := rfl
def m_l_leaf : MF := mDef 6 b_l_leaf
theorem u_l_leaf {a0 a1 a2 : Dv} {m : Mm} : m_l_leaf [a0, a1, a2] m = (b_l_leaf [.val a0, .val a1, .val a2, .un, .un, .un] m).fin := rfl
/-! ### _law_tree: _law_bag, _law_room, _law_high, _law_periods, _law_way, _law_one, _law_trees -/
def sx1_l_tree : MS := (mRet (mTup (mCons (mBin gIx (mFrz (mLst (mCons (mC (.str "all")) (mCons (mC (.str "any")) (mCons (mC (.str "any")) mNil))))) (mBin gSub (mVar 4) (mC (.int 3)))) (mCons (mUn gTuple (mVar 6)) mNil))))
theorem sx1_l_tree_e {ρ : Sl} {m : Mm} : sx1_l_tree ρ m = (mRet (mTup (mCons (mBin gIx (mFrz (mLst (mCons (mC (.str "all")) (mCons (mC (.str "any")) (mCons (mC (.str "any")) mNil))))) (mBin gSub (mVar 4) (mC (.int 3)))) (mCons (mUn gTuple (mVar 6)) mNil)))) ρ m := rfl
def sx2_l_tree : MS := (mSeq (mIfS (mAndB (mIsB (mBin gLt (mBin gAdd (mBin gAdd (mC (.int 1)) (mCall 1 m_l_parts (mCons (mVar 5) mNil))) (mCall 1 m_l_parts (mCons (mBin gIx (mVar 6) (mC (.int 1))) mNil))) (mVar 1))) (mIsB (mBin gEq (mCall 2 m_l_pull (mCons (mVar 0) (mCons (mC (.int 2)) mNil))) (mC (.int 0))))) (mMut "list" gApp (mVar 6) (mCons (mCall 3 m_l_leaf (mCons (mVar 0) (mCons (mVar 2) (mCons (mVar 3) mNil)))) mNil)) mNext) sx1_l_tree)
theorem sx2_l_tree_e {ρ : Sl} {m : Mm} : sx2_l_tree ρ m = (mSeq (mIfS (mAndB (mIsB (mBin gLt (mBin gAdd (mBin gAdd (mC (.int 1)) (mCall 1 m_l_parts (mCons (mVar 5) mNil))) (mCall 1 m_l_parts (mCons (mBin gIx (mVar 6) (mC (.int 1))) mNil))) (mVar 1))) (mIsB (mBin gEq (mCall 2 m_l_pull (mCons (mVar 0) (mCons (mC (.int 2)) mNil))) (mC (.int 0))))) (mMut "list" gApp (mVar 6) (mCons (mCall 3 m_l_leaf (mCons (mVar 0) (mCons (mVar 2) (mCons (mVar 3) mNil)))) mNil)) mNext) sx1_l_tree) ρ m := rfl
def sx3_l_tree (mself : MF) : MS := (mSeq (mAsgO 6 (mLst (mCons (mVar 5) (mCons (mCall 4 mself (mCons (mVar 0) (mCons (mBin gSub (mBin gSub (mVar 1) (mC (.int 1))) (mCall 1 m_l_parts (mCons (mVar 5) mNil))) (mCons (mVar 2) (mCons (mVar 3) mNil))))) mNil)))) sx2_l_tree)
theorem sx3_l_tree_e {mself : MF} {ρ : Sl} {m : Mm} : sx3_l_tree mself ρ m = (mSeq (mAsgO 6 (mLst (mCons (mVar 5) (mCons (mCall 4 mself (mCons (mVar 0) (mCons (mBin gSub (mBin gSub (mVar 1) (mC (.int 1))) (mCall 1 m_l_parts (mCons (mVar 5) mNil))) (mCons (mVar 2) (mCons (mVar 3) mNil))))) mNil)))) sx2_l_tree) ρ m := rfl
def sx4_l_tree (mself : MF) : MS := (mSeq (mAsg (mCall 4 mself (mCons (mVar 0) (mCons (mBin gFdiv (mBin gSub (mVar 1) (mC (.int 1))) (mC (.int 2))) (mCons (mVar 2) (mCons (mVar 3) mNil))))) (mGn 5)) (sx3_l_tree mself))
theorem sx4_l_tree_e {mself : MF} {ρ : Sl} {m : Mm} : sx4_l_tree mself ρ m = (mSeq (mAsg (mCall 4 mself (mCons (mVar 0) (mCons (mBin gFdiv (mBin gSub (mVar 1) (mC (.int 1))) (mC (.int 2))) (mCons (mVar 2) (mCons (mVar 3) mNil))))) (mGn 5)) (sx3_l_tree mself)) ρ m := rfl
def sx5_l_tree (mself : MF) : MS := (mSeq (mIfS (mIsB (mBin gEq (mVar 4) (mC (.int 2)))) (mRet (mTup (mCons (mC (.str "not")) (mCons (mCall 4 mself (mCons (mVar 0) (mCons (mBin gSub (mVar 1) (mC (.int 1))) (mCons (mVar 2) (mCons (mVar 3) mNil))))) mNil)))) mNext) (sx4_l_tree mself))
theorem sx5_l_tree_e {mself : MF} {ρ : Sl} {m : Mm} : sx5_l_tree mself ρ m = (mSeq (mIfS (mIsB (mBin gEq (mVar 4) (mC (.int 2)))) (mRet (mTup (mCons (mC (.str "not")) (mCons (mCall 4 mself (mCons (mVar 0) (mCons (mBin gSub (mVar 1) (mC (.int 1))) (mCons (mVar 2) (mCons (mVar 3) mNil))))) mNil)))) mNext) (sx4_l_tree mself)) ρ m := rfl
def sx6_l_tree (mself : MF) : MS := (mSeq (mIfS (mOrB (mIsB (mBin gLt (mVar 4) (mC (.int 2)))) (mAndB (mIsB (mBin gGt (mVar 4) (mC (.int 2)))) (mIsB (mBin gLt (mVar 1) (mC (.int 3)))))) (mRet (mCall 3 m_l_leaf (mCons (mVar 0) (mCons (mVar 2) (mCons (mVar 3) mNil))))) mNext) (sx5_l_tree mself))
theorem sx6_l_tree_e {mself : MF} {ρ : Sl} {m : Mm} : sx6_l_tree mself ρ m = (mSeq (mIfS (mOrB (mIsB (mBin gLt (mVar 4) (mC (.int 2)))) (mAndB (mIsB (mBin gGt (mVar 4) (mC (.int 2)))) (mIsB (mBin gLt (mVar 1) (mC (.int 3)))))) (mRet (mCall 3 m_l_leaf (mCons (mVar 0) (mCons (mVar 2) (mCons (mVar 3) mNil))))) mNext) (sx5_l_tree mself)) ρ m := rfl
def b_l_tree (mself : MF) : MS := (mSeq (mAsg (mIf (mIsB (mBin gGt (mVar 1) (mC (.int 1)))) (mCall 2 m_l_pull (mCons (mVar 0) (mCons (mC (.int 6)) mNil))) (mC (.int 0))) (mGn 4)) (sx6_l_tree mself))
theorem b_l_tree_e {mself : MF} {ρ : Sl} {m : Mm} : b_l_tree mself ρ m = (mSeq (mAsg (mIf (mIsB (mBin gGt (mVar 1) (mC (.int 1)))) (mCall 2 m_l_pull (mCons (mVar 0) (mCons (mC (.int 6)) mNil))) (mC (.int 0))) (mGn 4)) (sx6_l_tree mself)) ρ m := rfl
def mf_l_tree : Nat → MF
  | 0 => mDef 7 mNoS
  | n + 1 => mDef 7 (b_l_tree (mf_l_tree n))
def m_l_tree : MF := mf_l_tree 12
theorem u_l_tree {a0 a1 a2 a3 : Dv} {m : Mm} {n : Nat} : mf_l_tree (n + 1) [a0, a1, a2, a3] m = (b_l_tree (mf_l_tree n) [.val a0, .val a1, .val a2, .val a3, .un, .un, .un] m).fin := rfl
/-! ### inner_trees: tree -/
def sx1_inner_trees : MS := (mRet (mIf (mIsB (mBin (gIn false) (mBin gIx (mVar 0) (mC (.int 0))) (mC k_JOINS))) (mFrz (mUnN gList (mBin gIx (mVar 0) (mC (.int 1))))) (mFrz (mLst mNil))))
theorem sx1_inner_trees_e {ρ : Sl} {m : Mm} : sx1_inner_trees ρ m = (mRet (mIf (mIsB (mBin (gIn false) (mBin gIx (mVar 0) (mC (.int 0))) (mC k_JOINS))) (mFrz (mUnN gList (mBin gIx (mVar 0) (mC (.int 1))))) (mFrz (mLst mNil)))) ρ m := rfl
def b_inner_trees : MS := (mSeq (mIfS (mIsB (mBin gEq (mBin gIx (mVar 0) (mC (.int 0))) (mC (.str "not")))) (mRet (mFrz (mLst (mCons (mBin gIx (mVar 0) (mC (.int 1))) mNil)))) mNext) sx1_inner_trees)
theorem b_inner_trees_e {ρ : Sl} {m : Mm} : b_inner_trees ρ m = (mSeq (mIfS (mIsB (mBin gEq (mBin gIx (mVar 0) (mC (.int 0))) (mC (.str "not")))) (mRet (mFrz (mLst (mCons (mBin gIx (mVar 0) (mC (.int 1))) mNil)))) mNext) sx1_inner_trees) ρ m := rfl
def m_inner_trees : MF := mDef 1 b_inner_trees
theorem u_inner_trees {a0 : Dv} {m : Mm} : m_inner_trees [a0] m = (b_inner_trees [.val a0] m).fin := rfl
/-! ### parts_of: tree, one -/
def ce1_parts_of (mself : MF) : ME := (mCall 1 mself (mCons (mVar 1) mNil))
theorem ce1_parts_of_e {mself : MF} {ρ : Sl} {m : Mm} : ce1_parts_of mself ρ m = (mCall 1 mself (mCons (mVar 1) mNil)) ρ m := rfl
def b_parts_of (mself : MF) : MS := (mRet (mBin gAdd (mC (.int 1)) (mUn gSum (mFrz (mLc [1] (mItA (mCall 1 m_inner_trees (mCons (mVar 0) mNil))) (mGn 1) mYes (ce1_parts_of mself))))))
theorem b_parts_of_e {mself : MF} {ρ : Sl} {m : Mm} : b_parts_of mself ρ m = (mRet (mBin gAdd (mC (.int 1)) (mUn gSum (mFrz (mLc [1] (mItA (mCall 1 m_inner_trees (mCons (mVar 0) mNil))) (mGn 1) mYes (ce1_parts_of mself)))))) ρ m := rfl
def mf_parts_of : Nat → MF
  | 0 => mDef 2 mNoS
  | n + 1 => mDef 2 (b_parts_of (mf_parts_of n))
def m_parts_of : MF := mf_parts_of 12
theorem u_parts_of {a0 : Dv} {m : Mm} {n : Nat} : mf_parts_of (n + 1) [a0] m = (b_parts_of (mf_parts_of n) [.val a0, .un] m).fin := rfl
/-! ### common_multiple: one, other, a, b -/
def wt1_common_multiple : MB := (mIsB (mBin gGt (mVar 3) (mC (.int 0))))
theorem wt1_common_multiple_e {ρ : Sl} {m : Mm} : wt1_common_multiple ρ m = (mIsB (mBin gGt (mVar 3) (mC (.int 0)))) ρ m := rfl
def wb1_common_multiple : MS := (mPar 2 3 (mCV (mVar 3) (mCV (mBin gMod (mVar 2) (mVar 3)) mCNil)))
theorem wb1_common_multiple_e {ρ : Sl} {m : Mm} : wb1_common_multiple ρ m = (mPar 2 3 (mCV (mVar 3) (mCV (mBin gMod (mVar 2) (mVar 3)) mCNil))) ρ m := rfl
def sx1_common_multiple : MS := (mRet (mBin gFdiv (mBin gMul (mVar 0) (mVar 1)) (mVar 2)))
theorem sx1_common_multiple_e {ρ : Sl} {m : Mm} : sx1_common_multiple ρ m = (mRet (mBin gFdiv (mBin gMul (mVar 0) (mVar 1)) (mVar 2))) ρ m := rfl
def sx2_common_multiple : MS := (mSeq (whileN wt1_common_multiple wb1_common_multiple 1000000) sx1_common_multiple)
theorem sx2_common_multiple_e {ρ : Sl} {m : Mm} : sx2_common_multiple ρ m = (mSeq (whileN wt1_common_multiple wb1_common_multiple 1000000) sx1_common_multiple) ρ m := rfl
def b_common_multiple : MS := (mSeq (mPar 2 3 (mCV (mVar 0) (mCV (mVar 1) mCNil))) sx2_common_multiple)
theorem b_common_multiple_e {ρ : Sl} {m : Mm} : b_common_multiple ρ m = (mSeq (mPar 2 3 (mCV (mVar 0) (mCV (mVar 1) mCNil))) sx2_common_multiple) ρ m := rfl
def m_common_multiple : MF := mDef 4 b_common_multiple
theorem u_common_multiple {a0 a1 : Dv} {m : Mm} : m_common_multiple [a0, a1] m = (b_common_multiple [.val a0, .val a1, .un, .un] m).fin := rfl
/-! ### period_of: tree, found, one -/
def lp1_period_of (mself : MF) : MS := (mAsg (mCall 2 m_common_multiple (mCons (mVar 1) (mCons (mCall 1 mself (mCons (mVar 2) mNil)) mNil))) (mGn 1))
theorem lp1_period_of_e {mself : MF} {ρ : Sl} {m : Mm} : lp1_period_of mself ρ m = (mAsg (mCall 2 m_common_multiple (mCons (mVar 1) (mCons (mCall 1 mself (mCons (mVar 2) mNil)) mNil))) (mGn 1)) ρ m := rfl
def sx1_period_of : MS := (mRet (mVar 1))
theorem sx1_period_of_e {ρ : Sl} {m : Mm} : sx1_period_of ρ m = (mRet (mVar 1)) ρ m := rfl
def sx2_period_of (mself : MF) : MS := (mSeq (mFor (mItA (mCall 1 m_inner_trees (mCons (mVar 0) mNil))) (mGn 2) (lp1_period_of mself)) sx1_period_of)
theorem sx2_period_of_e {mself : MF} {ρ : Sl} {m : Mm} : sx2_period_of mself ρ m = (mSeq (mFor (mItA (mCall 1 m_inner_trees (mCons (mVar 0) mNil))) (mGn 2) (lp1_period_of mself)) sx1_period_of) ρ m := rfl
def b_period_of (mself : MF) : MS := (mSeq (mAsg (mIf (mIsB (mBin (gIn false) (mBin gIx (mVar 0) (mC (.int 0))) (mTup (mCons (mC (.str "day")) (mCons (mC (.str "first")) (mCons (mC (.str "last")) mNil)))))) (mBin gIx (mVar 0) (mC (.int 1))) (mC (.int 1))) (mGn 1)) (sx2_period_of mself))
theorem b_period_of_e {mself : MF} {ρ : Sl} {m : Mm} : b_period_of mself ρ m = (mSeq (mAsg (mIf (mIsB (mBin (gIn false) (mBin gIx (mVar 0) (mC (.int 0))) (mTup (mCons (mC (.str "day")) (mCons (mC (.str "first")) (mCons (mC (.str "last")) mNil)))))) (mBin gIx (mVar 0) (mC (.int 1))) (mC (.int 1))) (mGn 1)) (sx2_period_of mself)) ρ m := rfl
def mf_period_of : Nat → MF
  | 0 => mDef 3 mNoS
  | n + 1 => mDef 3 (b_period_of (mf_period_of n))
def m_period_of : MF := mf_period_of 12
theorem u_period_of {a0 : Dv} {m : Mm} {n : Nat} : mf_period_of (n + 1) [a0] m = (b_period_of (mf_period_of n) [.val a0, .un, .un] m).fin := rfl
/-! ### number_of: word -/
def sx1_number_of : MS := (mRet (mUn gInt1 (mVar 0)))
theorem sx1_number_of_e {ρ : Sl} {m : Mm} : sx1_number_of ρ m = (mRet (mUn gInt1 (mVar 0))) ρ m := rfl
def b_number_of : MS := (mSeq (mIfS (mOrB (mNot (mIsB (mChain gLe gLe (mC (.int 1)) (mUn gLen (mVar 0)) (mC (.int 4))))) (mOrB (mNot (mTru (mS0 gDigit (mVar 0)))) (mAndB (mIsB (mBin gGt (mUn gLen (mVar 0)) (mC (.int 1)))) (mIsB (mBin gEq (mBin gIx (mVar 0) (mC (.int 0))) (mC (.str "0"))))))) (mRet (mC .non)) mNext) sx1_number_of)
theorem b_number_of_e {ρ : Sl} {m : Mm} : b_number_of ρ m = (mSeq (mIfS (mOrB (mNot (mIsB (mChain gLe gLe (mC (.int 1)) (mUn gLen (mVar 0)) (mC (.int 4))))) (mOrB (mNot (mTru (mS0 gDigit (mVar 0)))) (mAndB (mIsB (mBin gGt (mUn gLen (mVar 0)) (mC (.int 1)))) (mIsB (mBin gEq (mBin gIx (mVar 0) (mC (.int 0))) (mC (.str "0"))))))) (mRet (mC .non)) mNext) sx1_number_of) ρ m := rfl
def m_number_of : MF := mDef 1 b_number_of
theorem u_number_of {a0 : Dv} {m : Mm} : m_number_of [a0] m = (b_number_of [.val a0] m).fin := rfl
/-! ### plain_tree: words, numbers, low, high, period, rest, word, many, part -/
def ce1_plain_tree : ME := (mCall 1 m_number_of (mCons (mVar 8) mNil))
theorem ce1_plain_tree_e {ρ : Sl} {m : Mm} : ce1_plain_tree ρ m = (mCall 1 m_number_of (mCons (mVar 8) mNil)) ρ m := rfl
def mb1_plain_tree : MS := (mRet (mTup (mCons (mC (.str "age")) (mCons (mVar 2) (mCons (mVar 3) mNil)))))
theorem mb1_plain_tree_e {ρ : Sl} {m : Mm} : mb1_plain_tree ρ m = (mRet (mTup (mCons (mC (.str "age")) (mCons (mVar 2) (mCons (mVar 3) mNil))))) ρ m := rfl
def mg1_plain_tree : MB := (mIsB (mChain gLe gLe (mVar 2) (mVar 3) (mC k_MOST_AGE)))
theorem mg1_plain_tree_e {ρ : Sl} {m : Mm} : mg1_plain_tree ρ m = (mIsB (mChain gLe gLe (mVar 2) (mVar 3) (mC k_MOST_AGE))) ρ m := rfl
def mb2_plain_tree : MS := (mRet (mTup (mCons (mC (.str "day")) (mCons (mVar 4) (mCons (mVar 5) mNil)))))
theorem mb2_plain_tree_e {ρ : Sl} {m : Mm} : mb2_plain_tree ρ m = (mRet (mTup (mCons (mC (.str "day")) (mCons (mVar 4) (mCons (mVar 5) mNil))))) ρ m := rfl
def mg2_plain_tree : MB := (mAndB (mIsB (mChain gLe gLe (mC (.int 2)) (mVar 4) (mC (.int 7)))) (mIsB (mBin gLt (mVar 5) (mVar 4))))
theorem mg2_plain_tree_e {ρ : Sl} {m : Mm} : mg2_plain_tree ρ m = (mAndB (mIsB (mChain gLe gLe (mC (.int 2)) (mVar 4) (mC (.int 7)))) (mIsB (mBin gLt (mVar 5) (mVar 4)))) ρ m := rfl
def mb3_plain_tree : MS := (mRet (mTup (mCons (mVar 6) (mCons (mVar 7) mNil))))
theorem mb3_plain_tree_e {ρ : Sl} {m : Mm} : mb3_plain_tree ρ m = (mRet (mTup (mCons (mVar 6) (mCons (mVar 7) mNil)))) ρ m := rfl
def mg3_plain_tree : MB := (mAndB (mIsB (mBin (gInKd "RANGES" kv_RANGES []) (mVar 6) (mC k_RANGES))) (mIsB (mChain gLe gLe (mBin gIx (mBin (gIxKd "RANGES" kv_RANGES) (mC k_RANGES) (mVar 6)) (mC (.int 0))) (mVar 7) (mBin gIx (mBin (gIxKd "RANGES" kv_RANGES) (mC k_RANGES) (mVar 6)) (mC (.int 1))))))
theorem mg3_plain_tree_e {ρ : Sl} {m : Mm} : mg3_plain_tree ρ m = (mAndB (mIsB (mBin (gInKd "RANGES" kv_RANGES []) (mVar 6) (mC k_RANGES))) (mIsB (mChain gLe gLe (mBin gIx (mBin (gIxKd "RANGES" kv_RANGES) (mC k_RANGES) (mVar 6)) (mC (.int 0))) (mVar 7) (mBin gIx (mBin (gIxKd "RANGES" kv_RANGES) (mC k_RANGES) (mVar 6)) (mC (.int 1)))))) ρ m := rfl
def sx1_plain_tree : MS := (mRet (mC .non))
theorem sx1_plain_tree_e {ρ : Sl} {m : Mm} : sx1_plain_tree ρ m = (mRet (mC .non)) ρ m := rfl
def sx2_plain_tree : MS := (mSeq (mMatch (mFrz (mLst (mCons (mBin gIx (mVar 0) (mC (.int 0))) (mStar (mVar 1) mNil)))) [⟨[.lit "age", .cap 2, .cap 3], some mg1_plain_tree, mb1_plain_tree⟩, ⟨[.lit "day", .cap 4, .cap 5], some mg2_plain_tree, mb2_plain_tree⟩, ⟨[.cap 6, .cap 7], some mg3_plain_tree, mb3_plain_tree⟩]) sx1_plain_tree)
theorem sx2_plain_tree_e {ρ : Sl} {m : Mm} : sx2_plain_tree ρ m = (mSeq (mMatch (mFrz (mLst (mCons (mBin gIx (mVar 0) (mC (.int 0))) (mStar (mVar 1) mNil)))) [⟨[.lit "age", .cap 2, .cap 3], some mg1_plain_tree, mb1_plain_tree⟩, ⟨[.lit "day", .cap 4, .cap 5], some mg2_plain_tree, mb2_plain_tree⟩, ⟨[.cap 6, .cap 7], some mg3_plain_tree, mb3_plain_tree⟩]) sx1_plain_tree) ρ m := rfl
def sx3_plain_tree : MS := (mSeq (mIfS (mIsB (mBin (gIn false) (mC .non) (mVar 1))) (mRet (mC .non)) mNext) sx2_plain_tree)
theorem sx3_plain_tree_e {ρ : Sl} {m : Mm} : sx3_plain_tree ρ m = (mSeq (mIfS (mIsB (mBin (gIn false) (mC .non) (mVar 1))) (mRet (mC .non)) mNext) sx2_plain_tree) ρ m := rfl
def b_plain_tree : MS := (mSeq (mAsg (mFrz (mLc [8] (mItA (mSl (mVar 0) (mO1 (mC (.int 1))) mO0)) (mGn 8) mYes ce1_plain_tree)) (mGn 1)) sx3_plain_tree)
theorem b_plain_tree_e {ρ : Sl} {m : Mm} : b_plain_tree ρ m = (mSeq (mAsg (mFrz (mLc [8] (mItA (mSl (mVar 0) (mO1 (mC (.int 1))) mO0)) (mGn 8) mYes ce1_plain_tree)) (mGn 1)) sx3_plain_tree) ρ m := rfl
def m_plain_tree : MF := mDef 9 b_plain_tree
theorem u_plain_tree {a0 : Dv} {m : Mm} : m_plain_tree [a0] m = (b_plain_tree [.val a0, .un, .un, .un, .un, .un, .un, .un, .un] m).fin := rfl
/-! ### split_inner: text, found, depth, start, at, sign -/
def sx1_split_inner : MS := (mIfS (mIsB (mBin gLt (mVar 2) (mC (.int 0)))) (mRet (mC .non)) mNext)
theorem sx1_split_inner_e {ρ : Sl} {m : Mm} : sx1_split_inner ρ m = (mIfS (mIsB (mBin gLt (mVar 2) (mC (.int 0)))) (mRet (mC .non)) mNext) ρ m := rfl
def sx2_split_inner : MS := (mAsg (mBin gAdd (mVar 4) (mC (.int 2))) (mGn 3))
theorem sx2_split_inner_e {ρ : Sl} {m : Mm} : sx2_split_inner ρ m = (mAsg (mBin gAdd (mVar 4) (mC (.int 2))) (mGn 3)) ρ m := rfl
def sx3_split_inner : MS := (mSeq (mMut "list" gApp (mVar 1) (mCons (mSl (mVar 0) (mO1 (mVar 3)) (mO1 (mVar 4))) mNil)) sx2_split_inner)
theorem sx3_split_inner_e {ρ : Sl} {m : Mm} : sx3_split_inner ρ m = (mSeq (mMut "list" gApp (mVar 1) (mCons (mSl (mVar 0) (mO1 (mVar 3)) (mO1 (mVar 4))) mNil)) sx2_split_inner) ρ m := rfl
def lp1_split_inner : MS := (mIfS (mIsB (mBin gEq (mVar 5) (mC (.str "(")))) (mAug 2 (fun i j => i + j) (mC (.int 1))) (mIfS (mIsB (mBin gEq (mVar 5) (mC (.str ")")))) (mSeq (mAug 2 (fun i j => i - j) (mC (.int 1))) sx1_split_inner) (mIfS (mAndB (mIsB (mBin gEq (mVar 5) (mC (.str ",")))) (mIsB (mBin gEq (mVar 2) (mC (.int 0))))) (mSeq (mIfS (mIsB (mBin gNe (mSl (mVar 0) (mO1 (mBin gAdd (mVar 4) (mC (.int 1)))) (mO1 (mBin gAdd (mVar 4) (mC (.int 2))))) (mC (.str " ")))) (mRet (mC .non)) mNext) sx3_split_inner) mNext)))
theorem lp1_split_inner_e {ρ : Sl} {m : Mm} : lp1_split_inner ρ m = (mIfS (mIsB (mBin gEq (mVar 5) (mC (.str "(")))) (mAug 2 (fun i j => i + j) (mC (.int 1))) (mIfS (mIsB (mBin gEq (mVar 5) (mC (.str ")")))) (mSeq (mAug 2 (fun i j => i - j) (mC (.int 1))) sx1_split_inner) (mIfS (mAndB (mIsB (mBin gEq (mVar 5) (mC (.str ",")))) (mIsB (mBin gEq (mVar 2) (mC (.int 0))))) (mSeq (mIfS (mIsB (mBin gNe (mSl (mVar 0) (mO1 (mBin gAdd (mVar 4) (mC (.int 1)))) (mO1 (mBin gAdd (mVar 4) (mC (.int 2))))) (mC (.str " ")))) (mRet (mC .non)) mNext) sx3_split_inner) mNext))) ρ m := rfl
def sx4_split_inner : MS := (mFz 1 (mRet (mIf (mIsB (mBin gNe (mVar 2) (mC (.int 0)))) (mC .non) (mFrz (mLst (mStar (mVar 1) (mCons (mSl (mVar 0) (mO1 (mVar 3)) mO0) mNil)))))))
theorem sx4_split_inner_e {ρ : Sl} {m : Mm} : sx4_split_inner ρ m = (mFz 1 (mRet (mIf (mIsB (mBin gNe (mVar 2) (mC (.int 0)))) (mC .non) (mFrz (mLst (mStar (mVar 1) (mCons (mSl (mVar 0) (mO1 (mVar 3)) mO0) mNil))))))) ρ m := rfl
def sx5_split_inner : MS := (mSeq (mFor (mEn (mVar 0)) (mGt 2 (mGcons (mGn 4) (mGcons (mGn 5) mGnil))) lp1_split_inner) sx4_split_inner)
theorem sx5_split_inner_e {ρ : Sl} {m : Mm} : sx5_split_inner ρ m = (mSeq (mFor (mEn (mVar 0)) (mGt 2 (mGcons (mGn 4) (mGcons (mGn 5) mGnil))) lp1_split_inner) sx4_split_inner) ρ m := rfl
def b_split_inner : MS := (mSeq (mPar3 1 2 3 (mCO (mLst mNil) (mCV (mC (.int 0)) (mCV (mC (.int 0)) mCNil)))) sx5_split_inner)
theorem b_split_inner_e {ρ : Sl} {m : Mm} : b_split_inner ρ m = (mSeq (mPar3 1 2 3 (mCO (mLst mNil) (mCV (mC (.int 0)) (mCV (mC (.int 0)) mCNil)))) sx5_split_inner) ρ m := rfl
def m_split_inner : MF := mDef 6 b_split_inner
theorem u_split_inner {a0 : Dv} {m : Mm} : m_split_inner [a0] m = (b_split_inner [.val a0, .un, .un, .un, .un, .un] m).fin := rfl
/-! ### tree_of: text, word, sign, rest, parts, trees, part -/
def ce1_tree_of (mself : MF) : ME := (mCall 1 mself (mCons (mVar 6) mNil))
theorem ce1_tree_of_e {mself : MF} {ρ : Sl} {m : Mm} : ce1_tree_of mself ρ m = (mCall 1 mself (mCons (mVar 6) mNil)) ρ m := rfl
def sx1_tree_of : MS := (mRet (mIf (mIsB (mBin gEq (mVar 1) (mC (.str "not")))) (mTup (mCons (mC (.str "not")) (mCons (mBin gIx (mVar 5) (mC (.int 0))) mNil))) (mTup (mCons (mVar 1) (mCons (mUn gTuple (mVar 5)) mNil)))))
theorem sx1_tree_of_e {ρ : Sl} {m : Mm} : sx1_tree_of ρ m = (mRet (mIf (mIsB (mBin gEq (mVar 1) (mC (.str "not")))) (mTup (mCons (mC (.str "not")) (mCons (mBin gIx (mVar 5) (mC (.int 0))) mNil))) (mTup (mCons (mVar 1) (mCons (mUn gTuple (mVar 5)) mNil))))) ρ m := rfl
def sx2_tree_of : MS := (mSeq (mIfS (mIsB (mBin (gIn false) (mC .non) (mVar 5))) (mRet (mC .non)) mNext) sx1_tree_of)
theorem sx2_tree_of_e {ρ : Sl} {m : Mm} : sx2_tree_of ρ m = (mSeq (mIfS (mIsB (mBin (gIn false) (mC .non) (mVar 5))) (mRet (mC .non)) mNext) sx1_tree_of) ρ m := rfl
def sx3_tree_of (mself : MF) : MS := (mSeq (mAsg (mFrz (mLc [6] (mItA (mVar 4)) (mGn 6) mYes (ce1_tree_of mself))) (mGn 5)) sx2_tree_of)
theorem sx3_tree_of_e {mself : MF} {ρ : Sl} {m : Mm} : sx3_tree_of mself ρ m = (mSeq (mAsg (mFrz (mLc [6] (mItA (mVar 4)) (mGn 6) mYes (ce1_tree_of mself))) (mGn 5)) sx2_tree_of) ρ m := rfl
def sx4_tree_of (mself : MF) : MS := (mSeq (mIfS (mOrB (mIsB (mBin (gIsN false) (mVar 4) (mC .non))) (mIsB (mBin (gIn true) (mUn gLen (mVar 4)) (mIf (mIsB (mBin gEq (mVar 1) (mC (.str "not")))) (mTup (mCons (mC (.int 1)) mNil)) (mTup (mCons (mC (.int 2)) (mCons (mC (.int 3)) mNil))))))) (mRet (mC .non)) mNext) (sx3_tree_of mself))
theorem sx4_tree_of_e {mself : MF} {ρ : Sl} {m : Mm} : sx4_tree_of mself ρ m = (mSeq (mIfS (mOrB (mIsB (mBin (gIsN false) (mVar 4) (mC .non))) (mIsB (mBin (gIn true) (mUn gLen (mVar 4)) (mIf (mIsB (mBin gEq (mVar 1) (mC (.str "not")))) (mTup (mCons (mC (.int 1)) mNil)) (mTup (mCons (mC (.int 2)) (mCons (mC (.int 3)) mNil))))))) (mRet (mC .non)) mNext) (sx3_tree_of mself)) ρ m := rfl
def sx5_tree_of (mself : MF) : MS := (mSeq (mAsg (mIf (mAndB (mIsB (mBin (gIn false) (mVar 1) (mTup (mCons (mC (.str "not")) (mStar (mC k_JOINS) mNil))))) (mIsB (mBin gEq (mVar 2) (mC (.str "("))))) (mCall 1 m_split_inner (mCons (mSl (mVar 3) mO0 (mO1 (mUn gNeg (mC (.int 1))))) mNil)) (mC .non)) (mGn 4)) (sx4_tree_of mself))
theorem sx5_tree_of_e {mself : MF} {ρ : Sl} {m : Mm} : sx5_tree_of mself ρ m = (mSeq (mAsg (mIf (mAndB (mIsB (mBin (gIn false) (mVar 1) (mTup (mCons (mC (.str "not")) (mStar (mC k_JOINS) mNil))))) (mIsB (mBin gEq (mVar 2) (mC (.str "("))))) (mCall 1 m_split_inner (mCons (mSl (mVar 3) mO0 (mO1 (mUn gNeg (mC (.int 1))))) mNil)) (mC .non)) (mGn 4)) (sx4_tree_of mself)) ρ m := rfl
def sx6_tree_of (mself : MF) : MS := (mSeq (mAsg (mS1 gPart (mVar 0) (mC (.str "("))) (mGt 3 (mGcons (mGn 1) (mGcons (mGn 2) (mGcons (mGn 3) mGnil))))) (sx5_tree_of mself))
theorem sx6_tree_of_e {mself : MF} {ρ : Sl} {m : Mm} : sx6_tree_of mself ρ m = (mSeq (mAsg (mS1 gPart (mVar 0) (mC (.str "("))) (mGt 3 (mGcons (mGn 1) (mGcons (mGn 2) (mGcons (mGn 3) mGnil))))) (sx5_tree_of mself)) ρ m := rfl
def b_tree_of (mself : MF) : MS := (mSeq (mIfS (mNot (mTru (mS1 (gS2 fun a b => .bl (Txt.endswith a b)) (mVar 0) (mC (.str ")"))))) (mRet (mCall 1 m_plain_tree (mCons (mS1 gSplit (mVar 0) (mC (.str " "))) mNil))) mNext) (sx6_tree_of mself))
theorem b_tree_of_e {mself : MF} {ρ : Sl} {m : Mm} : b_tree_of mself ρ m = (mSeq (mIfS (mNot (mTru (mS1 (gS2 fun a b => .bl (Txt.endswith a b)) (mVar 0) (mC (.str ")"))))) (mRet (mCall 1 m_plain_tree (mCons (mS1 gSplit (mVar 0) (mC (.str " "))) mNil))) mNext) (sx6_tree_of mself)) ρ m := rfl
def mf_tree_of : Nat → MF
  | 0 => mDef 7 mNoS
  | n + 1 => mDef 7 (b_tree_of (mf_tree_of n))
def m_tree_of : MF := mf_tree_of 12
theorem u_tree_of {a0 : Dv} {m : Mm} {n : Nat} : mf_tree_of (n + 1) [a0] m = (b_tree_of (mf_tree_of n) [.val a0, .un, .un, .un, .un, .un, .un] m).fin := rfl
/-! ### Condition.__init__: self, text, tree -/
def sx1_Condition_DinitD : MS := (mStF "Condition" "own_period" (mCall 1 m_period_of (mCons (mVar 2) mNil)) (mVar 0))
theorem sx1_Condition_DinitD_e {ρ : Sl} {m : Mm} : sx1_Condition_DinitD ρ m = (mStF "Condition" "own_period" (mCall 1 m_period_of (mCons (mVar 2) mNil)) (mVar 0)) ρ m := rfl
def sx2_Condition_DinitD : MS := (mSeq (mStF "Condition" "own_parts" (mCall 1 m_parts_of (mCons (mVar 2) mNil)) (mVar 0)) sx1_Condition_DinitD)
theorem sx2_Condition_DinitD_e {ρ : Sl} {m : Mm} : sx2_Condition_DinitD ρ m = (mSeq (mStF "Condition" "own_parts" (mCall 1 m_parts_of (mCons (mVar 2) mNil)) (mVar 0)) sx1_Condition_DinitD) ρ m := rfl
def sx3_Condition_DinitD : MS := (mSeq (mStF "Condition" "own_tree" (mVar 2) (mVar 0)) sx2_Condition_DinitD)
theorem sx3_Condition_DinitD_e {ρ : Sl} {m : Mm} : sx3_Condition_DinitD ρ m = (mSeq (mStF "Condition" "own_tree" (mVar 2) (mVar 0)) sx2_Condition_DinitD) ρ m := rfl
def sx4_Condition_DinitD : MS := (mSeq (mStF "Condition" "own_text" (mVar 1) (mVar 0)) sx3_Condition_DinitD)
theorem sx4_Condition_DinitD_e {ρ : Sl} {m : Mm} : sx4_Condition_DinitD ρ m = (mSeq (mStF "Condition" "own_text" (mVar 1) (mVar 0)) sx3_Condition_DinitD) ρ m := rfl
def sx5_Condition_DinitD : MS := (mSeq (mIfS (mOrB (mIsB (mBin (gIsN false) (mVar 2) (mC .non))) (mIsB (mBin gGt (mCall 1 m_parts_of (mCons (mVar 2) mNil)) (mC k_MOST_PARTS)))) mNoS mNext) sx4_Condition_DinitD)
theorem sx5_Condition_DinitD_e {ρ : Sl} {m : Mm} : sx5_Condition_DinitD ρ m = (mSeq (mIfS (mOrB (mIsB (mBin (gIsN false) (mVar 2) (mC .non))) (mIsB (mBin gGt (mCall 1 m_parts_of (mCons (mVar 2) mNil)) (mC k_MOST_PARTS)))) mNoS mNext) sx4_Condition_DinitD) ρ m := rfl
def b_Condition_DinitD : MS := (mSeq (mAsg (mIf (mIsB (mBin gLe (mS1 (gS2 fun a b => .int (Txt.count a b)) (mVar 1) (mC (.str "("))) (mC k_MOST_PARTS))) (mCall 1 m_tree_of (mCons (mVar 1) mNil)) (mC .non)) (mGn 2)) sx5_Condition_DinitD)
theorem b_Condition_DinitD_e {ρ : Sl} {m : Mm} : b_Condition_DinitD ρ m = (mSeq (mAsg (mIf (mIsB (mBin gLe (mS1 (gS2 fun a b => .int (Txt.count a b)) (mVar 1) (mC (.str "("))) (mC k_MOST_PARTS))) (mCall 1 m_tree_of (mCons (mVar 1) mNil)) (mC .non)) (mGn 2)) sx5_Condition_DinitD) ρ m := rfl
def m_Condition_DinitD : MF := mDef 3 b_Condition_DinitD
theorem u_Condition_DinitD {a0 a1 : Dv} {m : Mm} : m_Condition_DinitD [a0, a1] m = (b_Condition_DinitD [.val a0, .val a1, .un] m).fin := rfl
def m_Condition_DinitD_1_text : MF := fun l m => m_Condition_DinitD (pick [0, 1] l) m
/-! ### Condition.__eq__: self, other -/
def b_Condition_DeqD : MS := (mRet (mAndV (mCB (gIsiO "Condition") (mCons (mVar 1) (mCons (mC k_Condition) mNil))) (mBin gEq (mFld "Condition" "own_text" (mVar 0)) (mFld "Condition" "own_text" (mVar 1)))))
theorem b_Condition_DeqD_e {ρ : Sl} {m : Mm} : b_Condition_DeqD ρ m = (mRet (mAndV (mCB (gIsiO "Condition") (mCons (mVar 1) (mCons (mC k_Condition) mNil))) (mBin gEq (mFld "Condition" "own_text" (mVar 0)) (mFld "Condition" "own_text" (mVar 1))))) ρ m := rfl
def m_Condition_DeqD : MF := mDef 2 b_Condition_DeqD
theorem u_Condition_DeqD {a0 a1 : Dv} {m : Mm} : m_Condition_DeqD [a0, a1] m = (b_Condition_DeqD [.val a0, .val a1] m).fin := rfl
/-! ### Condition.__repr__: self -/
def b_Condition_DreprD : MS := (mRet (mJs [(mC (.str "Condition(")), (mFmt (mFld "Condition" "own_text" (mVar 0))), (mC (.str ")"))]))
theorem b_Condition_DreprD_e {ρ : Sl} {m : Mm} : b_Condition_DreprD ρ m = (mRet (mJs [(mC (.str "Condition(")), (mFmt (mFld "Condition" "own_text" (mVar 0))), (mC (.str ")"))])) ρ m := rfl
def m_Condition_DreprD : MF := mDef 1 b_Condition_DreprD
theorem u_Condition_DreprD {a0 : Dv} {m : Mm} : m_Condition_DreprD [a0] m = (b_Condition_DreprD [.val a0] m).fin := rfl
/-! ### Condition.parts: self -/
def b_Condition_parts : MS := (mRet (mFld "Condition" "own_parts" (mVar 0)))
theorem b_Condition_parts_e {ρ : Sl} {m : Mm} : b_Condition_parts ρ m = (mRet (mFld "Condition" "own_parts" (mVar 0))) ρ m := rfl
def m_Condition_parts : MF := mDef 1 b_Condition_parts
theorem u_Condition_parts {a0 : Dv} {m : Mm} : m_Condition_parts [a0] m = (b_Condition_parts [.val a0] m).fin := rfl
/-! ### Condition.period: self -/
def b_Condition_period : MS := (mRet (mFld "Condition" "own_period" (mVar 0)))
theorem b_Condition_period_e {ρ : Sl} {m : Mm} : b_Condition_period ρ m = (mRet (mFld "Condition" "own_period" (mVar 0))) ρ m := rfl
def m_Condition_period : MF := mDef 1 b_Condition_period
theorem u_Condition_period {a0 : Dv} {m : Mm} : m_Condition_period [a0] m = (b_Condition_period [.val a0] m).fin := rfl
/-! ### Condition.text: self -/
def b_Condition_text : MS := (mRet (mFld "Condition" "own_text" (mVar 0)))
theorem b_Condition_text_e {ρ : Sl} {m : Mm} : b_Condition_text ρ m = (mRet (mFld "Condition" "own_text" (mVar 0))) ρ m := rfl
def m_Condition_text : MF := mDef 1 b_Condition_text
theorem u_Condition_text {a0 : Dv} {m : Mm} : m_Condition_text [a0] m = (b_Condition_text [.val a0] m).fin := rfl
/-! ### Condition.tree: self -/
def b_Condition_tree : MS := (mRet (mFld "Condition" "own_tree" (mVar 0)))
theorem b_Condition_tree_e {ρ : Sl} {m : Mm} : b_Condition_tree ρ m = (mRet (mFld "Condition" "own_tree" (mVar 0))) ρ m := rfl
def m_Condition_tree : MF := mDef 1 b_Condition_tree
theorem u_Condition_tree {a0 : Dv} {m : Mm} : m_Condition_tree [a0] m = (b_Condition_tree [.val a0] m).fin := rfl
/-! ### law: _law_script, _law_bag, _law_turn, _law_tree_here, _law_late, _law_shown, _law_made, _law_found, _law_same, _law_told -/
def sx1_law : MS := (mIfS (mNot (mTru (mCall 2 m_l_like (mCons (mVar 9) (mCons (mFrz (mLst (mCons (mC (.bl true)) (mCons (mVar 8) (mCons (mNotV (mVar 8)) (mCons (mC (.bl false)) mNil)))))) mNil))))) (mRet (mC (.bl false))) mNext)
theorem sx1_law_e {ρ : Sl} {m : Mm} : sx1_law ρ m = (mIfS (mNot (mTru (mCall 2 m_l_like (mCons (mVar 9) (mCons (mFrz (mLst (mCons (mC (.bl true)) (mCons (mVar 8) (mCons (mNotV (mVar 8)) (mCons (mC (.bl false)) mNil)))))) mNil))))) (mRet (mC (.bl false))) mNext) ρ m := rfl
def sx2_law : MS := (mSeq (mAsg (mFrz (mLst (mCons (mBin (gEqO "Condition" m_Condition_DeqD) (mVar 6) (mFrz (mMake "Condition" 2 m_Condition_DinitD_1_text (mArgs 0 1 mNil (mCons (mVar 5) mNil))))) (mCons (mBin (gEqO "Condition" m_Condition_DeqD) (mVar 6) (mFrz (mMake "Condition" 2 m_Condition_DinitD (mCons (mCall 1 m_l_text (mCons (mVar 4) mNil)) mNil)))) (mCons (mBin (gNeO "Condition" m_Condition_DeqD) (mVar 6) (mFrz (mMake "Condition" 2 m_Condition_DinitD (mCons (mCall 1 m_l_text (mCons (mVar 4) mNil)) mNil)))) (mCons (mBin (gEqO "Condition" m_Condition_DeqD) (mVar 6) (mVar 5)) mNil)))))) (mGn 9)) sx1_law)
theorem sx2_law_e {ρ : Sl} {m : Mm} : sx2_law ρ m = (mSeq (mAsg (mFrz (mLst (mCons (mBin (gEqO "Condition" m_Condition_DeqD) (mVar 6) (mFrz (mMake "Condition" 2 m_Condition_DinitD_1_text (mArgs 0 1 mNil (mCons (mVar 5) mNil))))) (mCons (mBin (gEqO "Condition" m_Condition_DeqD) (mVar 6) (mFrz (mMake "Condition" 2 m_Condition_DinitD (mCons (mCall 1 m_l_text (mCons (mVar 4) mNil)) mNil)))) (mCons (mBin (gNeO "Condition" m_Condition_DeqD) (mVar 6) (mFrz (mMake "Condition" 2 m_Condition_DinitD (mCons (mCall 1 m_l_text (mCons (mVar 4) mNil)) mNil)))) (mCons (mBin (gEqO "Condition" m_Condition_DeqD) (mVar 6) (mVar 5)) mNil)))))) (mGn 9)) sx1_law) ρ m := rfl
def sx3_law : MS := (mSeq (mAsg (mBin gEq (mCall 1 m_l_text (mCons (mVar 4) mNil)) (mVar 5)) (mGn 8)) sx2_law)
theorem sx3_law_e {ρ : Sl} {m : Mm} : sx3_law ρ m = (mSeq (mAsg (mBin gEq (mCall 1 m_l_text (mCons (mVar 4) mNil)) (mVar 5)) (mGn 8)) sx2_law) ρ m := rfl
def sx4_law : MS := (mSeq (mIfS (mNot (mTru (mCall 2 m_l_like (mCons (mVar 7) (mCons (mFrz (mLst (mCons (mVar 5) (mCons (mVar 3) (mCons (mCall 1 m_l_parts (mCons (mVar 3) mNil)) (mCons (mCall 1 m_l_period (mCons (mVar 3) mNil)) (mCons (mBin gAdd (mBin gAdd (mC (.str "Condition(")) (mVar 5)) (mC (.str ")"))) mNil))))))) mNil))))) (mRet (mC (.bl false))) mNext) sx3_law)
theorem sx4_law_e {ρ : Sl} {m : Mm} : sx4_law ρ m = (mSeq (mIfS (mNot (mTru (mCall 2 m_l_like (mCons (mVar 7) (mCons (mFrz (mLst (mCons (mVar 5) (mCons (mVar 3) (mCons (mCall 1 m_l_parts (mCons (mVar 3) mNil)) (mCons (mCall 1 m_l_period (mCons (mVar 3) mNil)) (mCons (mBin gAdd (mBin gAdd (mC (.str "Condition(")) (mVar 5)) (mC (.str ")"))) mNil))))))) mNil))))) (mRet (mC (.bl false))) mNext) sx3_law) ρ m := rfl
def sx5_law : MS := (mSeq (mAsg (mFrz (mLst (mCons (mProp "Condition" m_Condition_text (mVar 6)) (mCons (mProp "Condition" m_Condition_tree (mVar 6)) (mCons (mProp "Condition" m_Condition_parts (mVar 6)) (mCons (mProp "Condition" m_Condition_period (mVar 6)) (mCons (mUn (gRepr "Condition" m_Condition_DreprD) (mVar 6)) mNil))))))) (mGn 7)) sx4_law)
theorem sx5_law_e {ρ : Sl} {m : Mm} : sx5_law ρ m = (mSeq (mAsg (mFrz (mLst (mCons (mProp "Condition" m_Condition_text (mVar 6)) (mCons (mProp "Condition" m_Condition_tree (mVar 6)) (mCons (mProp "Condition" m_Condition_parts (mVar 6)) (mCons (mProp "Condition" m_Condition_period (mVar 6)) (mCons (mUn (gRepr "Condition" m_Condition_DreprD) (mVar 6)) mNil))))))) (mGn 7)) sx4_law) ρ m := rfl
def sx6_law : MS := (mSeq (mAsg (mFrz (mMake "Condition" 2 m_Condition_DinitD (mCons (mVar 5) mNil))) (mGn 6)) sx5_law)
theorem sx6_law_e {ρ : Sl} {m : Mm} : sx6_law ρ m = (mSeq (mAsg (mFrz (mMake "Condition" 2 m_Condition_DinitD (mCons (mVar 5) mNil))) (mGn 6)) sx5_law) ρ m := rfl
def sx7_law : MS := (mSeq (mAsg (mCall 1 m_l_text (mCons (mVar 3) mNil)) (mGn 5)) sx6_law)
theorem sx7_law_e {ρ : Sl} {m : Mm} : sx7_law ρ m = (mSeq (mAsg (mCall 1 m_l_text (mCons (mVar 3) mNil)) (mGn 5)) sx6_law) ρ m := rfl
def sx8_law : MS := (mSeq (mAsg (mCall 4 m_l_tree (mCons (mVar 1) (mCons (mC (.int 2)) (mCons (mC (.int 3)) (mCons (mFrz (mLst (mCons (mC (.int 2)) (mCons (mC (.int 3)) mNil)))) mNil))))) (mGn 4)) sx7_law)
theorem sx8_law_e {ρ : Sl} {m : Mm} : sx8_law ρ m = (mSeq (mAsg (mCall 4 m_l_tree (mCons (mVar 1) (mCons (mC (.int 2)) (mCons (mC (.int 3)) (mCons (mFrz (mLst (mCons (mC (.int 2)) (mCons (mC (.int 3)) mNil)))) mNil))))) (mGn 4)) sx7_law) ρ m := rfl
def lp1_law : MS := (mSeq (mAsg (mCall 4 m_l_tree (mCons (mVar 1) (mCons (mBin gAdd (mC (.int 1)) (mCall 2 m_l_pull (mCons (mVar 1) (mCons (mC (.int 8)) mNil)))) (mCons (mC (.int 59)) (mCons (mFrz (mLst (mCons (mC (.int 2)) (mCons (mC (.int 3)) (mCons (mC (.int 4)) (mCons (mC (.int 5)) (mCons (mC (.int 6)) (mCons (mC (.int 7)) mNil)))))))) mNil))))) (mGn 3)) sx8_law)
theorem lp1_law_e {ρ : Sl} {m : Mm} : lp1_law ρ m = (mSeq (mAsg (mCall 4 m_l_tree (mCons (mVar 1) (mCons (mBin gAdd (mC (.int 1)) (mCall 2 m_l_pull (mCons (mVar 1) (mCons (mC (.int 8)) mNil)))) (mCons (mC (.int 59)) (mCons (mFrz (mLst (mCons (mC (.int 2)) (mCons (mC (.int 3)) (mCons (mC (.int 4)) (mCons (mC (.int 5)) (mCons (mC (.int 6)) (mCons (mC (.int 7)) mNil)))))))) mNil))))) (mGn 3)) sx8_law) ρ m := rfl
def sx9_law : MS := (mRet (mCall 2 m_l_like (mCons (mFrz (mLst (mCons (mC (.int 8)) (mCons (mProp "Condition" m_Condition_tree (mFrz (mMake "Condition" 2 m_Condition_DinitD (mCons (mC (.str "newest 20")) mNil)))) mNil)))) (mCons (mFrz (mLst (mCons (mC (.int 8)) (mCons (mTup (mCons (mC (.str "newest")) (mCons (mC (.int 20)) mNil))) mNil)))) mNil))))
theorem sx9_law_e {ρ : Sl} {m : Mm} : sx9_law ρ m = (mRet (mCall 2 m_l_like (mCons (mFrz (mLst (mCons (mC (.int 8)) (mCons (mProp "Condition" m_Condition_tree (mFrz (mMake "Condition" 2 m_Condition_DinitD (mCons (mC (.str "newest 20")) mNil)))) mNil)))) (mCons (mFrz (mLst (mCons (mC (.int 8)) (mCons (mTup (mCons (mC (.str "newest")) (mCons (mC (.int 20)) mNil))) mNil)))) mNil)))) ρ m := rfl
def sx10_law : MS := (mSeq (mFor (mRng1 (mCons (mC (.int 5)) mNil)) (mGn 2) lp1_law) sx9_law)
theorem sx10_law_e {ρ : Sl} {m : Mm} : sx10_law ρ m = (mSeq (mFor (mRng1 (mCons (mC (.int 5)) mNil)) (mGn 2) lp1_law) sx9_law) ρ m := rfl
def b_law : MS := (mSeq (mAsg (mCall 1 m_l_opened (mCons (mVar 0) mNil)) (mGn 1)) sx10_law)
theorem b_law_e {ρ : Sl} {m : Mm} : b_law ρ m = (mSeq (mAsg (mCall 1 m_l_opened (mCons (mVar 0) mNil)) (mGn 1)) sx10_law) ρ m := rfl
def m_law : MF := mDef 10 b_law
theorem u_law {a0 : Dv} {m : Mm} : m_law [a0] m = (b_law [.val a0, .un, .un, .un, .un, .un, .un, .un, .un, .un] m).fin := rfl
end G

set_option Elab.async false
set_option linter.all false
set_option autoImplicit false
set_option maxRecDepth 100000
set_option maxHeartbeats 4000000
namespace G
open PySem L2 M3 PySem.Spec PyProof.Rows
def top (i : Nat) : Stmt := PySem.Challenge.pw_copyweather_k02_conditions_told.main.body.getD i (.Pass ⟨0, 0, 0, 0⟩)
/-! ### _law_like -/
abbrev s_l_like : Stmt := (top 29)
theorem sc_l_like : FnScope ["_law_found", "_law_due", "_law_k"] ["_law_found", "_law_due"] (defScope s_l_like) := ⟨rfl, rfl, rfl, by decide +kernel, rfl, by decide +kernel, by decide +kernel⟩
structure T_l_like (S : Sg) (kself : Nat) (mself : MF) : Prop where
  tr : True
  F_l_like : GF S "_law_like" 2 [] kself mself
  z_all : S.mg "all" = none
  z_bool : S.mg "bool" = none
  z_int : S.mg "int" = none
  z_isinstance : S.mg "isinstance" = none
  z_len : S.mg "len" = none
  z_list : S.mg "list" = none
  z_range : S.mg "range" = none
  z_str : S.mg "str" = none
  z_tuple : S.mg "tuple" = none
theorem w_l_like {X : Cx} {E : WX} {kself : Nat} {mself : MF} (hrs : Room kself X.A) (h0 : Nm X ["_law_found", "_law_due", "_law_k"] (defScope s_l_like) (defScope s_l_like)) (tk : Takes X E) (hp : PassesOwn (model X.prog X.w) X.A X.env X.xe) (hr : Room 0 X.A) (T : T_l_like (sg X) kself mself) : PSsx X E (defBody s_l_like) (b_l_like mself) := by
  have hu1 := hu1_of hr
  have hu64 := hu64_of hr
  have hu65 := hu65_of hr
  exact (s_cons (s_if (b_w (bw_or (b_cmp op_isN opS_isN (x_var (h0.ix rfl) (h0.vis (by decide +kernel))) x_non (by rfl)) (bw_one (b_cmp op_isN opS_isN (x_var (h0.ix rfl) (h0.vis (by decide +kernel))) x_non (by rfl))))) (s_one (s_ret (x_and (x_cmp op_isN opS_isN (x_var (h0.ix rfl) (h0.vis (by decide +kernel))) x_non (by rfl)) (x_one (x_cmp op_isN opS_isN (x_var (h0.ix rfl) (h0.vis (by decide +kernel))) x_non (by rfl)))))) s_nil) (s_cons (s_if (b_tru (x_callB call_isiU callS_isiM (h0.gl (by decide +kernel)) T.z_isinstance bt_isinstance (xs_cons (x_var (h0.ix rfl) (h0.vis (by decide +kernel))) (xs_cons (x_tup (xs_cons (x_ty (h0.gl (by decide +kernel)) T.z_list bt_list) (xs_cons (x_ty (h0.gl (by decide +kernel)) T.z_tuple bt_tuple) xs_nil rfl) rfl)) xs_nil rfl) rfl)) (fun _ => rfl)) (s_cons (s_if (b_w (bw_or (b_cmp (OpR.or op_ne (op_neD (by exact hu64))) opS_ne (x_callB call_isiU callS_isiM (h0.gl (by decide +kernel)) T.z_isinstance bt_isinstance (xs_cons (x_var (h0.ix rfl) (h0.vis (by decide +kernel))) (xs_cons (x_ty (h0.gl (by decide +kernel)) T.z_list bt_list) xs_nil rfl) rfl)) (x_callB call_isiU callS_isiM (h0.gl (by decide +kernel)) T.z_isinstance bt_isinstance (xs_cons (x_var (h0.ix rfl) (h0.vis (by decide +kernel))) (xs_cons (x_ty (h0.gl (by decide +kernel)) T.z_list bt_list) xs_nil rfl) rfl)) (by rfl)) (bw_one (b_cmp (OpR.or op_ne (op_neD (by exact hu64))) opS_ne (x_callB call_isiU callS_isiM (h0.gl (by decide +kernel)) T.z_isinstance bt_isinstance (xs_cons (x_var (h0.ix rfl) (h0.vis (by decide +kernel))) (xs_cons (x_ty (h0.gl (by decide +kernel)) T.z_tuple bt_tuple) xs_nil rfl) rfl)) (x_callB call_isiU callS_isiM (h0.gl (by decide +kernel)) T.z_isinstance bt_isinstance (xs_cons (x_var (h0.ix rfl) (h0.vis (by decide +kernel))) (xs_cons (x_ty (h0.gl (by decide +kernel)) T.z_tuple bt_tuple) xs_nil rfl) rfl)) (by rfl))))) (s_one (s_ret x_bl)) s_nil) (s_one (s_ret (x_and (x_cmp (OpR.or op_eq (op_eqD (by exact hu64))) opS_eq (x_B1 call_len unS_len (h0.gl (by decide +kernel)) T.z_len bt_len (x_var (h0.ix rfl) (h0.vis (by decide +kernel)))) (x_B1 call_len unS_len (h0.gl (by decide +kernel)) T.z_len bt_len (x_var (h0.ix rfl) (h0.vis (by decide +kernel)))) (by rfl)) (x_one (x_B1 (cr_all h0.calm) unS_all (h0.gl (by decide +kernel)) T.z_all bt_all (x_frz (n_lc (own := [("_law_k", 2)]) h0.calm h0.ndX (i_range1 (h0.gl (by decide +kernel)) T.z_range (xs_cons (x_B1 call_len unS_len (h0.gl (by decide +kernel)) T.z_len bt_len (x_var (h0.ix rfl) (h0.vis (by decide +kernel)))) xs_nil rfl)) (h0.ok (by decide +kernel)) (by decide) (fun s1 H1 C1 l1 f1 => (g_name (h0.blk s1 H1 C1 l1 f1).ndX ((h0.blk s1 H1 C1 l1 f1).ix rfl) ((h0.blk s1 H1 C1 l1 f1).lo (by decide +kernel)) ((h0.blk s1 H1 C1 l1 f1).fl (by decide +kernel)))) (fun s1 H1 C1 l1 f1 => bs_nil) (fun s1 H1 C1 l1 f1 => (y_fn T.F_l_like hrs tk_blk ((h0.blk s1 H1 C1 l1 f1).gl (by decide +kernel)) (xs_cons (x_ix (ix_U (by exact hu1)) opS_ix (x_var ((h0.blk s1 H1 C1 l1 f1).ix rfl) ((h0.blk s1 H1 C1 l1 f1).vis (by decide +kernel))) (x_var ((h0.blk s1 H1 C1 l1 f1).ix rfl) ((h0.blk s1 H1 C1 l1 f1).vis (by decide +kernel))) (fun _ _ => rfl)) (xs_cons (x_ix (ix_U (by exact hu1)) opS_ix (x_var ((h0.blk s1 H1 C1 l1 f1).ix rfl) ((h0.blk s1 H1 C1 l1 f1).vis (by decide +kernel))) (x_var ((h0.blk s1 H1 C1 l1 f1).ix rfl) ((h0.blk s1 H1 C1 l1 f1).vis (by decide +kernel))) (fun _ _ => rfl)) xs_nil rfl) rfl) (argsOk1 rfl rfl rfl rfl) (fun h => nomatch h))))))))))) s_nil) (s_cons (s_if (b_w (bw_or (b_cmp (OpR.or op_ne (op_neD (by exact hu64))) opS_ne (x_callB call_isiU callS_isiM (h0.gl (by decide +kernel)) T.z_isinstance bt_isinstance (xs_cons (x_var (h0.ix rfl) (h0.vis (by decide +kernel))) (xs_cons (x_ty (h0.gl (by decide +kernel)) T.z_bool bt_bool) xs_nil rfl) rfl)) (x_callB call_isiU callS_isiM (h0.gl (by decide +kernel)) T.z_isinstance bt_isinstance (xs_cons (x_var (h0.ix rfl) (h0.vis (by decide +kernel))) (xs_cons (x_ty (h0.gl (by decide +kernel)) T.z_bool bt_bool) xs_nil rfl) rfl)) (by rfl)) (bw_one (b_cmp (OpR.or op_ne (op_neD (by exact hu64))) opS_ne (x_callB call_isiU callS_isiM (h0.gl (by decide +kernel)) T.z_isinstance bt_isinstance (xs_cons (x_var (h0.ix rfl) (h0.vis (by decide +kernel))) (xs_cons (x_ty (h0.gl (by decide +kernel)) T.z_int bt_int) xs_nil rfl) rfl)) (x_callB call_isiU callS_isiM (h0.gl (by decide +kernel)) T.z_isinstance bt_isinstance (xs_cons (x_var (h0.ix rfl) (h0.vis (by decide +kernel))) (xs_cons (x_ty (h0.gl (by decide +kernel)) T.z_int bt_int) xs_nil rfl) rfl)) (by rfl))))) (s_one (s_ret x_bl)) s_nil) (s_one (s_ret (x_and (x_cmp (OpR.or op_eq (op_eqD (by exact hu64))) opS_eq (x_callB call_isiU callS_isiM (h0.gl (by decide +kernel)) T.z_isinstance bt_isinstance (xs_cons (x_var (h0.ix rfl) (h0.vis (by decide +kernel))) (xs_cons (x_ty (h0.gl (by decide +kernel)) T.z_str bt_str) xs_nil rfl) rfl)) (x_callB call_isiU callS_isiM (h0.gl (by decide +kernel)) T.z_isinstance bt_isinstance (xs_cons (x_var (h0.ix rfl) (h0.vis (by decide +kernel))) (xs_cons (x_ty (h0.gl (by decide +kernel)) T.z_str bt_str) xs_nil rfl) rfl)) (by rfl)) (x_one (x_cmp (OpR.or op_eq (op_eqD (by exact hu64))) opS_eq (x_var (h0.ix rfl) (h0.vis (by decide +kernel))) (x_var (h0.ix rfl) (h0.vis (by decide +kernel))) (by rfl)))))))))
/-! ### _law_opened -/
abbrev s_l_opened : Stmt := (top 26)
theorem sc_l_opened : FnScope ["_law_script"] ["_law_script"] (defScope s_l_opened) := ⟨rfl, rfl, rfl, by decide +kernel, rfl, by decide +kernel, by decide +kernel⟩
structure T_l_opened (S : Sg) : Prop where
  tr : True
  z_list : S.mg "list" = none
theorem w_l_opened {X : Cx} {E : WX} (h0 : Nm X ["_law_script"] (defScope s_l_opened) (defScope s_l_opened)) (tk : Takes X E) (hp : PassesOwn (model X.prog X.w) X.A X.env X.xe) (hr : Room 0 X.A) (T : T_l_opened (sg X)) : PSsx X E (defBody s_l_opened) (b_l_opened) := by
  have hu1 := hu1_of hr
  have hu64 := hu64_of hr
  have hu65 := hu65_of hr
  exact (s_one (s_ret (x_loc (n_lst (xs_cons (x_frz (n_T1 call_list_of unN_list (h0.gl (by decide +kernel)) T.z_list bt_list (x_sl (x_var (h0.ix rfl) (h0.vis (by decide +kernel))) o_none (o_some x_int)))) (xs_cons x_int (xs_cons x_int (xs_cons x_int (xs_cons x_int xs_nil rfl) rfl) rfl) rfl) rfl)))))
/-! ### _law_inner -/
abbrev s_l_inner : Stmt := (top 31)
theorem sc_l_inner : FnScope ["_law_tree_here"] ["_law_tree_here"] (defScope s_l_inner) := ⟨rfl, rfl, rfl, by decide +kernel, rfl, by decide +kernel, by decide +kernel⟩
structure T_l_inner (S : Sg) : Prop where
  tr : True
  z_list : S.mg "list" = none
theorem w_l_inner {X : Cx} {E : WX} (h0 : Nm X ["_law_tree_here"] (defScope s_l_inner) (defScope s_l_inner)) (tk : Takes X E) (hp : PassesOwn (model X.prog X.w) X.A X.env X.xe) (hr : Room 0 X.A) (T : T_l_inner (sg X)) : PSsx X E (defBody s_l_inner) (b_l_inner) := by
  have hu1 := hu1_of hr
  have hu64 := hu64_of hr
  have hu65 := hu65_of hr
  exact (s_cons (s_if (b_cmp (OpR.or op_eq (op_eqD (by exact hu64))) opS_eq (x_ix (ix_U (by exact hu1)) opS_ix (x_var (h0.ix rfl) (h0.vis (by decide +kernel))) x_int (fun _ _ => rfl)) x_str (by rfl)) (s_one (s_ret (x_frz (n_lst (xs_cons (x_ix (ix_U (by exact hu1)) opS_ix (x_var (h0.ix rfl) (h0.vis (by decide +kernel))) x_int (fun _ _ => rfl)) xs_nil rfl))))) s_nil) (s_one (s_ret (x_if (b_cmp (op_inU (by exact hu65)) opS_in (x_ix (ix_U (by exact hu1)) opS_ix (x_var (h0.ix rfl) (h0.vis (by decide +kernel))) x_int (fun _ _ => rfl)) (x_tup (xs_cons x_str (xs_cons x_str xs_nil rfl) rfl)) (by rfl)) (x_frz (n_T1 call_list_of unN_list (h0.gl (by decide +kernel)) T.z_list bt_list (x_ix (ix_U (by exact hu1)) opS_ix (x_var (h0.ix rfl) (h0.vis (by decide +kernel))) x_int (fun _ _ => rfl)))) (x_frz (n_lst xs_nil))))))
/-! ### _law_parts -/
abbrev s_l_parts : Stmt := (top 32)
theorem sc_l_parts : FnScope ["_law_tree_here", "_law_one"] ["_law_tree_here"] (defScope s_l_parts) := ⟨rfl, rfl, rfl, by decide +kernel, rfl, by decide +kernel, by decide +kernel⟩
structure T_l_parts (S : Sg) (kself : Nat) (mself : MF) : Prop where
  tr : True
  F_l_inner : GF S "_law_inner" 1 [] 1 m_l_inner
  F_l_parts : GF S "_law_parts" 1 [] kself mself
  z_sum : S.mg "sum" = none
theorem w_l_parts {X : Cx} {E : WX} {kself : Nat} {mself : MF} (hrs : Room kself X.A) (h0 : Nm X ["_law_tree_here", "_law_one"] (defScope s_l_parts) (defScope s_l_parts)) (tk : Takes X E) (hp : PassesOwn (model X.prog X.w) X.A X.env X.xe) (hr : Room 1 X.A) (T : T_l_parts (sg X) kself mself) : PSsx X E (defBody s_l_parts) (b_l_parts mself) := by
  have hu1 := hu1_of hr
  have hu64 := hu64_of hr
  have hu65 := hu65_of hr
  exact (s_one (s_ret (x_bin op_addU opS_add x_int (x_B1 (cr_sum h0.calm) unS_sum (h0.gl (by decide +kernel)) T.z_sum bt_sum (x_frz (n_lc (own := [("_law_one", 1)]) h0.calm h0.ndX (i_any (y_fn T.F_l_inner (hr.mono (by decide)) tk (h0.gl (by decide +kernel)) (xs_cons (x_var (h0.ix rfl) (h0.vis (by decide +kernel))) xs_nil rfl) (argsOk1 rfl rfl rfl rfl) (fun h => nomatch h))) (h0.ok (by decide +kernel)) (by decide) (fun s1 H1 C1 l1 f1 => (g_name (h0.blk s1 H1 C1 l1 f1).ndX ((h0.blk s1 H1 C1 l1 f1).ix rfl) ((h0.blk s1 H1 C1 l1 f1).lo (by decide +kernel)) ((h0.blk s1 H1 C1 l1 f1).fl (by decide +kernel)))) (fun s1 H1 C1 l1 f1 => bs_nil) (fun s1 H1 C1 l1 f1 => (y_fn T.F_l_parts hrs tk_blk ((h0.blk s1 H1 C1 l1 f1).gl (by decide +kernel)) (xs_cons (x_var ((h0.blk s1 H1 C1 l1 f1).ix rfl) ((h0.blk s1 H1 C1 l1 f1).vis (by decide +kernel))) xs_nil rfl) (argsOk1 rfl rfl rfl rfl) (fun h => nomatch h)))))))))
/-! ### _law_shared -/
abbrev s_l_shared : Stmt := (top 35)
theorem sc_l_shared : FnScope ["_law_one", "_law_other", "_law_found"] ["_law_one", "_law_other"] (defScope s_l_shared) := ⟨rfl, rfl, rfl, by decide +kernel, rfl, by decide +kernel, by decide +kernel⟩
structure T_l_shared (S : Sg) : Prop where
  tr : True
  z_int : S.mg "int" = none
theorem w_l_shared {X : Cx} {E : WX} (h0 : Nm X ["_law_one", "_law_other", "_law_found"] (defScope s_l_shared) (defScope s_l_shared)) (tk : Takes X E) (hp : PassesOwn (model X.prog X.w) X.A X.env X.xe) (hr : Room 0 X.A) (T : T_l_shared (sg X)) : PSsx X E (defBody s_l_shared) (b_l_shared) := by
  have hu1 := hu1_of hr
  have hu64 := hu64_of hr
  have hu65 := hu65_of hr
  exact (s_cons (s_set h0.ndX (h0.ix rfl) (h0.lo (by decide +kernel)) (h0.fl (by decide +kernel)) (x_var (h0.ix rfl) (h0.vis (by decide +kernel)))) (s_cons (s_whileN 1000000 hp (b_cmp (OpR.or op_ne (op_neD (by exact hu64))) opS_ne (x_bin op_mod (opS_I fun _ _ => rfl) (x_T1 call_int1U unS_int1 (h0.gl (by decide +kernel)) T.z_int bt_int (x_var (h0.ix rfl) (h0.vis (by decide +kernel)))) (x_var (h0.ix rfl) (h0.vis (by decide +kernel)))) x_int (by rfl)) (s_one (s_set h0.ndX (h0.ix rfl) (h0.lo (by decide +kernel)) (h0.fl (by decide +kernel)) (x_bin op_addU opS_add (x_var (h0.ix rfl) (h0.vis (by decide +kernel))) (x_var (h0.ix rfl) (h0.vis (by decide +kernel))))))) (s_one (s_ret (x_var (h0.ix rfl) (h0.vis (by decide +kernel)))))))
/-! ### _law_period -/
abbrev s_l_period : Stmt := (top 36)
theorem sc_l_period : FnScope ["_law_tree_here", "_law_found", "_law_one"] ["_law_tree_here"] (defScope s_l_period) := ⟨rfl, rfl, rfl, by decide +kernel, rfl, by decide +kernel, by decide +kernel⟩
structure T_l_period (S : Sg) (kself : Nat) (mself : MF) : Prop where
  tr : True
  F_l_inner : GF S "_law_inner" 1 [] 1 m_l_inner
  F_l_period : GF S "_law_period" 1 [] kself mself
  F_l_shared : GF S "_law_shared" 2 [] 1 m_l_shared
theorem w_l_period {X : Cx} {E : WX} {kself : Nat} {mself : MF} (hrs : Room kself X.A) (h0 : Nm X ["_law_tree_here", "_law_found", "_law_one"] (defScope s_l_period) (defScope s_l_period)) (tk : Takes X E) (hp : PassesOwn (model X.prog X.w) X.A X.env X.xe) (hr : Room 1 X.A) (T : T_l_period (sg X) kself mself) : PSsx X E (defBody s_l_period) (b_l_period mself) := by
  have hu1 := hu1_of hr
  have hu64 := hu64_of hr
  have hu65 := hu65_of hr
  exact (s_cons (s_set h0.ndX (h0.ix rfl) (h0.lo (by decide +kernel)) (h0.fl (by decide +kernel)) (x_if (b_cmp (op_inU (by exact hu65)) opS_in (x_ix (ix_U (by exact hu1)) opS_ix (x_var (h0.ix rfl) (h0.vis (by decide +kernel))) x_int (fun _ _ => rfl)) (x_tup (xs_cons x_str (xs_cons x_str (xs_cons x_str xs_nil rfl) rfl) rfl)) (by rfl)) (x_ix (ix_U (by exact hu1)) opS_ix (x_var (h0.ix rfl) (h0.vis (by decide +kernel))) x_int (fun _ _ => rfl)) x_int)) (s_cons (s_for hp h0.calm (i_any (y_fn T.F_l_inner (hr.mono (by decide)) tk (h0.gl (by decide +kernel)) (xs_cons (x_var (h0.ix rfl) (h0.vis (by decide +kernel))) xs_nil rfl) (argsOk1 rfl rfl rfl rfl) (fun h => nomatch h))) (g_name h0.ndX (h0.ix rfl) (h0.lo (by decide +kernel)) (h0.fl (by decide +kernel))) (s_one (s_set h0.ndX (h0.ix rfl) (h0.lo (by decide +kernel)) (h0.fl (by decide +kernel)) (y_fn T.F_l_shared (hr.mono (by decide)) tk (h0.gl (by decide +kernel)) (xs_cons (x_var (h0.ix rfl) (h0.vis (by decide +kernel))) (xs_cons (y_fn T.F_l_period hrs tk (h0.gl (by decide +kernel)) (xs_cons (x_var (h0.ix rfl) (h0.vis (by decide +kernel))) xs_nil rfl) (argsOk1 rfl rfl rfl rfl) (fun h => nomatch h)) xs_nil rfl) rfl) (argsOk1 rfl rfl rfl rfl) (fun h => nomatch h))))) (s_one (s_ret (x_var (h0.ix rfl) (h0.vis (by decide +kernel)))))))
/-! ### _law_pull -/
abbrev s_l_pull : Stmt := (top 27)
theorem sc_l_pull : FnScope ["_law_bag", "_law_many", "_law_cell", "_law_digit", "_law_seed"] ["_law_bag", "_law_many"] (defScope s_l_pull) := ⟨rfl, rfl, rfl, by decide +kernel, rfl, by decide +kernel, by decide +kernel⟩
structure T_l_pull (S : Sg) : Prop where
  tr : True
  z_int : S.mg "int" = none
  z_len : S.mg "len" = none
theorem w_l_pull {X : Cx} {E : WX} (h0 : Nm X ["_law_bag", "_law_many", "_law_cell", "_law_digit", "_law_seed"] (defScope s_l_pull) (defScope s_l_pull)) (tk : Takes X E) (hp : PassesOwn (model X.prog X.w) X.A X.env X.xe) (hr : Room 0 X.A) (T : T_l_pull (sg X)) : PSsx X E (defBody s_l_pull) (b_l_pull) := by
  have hu1 := hu1_of hr
  have hu64 := hu64_of hr
  have hu65 := hu65_of hr
  exact (s_cons (s_if (b_w (bw_and (b_cmp (OpR.or op_eq (op_eqD (by exact hu64))) opS_eq (x_ix (ix_U (by exact hu1)) opS_ix (x_var (h0.ix rfl) (h0.vis (by decide +kernel))) x_int (fun _ _ => rfl)) x_int (by rfl)) (bw_one (b_cmp op_lt (opS_I0 fun _ _ => rfl) (x_ix (ix_U (by exact hu1)) opS_ix (x_var (h0.ix rfl) (h0.vis (by decide +kernel))) x_int (fun _ _ => rfl)) (x_B1 call_len unS_len (h0.gl (by decide +kernel)) T.z_len bt_len (x_ix (ix_U (by exact hu1)) opS_ix (x_var (h0.ix rfl) (h0.vis (by decide +kernel))) x_int (fun _ _ => rfl))) (by rfl))))) (s_cons (s_set h0.ndX (h0.ix rfl) (h0.lo (by decide +kernel)) (h0.fl (by decide +kernel)) (x_ix (ix_U (by exact hu1)) opS_ix (x_ix (ix_U (by exact hu1)) opS_ix (x_var (h0.ix rfl) (h0.vis (by decide +kernel))) x_int (fun _ _ => rfl)) (x_ix (ix_U (by exact hu1)) opS_ix (x_var (h0.ix rfl) (h0.vis (by decide +kernel))) x_int (fun _ _ => rfl)) (fun _ _ => rfl))) (s_cons (s_setix hu1 (x_bin op_addU opS_add (x_ix (ix_U (by exact hu1)) opS_ix (x_var (h0.ix rfl) (h0.vis (by decide +kernel))) x_int (fun _ _ => rfl)) x_int) (x_var (h0.ix rfl) (h0.vis (by decide +kernel))) x_int) (s_one (s_if (b_cmp op_ge (opS_I0 fun _ _ => rfl) (x_var (h0.ix rfl) (h0.vis (by decide +kernel))) (x_bin op_pow (opS_I fun _ _ => rfl) x_int x_int) (by rfl)) (s_one (s_setix hu1 (x_var (h0.ix rfl) (h0.vis (by decide +kernel))) (x_var (h0.ix rfl) (h0.vis (by decide +kernel))) x_int)) (s_one (s_setix hu1 (x_bin op_mod (opS_I fun _ _ => rfl) (x_T1 call_int1U unS_int1 (h0.gl (by decide +kernel)) T.z_int bt_int (x_bin op_addU opS_add (x_bin op_addU opS_add (x_bin (OpR.or op_mulX op_rep) opS_mul (x_ix (ix_U (by exact hu1)) opS_ix (x_var (h0.ix rfl) (h0.vis (by decide +kernel))) x_int (fun _ _ => rfl)) x_int) (x_bin (OpR.or op_mulX op_rep) opS_mul (x_bin op_mod (opS_I fun _ _ => rfl) (x_T1 call_int1U unS_int1 (h0.gl (by decide +kernel)) T.z_int bt_int (x_var (h0.ix rfl) (h0.vis (by decide +kernel)))) x_int) x_int)) x_int)) x_int) (x_var (h0.ix rfl) (h0.vis (by decide +kernel))) x_int)))))) s_nil) (s_cons (s_if (b_cmp op_gt (opS_I0 fun _ _ => rfl) (x_ix (ix_U (by exact hu1)) opS_ix (x_var (h0.ix rfl) (h0.vis (by decide +kernel))) x_int (fun _ _ => rfl)) x_int (by rfl)) (s_cons (s_set h0.ndX (h0.ix rfl) (h0.lo (by decide +kernel)) (h0.fl (by decide +kernel)) (x_bin op_mod (opS_I fun _ _ => rfl) (x_T1 call_int1U unS_int1 (h0.gl (by decide +kernel)) T.z_int bt_int (x_ix (ix_U (by exact hu1)) opS_ix (x_var (h0.ix rfl) (h0.vis (by decide +kernel))) x_int (fun _ _ => rfl))) (x_var (h0.ix rfl) (h0.vis (by decide +kernel))))) (s_cons (s_setix hu1 (x_bin op_fdivW (opS_I fun _ _ => rfl) (x_ix (ix_U (by exact hu1)) opS_ix (x_var (h0.ix rfl) (h0.vis (by decide +kernel))) x_int (fun _ _ => rfl)) (x_var (h0.ix rfl) (h0.vis (by decide +kernel)))) (x_var (h0.ix rfl) (h0.vis (by decide +kernel))) x_int) (s_one (s_ret (x_var (h0.ix rfl) (h0.vis (by decide +kernel))))))) s_nil) (s_cons (s_setix hu1 (x_bin op_addU opS_add (x_ix (ix_U (by exact hu1)) opS_ix (x_var (h0.ix rfl) (h0.vis (by decide +kernel))) x_int (fun _ _ => rfl)) x_int) (x_var (h0.ix rfl) (h0.vis (by decide +kernel))) x_int) (s_cons (s_set h0.ndX (h0.ix rfl) (h0.lo (by decide +kernel)) (h0.fl (by decide +kernel)) (x_ix (ix_U (by exact hu1)) opS_ix (x_var (h0.ix rfl) (h0.vis (by decide +kernel))) x_int (fun _ _ => rfl))) (s_cons (s_setix hu1 (x_bin op_mod (opS_I fun _ _ => rfl) (x_T1 call_int1U unS_int1 (h0.gl (by decide +kernel)) T.z_int bt_int (x_bin op_addU opS_add (x_bin op_addU opS_add (x_bin op_addU opS_add (x_bin (OpR.or op_mulX op_rep) opS_mul (x_var (h0.ix rfl) (h0.vis (by decide +kernel))) (x_var (h0.ix rfl) (h0.vis (by decide +kernel)))) (x_bin (OpR.or op_mulX op_rep) opS_mul (x_var (h0.ix rfl) (h0.vis (by decide +kernel))) x_int)) (x_bin (OpR.or op_mulX op_rep) opS_mul (x_ix (ix_U (by exact hu1)) opS_ix (x_var (h0.ix rfl) (h0.vis (by decide +kernel))) x_int (fun _ _ => rfl)) x_int)) x_int)) x_int) (x_var (h0.ix rfl) (h0.vis (by decide +kernel))) x_int) (s_one (s_ret (x_bin op_mod (opS_I fun _ _ => rfl) (x_T1 call_int1U unS_int1 (h0.gl (by decide +kernel)) T.z_int bt_int (x_bin op_addU opS_add (x_bin op_fdivW (opS_I fun _ _ => rfl) (x_ix (ix_U (by exact hu1)) opS_ix (x_var (h0.ix rfl) (h0.vis (by decide +kernel))) x_int (fun _ _ => rfl)) x_int) (x_bin (OpR.or op_mulX op_rep) opS_mul (x_bin op_mod (opS_I fun _ _ => rfl) (x_T1 call_int1U unS_int1 (h0.gl (by decide +kernel)) T.z_int bt_int (x_ix (ix_U (by exact hu1)) opS_ix (x_var (h0.ix rfl) (h0.vis (by decide +kernel))) x_int (fun _ _ => rfl))) x_int) x_int))) (x_var (h0.ix rfl) (h0.vis (by decide +kernel)))))))))))
/-! ### _law_text -/
abbrev s_l_text : Stmt := (top 34)
theorem sc_l_text : FnScope ["_law_tree_here", "_law_inner_here", "_law_part", "_law_one"] ["_law_tree_here"] (defScope s_l_text) := ⟨rfl, rfl, rfl, by decide +kernel, rfl, by decide +kernel, by decide +kernel⟩
structure T_l_text (S : Sg) (kself : Nat) (mself : MF) : Prop where
  tr : True
  F_l_inner : GF S "_law_inner" 1 [] 1 m_l_inner
  F_l_text : GF S "_law_text" 1 [] kself mself
  z_str : S.mg "str" = none
theorem w_l_text {X : Cx} {E : WX} {kself : Nat} {mself : MF} (hrs : Room kself X.A) (h0 : Nm X ["_law_tree_here", "_law_inner_here", "_law_part", "_law_one"] (defScope s_l_text) (defScope s_l_text)) (tk : Takes X E) (hp : PassesOwn (model X.prog X.w) X.A X.env X.xe) (hr : Room 1 X.A) (T : T_l_text (sg X) kself mself) : PSsx X E (defBody s_l_text) (b_l_text mself) := by
  have hu1 := hu1_of hr
  have hu64 := hu64_of hr
  have hu65 := hu65_of hr
  exact (s_cons (s_set h0.ndX (h0.ix rfl) (h0.lo (by decide +kernel)) (h0.fl (by decide +kernel)) (y_fn T.F_l_inner (hr.mono (by decide)) tk (h0.gl (by decide +kernel)) (xs_cons (x_var (h0.ix rfl) (h0.vis (by decide +kernel))) xs_nil rfl) (argsOk1 rfl rfl rfl rfl) (fun h => nomatch h))) (s_cons (s_if (b_cmp (OpR.or op_eq (op_eqD (by exact hu64))) opS_eq (x_var (h0.ix rfl) (h0.vis (by decide +kernel))) (x_frz (n_lst xs_nil)) (by rfl)) (s_one (s_ret (x_s1 PySem.F.slot_str_join PySem.F.type_str_join mt_join ss_join x_str (x_frz (n_lc (own := [("_law_part", 2)]) h0.calm h0.ndX (i_any (x_var (h0.ix rfl) (h0.vis (by decide +kernel)))) (h0.ok (by decide +kernel)) (by decide) (fun s1 H1 C1 l1 f1 => (g_name (h0.blk s1 H1 C1 l1 f1).ndX ((h0.blk s1 H1 C1 l1 f1).ix rfl) ((h0.blk s1 H1 C1 l1 f1).lo (by decide +kernel)) ((h0.blk s1 H1 C1 l1 f1).fl (by decide +kernel)))) (fun s1 H1 C1 l1 f1 => bs_nil) (fun s1 H1 C1 l1 f1 => (x_T1 call_str2 unS_str2 ((h0.blk s1 H1 C1 l1 f1).gl (by decide +kernel)) T.z_str bt_str (x_var ((h0.blk s1 H1 C1 l1 f1).ix rfl) ((h0.blk s1 H1 C1 l1 f1).vis (by decide +kernel)))))))))) s_nil) (s_one (s_ret (x_bin op_addU opS_add (x_bin op_addU opS_add (x_bin op_addU opS_add (x_ix (ix_U (by exact hu1)) opS_ix (x_var (h0.ix rfl) (h0.vis (by decide +kernel))) x_int (fun _ _ => rfl)) x_str) (x_s1 PySem.F.slot_str_join PySem.F.type_str_join mt_join ss_join x_str (x_frz (n_lc (own := [("_law_one", 3)]) h0.calm h0.ndX (i_any (x_var (h0.ix rfl) (h0.vis (by decide +kernel)))) (h0.ok (by decide +kernel)) (by decide) (fun s2 H2 C2 l2 f2 => (g_name (h0.blk s2 H2 C2 l2 f2).ndX ((h0.blk s2 H2 C2 l2 f2).ix rfl) ((h0.blk s2 H2 C2 l2 f2).lo (by decide +kernel)) ((h0.blk s2 H2 C2 l2 f2).fl (by decide +kernel)))) (fun s2 H2 C2 l2 f2 => bs_nil) (fun s2 H2 C2 l2 f2 => (y_fn T.F_l_text hrs tk_blk ((h0.blk s2 H2 C2 l2 f2).gl (by decide +kernel)) (xs_cons (x_var ((h0.blk s2 H2 C2 l2 f2).ix rfl) ((h0.blk s2 H2 C2 l2 f2).vis (by decide +kernel))) xs_nil rfl) (argsOk1 rfl rfl rfl rfl) (fun h => nomatch h))))))) x_str)))))
/-! ### _law_any -/
abbrev s_l_any : Stmt := (top 28)
theorem sc_l_any : FnScope ["_law_bag", "_law_things"] ["_law_bag", "_law_things"] (defScope s_l_any) := ⟨rfl, rfl, rfl, by decide +kernel, rfl, by decide +kernel, by decide +kernel⟩
structure T_l_any (S : Sg) : Prop where
  tr : True
  F_l_pull : GF S "_law_pull" 2 [] 1 m_l_pull
  z_len : S.mg "len" = none
theorem w_l_any {X : Cx} {E : WX} (h0 : Nm X ["_law_bag", "_law_things"] (defScope s_l_any) (defScope s_l_any)) (tk : Takes X E) (hp : PassesOwn (model X.prog X.w) X.A X.env X.xe) (hr : Room 1 X.A) (T : T_l_any (sg X)) : PSsx X E (defBody s_l_any) (b_l_any) := by
  have hu1 := hu1_of hr
  have hu64 := hu64_of hr
  have hu65 := hu65_of hr
  exact (s_one (s_ret (x_ix (ix_U (by exact hu1)) opS_ix (x_var (h0.ix rfl) (h0.vis (by decide +kernel))) (y_fn T.F_l_pull (hr.mono (by decide)) tk (h0.gl (by decide +kernel)) (xs_cons (x_var (h0.ix rfl) (h0.vis (by decide +kernel))) (xs_cons (x_B1 call_len unS_len (h0.gl (by decide +kernel)) T.z_len bt_len (x_var (h0.ix rfl) (h0.vis (by decide +kernel)))) xs_nil rfl) rfl) (argsOk1 rfl rfl rfl rfl) (fun h => nomatch h)) (fun _ _ => rfl))))
/-! ### _law_leaf -/
abbrev s_l_leaf : Stmt := (top 30)
theorem sc_l_leaf : FnScope ["_law_bag", "_law_high", "_law_periods", "_law_way", "_law_low", "_law_period_here"] ["_law_bag", "_law_high", "_law_periods"] (defScope s_l_leaf) := ⟨rfl, rfl, rfl, by decide +kernel, rfl, by decide +kernel, by decide +kernel⟩
structure T_l_leaf (S : Sg) : Prop where
  tr : True
  F_l_any : GF S "_law_any" 2 [] 2 m_l_any
  F_l_pull : GF S "_law_pull" 2 [] 1 m_l_pull
  z_min : S.mg "min" = none
theorem w_l_leaf {X : Cx} {E : WX} (h0 : Nm X ["_law_bag", "_law_high", "_law_periods", "_law_way", "_law_low", "_law_period_here"] (defScope s_l_leaf) (defScope s_l_leaf)) (tk : Takes X E) (hp : PassesOwn (model X.prog X.w) X.A X.env X.xe) (hr : Room 2 X.A) (T : T_l_leaf (sg X)) : PSsx X E (defBody s_l_leaf) (b_l_leaf) := by
  have hu1 := hu1_of hr
  have hu64 := hu64_of hr
  have hu65 := hu65_of hr
  exact (s_cons (s_set h0.ndX (h0.ix rfl) (h0.lo (by decide +kernel)) (h0.fl (by decide +kernel)) (y_fn T.F_l_pull (hr.mono (by decide)) tk (h0.gl (by decide +kernel)) (xs_cons (x_var (h0.ix rfl) (h0.vis (by decide +kernel))) (xs_cons x_int xs_nil rfl) rfl) (argsOk1 rfl rfl rfl rfl) (fun h => nomatch h))) (s_cons (s_if (b_cmp (OpR.or op_eq (op_eqD (by exact hu64))) opS_eq (x_var (h0.ix rfl) (h0.vis (by decide +kernel))) x_int (by rfl)) (s_cons (s_set h0.ndX (h0.ix rfl) (h0.lo (by decide +kernel)) (h0.fl (by decide +kernel)) (y_fn T.F_l_pull (hr.mono (by decide)) tk (h0.gl (by decide +kernel)) (xs_cons (x_var (h0.ix rfl) (h0.vis (by decide +kernel))) (xs_cons (x_bin op_addU opS_add (x_var (h0.ix rfl) (h0.vis (by decide +kernel))) x_int) xs_nil rfl) rfl) (argsOk1 rfl rfl rfl rfl) (fun h => nomatch h))) (s_one (s_ret (x_tup (xs_cons x_str (xs_cons (x_var (h0.ix rfl) (h0.vis (by decide +kernel))) (xs_cons (x_bin op_addU opS_add (x_var (h0.ix rfl) (h0.vis (by decide +kernel))) (y_fn T.F_l_pull (hr.mono (by decide)) tk (h0.gl (by decide +kernel)) (xs_cons (x_var (h0.ix rfl) (h0.vis (by decide +kernel))) (xs_cons (x_bin op_addU opS_add (x_bin op_sub (opS_I0 fun _ _ => rfl) (x_var (h0.ix rfl) (h0.vis (by decide +kernel))) (x_var (h0.ix rfl) (h0.vis (by decide +kernel)))) x_int) xs_nil rfl) rfl) (argsOk1 rfl rfl rfl rfl) (fun h => nomatch h))) xs_nil rfl) rfl) rfl))))) s_nil) (s_cons (s_if (b_cmp (OpR.or op_eq (op_eqD (by exact hu64))) opS_eq (x_var (h0.ix rfl) (h0.vis (by decide +kernel))) x_int (by rfl)) (s_cons (s_set h0.ndX (h0.ix rfl) (h0.lo (by decide +kernel)) (h0.fl (by decide +kernel)) (y_fn T.F_l_any (hr.mono (by decide)) tk (h0.gl (by decide +kernel)) (xs_cons (x_var (h0.ix rfl) (h0.vis (by decide +kernel))) (xs_cons (x_var (h0.ix rfl) (h0.vis (by decide +kernel))) xs_nil rfl) rfl) (argsOk1 rfl rfl rfl rfl) (fun h => nomatch h))) (s_one (s_ret (x_tup (xs_cons x_str (xs_cons (x_var (h0.ix rfl) (h0.vis (by decide +kernel))) (xs_cons (y_fn T.F_l_pull (hr.mono (by decide)) tk (h0.gl (by decide +kernel)) (xs_cons (x_var (h0.ix rfl) (h0.vis (by decide +kernel))) (xs_cons (x_var (h0.ix rfl) (h0.vis (by decide +kernel))) xs_nil rfl) rfl) (argsOk1 rfl rfl rfl rfl) (fun h => nomatch h)) xs_nil rfl) rfl) rfl))))) s_nil) (s_cons (s_if (b_cmp op_lt (opS_I0 fun _ _ => rfl) (x_var (h0.ix rfl) (h0.vis (by decide +kernel))) x_int (by rfl)) (s_one (s_ret (x_tup (xs_cons (x_ix (ix_U (by exact hu1)) opS_ix (x_frz (n_lst (xs_cons x_str (xs_cons x_str xs_nil rfl) rfl))) (x_bin op_sub (opS_I0 fun _ _ => rfl) (x_var (h0.ix rfl) (h0.vis (by decide +kernel))) x_int) (fun _ _ => rfl)) (xs_cons (x_bin op_addU opS_add x_int (y_fn T.F_l_pull (hr.mono (by decide)) tk (h0.gl (by decide +kernel)) (xs_cons (x_var (h0.ix rfl) (h0.vis (by decide +kernel))) (xs_cons (x_callB (call_min2 h0.calm) callS_min2 (h0.gl (by decide +kernel)) T.z_min bt_min (xs_cons x_int (xs_cons (x_bin op_addU opS_add (x_var (h0.ix rfl) (h0.vis (by decide +kernel))) x_int) xs_nil rfl) rfl)) xs_nil rfl) rfl) (argsOk1 rfl rfl rfl rfl) (fun h => nomatch h))) xs_nil rfl) rfl)))) s_nil) (s_cons (s_if (b_cmp op_lt (opS_I0 fun _ _ => rfl) (x_var (h0.ix rfl) (h0.vis (by decide +kernel))) x_int (by rfl)) (s_one (s_ret (x_tup (xs_cons (x_ix (ix_U (by exact hu1)) opS_ix (x_frz (n_lst (xs_cons x_str (xs_cons x_str xs_nil rfl) rfl))) (x_bin op_sub (opS_I0 fun _ _ => rfl) (x_var (h0.ix rfl) (h0.vis (by decide +kernel))) x_int) (fun _ _ => rfl)) (xs_cons (y_fn T.F_l_any (hr.mono (by decide)) tk (h0.gl (by decide +kernel)) (xs_cons (x_var (h0.ix rfl) (h0.vis (by decide +kernel))) (xs_cons (x_var (h0.ix rfl) (h0.vis (by decide +kernel))) xs_nil rfl) rfl) (argsOk1 rfl rfl rfl rfl) (fun h => nomatch h)) xs_nil rfl) rfl)))) s_nil) (s_one (s_ret (x_tup (xs_cons x_str (xs_cons (x_bin op_addU opS_add x_int (y_fn T.F_l_pull (hr.mono (by decide)) tk (h0.gl (by decide +kernel)) (xs_cons (x_var (h0.ix rfl) (h0.vis (by decide +kernel))) (xs_cons (x_callB (call_min2 h0.calm) callS_min2 (h0.gl (by decide +kernel)) T.z_min bt_min (xs_cons x_int (xs_cons (x_bin op_addU opS_add (x_var (h0.ix rfl) (h0.vis (by decide +kernel))) x_int) xs_nil rfl) rfl)) xs_nil rfl) rfl) (argsOk1 rfl rfl rfl rfl) (fun h => nomatch h))) xs_nil rfl) rfl)))))))))
/-! ### _law_tree -/
abbrev s_l_tree : Stmt := (top 33)
theorem sc_l_tree : FnScope ["_law_bag", "_law_room", "_law_high", "_law_periods", "_law_way", "_law_one", "_law_trees"] ["_law_bag", "_law_room", "_law_high", "_law_periods"] (defScope s_l_tree) := ⟨rfl, rfl, rfl, by decide +kernel, rfl, by decide +kernel, by decide +kernel⟩
structure T_l_tree (S : Sg) (kself : Nat) (mself : MF) : Prop where
  tr : True
  F_l_leaf : GF S "_law_leaf" 3 [] 3 m_l_leaf
  F_l_parts : GF S "_law_parts" 1 [] 14 m_l_parts
  F_l_pull : GF S "_law_pull" 2 [] 1 m_l_pull
  F_l_tree : GF S "_law_tree" 4 [] kself mself
  z_tuple : S.mg "tuple" = none
theorem w_l_tree {X : Cx} {E : WX} {kself : Nat} {mself : MF} (hrs : Room kself X.A) (h0 : Nm X ["_law_bag", "_law_room", "_law_high", "_law_periods", "_law_way", "_law_one", "_law_trees"] (defScope s_l_tree) (defScope s_l_tree)) (tk : Takes X E) (hp : PassesOwn (model X.prog X.w) X.A X.env X.xe) (hr : Room 14 X.A) (T : T_l_tree (sg X) kself mself) : PSsx X E (defBody s_l_tree) (b_l_tree mself) := by
  have hu1 := hu1_of hr
  have hu64 := hu64_of hr
  have hu65 := hu65_of hr
  exact (s_cons (s_set h0.ndX (h0.ix rfl) (h0.lo (by decide +kernel)) (h0.fl (by decide +kernel)) (x_if (b_cmp op_gt (opS_I0 fun _ _ => rfl) (x_var (h0.ix rfl) (h0.vis (by decide +kernel))) x_int (by rfl)) (y_fn T.F_l_pull (hr.mono (by decide)) tk (h0.gl (by decide +kernel)) (xs_cons (x_var (h0.ix rfl) (h0.vis (by decide +kernel))) (xs_cons x_int xs_nil rfl) rfl) (argsOk1 rfl rfl rfl rfl) (fun h => nomatch h)) x_int)) (s_cons (s_if (b_w (bw_or (b_cmp op_lt (opS_I0 fun _ _ => rfl) (x_var (h0.ix rfl) (h0.vis (by decide +kernel))) x_int (by rfl)) (bw_one (b_w (bw_and (b_cmp op_gt (opS_I0 fun _ _ => rfl) (x_var (h0.ix rfl) (h0.vis (by decide +kernel))) x_int (by rfl)) (bw_one (b_cmp op_lt (opS_I0 fun _ _ => rfl) (x_var (h0.ix rfl) (h0.vis (by decide +kernel))) x_int (by rfl)))))))) (s_one (s_ret (y_fn T.F_l_leaf (hr.mono (by decide)) tk (h0.gl (by decide +kernel)) (xs_cons (x_var (h0.ix rfl) (h0.vis (by decide +kernel))) (xs_cons (x_var (h0.ix rfl) (h0.vis (by decide +kernel))) (xs_cons (x_var (h0.ix rfl) (h0.vis (by decide +kernel))) xs_nil rfl) rfl) rfl) (argsOk1 rfl rfl rfl rfl) (fun h => nomatch h)))) s_nil) (s_cons (s_if (b_cmp (OpR.or op_eq (op_eqD (by exact hu64))) opS_eq (x_var (h0.ix rfl) (h0.vis (by decide +kernel))) x_int (by rfl)) (s_one (s_ret (x_tup (xs_cons x_str (xs_cons (y_fn T.F_l_tree hrs tk (h0.gl (by decide +kernel)) (xs_cons (x_var (h0.ix rfl) (h0.vis (by decide +kernel))) (xs_cons (x_bin op_sub (opS_I0 fun _ _ => rfl) (x_var (h0.ix rfl) (h0.vis (by decide +kernel))) x_int) (xs_cons (x_var (h0.ix rfl) (h0.vis (by decide +kernel))) (xs_cons (x_var (h0.ix rfl) (h0.vis (by decide +kernel))) xs_nil rfl) rfl) rfl) rfl) (argsOk1 rfl rfl rfl rfl) (fun h => nomatch h)) xs_nil rfl) rfl)))) s_nil) (s_cons (s_set h0.ndX (h0.ix rfl) (h0.lo (by decide +kernel)) (h0.fl (by decide +kernel)) (y_fn T.F_l_tree hrs tk (h0.gl (by decide +kernel)) (xs_cons (x_var (h0.ix rfl) (h0.vis (by decide +kernel))) (xs_cons (x_bin op_fdivW (opS_I fun _ _ => rfl) (x_bin op_sub (opS_I0 fun _ _ => rfl) (x_var (h0.ix rfl) (h0.vis (by decide +kernel))) x_int) x_int) (xs_cons (x_var (h0.ix rfl) (h0.vis (by decide +kernel))) (xs_cons (x_var (h0.ix rfl) (h0.vis (by decide +kernel))) xs_nil rfl) rfl) rfl) rfl) (argsOk1 rfl rfl rfl rfl) (fun h => nomatch h))) (s_cons (s_setO h0.ndX (h0.ix rfl) (h0.lo (by decide +kernel)) (h0.fl (by decide +kernel)) (n_lst (xs_cons (x_var (h0.ix rfl) (h0.vis (by decide +kernel))) (xs_cons (y_fn T.F_l_tree hrs tk (h0.gl (by decide +kernel)) (xs_cons (x_var (h0.ix rfl) (h0.vis (by decide +kernel))) (xs_cons (x_bin op_sub (opS_I0 fun _ _ => rfl) (x_bin op_sub (opS_I0 fun _ _ => rfl) (x_var (h0.ix rfl) (h0.vis (by decide +kernel))) x_int) (y_fn T.F_l_parts (hr.mono (by decide)) tk (h0.gl (by decide +kernel)) (xs_cons (x_var (h0.ix rfl) (h0.vis (by decide +kernel))) xs_nil rfl) (argsOk1 rfl rfl rfl rfl) (fun h => nomatch h))) (xs_cons (x_var (h0.ix rfl) (h0.vis (by decide +kernel))) (xs_cons (x_var (h0.ix rfl) (h0.vis (by decide +kernel))) xs_nil rfl) rfl) rfl) rfl) (argsOk1 rfl rfl rfl rfl) (fun h => nomatch h)) xs_nil rfl) rfl))) (s_cons (s_if (b_w (bw_and (b_cmp op_lt (opS_I0 fun _ _ => rfl) (x_bin op_addU opS_add (x_bin op_addU opS_add x_int (y_fn T.F_l_parts (hr.mono (by decide)) tk (h0.gl (by decide +kernel)) (xs_cons (x_var (h0.ix rfl) (h0.vis (by decide +kernel))) xs_nil rfl) (argsOk1 rfl rfl rfl rfl) (fun h => nomatch h))) (y_fn T.F_l_parts (hr.mono (by decide)) tk (h0.gl (by decide +kernel)) (xs_cons (x_ix (ix_U (by exact hu1)) opS_ix (x_var (h0.ix rfl) (h0.vis (by decide +kernel))) x_int (fun _ _ => rfl)) xs_nil rfl) (argsOk1 rfl rfl rfl rfl) (fun h => nomatch h))) (x_var (h0.ix rfl) (h0.vis (by decide +kernel))) (by rfl)) (bw_one (b_cmp (OpR.or op_eq (op_eqD (by exact hu64))) opS_eq (y_fn T.F_l_pull (hr.mono (by decide)) tk (h0.gl (by decide +kernel)) (xs_cons (x_var (h0.ix rfl) (h0.vis (by decide +kernel))) (xs_cons x_int xs_nil rfl) rfl) (argsOk1 rfl rfl rfl rfl) (fun h => nomatch h)) x_int (by rfl))))) (s_one (s_mut PySem.F.plainAttrs_list PySem.F.slot_list_append PySem.F.type_list_append mt_append mut_app (x_var (h0.ix rfl) (h0.vis (by decide +kernel))) (xs_cons (y_fn T.F_l_leaf (hr.mono (by decide)) tk (h0.gl (by decide +kernel)) (xs_cons (x_var (h0.ix rfl) (h0.vis (by decide +kernel))) (xs_cons (x_var (h0.ix rfl) (h0.vis (by decide +kernel))) (xs_cons (x_var (h0.ix rfl) (h0.vis (by decide +kernel))) xs_nil rfl) rfl) rfl) (argsOk1 rfl rfl rfl rfl) (fun h => nomatch h)) xs_nil rfl))) s_nil) (s_one (s_ret (x_tup (xs_cons (x_ix (ix_U (by exact hu1)) opS_ix (x_frz (n_lst (xs_cons x_str (xs_cons x_str (xs_cons x_str xs_nil rfl) rfl) rfl))) (x_bin op_sub (opS_I0 fun _ _ => rfl) (x_var (h0.ix rfl) (h0.vis (by decide +kernel))) x_int) (fun _ _ => rfl)) (xs_cons (x_T1 call_tuple_of unS_tuple (h0.gl (by decide +kernel)) T.z_tuple bt_tuple (x_var (h0.ix rfl) (h0.vis (by decide +kernel)))) xs_nil rfl) rfl))))))))))
/-! ### inner_trees -/
abbrev s_inner_trees : Stmt := (top 17)
theorem sc_inner_trees : FnScope ["tree"] ["tree"] (defScope s_inner_trees) := ⟨rfl, rfl, rfl, by decide +kernel, rfl, by decide +kernel, by decide +kernel⟩
structure T_inner_trees (S : Sg) : Prop where
  tr : True
  K_JOINS : GK S "JOINS" k_JOINS
  z_list : S.mg "list" = none
theorem w_inner_trees {X : Cx} {E : WX} (h0 : Nm X ["tree"] (defScope s_inner_trees) (defScope s_inner_trees)) (tk : Takes X E) (hp : PassesOwn (model X.prog X.w) X.A X.env X.xe) (hr : Room 0 X.A) (T : T_inner_trees (sg X)) : PSsx X E (defBody s_inner_trees) (b_inner_trees) := by
  have hu1 := hu1_of hr
  have hu64 := hu64_of hr
  have hu65 := hu65_of hr
  exact (s_cons (s_if (b_cmp (OpR.or op_eq (op_eqD (by exact hu64))) opS_eq (x_ix (ix_U (by exact hu1)) opS_ix (x_var (h0.ix rfl) (h0.vis (by decide +kernel))) x_int (fun _ _ => rfl)) x_str (by rfl)) (s_one (s_ret (x_frz (n_lst (xs_cons (x_ix (ix_U (by exact hu1)) opS_ix (x_var (h0.ix rfl) (h0.vis (by decide +kernel))) x_int (fun _ _ => rfl)) xs_nil rfl))))) s_nil) (s_one (s_ret (x_if (b_cmp (op_inU (by exact hu65)) opS_in (x_ix (ix_U (by exact hu1)) opS_ix (x_var (h0.ix rfl) (h0.vis (by decide +kernel))) x_int (fun _ _ => rfl)) (y_con T.K_JOINS (h0.gl (by decide +kernel))) (by rfl)) (x_frz (n_T1 call_list_of unN_list (h0.gl (by decide +kernel)) T.z_list bt_list (x_ix (ix_U (by exact hu1)) opS_ix (x_var (h0.ix rfl) (h0.vis (by decide +kernel))) x_int (fun _ _ => rfl)))) (x_frz (n_lst xs_nil))))))
/-! ### parts_of -/
abbrev s_parts_of : Stmt := (top 19)
theorem sc_parts_of : FnScope ["tree", "one"] ["tree"] (defScope s_parts_of) := ⟨rfl, rfl, rfl, by decide +kernel, rfl, by decide +kernel, by decide +kernel⟩
structure T_parts_of (S : Sg) (kself : Nat) (mself : MF) : Prop where
  tr : True
  F_inner_trees : GF S "inner_trees" 1 [] 1 m_inner_trees
  F_parts_of : GF S "parts_of" 1 [] kself mself
  z_sum : S.mg "sum" = none
theorem w_parts_of {X : Cx} {E : WX} {kself : Nat} {mself : MF} (hrs : Room kself X.A) (h0 : Nm X ["tree", "one"] (defScope s_parts_of) (defScope s_parts_of)) (tk : Takes X E) (hp : PassesOwn (model X.prog X.w) X.A X.env X.xe) (hr : Room 1 X.A) (T : T_parts_of (sg X) kself mself) : PSsx X E (defBody s_parts_of) (b_parts_of mself) := by
  have hu1 := hu1_of hr
  have hu64 := hu64_of hr
  have hu65 := hu65_of hr
  exact (s_one (s_ret (x_bin op_addU opS_add x_int (x_B1 (cr_sum h0.calm) unS_sum (h0.gl (by decide +kernel)) T.z_sum bt_sum (x_frz (n_lc (own := [("one", 1)]) h0.calm h0.ndX (i_any (y_fn T.F_inner_trees (hr.mono (by decide)) tk (h0.gl (by decide +kernel)) (xs_cons (x_var (h0.ix rfl) (h0.vis (by decide +kernel))) xs_nil rfl) (argsOk1 rfl rfl rfl rfl) (fun h => nomatch h))) (h0.ok (by decide +kernel)) (by decide) (fun s1 H1 C1 l1 f1 => (g_name (h0.blk s1 H1 C1 l1 f1).ndX ((h0.blk s1 H1 C1 l1 f1).ix rfl) ((h0.blk s1 H1 C1 l1 f1).lo (by decide +kernel)) ((h0.blk s1 H1 C1 l1 f1).fl (by decide +kernel)))) (fun s1 H1 C1 l1 f1 => bs_nil) (fun s1 H1 C1 l1 f1 => (y_fn T.F_parts_of hrs tk_blk ((h0.blk s1 H1 C1 l1 f1).gl (by decide +kernel)) (xs_cons (x_var ((h0.blk s1 H1 C1 l1 f1).ix rfl) ((h0.blk s1 H1 C1 l1 f1).vis (by decide +kernel))) xs_nil rfl) (argsOk1 rfl rfl rfl rfl) (fun h => nomatch h)))))))))
/-! ### common_multiple -/
abbrev s_common_multiple : Stmt := (top 12)
theorem sc_common_multiple : FnScope ["one", "other", "a", "b"] ["one", "other"] (defScope s_common_multiple) := ⟨rfl, rfl, rfl, by decide +kernel, rfl, by decide +kernel, by decide +kernel⟩
structure T_common_multiple (S : Sg) : Prop where
  tr : True
theorem w_common_multiple {X : Cx} {E : WX} (h0 : Nm X ["one", "other", "a", "b"] (defScope s_common_multiple) (defScope s_common_multiple)) (tk : Takes X E) (hp : PassesOwn (model X.prog X.w) X.A X.env X.xe) (hr : Room 0 X.A) (T : T_common_multiple (sg X)) : PSsx X E (defBody s_common_multiple) (b_common_multiple) := by
  have hu1 := hu1_of hr
  have hu64 := hu64_of hr
  have hu65 := hu65_of hr
  exact (s_cons (s_par h0.calm h0.ndX (h0.ix rfl) (h0.ix rfl) (by decide) (h0.lk (by decide +kernel)) (h0.lk (by decide +kernel)) (cs_v (x_var (h0.ix rfl) (h0.vis (by decide +kernel))) (cs_v (x_var (h0.ix rfl) (h0.vis (by decide +kernel))) cs_nil)) (h0.swp (by rfl))) (s_cons (s_whileN 1000000 hp (b_cmp op_gt (opS_I0 fun _ _ => rfl) (x_var (h0.ix rfl) (h0.vis (by decide +kernel))) x_int (by rfl)) (s_one (s_par h0.calm h0.ndX (h0.ix rfl) (h0.ix rfl) (by decide) (h0.lk (by decide +kernel)) (h0.lk (by decide +kernel)) (cs_v (x_var (h0.ix rfl) (h0.vis (by decide +kernel))) (cs_v (x_bin op_mod (opS_I fun _ _ => rfl) (x_var (h0.ix rfl) (h0.vis (by decide +kernel))) (x_var (h0.ix rfl) (h0.vis (by decide +kernel)))) cs_nil)) (h0.swp (by rfl))))) (s_one (s_ret (x_bin op_fdivW (opS_I fun _ _ => rfl) (x_bin (OpR.or op_mulX op_rep) opS_mul (x_var (h0.ix rfl) (h0.vis (by decide +kernel))) (x_var (h0.ix rfl) (h0.vis (by decide +kernel)))) (x_var (h0.ix rfl) (h0.vis (by decide +kernel))))))))
/-! ### period_of -/
abbrev s_period_of : Stmt := (top 20)
theorem sc_period_of : FnScope ["tree", "found", "one"] ["tree"] (defScope s_period_of) := ⟨rfl, rfl, rfl, by decide +kernel, rfl, by decide +kernel, by decide +kernel⟩
structure T_period_of (S : Sg) (kself : Nat) (mself : MF) : Prop where
  tr : True
  F_common_multiple : GF S "common_multiple" 2 [] 1 m_common_multiple
  F_inner_trees : GF S "inner_trees" 1 [] 1 m_inner_trees
  F_period_of : GF S "period_of" 1 [] kself mself
theorem w_period_of {X : Cx} {E : WX} {kself : Nat} {mself : MF} (hrs : Room kself X.A) (h0 : Nm X ["tree", "found", "one"] (defScope s_period_of) (defScope s_period_of)) (tk : Takes X E) (hp : PassesOwn (model X.prog X.w) X.A X.env X.xe) (hr : Room 1 X.A) (T : T_period_of (sg X) kself mself) : PSsx X E (defBody s_period_of) (b_period_of mself) := by
  have hu1 := hu1_of hr
  have hu64 := hu64_of hr
  have hu65 := hu65_of hr
  exact (s_cons (s_set h0.ndX (h0.ix rfl) (h0.lo (by decide +kernel)) (h0.fl (by decide +kernel)) (x_if (b_cmp (op_inU (by exact hu65)) opS_in (x_ix (ix_U (by exact hu1)) opS_ix (x_var (h0.ix rfl) (h0.vis (by decide +kernel))) x_int (fun _ _ => rfl)) (x_tup (xs_cons x_str (xs_cons x_str (xs_cons x_str xs_nil rfl) rfl) rfl)) (by rfl)) (x_ix (ix_U (by exact hu1)) opS_ix (x_var (h0.ix rfl) (h0.vis (by decide +kernel))) x_int (fun _ _ => rfl)) x_int)) (s_cons (s_for hp h0.calm (i_any (y_fn T.F_inner_trees (hr.mono (by decide)) tk (h0.gl (by decide +kernel)) (xs_cons (x_var (h0.ix rfl) (h0.vis (by decide +kernel))) xs_nil rfl) (argsOk1 rfl rfl rfl rfl) (fun h => nomatch h))) (g_name h0.ndX (h0.ix rfl) (h0.lo (by decide +kernel)) (h0.fl (by decide +kernel))) (s_one (s_set h0.ndX (h0.ix rfl) (h0.lo (by decide +kernel)) (h0.fl (by decide +kernel)) (y_fn T.F_common_multiple (hr.mono (by decide)) tk (h0.gl (by decide +kernel)) (xs_cons (x_var (h0.ix rfl) (h0.vis (by decide +kernel))) (xs_cons (y_fn T.F_period_of hrs tk (h0.gl (by decide +kernel)) (xs_cons (x_var (h0.ix rfl) (h0.vis (by decide +kernel))) xs_nil rfl) (argsOk1 rfl rfl rfl rfl) (fun h => nomatch h)) xs_nil rfl) rfl) (argsOk1 rfl rfl rfl rfl) (fun h => nomatch h))))) (s_one (s_ret (x_var (h0.ix rfl) (h0.vis (by decide +kernel)))))))
/-! ### number_of -/
abbrev s_number_of : Stmt := (top 11)
theorem sc_number_of : FnScope ["word"] ["word"] (defScope s_number_of) := ⟨rfl, rfl, rfl, by decide +kernel, rfl, by decide +kernel, by decide +kernel⟩
structure T_number_of (S : Sg) : Prop where
  tr : True
  z_int : S.mg "int" = none
  z_len : S.mg "len" = none
theorem w_number_of {X : Cx} {E : WX} (h0 : Nm X ["word"] (defScope s_number_of) (defScope s_number_of)) (tk : Takes X E) (hp : PassesOwn (model X.prog X.w) X.A X.env X.xe) (hr : Room 0 X.A) (T : T_number_of (sg X)) : PSsx X E (defBody s_number_of) (b_number_of) := by
  have hu1 := hu1_of hr
  have hu64 := hu64_of hr
  have hu65 := hu65_of hr
  exact (s_cons (s_if (b_w (bw_or (b_not (b_chain op_le op_le (opS_I0 fun _ _ => rfl) (opS_I0 fun _ _ => rfl) x_int (x_B1 call_len unS_len (h0.gl (by decide +kernel)) T.z_len bt_len (x_var (h0.ix rfl) (h0.vis (by decide +kernel)))) x_int (by rfl))) (bw_or (b_not (b_tru (x_s0 PySem.F.slot_str_isdigit PySem.F.type_str_isdigit mt_isdigit ss_digit (x_var (h0.ix rfl) (h0.vis (by decide +kernel)))) (fun _ => rfl))) (bw_one (b_w (bw_and (b_cmp op_gt (opS_I0 fun _ _ => rfl) (x_B1 call_len unS_len (h0.gl (by decide +kernel)) T.z_len bt_len (x_var (h0.ix rfl) (h0.vis (by decide +kernel)))) x_int (by rfl)) (bw_one (b_cmp (OpR.or op_eq (op_eqD (by exact hu64))) opS_eq (x_ix (ix_U (by exact hu1)) opS_ix (x_var (h0.ix rfl) (h0.vis (by decide +kernel))) x_int (fun _ _ => rfl)) x_str (by rfl))))))))) (s_one (s_ret x_non)) s_nil) (s_one (s_ret (x_T1 call_int1U unS_int1 (h0.gl (by decide +kernel)) T.z_int bt_int (x_var (h0.ix rfl) (h0.vis (by decide +kernel)))))))
/-! ### plain_tree -/
abbrev s_plain_tree : Stmt := (top 15)
theorem sc_plain_tree : FnScope ["words", "numbers", "low", "high", "period", "rest", "word", "many", "part"] ["words"] (defScope s_plain_tree) := ⟨rfl, rfl, rfl, by decide +kernel, rfl, by decide +kernel, by decide +kernel⟩
structure T_plain_tree (S : Sg) : Prop where
  tr : True
  D_RANGES : GD S "RANGES" kv_RANGES []
  F_number_of : GF S "number_of" 1 [] 1 m_number_of
  K_MOST_AGE : GK S "MOST_AGE" k_MOST_AGE
  K_RANGES : GK S "RANGES" k_RANGES
theorem w_plain_tree {X : Cx} {E : WX} (h0 : Nm X ["words", "numbers", "low", "high", "period", "rest", "word", "many", "part"] (defScope s_plain_tree) (defScope s_plain_tree)) (tk : Takes X E) (hp : PassesOwn (model X.prog X.w) X.A X.env X.xe) (hr : Room 1 X.A) (T : T_plain_tree (sg X)) : PSsx X E (defBody s_plain_tree) (b_plain_tree) := by
  have hu1 := hu1_of hr
  have hu64 := hu64_of hr
  have hu65 := hu65_of hr
  exact (s_cons (s_setLc (own := [("part", 8)]) h0.calm h0.ndX (h0.ix rfl) (h0.lk (by decide +kernel)) (h0.sw rfl (by decide +kernel) rfl (by decide +kernel)) (i_any (x_sl (x_var (h0.ix rfl) (h0.vis (by decide +kernel))) (o_some x_int) o_none)) (h0.ok (by decide +kernel)) (by decide) (fun s1 H1 C1 l1 f1 => (g_name (h0.blk s1 H1 C1 l1 f1).ndX ((h0.blk s1 H1 C1 l1 f1).ix rfl) ((h0.blk s1 H1 C1 l1 f1).lo (by decide +kernel)) ((h0.blk s1 H1 C1 l1 f1).fl (by decide +kernel)))) (fun s1 H1 C1 l1 f1 => bs_nil) (fun s1 H1 C1 l1 f1 => (y_fn T.F_number_of (hr.mono (by decide)) tk_blk ((h0.blk s1 H1 C1 l1 f1).gl (by decide +kernel)) (xs_cons (x_var ((h0.blk s1 H1 C1 l1 f1).ix rfl) ((h0.blk s1 H1 C1 l1 f1).vis (by decide +kernel))) xs_nil rfl) (argsOk1 rfl rfl rfl rfl) (fun h => nomatch h)))) (s_cons (s_if (b_cmp (op_inU (by exact hu65)) opS_in x_non (x_var (h0.ix rfl) (h0.vis (by decide +kernel))) (by rfl)) (s_one (s_ret x_non)) s_nil) (s_cons (s_match h0.calm (x_frz (n_lst (xs_cons (x_ix (ix_U (by exact hu1)) opS_ix (x_var (h0.ix rfl) (h0.vis (by decide +kernel))) x_int (fun _ _ => rfl)) (xs_star (x_var (h0.ix rfl) (h0.vis (by decide +kernel))) xs_nil rfl) rfl))) (CasesX.guard (PatsOk.lit (PatsOk.cap ⟨h0.ndX, h0.ix rfl, h0.lo (by decide +kernel), h0.fl (by decide +kernel)⟩ (PatsOk.cap ⟨h0.ndX, h0.ix rfl, h0.lo (by decide +kernel), h0.fl (by decide +kernel)⟩ PatsOk.nil))) rfl rfl (b_chain op_le op_le (opS_I0 fun _ _ => rfl) (opS_I0 fun _ _ => rfl) (x_var (h0.ix rfl) (h0.vis (by decide +kernel))) (x_var (h0.ix rfl) (h0.vis (by decide +kernel))) (y_con T.K_MOST_AGE (h0.gl (by decide +kernel))) (by rfl)) (s_one (s_ret (x_tup (xs_cons x_str (xs_cons (x_var (h0.ix rfl) (h0.vis (by decide +kernel))) (xs_cons (x_var (h0.ix rfl) (h0.vis (by decide +kernel))) xs_nil rfl) rfl) rfl)))) (CasesX.guard (PatsOk.lit (PatsOk.cap ⟨h0.ndX, h0.ix rfl, h0.lo (by decide +kernel), h0.fl (by decide +kernel)⟩ (PatsOk.cap ⟨h0.ndX, h0.ix rfl, h0.lo (by decide +kernel), h0.fl (by decide +kernel)⟩ PatsOk.nil))) rfl rfl (b_w (bw_and (b_chain op_le op_le (opS_I0 fun _ _ => rfl) (opS_I0 fun _ _ => rfl) x_int (x_var (h0.ix rfl) (h0.vis (by decide +kernel))) x_int (by rfl)) (bw_one (b_cmp op_lt (opS_I0 fun _ _ => rfl) (x_var (h0.ix rfl) (h0.vis (by decide +kernel))) (x_var (h0.ix rfl) (h0.vis (by decide +kernel))) (by rfl))))) (s_one (s_ret (x_tup (xs_cons x_str (xs_cons (x_var (h0.ix rfl) (h0.vis (by decide +kernel))) (xs_cons (x_var (h0.ix rfl) (h0.vis (by decide +kernel))) xs_nil rfl) rfl) rfl)))) (CasesX.guard (PatsOk.cap ⟨h0.ndX, h0.ix rfl, h0.lo (by decide +kernel), h0.fl (by decide +kernel)⟩ (PatsOk.cap ⟨h0.ndX, h0.ix rfl, h0.lo (by decide +kernel), h0.fl (by decide +kernel)⟩ PatsOk.nil)) rfl rfl (b_w (bw_and (b_inKd T.D_RANGES (x_var (h0.ix rfl) (h0.vis (by decide +kernel))) (y_con T.K_RANGES (h0.gl (by decide +kernel))) (by rfl)) (bw_one (b_chain op_le op_le (opS_I0 fun _ _ => rfl) (opS_I0 fun _ _ => rfl) (x_ix (ix_U (by exact hu1)) opS_ix (x_ixKd T.D_RANGES (y_con T.K_RANGES (h0.gl (by decide +kernel))) (x_var (h0.ix rfl) (h0.vis (by decide +kernel))) (fun _ _ => rfl)) x_int (fun _ _ => rfl)) (x_var (h0.ix rfl) (h0.vis (by decide +kernel))) (x_ix (ix_U (by exact hu1)) opS_ix (x_ixKd T.D_RANGES (y_con T.K_RANGES (h0.gl (by decide +kernel))) (x_var (h0.ix rfl) (h0.vis (by decide +kernel))) (fun _ _ => rfl)) x_int (fun _ _ => rfl)) (by rfl))))) (s_one (s_ret (x_tup (xs_cons (x_var (h0.ix rfl) (h0.vis (by decide +kernel))) (xs_cons (x_var (h0.ix rfl) (h0.vis (by decide +kernel))) xs_nil rfl) rfl)))) CasesX.nil)))) (s_one (s_ret x_non)))))
/-! ### split_inner -/
abbrev s_split_inner : Stmt := (top 14)
theorem sc_split_inner : FnScope ["text", "found", "depth", "start", "at", "sign"] ["text"] (defScope s_split_inner) := ⟨rfl, rfl, rfl, by decide +kernel, rfl, by decide +kernel, by decide +kernel⟩
structure T_split_inner (S : Sg) : Prop where
  tr : True
  z_enumerate : S.mg "enumerate" = none
theorem w_split_inner {X : Cx} {E : WX} (h0 : Nm X ["text", "found", "depth", "start", "at", "sign"] (defScope s_split_inner) (defScope s_split_inner)) (tk : Takes X E) (hp : PassesOwn (model X.prog X.w) X.A X.env X.xe) (hr : Room 0 X.A) (T : T_split_inner (sg X)) : PSsx X E (defBody s_split_inner) (b_split_inner) := by
  have hu1 := hu1_of hr
  have hu64 := hu64_of hr
  have hu65 := hu65_of hr
  exact (s_cons (s_par3 h0.calm h0.ndX (h0.ix rfl) (h0.ix rfl) (h0.ix rfl) (by decide) (by decide) (by decide) (h0.lk (by decide +kernel)) (h0.lk (by decide +kernel)) (h0.lk (by decide +kernel)) (cs_o (n_lst xs_nil) (cs_v x_int (cs_v x_int cs_nil))) (h0.swp (by rfl))) (s_cons (s_for hp h0.calm (i_en (h0.gl (by decide +kernel)) T.z_enumerate (x_var (h0.ix rfl) (h0.vis (by decide +kernel)))) (g_tup h0.calm (gs_cons (g_name h0.ndX (h0.ix rfl) (h0.lo (by decide +kernel)) (h0.fl (by decide +kernel))) (gs_cons (g_name h0.ndX (h0.ix rfl) (h0.lo (by decide +kernel)) (h0.fl (by decide +kernel))) gs_nil))) (s_one (s_if (b_cmp (OpR.or op_eq (op_eqD (by exact hu64))) opS_eq (x_var (h0.ix rfl) (h0.vis (by decide +kernel))) x_str (by rfl)) (s_one (s_aug h0.ndX (h0.ix rfl) (h0.lo (by decide +kernel)) (h0.fl (by decide +kernel)) ip_add x_int)) (s_one (s_if (b_cmp (OpR.or op_eq (op_eqD (by exact hu64))) opS_eq (x_var (h0.ix rfl) (h0.vis (by decide +kernel))) x_str (by rfl)) (s_cons (s_aug h0.ndX (h0.ix rfl) (h0.lo (by decide +kernel)) (h0.fl (by decide +kernel)) ip_sub x_int) (s_one (s_if (b_cmp op_lt (opS_I0 fun _ _ => rfl) (x_var (h0.ix rfl) (h0.vis (by decide +kernel))) x_int (by rfl)) (s_one (s_ret x_non)) s_nil))) (s_one (s_if (b_w (bw_and (b_cmp (OpR.or op_eq (op_eqD (by exact hu64))) opS_eq (x_var (h0.ix rfl) (h0.vis (by decide +kernel))) x_str (by rfl)) (bw_one (b_cmp (OpR.or op_eq (op_eqD (by exact hu64))) opS_eq (x_var (h0.ix rfl) (h0.vis (by decide +kernel))) x_int (by rfl))))) (s_cons (s_if (b_cmp (OpR.or op_ne (op_neD (by exact hu64))) opS_ne (x_sl (x_var (h0.ix rfl) (h0.vis (by decide +kernel))) (o_some (x_bin op_addU opS_add (x_var (h0.ix rfl) (h0.vis (by decide +kernel))) x_int)) (o_some (x_bin op_addU opS_add (x_var (h0.ix rfl) (h0.vis (by decide +kernel))) x_int))) x_str (by rfl)) (s_one (s_ret x_non)) s_nil) (s_cons (s_mut PySem.F.plainAttrs_list PySem.F.slot_list_append PySem.F.type_list_append mt_append mut_app (x_var (h0.ix rfl) (h0.vis (by decide +kernel))) (xs_cons (x_sl (x_var (h0.ix rfl) (h0.vis (by decide +kernel))) (o_some (x_var (h0.ix rfl) (h0.vis (by decide +kernel)))) (o_some (x_var (h0.ix rfl) (h0.vis (by decide +kernel))))) xs_nil rfl)) (s_one (s_set h0.ndX (h0.ix rfl) (h0.lo (by decide +kernel)) (h0.fl (by decide +kernel)) (x_bin op_addU opS_add (x_var (h0.ix rfl) (h0.vis (by decide +kernel))) x_int))))) s_nil))))))) (s_one (s_fz (s_ret (x_if (b_cmp (OpR.or op_ne (op_neD (by exact hu64))) opS_ne (x_var (h0.ix rfl) (h0.vis (by decide +kernel))) x_int (by rfl)) x_non (x_frz (n_lst (xs_star (x_var (h0.ix rfl) (h0.vis (by decide +kernel))) (xs_cons (x_sl (x_var (h0.ix rfl) (h0.vis (by decide +kernel))) (o_some (x_var (h0.ix rfl) (h0.vis (by decide +kernel)))) o_none) xs_nil rfl) rfl)))))))))
/-! ### tree_of -/
abbrev s_tree_of : Stmt := (top 16)
theorem sc_tree_of : FnScope ["text", "word", "sign", "rest", "parts", "trees", "part"] ["text"] (defScope s_tree_of) := ⟨rfl, rfl, rfl, by decide +kernel, rfl, by decide +kernel, by decide +kernel⟩
structure T_tree_of (S : Sg) (kself : Nat) (mself : MF) : Prop where
  tr : True
  F_plain_tree : GF S "plain_tree" 1 [] 2 m_plain_tree
  F_split_inner : GF S "split_inner" 1 [] 1 m_split_inner
  F_tree_of : GF S "tree_of" 1 [] kself mself
  K_JOINS : GK S "JOINS" k_JOINS
  z_len : S.mg "len" = none
  z_tuple : S.mg "tuple" = none
theorem w_tree_of {X : Cx} {E : WX} {kself : Nat} {mself : MF} (hrs : Room kself X.A) (h0 : Nm X ["text", "word", "sign", "rest", "parts", "trees", "part"] (defScope s_tree_of) (defScope s_tree_of)) (tk : Takes X E) (hp : PassesOwn (model X.prog X.w) X.A X.env X.xe) (hr : Room 2 X.A) (T : T_tree_of (sg X) kself mself) : PSsx X E (defBody s_tree_of) (b_tree_of mself) := by
  have hu1 := hu1_of hr
  have hu64 := hu64_of hr
  have hu65 := hu65_of hr
  exact (s_cons (s_if (b_not (b_tru (x_s1 PySem.F.slot_str_endswith PySem.F.type_str_endswith mt_endswith ss_ends (x_var (h0.ix rfl) (h0.vis (by decide +kernel))) x_str) (fun _ => rfl))) (s_one (s_ret (y_fn T.F_plain_tree (hr.mono (by decide)) tk (h0.gl (by decide +kernel)) (xs_cons (x_s1 PySem.F.slot_str_split PySem.F.type_str_split mt_split ss_split (x_var (h0.ix rfl) (h0.vis (by decide +kernel))) x_str) xs_nil rfl) (argsOk1 rfl rfl rfl rfl) (fun h => nomatch h)))) s_nil) (s_cons (s_asg (x_s1 PySem.F.slot_str_partition PySem.F.type_str_partition mt_partition ss_part (x_var (h0.ix rfl) (h0.vis (by decide +kernel))) x_str) (g_tup h0.calm (gs_cons (g_name h0.ndX (h0.ix rfl) (h0.lo (by decide +kernel)) (h0.fl (by decide +kernel))) (gs_cons (g_name h0.ndX (h0.ix rfl) (h0.lo (by decide +kernel)) (h0.fl (by decide +kernel))) (gs_cons (g_name h0.ndX (h0.ix rfl) (h0.lo (by decide +kernel)) (h0.fl (by decide +kernel))) gs_nil))))) (s_cons (s_set h0.ndX (h0.ix rfl) (h0.lo (by decide +kernel)) (h0.fl (by decide +kernel)) (x_if (b_w (bw_and (b_cmp (op_inU (by exact hu65)) opS_in (x_var (h0.ix rfl) (h0.vis (by decide +kernel))) (x_tup (xs_cons x_str (xs_star (y_con T.K_JOINS (h0.gl (by decide +kernel))) xs_nil rfl) rfl)) (by rfl)) (bw_one (b_cmp (OpR.or op_eq (op_eqD (by exact hu64))) opS_eq (x_var (h0.ix rfl) (h0.vis (by decide +kernel))) x_str (by rfl))))) (y_fn T.F_split_inner (hr.mono (by decide)) tk (h0.gl (by decide +kernel)) (xs_cons (x_sl (x_var (h0.ix rfl) (h0.vis (by decide +kernel))) o_none (o_some (x_un un_neg (unS_I fun _ => rfl) x_int))) xs_nil rfl) (argsOk1 rfl rfl rfl rfl) (fun h => nomatch h)) x_non)) (s_cons (s_if (b_w (bw_or (b_cmp op_isN opS_isN (x_var (h0.ix rfl) (h0.vis (by decide +kernel))) x_non (by rfl)) (bw_one (b_cmp (op_notInU (by exact hu65)) opS_notIn (x_B1 call_len unS_len (h0.gl (by decide +kernel)) T.z_len bt_len (x_var (h0.ix rfl) (h0.vis (by decide +kernel)))) (x_if (b_cmp (OpR.or op_eq (op_eqD (by exact hu64))) opS_eq (x_var (h0.ix rfl) (h0.vis (by decide +kernel))) x_str (by rfl)) (x_tup (xs_cons x_int xs_nil rfl)) (x_tup (xs_cons x_int (xs_cons x_int xs_nil rfl) rfl))) (by rfl))))) (s_one (s_ret x_non)) s_nil) (s_cons (s_setLc (own := [("part", 6)]) h0.calm h0.ndX (h0.ix rfl) (h0.lk (by decide +kernel)) (h0.sw rfl (by decide +kernel) rfl (by decide +kernel)) (i_any (x_var (h0.ix rfl) (h0.vis (by decide +kernel)))) (h0.ok (by decide +kernel)) (by decide) (fun s1 H1 C1 l1 f1 => (g_name (h0.blk s1 H1 C1 l1 f1).ndX ((h0.blk s1 H1 C1 l1 f1).ix rfl) ((h0.blk s1 H1 C1 l1 f1).lo (by decide +kernel)) ((h0.blk s1 H1 C1 l1 f1).fl (by decide +kernel)))) (fun s1 H1 C1 l1 f1 => bs_nil) (fun s1 H1 C1 l1 f1 => (y_fn T.F_tree_of hrs tk_blk ((h0.blk s1 H1 C1 l1 f1).gl (by decide +kernel)) (xs_cons (x_var ((h0.blk s1 H1 C1 l1 f1).ix rfl) ((h0.blk s1 H1 C1 l1 f1).vis (by decide +kernel))) xs_nil rfl) (argsOk1 rfl rfl rfl rfl) (fun h => nomatch h)))) (s_cons (s_if (b_cmp (op_inU (by exact hu65)) opS_in x_non (x_var (h0.ix rfl) (h0.vis (by decide +kernel))) (by rfl)) (s_one (s_ret x_non)) s_nil) (s_one (s_ret (x_if (b_cmp (OpR.or op_eq (op_eqD (by exact hu64))) opS_eq (x_var (h0.ix rfl) (h0.vis (by decide +kernel))) x_str (by rfl)) (x_tup (xs_cons x_str (xs_cons (x_ix (ix_U (by exact hu1)) opS_ix (x_var (h0.ix rfl) (h0.vis (by decide +kernel))) x_int (fun _ _ => rfl)) xs_nil rfl) rfl)) (x_tup (xs_cons (x_var (h0.ix rfl) (h0.vis (by decide +kernel))) (xs_cons (x_T1 call_tuple_of unS_tuple (h0.gl (by decide +kernel)) T.z_tuple bt_tuple (x_var (h0.ix rfl) (h0.vis (by decide +kernel)))) xs_nil rfl) rfl)))))))))))
/-! ### Condition.__init__ -/
abbrev s_Condition_DinitD : Stmt := (inClass (top 21) 1)
theorem sc_Condition_DinitD : FnScope ["self", "text", "tree"] ["self", "text"] (defScope s_Condition_DinitD) := ⟨rfl, rfl, rfl, by decide +kernel, rfl, by decide +kernel, by decide +kernel⟩
structure T_Condition_DinitD (S : Sg) : Prop where
  tr : True
  A_Condition_own_parts : GA S "Condition" "own_parts"
  A_Condition_own_period : GA S "Condition" "own_period"
  A_Condition_own_text : GA S "Condition" "own_text"
  A_Condition_own_tree : GA S "Condition" "own_tree"
  F_parts_of : GF S "parts_of" 1 [] 14 m_parts_of
  F_period_of : GF S "period_of" 1 [] 14 m_period_of
  F_tree_of : GF S "tree_of" 1 [] 15 m_tree_of
  K_MOST_PARTS : GK S "MOST_PARTS" k_MOST_PARTS
theorem w_Condition_DinitD {X : Cx} {E : WX} (h0 : Nm X ["self", "text", "tree"] (defScope s_Condition_DinitD) (defScope s_Condition_DinitD)) (tk : Takes X E) (hp : PassesOwn (model X.prog X.w) X.A X.env X.xe) (hr : Room 15 X.A) (T : T_Condition_DinitD (sg X)) : PSsx X E (defBody s_Condition_DinitD) (b_Condition_DinitD) := by
  have hu1 := hu1_of hr
  have hu64 := hu64_of hr
  have hu65 := hu65_of hr
  exact (s_cons (s_set h0.ndX (h0.ix rfl) (h0.lo (by decide +kernel)) (h0.fl (by decide +kernel)) (x_if (b_cmp op_le (opS_I0 fun _ _ => rfl) (x_s1 PySem.F.slot_str_count PySem.F.type_str_count mt_count ss_count (x_var (h0.ix rfl) (h0.vis (by decide +kernel))) x_str) (y_con T.K_MOST_PARTS (h0.gl (by decide +kernel))) (by rfl)) (y_fn T.F_tree_of (hr.mono (by decide)) tk (h0.gl (by decide +kernel)) (xs_cons (x_var (h0.ix rfl) (h0.vis (by decide +kernel))) xs_nil rfl) (argsOk1 rfl rfl rfl rfl) (fun h => nomatch h)) x_non)) (s_cons (s_if (b_w (bw_or (b_cmp op_isN opS_isN (x_var (h0.ix rfl) (h0.vis (by decide +kernel))) x_non (by rfl)) (bw_one (b_cmp op_gt (opS_I0 fun _ _ => rfl) (y_fn T.F_parts_of (hr.mono (by decide)) tk (h0.gl (by decide +kernel)) (xs_cons (x_var (h0.ix rfl) (h0.vis (by decide +kernel))) xs_nil rfl) (argsOk1 rfl rfl rfl rfl) (fun h => nomatch h)) (y_con T.K_MOST_PARTS (h0.gl (by decide +kernel))) (by rfl))))) (s_one s_no) s_nil) (s_cons (y_set T.A_Condition_own_text (x_var (h0.ix rfl) (h0.vis (by decide +kernel))) (x_var (h0.ix rfl) (h0.vis (by decide +kernel)))) (s_cons (y_set T.A_Condition_own_tree (x_var (h0.ix rfl) (h0.vis (by decide +kernel))) (x_var (h0.ix rfl) (h0.vis (by decide +kernel)))) (s_cons (y_set T.A_Condition_own_parts (x_var (h0.ix rfl) (h0.vis (by decide +kernel))) (y_fn T.F_parts_of (hr.mono (by decide)) tk (h0.gl (by decide +kernel)) (xs_cons (x_var (h0.ix rfl) (h0.vis (by decide +kernel))) xs_nil rfl) (argsOk1 rfl rfl rfl rfl) (fun h => nomatch h))) (s_one (y_set T.A_Condition_own_period (x_var (h0.ix rfl) (h0.vis (by decide +kernel))) (y_fn T.F_period_of (hr.mono (by decide)) tk (h0.gl (by decide +kernel)) (xs_cons (x_var (h0.ix rfl) (h0.vis (by decide +kernel))) xs_nil rfl) (argsOk1 rfl rfl rfl rfl) (fun h => nomatch h)))))))))
/-! ### Condition.__eq__ -/
abbrev s_Condition_DeqD : Stmt := (inClass (top 21) 19)
theorem sc_Condition_DeqD : FnScope ["self", "other"] ["self", "other"] (defScope s_Condition_DeqD) := ⟨rfl, rfl, rfl, by decide +kernel, rfl, by decide +kernel, by decide +kernel⟩
structure T_Condition_DeqD (S : Sg) : Prop where
  tr : True
  A_Condition_own_text : GA S "Condition" "own_text"
  K_Condition : GK S "Condition" k_Condition
  OI_Condition : GIs S "Condition"
  z_isinstance : S.mg "isinstance" = none
theorem w_Condition_DeqD {X : Cx} {E : WX} (h0 : Nm X ["self", "other"] (defScope s_Condition_DeqD) (defScope s_Condition_DeqD)) (tk : Takes X E) (hp : PassesOwn (model X.prog X.w) X.A X.env X.xe) (hr : Room 0 X.A) (T : T_Condition_DeqD (sg X)) : PSsx X E (defBody s_Condition_DeqD) (b_Condition_DeqD) := by
  have hu1 := hu1_of hr
  have hu64 := hu64_of hr
  have hu65 := hu65_of hr
  exact (s_one (s_ret (x_and (x_callB call_isi (callS_isiY T.OI_Condition) (h0.gl (by decide +kernel)) T.z_isinstance bt_isinstance (xs_cons (x_var (h0.ix rfl) (h0.vis (by decide +kernel))) (xs_cons (y_con T.K_Condition (h0.gl (by decide +kernel))) xs_nil rfl) rfl)) (x_one (x_cmp (OpR.or op_eq (op_eqD (by exact hu64))) opS_eq (y_fld T.A_Condition_own_text (x_var (h0.ix rfl) (h0.vis (by decide +kernel)))) (y_fld T.A_Condition_own_text (x_var (h0.ix rfl) (h0.vis (by decide +kernel)))) (by rfl))))))
/-! ### Condition.__repr__ -/
abbrev s_Condition_DreprD : Stmt := (inClass (top 21) 20)
theorem sc_Condition_DreprD : FnScope ["self"] ["self"] (defScope s_Condition_DreprD) := ⟨rfl, rfl, rfl, by decide +kernel, rfl, by decide +kernel, by decide +kernel⟩
structure T_Condition_DreprD (S : Sg) : Prop where
  tr : True
  A_Condition_own_text : GA S "Condition" "own_text"
theorem w_Condition_DreprD {X : Cx} {E : WX} (h0 : Nm X ["self"] (defScope s_Condition_DreprD) (defScope s_Condition_DreprD)) (tk : Takes X E) (hp : PassesOwn (model X.prog X.w) X.A X.env X.xe) (hr : Room 0 X.A) (T : T_Condition_DreprD (sg X)) : PSsx X E (defBody s_Condition_DreprD) (b_Condition_DreprD) := by
  have hu1 := hu1_of hr
  have hu64 := hu64_of hr
  have hu65 := hu65_of hr
  exact (s_one (s_ret (x_js (.cons x_str (.cons (x_fmt (y_fld T.A_Condition_own_text (x_var (h0.ix rfl) (h0.vis (by decide +kernel))))) (.cons x_str .nil))))))
/-! ### Condition.parts -/
abbrev s_Condition_parts : Stmt := (inClass (top 21) 4)
theorem sc_Condition_parts : FnScope ["self"] ["self"] (defScope s_Condition_parts) := ⟨rfl, rfl, rfl, by decide +kernel, rfl, by decide +kernel, by decide +kernel⟩
structure T_Condition_parts (S : Sg) : Prop where
  tr : True
  A_Condition_own_parts : GA S "Condition" "own_parts"
theorem w_Condition_parts {X : Cx} {E : WX} (h0 : Nm X ["self"] (defScope s_Condition_parts) (defScope s_Condition_parts)) (tk : Takes X E) (hp : PassesOwn (model X.prog X.w) X.A X.env X.xe) (hr : Room 0 X.A) (T : T_Condition_parts (sg X)) : PSsx X E (defBody s_Condition_parts) (b_Condition_parts) := by
  have hu1 := hu1_of hr
  have hu64 := hu64_of hr
  have hu65 := hu65_of hr
  exact (s_one (s_ret (y_fld T.A_Condition_own_parts (x_var (h0.ix rfl) (h0.vis (by decide +kernel))))))
/-! ### Condition.period -/
abbrev s_Condition_period : Stmt := (inClass (top 21) 5)
theorem sc_Condition_period : FnScope ["self"] ["self"] (defScope s_Condition_period) := ⟨rfl, rfl, rfl, by decide +kernel, rfl, by decide +kernel, by decide +kernel⟩
structure T_Condition_period (S : Sg) : Prop where
  tr : True
  A_Condition_own_period : GA S "Condition" "own_period"
theorem w_Condition_period {X : Cx} {E : WX} (h0 : Nm X ["self"] (defScope s_Condition_period) (defScope s_Condition_period)) (tk : Takes X E) (hp : PassesOwn (model X.prog X.w) X.A X.env X.xe) (hr : Room 0 X.A) (T : T_Condition_period (sg X)) : PSsx X E (defBody s_Condition_period) (b_Condition_period) := by
  have hu1 := hu1_of hr
  have hu64 := hu64_of hr
  have hu65 := hu65_of hr
  exact (s_one (s_ret (y_fld T.A_Condition_own_period (x_var (h0.ix rfl) (h0.vis (by decide +kernel))))))
/-! ### Condition.text -/
abbrev s_Condition_text : Stmt := (inClass (top 21) 2)
theorem sc_Condition_text : FnScope ["self"] ["self"] (defScope s_Condition_text) := ⟨rfl, rfl, rfl, by decide +kernel, rfl, by decide +kernel, by decide +kernel⟩
structure T_Condition_text (S : Sg) : Prop where
  tr : True
  A_Condition_own_text : GA S "Condition" "own_text"
theorem w_Condition_text {X : Cx} {E : WX} (h0 : Nm X ["self"] (defScope s_Condition_text) (defScope s_Condition_text)) (tk : Takes X E) (hp : PassesOwn (model X.prog X.w) X.A X.env X.xe) (hr : Room 0 X.A) (T : T_Condition_text (sg X)) : PSsx X E (defBody s_Condition_text) (b_Condition_text) := by
  have hu1 := hu1_of hr
  have hu64 := hu64_of hr
  have hu65 := hu65_of hr
  exact (s_one (s_ret (y_fld T.A_Condition_own_text (x_var (h0.ix rfl) (h0.vis (by decide +kernel))))))
/-! ### Condition.tree -/
abbrev s_Condition_tree : Stmt := (inClass (top 21) 3)
theorem sc_Condition_tree : FnScope ["self"] ["self"] (defScope s_Condition_tree) := ⟨rfl, rfl, rfl, by decide +kernel, rfl, by decide +kernel, by decide +kernel⟩
structure T_Condition_tree (S : Sg) : Prop where
  tr : True
  A_Condition_own_tree : GA S "Condition" "own_tree"
theorem w_Condition_tree {X : Cx} {E : WX} (h0 : Nm X ["self"] (defScope s_Condition_tree) (defScope s_Condition_tree)) (tk : Takes X E) (hp : PassesOwn (model X.prog X.w) X.A X.env X.xe) (hr : Room 0 X.A) (T : T_Condition_tree (sg X)) : PSsx X E (defBody s_Condition_tree) (b_Condition_tree) := by
  have hu1 := hu1_of hr
  have hu64 := hu64_of hr
  have hu65 := hu65_of hr
  exact (s_one (s_ret (y_fld T.A_Condition_own_tree (x_var (h0.ix rfl) (h0.vis (by decide +kernel))))))
/-! ### law -/
abbrev s_law : Stmt := (top 37)
theorem sc_law : FnScope ["_law_script", "_law_bag", "_law_turn", "_law_tree_here", "_law_late", "_law_shown", "_law_made", "_law_found", "_law_same", "_law_told"] ["_law_script"] (defScope s_law) := ⟨rfl, rfl, rfl, by decide +kernel, rfl, by decide +kernel, by decide +kernel⟩
structure T_law (S : Sg) : Prop where
  tr : True
  CV_Condition_MOST : GV S "Condition" "MOST" (.int 8)
  F_l_like : GF S "_law_like" 2 [] 13 m_l_like
  F_l_opened : GF S "_law_opened" 1 [] 1 m_l_opened
  F_l_parts : GF S "_law_parts" 1 [] 14 m_l_parts
  F_l_period : GF S "_law_period" 1 [] 14 m_l_period
  F_l_pull : GF S "_law_pull" 2 [] 1 m_l_pull
  F_l_text : GF S "_law_text" 1 [] 14 m_l_text
  F_l_tree : GF S "_law_tree" 4 [] 27 m_l_tree
  N_Condition_DinitD_1_text : GN S "Condition" 0 ["text"] 16 m_Condition_DinitD_1_text
  N_Condition_DinitD : GN S "Condition" 1 [] 16 m_Condition_DinitD
  O_Condition_DeqD : GO S "Condition" "__eq__" 2 1 m_Condition_DeqD
  O_Condition_DreprD : GO S "Condition" "__repr__" 1 1 m_Condition_DreprD
  OE_Condition : GNe S "Condition"
  OT_Condition : GTy S "Condition"
  P_Condition_parts : GP S "Condition" "parts" 1 m_Condition_parts
  P_Condition_period : GP S "Condition" "period" 1 m_Condition_period
  P_Condition_text : GP S "Condition" "text" 1 m_Condition_text
  P_Condition_tree : GP S "Condition" "tree" 1 m_Condition_tree
  z_range : S.mg "range" = none
  z_repr : S.mg "repr" = none
theorem w_law {X : Cx} {E : WX} (h0 : Nm X ["_law_script", "_law_bag", "_law_turn", "_law_tree_here", "_law_late", "_law_shown", "_law_made", "_law_found", "_law_same", "_law_told"] (defScope s_law) (defScope s_law)) (tk : Takes X E) (hp : PassesOwn (model X.prog X.w) X.A X.env X.xe) (hr : Room 27 X.A) (T : T_law (sg X)) : PSsx X E (defBody s_law) (b_law) := by
  have hu1 := hu1_of hr
  have hu64 := hu64_of hr
  have hu65 := hu65_of hr
  exact (s_cons (s_set h0.ndX (h0.ix rfl) (h0.lo (by decide +kernel)) (h0.fl (by decide +kernel)) (y_fn T.F_l_opened (hr.mono (by decide)) tk (h0.gl (by decide +kernel)) (xs_cons (x_var (h0.ix rfl) (h0.vis (by decide +kernel))) xs_nil rfl) (argsOk1 rfl rfl rfl rfl) (fun h => nomatch h))) (s_cons (s_for hp h0.calm (i_range1 (h0.gl (by decide +kernel)) T.z_range (xs_cons x_int xs_nil rfl)) (g_name h0.ndX (h0.ix rfl) (h0.lo (by decide +kernel)) (h0.fl (by decide +kernel))) (s_cons (s_set h0.ndX (h0.ix rfl) (h0.lo (by decide +kernel)) (h0.fl (by decide +kernel)) (y_fn T.F_l_tree (hr.mono (by decide)) tk (h0.gl (by decide +kernel)) (xs_cons (x_var (h0.ix rfl) (h0.vis (by decide +kernel))) (xs_cons (x_bin op_addU opS_add x_int (y_fn T.F_l_pull (hr.mono (by decide)) tk (h0.gl (by decide +kernel)) (xs_cons (x_var (h0.ix rfl) (h0.vis (by decide +kernel))) (xs_cons x_int xs_nil rfl) rfl) (argsOk1 rfl rfl rfl rfl) (fun h => nomatch h))) (xs_cons x_int (xs_cons (x_frz (n_lst (xs_cons x_int (xs_cons x_int (xs_cons x_int (xs_cons x_int (xs_cons x_int (xs_cons x_int xs_nil rfl) rfl) rfl) rfl) rfl) rfl))) xs_nil rfl) rfl) rfl) rfl) (argsOk1 rfl rfl rfl rfl) (fun h => nomatch h))) (s_cons (s_set h0.ndX (h0.ix rfl) (h0.lo (by decide +kernel)) (h0.fl (by decide +kernel)) (y_fn T.F_l_tree (hr.mono (by decide)) tk (h0.gl (by decide +kernel)) (xs_cons (x_var (h0.ix rfl) (h0.vis (by decide +kernel))) (xs_cons x_int (xs_cons x_int (xs_cons (x_frz (n_lst (xs_cons x_int (xs_cons x_int xs_nil rfl) rfl))) xs_nil rfl) rfl) rfl) rfl) (argsOk1 rfl rfl rfl rfl) (fun h => nomatch h))) (s_cons (s_set h0.ndX (h0.ix rfl) (h0.lo (by decide +kernel)) (h0.fl (by decide +kernel)) (y_fn T.F_l_text (hr.mono (by decide)) tk (h0.gl (by decide +kernel)) (xs_cons (x_var (h0.ix rfl) (h0.vis (by decide +kernel))) xs_nil rfl) (argsOk1 rfl rfl rfl rfl) (fun h => nomatch h))) (s_cons (s_set h0.ndX (h0.ix rfl) (h0.lo (by decide +kernel)) (h0.fl (by decide +kernel)) (x_frz (y_mk T.N_Condition_DinitD (hr.mono (by decide)) tk (h0.gl (by decide +kernel)) (xs_cons (x_var (h0.ix rfl) (h0.vis (by decide +kernel))) xs_nil rfl) (argsOk1 rfl rfl rfl rfl) (fun h => nomatch h)))) (s_cons (s_set h0.ndX (h0.ix rfl) (h0.lo (by decide +kernel)) (h0.fl (by decide +kernel)) (x_frz (n_lst (xs_cons (y_pr T.P_Condition_text (hr.mono (by decide)) (x_var (h0.ix rfl) (h0.vis (by decide +kernel)))) (xs_cons (y_pr T.P_Condition_tree (hr.mono (by decide)) (x_var (h0.ix rfl) (h0.vis (by decide +kernel)))) (xs_cons (y_pr T.P_Condition_parts (hr.mono (by decide)) (x_var (h0.ix rfl) (h0.vis (by decide +kernel)))) (xs_cons (y_pr T.P_Condition_period (hr.mono (by decide)) (x_var (h0.ix rfl) (h0.vis (by decide +kernel)))) (xs_cons (x_B1 (call_reprY T.O_Condition_DreprD (hr.mono (by decide))) (unS_reprY T.O_Condition_DreprD) (h0.gl (by decide +kernel)) T.z_repr bt_repr (x_var (h0.ix rfl) (h0.vis (by decide +kernel)))) xs_nil rfl) rfl) rfl) rfl) rfl)))) (s_cons (s_if (b_not (b_tru (y_fn T.F_l_like (hr.mono (by decide)) tk (h0.gl (by decide +kernel)) (xs_cons (x_var (h0.ix rfl) (h0.vis (by decide +kernel))) (xs_cons (x_frz (n_lst (xs_cons (x_var (h0.ix rfl) (h0.vis (by decide +kernel))) (xs_cons (x_var (h0.ix rfl) (h0.vis (by decide +kernel))) (xs_cons (y_fn T.F_l_parts (hr.mono (by decide)) tk (h0.gl (by decide +kernel)) (xs_cons (x_var (h0.ix rfl) (h0.vis (by decide +kernel))) xs_nil rfl) (argsOk1 rfl rfl rfl rfl) (fun h => nomatch h)) (xs_cons (y_fn T.F_l_period (hr.mono (by decide)) tk (h0.gl (by decide +kernel)) (xs_cons (x_var (h0.ix rfl) (h0.vis (by decide +kernel))) xs_nil rfl) (argsOk1 rfl rfl rfl rfl) (fun h => nomatch h)) (xs_cons (x_bin op_addU opS_add (x_bin op_addU opS_add x_str (x_var (h0.ix rfl) (h0.vis (by decide +kernel)))) x_str) xs_nil rfl) rfl) rfl) rfl) rfl))) xs_nil rfl) rfl) (argsOk1 rfl rfl rfl rfl) (fun h => nomatch h)) (fun _ => rfl))) (s_one (s_ret x_bl)) s_nil) (s_cons (s_set h0.ndX (h0.ix rfl) (h0.lo (by decide +kernel)) (h0.fl (by decide +kernel)) (x_cmp (OpR.or op_eq (op_eqD (by exact hu64))) opS_eq (y_fn T.F_l_text (hr.mono (by decide)) tk (h0.gl (by decide +kernel)) (xs_cons (x_var (h0.ix rfl) (h0.vis (by decide +kernel))) xs_nil rfl) (argsOk1 rfl rfl rfl rfl) (fun h => nomatch h)) (x_var (h0.ix rfl) (h0.vis (by decide +kernel))) (by rfl))) (s_cons (s_set h0.ndX (h0.ix rfl) (h0.lo (by decide +kernel)) (h0.fl (by decide +kernel)) (x_frz (n_lst (xs_cons (x_cmp (op_eqY T.O_Condition_DeqD T.OT_Condition (hr.mono (by decide))) (opS_eqY T.O_Condition_DeqD) (x_var (h0.ix rfl) (h0.vis (by decide +kernel))) (x_frz (y_mkK T.N_Condition_DinitD_1_text (hr.mono (by decide)) tk (h0.gl (by decide +kernel)) xs_nil (xk_cons (x_var (h0.ix rfl) (h0.vis (by decide +kernel))) xk_nil) (argsOk0 rfl rfl rfl) (fun _ => rfl))) (by rfl)) (xs_cons (x_cmp (op_eqY T.O_Condition_DeqD T.OT_Condition (hr.mono (by decide))) (opS_eqY T.O_Condition_DeqD) (x_var (h0.ix rfl) (h0.vis (by decide +kernel))) (x_frz (y_mk T.N_Condition_DinitD (hr.mono (by decide)) tk (h0.gl (by decide +kernel)) (xs_cons (y_fn T.F_l_text (hr.mono (by decide)) tk (h0.gl (by decide +kernel)) (xs_cons (x_var (h0.ix rfl) (h0.vis (by decide +kernel))) xs_nil rfl) (argsOk1 rfl rfl rfl rfl) (fun h => nomatch h)) xs_nil rfl) (argsOk1 rfl rfl rfl rfl) (fun h => nomatch h))) (by rfl)) (xs_cons (x_cmp (op_neY T.O_Condition_DeqD T.OT_Condition T.OE_Condition (hr.mono (by decide))) (opS_neY T.O_Condition_DeqD) (x_var (h0.ix rfl) (h0.vis (by decide +kernel))) (x_frz (y_mk T.N_Condition_DinitD (hr.mono (by decide)) tk (h0.gl (by decide +kernel)) (xs_cons (y_fn T.F_l_text (hr.mono (by decide)) tk (h0.gl (by decide +kernel)) (xs_cons (x_var (h0.ix rfl) (h0.vis (by decide +kernel))) xs_nil rfl) (argsOk1 rfl rfl rfl rfl) (fun h => nomatch h)) xs_nil rfl) (argsOk1 rfl rfl rfl rfl) (fun h => nomatch h))) (by rfl)) (xs_cons (x_cmp (op_eqY T.O_Condition_DeqD T.OT_Condition (hr.mono (by decide))) (opS_eqY T.O_Condition_DeqD) (x_var (h0.ix rfl) (h0.vis (by decide +kernel))) (x_var (h0.ix rfl) (h0.vis (by decide +kernel))) (by rfl)) xs_nil rfl) rfl) rfl) rfl)))) (s_one (s_if (b_not (b_tru (y_fn T.F_l_like (hr.mono (by decide)) tk (h0.gl (by decide +kernel)) (xs_cons (x_var (h0.ix rfl) (h0.vis (by decide +kernel))) (xs_cons (x_frz (n_lst (xs_cons x_bl (xs_cons (x_var (h0.ix rfl) (h0.vis (by decide +kernel))) (xs_cons (x_not (x_var (h0.ix rfl) (h0.vis (by decide +kernel)))) (xs_cons x_bl xs_nil rfl) rfl) rfl) rfl))) xs_nil rfl) rfl) (argsOk1 rfl rfl rfl rfl) (fun h => nomatch h)) (fun _ => rfl))) (s_one (s_ret x_bl)) s_nil))))))))))) (s_one (s_ret (y_fn T.F_l_like (hr.mono (by decide)) tk (h0.gl (by decide +kernel)) (xs_cons (x_frz (n_lst (xs_cons (y_cv T.CV_Condition_MOST (h0.gl (by decide +kernel))) (xs_cons (y_pr T.P_Condition_tree (hr.mono (by decide)) (x_frz (y_mk T.N_Condition_DinitD (hr.mono (by decide)) tk (h0.gl (by decide +kernel)) (xs_cons x_str xs_nil rfl) (argsOk1 rfl rfl rfl rfl) (fun h => nomatch h)))) xs_nil rfl) rfl))) (xs_cons (x_frz (n_lst (xs_cons x_int (xs_cons (x_tup (xs_cons x_str (xs_cons x_int xs_nil rfl) rfl)) xs_nil rfl) rfl))) xs_nil rfl) rfl) (argsOk1 rfl rfl rfl rfl) (fun h => nomatch h))))))
end G

set_option Elab.async false
set_option linter.all false
set_option autoImplicit false
set_option maxRecDepth 100000
set_option maxHeartbeats 4000000
namespace G
open PySem L2 M3 PySem.Spec PyProof.Rows
theorem fr_l_like {P : Program} {w : World} {K : PySem.W.Frag} {mg : Str → Option Value} {base : Heap} {f : Addr} {fd : FuncData} (F : Fun K "_law_like" "_law_like" s_l_like f fd) (hk : PySem.W.keepIn K (.ref f) = true) (hb : Binds K fd ["_law_found", "_law_due"] []) (hm : mg "_law_like" = some (.ref f))
    (T : ∀ k mm, GF ⟨P, w, K, mg, base⟩ "_law_like" 2 [] k mm → T_l_like ⟨P, w, K, mg, base⟩ k mm) : ∀ d, Fn3 P w K mg base (0 + 1 + d) f fd ["_law_found", "_law_due"] (mf_l_like d)
  | 0 => fn3 (N := ["_law_found", "_law_due", "_law_k"]) F sc_l_like fun cdv A outer s H E hr => ss_no
  | d + 1 => fn3 F sc_l_like fun cdv A outer s H E hr => w_l_like (hr.mono (Nat.le_refl _)) (nm_def (by decide) hr.hd) tk_def hp_def ((show Room (0 + 1 + d) _ from hr).mono (by omega)) (T _ _ ⟨_, hm, gc_all (fr_l_like F hk hb hm T d) hk hb rfl⟩)
theorem fn_l_opened {P : Program} {w : World} {K : PySem.W.Frag} {mg : Str → Option Value} {base : Heap} {f : Addr} {fd : FuncData} (F : Fun K "_law_opened" "_law_opened" s_l_opened f fd) (T : T_l_opened ⟨P, w, K, mg, base⟩) : Fn3 P w K mg base 1 f fd ["_law_script"] m_l_opened :=
  fn3 F sc_l_opened fun cdv A outer s H E hr => w_l_opened (nm_def (by decide) hr.hd) tk_def hp_def hr T
theorem fn_l_inner {P : Program} {w : World} {K : PySem.W.Frag} {mg : Str → Option Value} {base : Heap} {f : Addr} {fd : FuncData} (F : Fun K "_law_inner" "_law_inner" s_l_inner f fd) (T : T_l_inner ⟨P, w, K, mg, base⟩) : Fn3 P w K mg base 1 f fd ["_law_tree_here"] m_l_inner :=
  fn3 F sc_l_inner fun cdv A outer s H E hr => w_l_inner (nm_def (by decide) hr.hd) tk_def hp_def hr T
theorem fr_l_parts {P : Program} {w : World} {K : PySem.W.Frag} {mg : Str → Option Value} {base : Heap} {f : Addr} {fd : FuncData} (F : Fun K "_law_parts" "_law_parts" s_l_parts f fd) (hk : PySem.W.keepIn K (.ref f) = true) (hb : Binds K fd ["_law_tree_here"] []) (hm : mg "_law_parts" = some (.ref f))
    (T : ∀ k mm, GF ⟨P, w, K, mg, base⟩ "_law_parts" 1 [] k mm → T_l_parts ⟨P, w, K, mg, base⟩ k mm) : ∀ d, Fn3 P w K mg base (1 + 1 + d) f fd ["_law_tree_here"] (mf_l_parts d)
  | 0 => fn3 (N := ["_law_tree_here", "_law_one"]) F sc_l_parts fun cdv A outer s H E hr => ss_no
  | d + 1 => fn3 F sc_l_parts fun cdv A outer s H E hr => w_l_parts (hr.mono (Nat.le_refl _)) (nm_def (by decide) hr.hd) tk_def hp_def ((show Room (1 + 1 + d) _ from hr).mono (by omega)) (T _ _ ⟨_, hm, gc_all (fr_l_parts F hk hb hm T d) hk hb rfl⟩)
theorem fn_l_shared {P : Program} {w : World} {K : PySem.W.Frag} {mg : Str → Option Value} {base : Heap} {f : Addr} {fd : FuncData} (F : Fun K "_law_shared" "_law_shared" s_l_shared f fd) (T : T_l_shared ⟨P, w, K, mg, base⟩) : Fn3 P w K mg base 1 f fd ["_law_one", "_law_other"] m_l_shared :=
  fn3 F sc_l_shared fun cdv A outer s H E hr => w_l_shared (nm_def (by decide) hr.hd) tk_def hp_def hr T
theorem fr_l_period {P : Program} {w : World} {K : PySem.W.Frag} {mg : Str → Option Value} {base : Heap} {f : Addr} {fd : FuncData} (F : Fun K "_law_period" "_law_period" s_l_period f fd) (hk : PySem.W.keepIn K (.ref f) = true) (hb : Binds K fd ["_law_tree_here"] []) (hm : mg "_law_period" = some (.ref f))
    (T : ∀ k mm, GF ⟨P, w, K, mg, base⟩ "_law_period" 1 [] k mm → T_l_period ⟨P, w, K, mg, base⟩ k mm) : ∀ d, Fn3 P w K mg base (1 + 1 + d) f fd ["_law_tree_here"] (mf_l_period d)
  | 0 => fn3 (N := ["_law_tree_here", "_law_found", "_law_one"]) F sc_l_period fun cdv A outer s H E hr => ss_no
  | d + 1 => fn3 F sc_l_period fun cdv A outer s H E hr => w_l_period (hr.mono (Nat.le_refl _)) (nm_def (by decide) hr.hd) tk_def hp_def ((show Room (1 + 1 + d) _ from hr).mono (by omega)) (T _ _ ⟨_, hm, gc_all (fr_l_period F hk hb hm T d) hk hb rfl⟩)
theorem fn_l_pull {P : Program} {w : World} {K : PySem.W.Frag} {mg : Str → Option Value} {base : Heap} {f : Addr} {fd : FuncData} (F : Fun K "_law_pull" "_law_pull" s_l_pull f fd) (T : T_l_pull ⟨P, w, K, mg, base⟩) : Fn3 P w K mg base 1 f fd ["_law_bag", "_law_many"] m_l_pull :=
  fn3 F sc_l_pull fun cdv A outer s H E hr => w_l_pull (nm_def (by decide) hr.hd) tk_def hp_def hr T
theorem fr_l_text {P : Program} {w : World} {K : PySem.W.Frag} {mg : Str → Option Value} {base : Heap} {f : Addr} {fd : FuncData} (F : Fun K "_law_text" "_law_text" s_l_text f fd) (hk : PySem.W.keepIn K (.ref f) = true) (hb : Binds K fd ["_law_tree_here"] []) (hm : mg "_law_text" = some (.ref f))
    (T : ∀ k mm, GF ⟨P, w, K, mg, base⟩ "_law_text" 1 [] k mm → T_l_text ⟨P, w, K, mg, base⟩ k mm) : ∀ d, Fn3 P w K mg base (1 + 1 + d) f fd ["_law_tree_here"] (mf_l_text d)
  | 0 => fn3 (N := ["_law_tree_here", "_law_inner_here", "_law_part", "_law_one"]) F sc_l_text fun cdv A outer s H E hr => ss_no
  | d + 1 => fn3 F sc_l_text fun cdv A outer s H E hr => w_l_text (hr.mono (Nat.le_refl _)) (nm_def (by decide) hr.hd) tk_def hp_def ((show Room (1 + 1 + d) _ from hr).mono (by omega)) (T _ _ ⟨_, hm, gc_all (fr_l_text F hk hb hm T d) hk hb rfl⟩)
theorem fn_l_any {P : Program} {w : World} {K : PySem.W.Frag} {mg : Str → Option Value} {base : Heap} {f : Addr} {fd : FuncData} (F : Fun K "_law_any" "_law_any" s_l_any f fd) (T : T_l_any ⟨P, w, K, mg, base⟩) : Fn3 P w K mg base 2 f fd ["_law_bag", "_law_things"] m_l_any :=
  fn3 F sc_l_any fun cdv A outer s H E hr => w_l_any (nm_def (by decide) hr.hd) tk_def hp_def hr T
theorem fn_l_leaf {P : Program} {w : World} {K : PySem.W.Frag} {mg : Str → Option Value} {base : Heap} {f : Addr} {fd : FuncData} (F : Fun K "_law_leaf" "_law_leaf" s_l_leaf f fd) (T : T_l_leaf ⟨P, w, K, mg, base⟩) : Fn3 P w K mg base 3 f fd ["_law_bag", "_law_high", "_law_periods"] m_l_leaf :=
  fn3 F sc_l_leaf fun cdv A outer s H E hr => w_l_leaf (nm_def (by decide) hr.hd) tk_def hp_def hr T
theorem fr_l_tree {P : Program} {w : World} {K : PySem.W.Frag} {mg : Str → Option Value} {base : Heap} {f : Addr} {fd : FuncData} (F : Fun K "_law_tree" "_law_tree" s_l_tree f fd) (hk : PySem.W.keepIn K (.ref f) = true) (hb : Binds K fd ["_law_bag", "_law_room", "_law_high", "_law_periods"] []) (hm : mg "_law_tree" = some (.ref f))
    (T : ∀ k mm, GF ⟨P, w, K, mg, base⟩ "_law_tree" 4 [] k mm → T_l_tree ⟨P, w, K, mg, base⟩ k mm) : ∀ d, Fn3 P w K mg base (14 + 1 + d) f fd ["_law_bag", "_law_room", "_law_high", "_law_periods"] (mf_l_tree d)
  | 0 => fn3 (N := ["_law_bag", "_law_room", "_law_high", "_law_periods", "_law_way", "_law_one", "_law_trees"]) F sc_l_tree fun cdv A outer s H E hr => ss_no
  | d + 1 => fn3 F sc_l_tree fun cdv A outer s H E hr => w_l_tree (hr.mono (Nat.le_refl _)) (nm_def (by decide) hr.hd) tk_def hp_def ((show Room (14 + 1 + d) _ from hr).mono (by omega)) (T _ _ ⟨_, hm, gc_all (fr_l_tree F hk hb hm T d) hk hb rfl⟩)
theorem fn_inner_trees {P : Program} {w : World} {K : PySem.W.Frag} {mg : Str → Option Value} {base : Heap} {f : Addr} {fd : FuncData} (F : Fun K "inner_trees" "inner_trees" s_inner_trees f fd) (T : T_inner_trees ⟨P, w, K, mg, base⟩) : Fn3 P w K mg base 1 f fd ["tree"] m_inner_trees :=
  fn3 F sc_inner_trees fun cdv A outer s H E hr => w_inner_trees (nm_def (by decide) hr.hd) tk_def hp_def hr T
theorem fr_parts_of {P : Program} {w : World} {K : PySem.W.Frag} {mg : Str → Option Value} {base : Heap} {f : Addr} {fd : FuncData} (F : Fun K "parts_of" "parts_of" s_parts_of f fd) (hk : PySem.W.keepIn K (.ref f) = true) (hb : Binds K fd ["tree"] []) (hm : mg "parts_of" = some (.ref f))
    (T : ∀ k mm, GF ⟨P, w, K, mg, base⟩ "parts_of" 1 [] k mm → T_parts_of ⟨P, w, K, mg, base⟩ k mm) : ∀ d, Fn3 P w K mg base (1 + 1 + d) f fd ["tree"] (mf_parts_of d)
  | 0 => fn3 (N := ["tree", "one"]) F sc_parts_of fun cdv A outer s H E hr => ss_no
  | d + 1 => fn3 F sc_parts_of fun cdv A outer s H E hr => w_parts_of (hr.mono (Nat.le_refl _)) (nm_def (by decide) hr.hd) tk_def hp_def ((show Room (1 + 1 + d) _ from hr).mono (by omega)) (T _ _ ⟨_, hm, gc_all (fr_parts_of F hk hb hm T d) hk hb rfl⟩)
theorem fn_common_multiple {P : Program} {w : World} {K : PySem.W.Frag} {mg : Str → Option Value} {base : Heap} {f : Addr} {fd : FuncData} (F : Fun K "common_multiple" "common_multiple" s_common_multiple f fd) (T : T_common_multiple ⟨P, w, K, mg, base⟩) : Fn3 P w K mg base 1 f fd ["one", "other"] m_common_multiple :=
  fn3 F sc_common_multiple fun cdv A outer s H E hr => w_common_multiple (nm_def (by decide) hr.hd) tk_def hp_def hr T
theorem fr_period_of {P : Program} {w : World} {K : PySem.W.Frag} {mg : Str → Option Value} {base : Heap} {f : Addr} {fd : FuncData} (F : Fun K "period_of" "period_of" s_period_of f fd) (hk : PySem.W.keepIn K (.ref f) = true) (hb : Binds K fd ["tree"] []) (hm : mg "period_of" = some (.ref f))
    (T : ∀ k mm, GF ⟨P, w, K, mg, base⟩ "period_of" 1 [] k mm → T_period_of ⟨P, w, K, mg, base⟩ k mm) : ∀ d, Fn3 P w K mg base (1 + 1 + d) f fd ["tree"] (mf_period_of d)
  | 0 => fn3 (N := ["tree", "found", "one"]) F sc_period_of fun cdv A outer s H E hr => ss_no
  | d + 1 => fn3 F sc_period_of fun cdv A outer s H E hr => w_period_of (hr.mono (Nat.le_refl _)) (nm_def (by decide) hr.hd) tk_def hp_def ((show Room (1 + 1 + d) _ from hr).mono (by omega)) (T _ _ ⟨_, hm, gc_all (fr_period_of F hk hb hm T d) hk hb rfl⟩)
theorem fn_number_of {P : Program} {w : World} {K : PySem.W.Frag} {mg : Str → Option Value} {base : Heap} {f : Addr} {fd : FuncData} (F : Fun K "number_of" "number_of" s_number_of f fd) (T : T_number_of ⟨P, w, K, mg, base⟩) : Fn3 P w K mg base 1 f fd ["word"] m_number_of :=
  fn3 F sc_number_of fun cdv A outer s H E hr => w_number_of (nm_def (by decide) hr.hd) tk_def hp_def hr T
theorem fn_plain_tree {P : Program} {w : World} {K : PySem.W.Frag} {mg : Str → Option Value} {base : Heap} {f : Addr} {fd : FuncData} (F : Fun K "plain_tree" "plain_tree" s_plain_tree f fd) (T : T_plain_tree ⟨P, w, K, mg, base⟩) : Fn3 P w K mg base 2 f fd ["words"] m_plain_tree :=
  fn3 F sc_plain_tree fun cdv A outer s H E hr => w_plain_tree (nm_def (by decide) hr.hd) tk_def hp_def hr T
theorem fn_split_inner {P : Program} {w : World} {K : PySem.W.Frag} {mg : Str → Option Value} {base : Heap} {f : Addr} {fd : FuncData} (F : Fun K "split_inner" "split_inner" s_split_inner f fd) (T : T_split_inner ⟨P, w, K, mg, base⟩) : Fn3 P w K mg base 1 f fd ["text"] m_split_inner :=
  fn3 F sc_split_inner fun cdv A outer s H E hr => w_split_inner (nm_def (by decide) hr.hd) tk_def hp_def hr T
theorem fr_tree_of {P : Program} {w : World} {K : PySem.W.Frag} {mg : Str → Option Value} {base : Heap} {f : Addr} {fd : FuncData} (F : Fun K "tree_of" "tree_of" s_tree_of f fd) (hk : PySem.W.keepIn K (.ref f) = true) (hb : Binds K fd ["text"] []) (hm : mg "tree_of" = some (.ref f))
    (T : ∀ k mm, GF ⟨P, w, K, mg, base⟩ "tree_of" 1 [] k mm → T_tree_of ⟨P, w, K, mg, base⟩ k mm) : ∀ d, Fn3 P w K mg base (2 + 1 + d) f fd ["text"] (mf_tree_of d)
  | 0 => fn3 (N := ["text", "word", "sign", "rest", "parts", "trees", "part"]) F sc_tree_of fun cdv A outer s H E hr => ss_no
  | d + 1 => fn3 F sc_tree_of fun cdv A outer s H E hr => w_tree_of (hr.mono (Nat.le_refl _)) (nm_def (by decide) hr.hd) tk_def hp_def ((show Room (2 + 1 + d) _ from hr).mono (by omega)) (T _ _ ⟨_, hm, gc_all (fr_tree_of F hk hb hm T d) hk hb rfl⟩)
theorem fn_Condition_DinitD {P : Program} {w : World} {K : PySem.W.Frag} {mg : Str → Option Value} {base : Heap} {f : Addr} {fd : FuncData} (F : Fun K "__init__" "Condition.__init__" s_Condition_DinitD f fd) (T : T_Condition_DinitD ⟨P, w, K, mg, base⟩) : Fn3 P w K mg base 16 f fd ["self", "text"] m_Condition_DinitD :=
  fn3 F sc_Condition_DinitD fun cdv A outer s H E hr => w_Condition_DinitD (nm_def (by decide) hr.hd) tk_def hp_def hr T
theorem fn_Condition_DeqD {P : Program} {w : World} {K : PySem.W.Frag} {mg : Str → Option Value} {base : Heap} {f : Addr} {fd : FuncData} (F : Fun K "__eq__" "Condition.__eq__" s_Condition_DeqD f fd) (T : T_Condition_DeqD ⟨P, w, K, mg, base⟩) : Fn3 P w K mg base 1 f fd ["self", "other"] m_Condition_DeqD :=
  fn3 F sc_Condition_DeqD fun cdv A outer s H E hr => w_Condition_DeqD (nm_def (by decide) hr.hd) tk_def hp_def hr T
theorem fn_Condition_DreprD {P : Program} {w : World} {K : PySem.W.Frag} {mg : Str → Option Value} {base : Heap} {f : Addr} {fd : FuncData} (F : Fun K "__repr__" "Condition.__repr__" s_Condition_DreprD f fd) (T : T_Condition_DreprD ⟨P, w, K, mg, base⟩) : Fn3 P w K mg base 1 f fd ["self"] m_Condition_DreprD :=
  fn3 F sc_Condition_DreprD fun cdv A outer s H E hr => w_Condition_DreprD (nm_def (by decide) hr.hd) tk_def hp_def hr T
theorem fn_Condition_parts {P : Program} {w : World} {K : PySem.W.Frag} {mg : Str → Option Value} {base : Heap} {f : Addr} {fd : FuncData} (F : Fun K "parts" "Condition.parts" s_Condition_parts f fd) (T : T_Condition_parts ⟨P, w, K, mg, base⟩) : Fn3 P w K mg base 1 f fd ["self"] m_Condition_parts :=
  fn3 F sc_Condition_parts fun cdv A outer s H E hr => w_Condition_parts (nm_def (by decide) hr.hd) tk_def hp_def hr T
theorem fn_Condition_period {P : Program} {w : World} {K : PySem.W.Frag} {mg : Str → Option Value} {base : Heap} {f : Addr} {fd : FuncData} (F : Fun K "period" "Condition.period" s_Condition_period f fd) (T : T_Condition_period ⟨P, w, K, mg, base⟩) : Fn3 P w K mg base 1 f fd ["self"] m_Condition_period :=
  fn3 F sc_Condition_period fun cdv A outer s H E hr => w_Condition_period (nm_def (by decide) hr.hd) tk_def hp_def hr T
theorem fn_Condition_text {P : Program} {w : World} {K : PySem.W.Frag} {mg : Str → Option Value} {base : Heap} {f : Addr} {fd : FuncData} (F : Fun K "text" "Condition.text" s_Condition_text f fd) (T : T_Condition_text ⟨P, w, K, mg, base⟩) : Fn3 P w K mg base 1 f fd ["self"] m_Condition_text :=
  fn3 F sc_Condition_text fun cdv A outer s H E hr => w_Condition_text (nm_def (by decide) hr.hd) tk_def hp_def hr T
theorem fn_Condition_tree {P : Program} {w : World} {K : PySem.W.Frag} {mg : Str → Option Value} {base : Heap} {f : Addr} {fd : FuncData} (F : Fun K "tree" "Condition.tree" s_Condition_tree f fd) (T : T_Condition_tree ⟨P, w, K, mg, base⟩) : Fn3 P w K mg base 1 f fd ["self"] m_Condition_tree :=
  fn3 F sc_Condition_tree fun cdv A outer s H E hr => w_Condition_tree (nm_def (by decide) hr.hd) tk_def hp_def hr T
theorem fn_law {P : Program} {w : World} {K : PySem.W.Frag} {mg : Str → Option Value} {base : Heap} {f : Addr} {fd : FuncData} (F : Fun K "law" "law" s_law f fd) (T : T_law ⟨P, w, K, mg, base⟩) : Fn3 P w K mg base 28 f fd ["_law_script"] m_law :=
  fn3 F sc_law fun cdv A outer s H E hr => w_law (nm_def (by decide) hr.hd) tk_def hp_def hr T
theorem all_mk {l : PySem.W.OpenLaw} {w : World} {K : PySem.W.Frag} {h : Heap} {mg : Str → Option Value} {fa : Addr} (X : K.In h) (G : h.Ns mainGlobals mg) (hfa : mg "law" = some (.ref fa))
    {C_Condition : Addr}
    {tv_Condition_MOST : Tok}
    {f_l_like : Addr} {od_l_like an_l_like : Option Addr} {sl_l_like : Array (Option Value)} {oc_l_like kV_l_like dc_l_like pm_l_like cd_l_like ct_l_like : Value}
    {f_l_opened : Addr} {od_l_opened an_l_opened : Option Addr} {sl_l_opened : Array (Option Value)} {oc_l_opened kV_l_opened dc_l_opened pm_l_opened cd_l_opened ct_l_opened : Value}
    {f_l_inner : Addr} {od_l_inner an_l_inner : Option Addr} {sl_l_inner : Array (Option Value)} {oc_l_inner kV_l_inner dc_l_inner pm_l_inner cd_l_inner ct_l_inner : Value}
    {f_l_parts : Addr} {od_l_parts an_l_parts : Option Addr} {sl_l_parts : Array (Option Value)} {oc_l_parts kV_l_parts dc_l_parts pm_l_parts cd_l_parts ct_l_parts : Value}
    {f_l_shared : Addr} {od_l_shared an_l_shared : Option Addr} {sl_l_shared : Array (Option Value)} {oc_l_shared kV_l_shared dc_l_shared pm_l_shared cd_l_shared ct_l_shared : Value}
    {f_l_period : Addr} {od_l_period an_l_period : Option Addr} {sl_l_period : Array (Option Value)} {oc_l_period kV_l_period dc_l_period pm_l_period cd_l_period ct_l_period : Value}
    {f_l_pull : Addr} {od_l_pull an_l_pull : Option Addr} {sl_l_pull : Array (Option Value)} {oc_l_pull kV_l_pull dc_l_pull pm_l_pull cd_l_pull ct_l_pull : Value}
    {f_l_text : Addr} {od_l_text an_l_text : Option Addr} {sl_l_text : Array (Option Value)} {oc_l_text kV_l_text dc_l_text pm_l_text cd_l_text ct_l_text : Value}
    {f_l_any : Addr} {od_l_any an_l_any : Option Addr} {sl_l_any : Array (Option Value)} {oc_l_any kV_l_any dc_l_any pm_l_any cd_l_any ct_l_any : Value}
    {f_l_leaf : Addr} {od_l_leaf an_l_leaf : Option Addr} {sl_l_leaf : Array (Option Value)} {oc_l_leaf kV_l_leaf dc_l_leaf pm_l_leaf cd_l_leaf ct_l_leaf : Value}
    {f_l_tree : Addr} {od_l_tree an_l_tree : Option Addr} {sl_l_tree : Array (Option Value)} {oc_l_tree kV_l_tree dc_l_tree pm_l_tree cd_l_tree ct_l_tree : Value}
    {f_inner_trees : Addr} {od_inner_trees an_inner_trees : Option Addr} {sl_inner_trees : Array (Option Value)} {oc_inner_trees kV_inner_trees dc_inner_trees pm_inner_trees cd_inner_trees ct_inner_trees : Value}
    {f_parts_of : Addr} {od_parts_of an_parts_of : Option Addr} {sl_parts_of : Array (Option Value)} {oc_parts_of kV_parts_of dc_parts_of pm_parts_of cd_parts_of ct_parts_of : Value}
    {f_common_multiple : Addr} {od_common_multiple an_common_multiple : Option Addr} {sl_common_multiple : Array (Option Value)} {oc_common_multiple kV_common_multiple dc_common_multiple pm_common_multiple cd_common_multiple ct_common_multiple : Value}
    {f_period_of : Addr} {od_period_of an_period_of : Option Addr} {sl_period_of : Array (Option Value)} {oc_period_of kV_period_of dc_period_of pm_period_of cd_period_of ct_period_of : Value}
    {f_number_of : Addr} {od_number_of an_number_of : Option Addr} {sl_number_of : Array (Option Value)} {oc_number_of kV_number_of dc_number_of pm_number_of cd_number_of ct_number_of : Value}
    {f_plain_tree : Addr} {od_plain_tree an_plain_tree : Option Addr} {sl_plain_tree : Array (Option Value)} {oc_plain_tree kV_plain_tree dc_plain_tree pm_plain_tree cd_plain_tree ct_plain_tree : Value}
    {f_split_inner : Addr} {od_split_inner an_split_inner : Option Addr} {sl_split_inner : Array (Option Value)} {oc_split_inner kV_split_inner dc_split_inner pm_split_inner cd_split_inner ct_split_inner : Value}
    {f_tree_of : Addr} {od_tree_of an_tree_of : Option Addr} {sl_tree_of : Array (Option Value)} {oc_tree_of kV_tree_of dc_tree_of pm_tree_of cd_tree_of ct_tree_of : Value}
    {f_Condition_DinitD : Addr} {od_Condition_DinitD an_Condition_DinitD : Option Addr} {sl_Condition_DinitD : Array (Option Value)} {oc_Condition_DinitD kV_Condition_DinitD dc_Condition_DinitD pm_Condition_DinitD cd_Condition_DinitD ct_Condition_DinitD : Value}
    {f_Condition_DeqD : Addr} {od_Condition_DeqD an_Condition_DeqD : Option Addr} {sl_Condition_DeqD : Array (Option Value)} {oc_Condition_DeqD kV_Condition_DeqD dc_Condition_DeqD pm_Condition_DeqD cd_Condition_DeqD ct_Condition_DeqD : Value}
    {f_Condition_DreprD : Addr} {od_Condition_DreprD an_Condition_DreprD : Option Addr} {sl_Condition_DreprD : Array (Option Value)} {oc_Condition_DreprD kV_Condition_DreprD dc_Condition_DreprD pm_Condition_DreprD cd_Condition_DreprD ct_Condition_DreprD : Value}
    {f_Condition_parts : Addr} {od_Condition_parts an_Condition_parts : Option Addr} {sl_Condition_parts : Array (Option Value)} {oc_Condition_parts kV_Condition_parts dc_Condition_parts pm_Condition_parts cd_Condition_parts ct_Condition_parts : Value}
    {p_Condition_parts : Addr} {r_Condition_parts : List Value}
    {f_Condition_period : Addr} {od_Condition_period an_Condition_period : Option Addr} {sl_Condition_period : Array (Option Value)} {oc_Condition_period kV_Condition_period dc_Condition_period pm_Condition_period cd_Condition_period ct_Condition_period : Value}
    {p_Condition_period : Addr} {r_Condition_period : List Value}
    {f_Condition_text : Addr} {od_Condition_text an_Condition_text : Option Addr} {sl_Condition_text : Array (Option Value)} {oc_Condition_text kV_Condition_text dc_Condition_text pm_Condition_text cd_Condition_text ct_Condition_text : Value}
    {p_Condition_text : Addr} {r_Condition_text : List Value}
    {f_Condition_tree : Addr} {od_Condition_tree an_Condition_tree : Option Addr} {sl_Condition_tree : Array (Option Value)} {oc_Condition_tree kV_Condition_tree dc_Condition_tree pm_Condition_tree cd_Condition_tree ct_Condition_tree : Value}
    {p_Condition_tree : Addr} {r_Condition_tree : List Value}
    {f_law : Addr} {od_law an_law : Option Addr} {sl_law : Array (Option Value)} {oc_law kV_law dc_law pm_law cd_law ct_law : Value}
    {q_JOINS : Addr} {qd_JOINS : Option Addr} {qn_JOINS : Nat} {qs_JOINS : Array (Option Value)} {t0_JOINS t1_JOINS : Tok}
    {t_MOST_AGE : Tok}
    {t_MOST_PARTS : Tok}
    {q_RANGES : Addr} {es_RANGES : Array DictEntry} {en_RANGES : Nat}
    {p4_RANGES : Addr} {qd4_RANGES : Option Addr} {qn4_RANGES : Nat} {qs4_RANGES : Array (Option Value)} {t4_0_RANGES t4_1_RANGES : Tok}
    {p3_RANGES : Addr} {qd3_RANGES : Option Addr} {qn3_RANGES : Nat} {qs3_RANGES : Array (Option Value)} {t3_0_RANGES t3_1_RANGES : Tok}
    {p2_RANGES : Addr} {qd2_RANGES : Option Addr} {qn2_RANGES : Nat} {qs2_RANGES : Array (Option Value)} {t2_0_RANGES t2_1_RANGES : Tok}
    {p1_RANGES : Addr} {qd1_RANGES : Option Addr} {qn1_RANGES : Nat} {qs1_RANGES : Array (Option Value)} {t1_0_RANGES t1_1_RANGES : Tok}
    {p0_RANGES : Addr} {qd0_RANGES : Option Addr} {qn0_RANGES : Nat} {qs0_RANGES : Array (Option Value)} {t0_0_RANGES t0_1_RANGES : Tok}
    (a_Condition : PySem.W.nsIn K mainGlobals "Condition" = some (some (.ref C_Condition)))
    (pg_Condition : PySem.W.plainGet K C_Condition Str.empty = true)
    (hd_Condition : PySem.W.hasDictIn K C_Condition = true)
    (po_Condition : PySem.W.plainOver K C_Condition = true)
    (sa_Condition : PySem.W.findIn K (.ref C_Condition) "__setattr__" = some (some (.builtin "object.__setattr__")))
    (mk_Condition : PySem.W.makesIn K C_Condition = true)
    (kc_Condition : PySem.W.keepIn K (.ref C_Condition) = true)
    (ty_Condition : PySem.W.subIn K (.type "str") (.ref C_Condition) = some false)
    (oc_g_ : PySem.W.specialIn K (.builtin "object.__class__") "__get__" = some (some (.builtin "getset_descriptor.__get__")))
    (oc_t_ : PySem.W.takesIn K (.builtin "object.__class__") = some true)
    (ha_Condition : PySem.W.findIn K (.ref C_Condition) "__class__" = some (some (.builtin "object.__class__")))
    (ic_Condition : PySem.W.isClsIn K C_Condition = true)
    (tc_Condition : PySem.W.typeIn K (.ref C_Condition) = some (.type "type"))
    (ne_Condition : PySem.W.findIn K (.ref C_Condition) "__ne__" = some (some (.builtin "object.__ne__")))
    (mo_Condition : PySem.W.mroIn K C_Condition (.type "object") = some true)
    (v_Condition_MOST : PySem.W.findCls K (.ref C_Condition) (.type "type") "MOST" = some (.val (.int 8 tv_Condition_MOST)))
    (rd_Condition : PySem.W.readsIn K C_Condition (.type "type") = true)
    (ga_Condition : PySem.W.specialIn K (.ref C_Condition) "__getattribute__" = some (some (.builtin "type.__getattribute__")))
    (a_l_like : PySem.W.nsIn K mainGlobals "_law_like" = some (some (.ref f_l_like)))
    (l_l_like : K.lookup f_l_like = some ⟨oc_l_like, od_l_like, .func (PySem.W.fnOf "_law_like" "_law_like" (defArgs s_l_like) (defBody s_l_like) (defScope s_l_like) .none kV_l_like dc_l_like pm_l_like an_l_like cd_l_like ct_l_like), sl_l_like⟩)
    (c_l_like : PySem.W.codeIn K cd_l_like "_law_like" = true)
    (k_l_like : PySem.W.keepIn K (.ref f_l_like) = true)
    (a_l_opened : PySem.W.nsIn K mainGlobals "_law_opened" = some (some (.ref f_l_opened)))
    (l_l_opened : K.lookup f_l_opened = some ⟨oc_l_opened, od_l_opened, .func (PySem.W.fnOf "_law_opened" "_law_opened" (defArgs s_l_opened) (defBody s_l_opened) (defScope s_l_opened) .none kV_l_opened dc_l_opened pm_l_opened an_l_opened cd_l_opened ct_l_opened), sl_l_opened⟩)
    (c_l_opened : PySem.W.codeIn K cd_l_opened "_law_opened" = true)
    (k_l_opened : PySem.W.keepIn K (.ref f_l_opened) = true)
    (a_l_inner : PySem.W.nsIn K mainGlobals "_law_inner" = some (some (.ref f_l_inner)))
    (l_l_inner : K.lookup f_l_inner = some ⟨oc_l_inner, od_l_inner, .func (PySem.W.fnOf "_law_inner" "_law_inner" (defArgs s_l_inner) (defBody s_l_inner) (defScope s_l_inner) .none kV_l_inner dc_l_inner pm_l_inner an_l_inner cd_l_inner ct_l_inner), sl_l_inner⟩)
    (c_l_inner : PySem.W.codeIn K cd_l_inner "_law_inner" = true)
    (k_l_inner : PySem.W.keepIn K (.ref f_l_inner) = true)
    (a_l_parts : PySem.W.nsIn K mainGlobals "_law_parts" = some (some (.ref f_l_parts)))
    (l_l_parts : K.lookup f_l_parts = some ⟨oc_l_parts, od_l_parts, .func (PySem.W.fnOf "_law_parts" "_law_parts" (defArgs s_l_parts) (defBody s_l_parts) (defScope s_l_parts) .none kV_l_parts dc_l_parts pm_l_parts an_l_parts cd_l_parts ct_l_parts), sl_l_parts⟩)
    (c_l_parts : PySem.W.codeIn K cd_l_parts "_law_parts" = true)
    (k_l_parts : PySem.W.keepIn K (.ref f_l_parts) = true)
    (a_l_shared : PySem.W.nsIn K mainGlobals "_law_shared" = some (some (.ref f_l_shared)))
    (l_l_shared : K.lookup f_l_shared = some ⟨oc_l_shared, od_l_shared, .func (PySem.W.fnOf "_law_shared" "_law_shared" (defArgs s_l_shared) (defBody s_l_shared) (defScope s_l_shared) .none kV_l_shared dc_l_shared pm_l_shared an_l_shared cd_l_shared ct_l_shared), sl_l_shared⟩)
    (c_l_shared : PySem.W.codeIn K cd_l_shared "_law_shared" = true)
    (k_l_shared : PySem.W.keepIn K (.ref f_l_shared) = true)
    (a_l_period : PySem.W.nsIn K mainGlobals "_law_period" = some (some (.ref f_l_period)))
    (l_l_period : K.lookup f_l_period = some ⟨oc_l_period, od_l_period, .func (PySem.W.fnOf "_law_period" "_law_period" (defArgs s_l_period) (defBody s_l_period) (defScope s_l_period) .none kV_l_period dc_l_period pm_l_period an_l_period cd_l_period ct_l_period), sl_l_period⟩)
    (c_l_period : PySem.W.codeIn K cd_l_period "_law_period" = true)
    (k_l_period : PySem.W.keepIn K (.ref f_l_period) = true)
    (a_l_pull : PySem.W.nsIn K mainGlobals "_law_pull" = some (some (.ref f_l_pull)))
    (l_l_pull : K.lookup f_l_pull = some ⟨oc_l_pull, od_l_pull, .func (PySem.W.fnOf "_law_pull" "_law_pull" (defArgs s_l_pull) (defBody s_l_pull) (defScope s_l_pull) .none kV_l_pull dc_l_pull pm_l_pull an_l_pull cd_l_pull ct_l_pull), sl_l_pull⟩)
    (c_l_pull : PySem.W.codeIn K cd_l_pull "_law_pull" = true)
    (k_l_pull : PySem.W.keepIn K (.ref f_l_pull) = true)
    (a_l_text : PySem.W.nsIn K mainGlobals "_law_text" = some (some (.ref f_l_text)))
    (l_l_text : K.lookup f_l_text = some ⟨oc_l_text, od_l_text, .func (PySem.W.fnOf "_law_text" "_law_text" (defArgs s_l_text) (defBody s_l_text) (defScope s_l_text) .none kV_l_text dc_l_text pm_l_text an_l_text cd_l_text ct_l_text), sl_l_text⟩)
    (c_l_text : PySem.W.codeIn K cd_l_text "_law_text" = true)
    (k_l_text : PySem.W.keepIn K (.ref f_l_text) = true)
    (a_l_any : PySem.W.nsIn K mainGlobals "_law_any" = some (some (.ref f_l_any)))
    (l_l_any : K.lookup f_l_any = some ⟨oc_l_any, od_l_any, .func (PySem.W.fnOf "_law_any" "_law_any" (defArgs s_l_any) (defBody s_l_any) (defScope s_l_any) .none kV_l_any dc_l_any pm_l_any an_l_any cd_l_any ct_l_any), sl_l_any⟩)
    (c_l_any : PySem.W.codeIn K cd_l_any "_law_any" = true)
    (k_l_any : PySem.W.keepIn K (.ref f_l_any) = true)
    (a_l_leaf : PySem.W.nsIn K mainGlobals "_law_leaf" = some (some (.ref f_l_leaf)))
    (l_l_leaf : K.lookup f_l_leaf = some ⟨oc_l_leaf, od_l_leaf, .func (PySem.W.fnOf "_law_leaf" "_law_leaf" (defArgs s_l_leaf) (defBody s_l_leaf) (defScope s_l_leaf) .none kV_l_leaf dc_l_leaf pm_l_leaf an_l_leaf cd_l_leaf ct_l_leaf), sl_l_leaf⟩)
    (c_l_leaf : PySem.W.codeIn K cd_l_leaf "_law_leaf" = true)
    (k_l_leaf : PySem.W.keepIn K (.ref f_l_leaf) = true)
    (a_l_tree : PySem.W.nsIn K mainGlobals "_law_tree" = some (some (.ref f_l_tree)))
    (l_l_tree : K.lookup f_l_tree = some ⟨oc_l_tree, od_l_tree, .func (PySem.W.fnOf "_law_tree" "_law_tree" (defArgs s_l_tree) (defBody s_l_tree) (defScope s_l_tree) .none kV_l_tree dc_l_tree pm_l_tree an_l_tree cd_l_tree ct_l_tree), sl_l_tree⟩)
    (c_l_tree : PySem.W.codeIn K cd_l_tree "_law_tree" = true)
    (k_l_tree : PySem.W.keepIn K (.ref f_l_tree) = true)
    (a_inner_trees : PySem.W.nsIn K mainGlobals "inner_trees" = some (some (.ref f_inner_trees)))
    (l_inner_trees : K.lookup f_inner_trees = some ⟨oc_inner_trees, od_inner_trees, .func (PySem.W.fnOf "inner_trees" "inner_trees" (defArgs s_inner_trees) (defBody s_inner_trees) (defScope s_inner_trees) .none kV_inner_trees dc_inner_trees pm_inner_trees an_inner_trees cd_inner_trees ct_inner_trees), sl_inner_trees⟩)
    (c_inner_trees : PySem.W.codeIn K cd_inner_trees "inner_trees" = true)
    (k_inner_trees : PySem.W.keepIn K (.ref f_inner_trees) = true)
    (a_parts_of : PySem.W.nsIn K mainGlobals "parts_of" = some (some (.ref f_parts_of)))
    (l_parts_of : K.lookup f_parts_of = some ⟨oc_parts_of, od_parts_of, .func (PySem.W.fnOf "parts_of" "parts_of" (defArgs s_parts_of) (defBody s_parts_of) (defScope s_parts_of) .none kV_parts_of dc_parts_of pm_parts_of an_parts_of cd_parts_of ct_parts_of), sl_parts_of⟩)
    (c_parts_of : PySem.W.codeIn K cd_parts_of "parts_of" = true)
    (k_parts_of : PySem.W.keepIn K (.ref f_parts_of) = true)
    (a_common_multiple : PySem.W.nsIn K mainGlobals "common_multiple" = some (some (.ref f_common_multiple)))
    (l_common_multiple : K.lookup f_common_multiple = some ⟨oc_common_multiple, od_common_multiple, .func (PySem.W.fnOf "common_multiple" "common_multiple" (defArgs s_common_multiple) (defBody s_common_multiple) (defScope s_common_multiple) .none kV_common_multiple dc_common_multiple pm_common_multiple an_common_multiple cd_common_multiple ct_common_multiple), sl_common_multiple⟩)
    (c_common_multiple : PySem.W.codeIn K cd_common_multiple "common_multiple" = true)
    (k_common_multiple : PySem.W.keepIn K (.ref f_common_multiple) = true)
    (a_period_of : PySem.W.nsIn K mainGlobals "period_of" = some (some (.ref f_period_of)))
    (l_period_of : K.lookup f_period_of = some ⟨oc_period_of, od_period_of, .func (PySem.W.fnOf "period_of" "period_of" (defArgs s_period_of) (defBody s_period_of) (defScope s_period_of) .none kV_period_of dc_period_of pm_period_of an_period_of cd_period_of ct_period_of), sl_period_of⟩)
    (c_period_of : PySem.W.codeIn K cd_period_of "period_of" = true)
    (k_period_of : PySem.W.keepIn K (.ref f_period_of) = true)
    (a_number_of : PySem.W.nsIn K mainGlobals "number_of" = some (some (.ref f_number_of)))
    (l_number_of : K.lookup f_number_of = some ⟨oc_number_of, od_number_of, .func (PySem.W.fnOf "number_of" "number_of" (defArgs s_number_of) (defBody s_number_of) (defScope s_number_of) .none kV_number_of dc_number_of pm_number_of an_number_of cd_number_of ct_number_of), sl_number_of⟩)
    (c_number_of : PySem.W.codeIn K cd_number_of "number_of" = true)
    (k_number_of : PySem.W.keepIn K (.ref f_number_of) = true)
    (a_plain_tree : PySem.W.nsIn K mainGlobals "plain_tree" = some (some (.ref f_plain_tree)))
    (l_plain_tree : K.lookup f_plain_tree = some ⟨oc_plain_tree, od_plain_tree, .func (PySem.W.fnOf "plain_tree" "plain_tree" (defArgs s_plain_tree) (defBody s_plain_tree) (defScope s_plain_tree) .none kV_plain_tree dc_plain_tree pm_plain_tree an_plain_tree cd_plain_tree ct_plain_tree), sl_plain_tree⟩)
    (c_plain_tree : PySem.W.codeIn K cd_plain_tree "plain_tree" = true)
    (k_plain_tree : PySem.W.keepIn K (.ref f_plain_tree) = true)
    (a_split_inner : PySem.W.nsIn K mainGlobals "split_inner" = some (some (.ref f_split_inner)))
    (l_split_inner : K.lookup f_split_inner = some ⟨oc_split_inner, od_split_inner, .func (PySem.W.fnOf "split_inner" "split_inner" (defArgs s_split_inner) (defBody s_split_inner) (defScope s_split_inner) .none kV_split_inner dc_split_inner pm_split_inner an_split_inner cd_split_inner ct_split_inner), sl_split_inner⟩)
    (c_split_inner : PySem.W.codeIn K cd_split_inner "split_inner" = true)
    (k_split_inner : PySem.W.keepIn K (.ref f_split_inner) = true)
    (a_tree_of : PySem.W.nsIn K mainGlobals "tree_of" = some (some (.ref f_tree_of)))
    (l_tree_of : K.lookup f_tree_of = some ⟨oc_tree_of, od_tree_of, .func (PySem.W.fnOf "tree_of" "tree_of" (defArgs s_tree_of) (defBody s_tree_of) (defScope s_tree_of) .none kV_tree_of dc_tree_of pm_tree_of an_tree_of cd_tree_of ct_tree_of), sl_tree_of⟩)
    (c_tree_of : PySem.W.codeIn K cd_tree_of "tree_of" = true)
    (k_tree_of : PySem.W.keepIn K (.ref f_tree_of) = true)
    (a_Condition_DinitD : PySem.W.findIn K (.ref C_Condition) "__init__" = some (some (.ref f_Condition_DinitD)))
    (i_Condition_DinitD : PySem.W.isFn K (.ref f_Condition_DinitD) = true)
    (l_Condition_DinitD : K.lookup f_Condition_DinitD = some ⟨oc_Condition_DinitD, od_Condition_DinitD, .func (PySem.W.fnOf "__init__" "Condition.__init__" (defArgs s_Condition_DinitD) (defBody s_Condition_DinitD) (defScope s_Condition_DinitD) .none kV_Condition_DinitD dc_Condition_DinitD pm_Condition_DinitD an_Condition_DinitD cd_Condition_DinitD ct_Condition_DinitD), sl_Condition_DinitD⟩)
    (c_Condition_DinitD : PySem.W.codeIn K cd_Condition_DinitD "Condition.__init__" = true)
    (k_Condition_DinitD : PySem.W.keepIn K (.ref f_Condition_DinitD) = true)
    (a_Condition_DeqD : PySem.W.findIn K (.ref C_Condition) "__eq__" = some (some (.ref f_Condition_DeqD)))
    (i_Condition_DeqD : PySem.W.isFn K (.ref f_Condition_DeqD) = true)
    (l_Condition_DeqD : K.lookup f_Condition_DeqD = some ⟨oc_Condition_DeqD, od_Condition_DeqD, .func (PySem.W.fnOf "__eq__" "Condition.__eq__" (defArgs s_Condition_DeqD) (defBody s_Condition_DeqD) (defScope s_Condition_DeqD) .none kV_Condition_DeqD dc_Condition_DeqD pm_Condition_DeqD an_Condition_DeqD cd_Condition_DeqD ct_Condition_DeqD), sl_Condition_DeqD⟩)
    (c_Condition_DeqD : PySem.W.codeIn K cd_Condition_DeqD "Condition.__eq__" = true)
    (k_Condition_DeqD : PySem.W.keepIn K (.ref f_Condition_DeqD) = true)
    (a_Condition_DreprD : PySem.W.findIn K (.ref C_Condition) "__repr__" = some (some (.ref f_Condition_DreprD)))
    (i_Condition_DreprD : PySem.W.isFn K (.ref f_Condition_DreprD) = true)
    (l_Condition_DreprD : K.lookup f_Condition_DreprD = some ⟨oc_Condition_DreprD, od_Condition_DreprD, .func (PySem.W.fnOf "__repr__" "Condition.__repr__" (defArgs s_Condition_DreprD) (defBody s_Condition_DreprD) (defScope s_Condition_DreprD) .none kV_Condition_DreprD dc_Condition_DreprD pm_Condition_DreprD an_Condition_DreprD cd_Condition_DreprD ct_Condition_DreprD), sl_Condition_DreprD⟩)
    (c_Condition_DreprD : PySem.W.codeIn K cd_Condition_DreprD "Condition.__repr__" = true)
    (k_Condition_DreprD : PySem.W.keepIn K (.ref f_Condition_DreprD) = true)
    (a_Condition_parts : PySem.W.findIn K (.ref C_Condition) "parts" = some (some (.ref p_Condition_parts)))
    (g_Condition_parts : PySem.W.specialIn K (.ref p_Condition_parts) "__get__" = some (some (.builtin "property.__get__")))
    (t_Condition_parts : PySem.W.takesIn K (.ref p_Condition_parts) = some true)
    (r1_Condition_parts : PySem.W.recIn K p_Condition_parts "property" = some (.ref f_Condition_parts :: r_Condition_parts))
    (l_Condition_parts : K.lookup f_Condition_parts = some ⟨oc_Condition_parts, od_Condition_parts, .func (PySem.W.fnOf "parts" "Condition.parts" (defArgs s_Condition_parts) (defBody s_Condition_parts) (defScope s_Condition_parts) .none kV_Condition_parts dc_Condition_parts pm_Condition_parts an_Condition_parts cd_Condition_parts ct_Condition_parts), sl_Condition_parts⟩)
    (c_Condition_parts : PySem.W.codeIn K cd_Condition_parts "Condition.parts" = true)
    (k_Condition_parts : PySem.W.keepIn K (.ref f_Condition_parts) = true)
    (a_Condition_period : PySem.W.findIn K (.ref C_Condition) "period" = some (some (.ref p_Condition_period)))
    (g_Condition_period : PySem.W.specialIn K (.ref p_Condition_period) "__get__" = some (some (.builtin "property.__get__")))
    (t_Condition_period : PySem.W.takesIn K (.ref p_Condition_period) = some true)
    (r1_Condition_period : PySem.W.recIn K p_Condition_period "property" = some (.ref f_Condition_period :: r_Condition_period))
    (l_Condition_period : K.lookup f_Condition_period = some ⟨oc_Condition_period, od_Condition_period, .func (PySem.W.fnOf "period" "Condition.period" (defArgs s_Condition_period) (defBody s_Condition_period) (defScope s_Condition_period) .none kV_Condition_period dc_Condition_period pm_Condition_period an_Condition_period cd_Condition_period ct_Condition_period), sl_Condition_period⟩)
    (c_Condition_period : PySem.W.codeIn K cd_Condition_period "Condition.period" = true)
    (k_Condition_period : PySem.W.keepIn K (.ref f_Condition_period) = true)
    (a_Condition_text : PySem.W.findIn K (.ref C_Condition) "text" = some (some (.ref p_Condition_text)))
    (g_Condition_text : PySem.W.specialIn K (.ref p_Condition_text) "__get__" = some (some (.builtin "property.__get__")))
    (t_Condition_text : PySem.W.takesIn K (.ref p_Condition_text) = some true)
    (r1_Condition_text : PySem.W.recIn K p_Condition_text "property" = some (.ref f_Condition_text :: r_Condition_text))
    (l_Condition_text : K.lookup f_Condition_text = some ⟨oc_Condition_text, od_Condition_text, .func (PySem.W.fnOf "text" "Condition.text" (defArgs s_Condition_text) (defBody s_Condition_text) (defScope s_Condition_text) .none kV_Condition_text dc_Condition_text pm_Condition_text an_Condition_text cd_Condition_text ct_Condition_text), sl_Condition_text⟩)
    (c_Condition_text : PySem.W.codeIn K cd_Condition_text "Condition.text" = true)
    (k_Condition_text : PySem.W.keepIn K (.ref f_Condition_text) = true)
    (a_Condition_tree : PySem.W.findIn K (.ref C_Condition) "tree" = some (some (.ref p_Condition_tree)))
    (g_Condition_tree : PySem.W.specialIn K (.ref p_Condition_tree) "__get__" = some (some (.builtin "property.__get__")))
    (t_Condition_tree : PySem.W.takesIn K (.ref p_Condition_tree) = some true)
    (r1_Condition_tree : PySem.W.recIn K p_Condition_tree "property" = some (.ref f_Condition_tree :: r_Condition_tree))
    (l_Condition_tree : K.lookup f_Condition_tree = some ⟨oc_Condition_tree, od_Condition_tree, .func (PySem.W.fnOf "tree" "Condition.tree" (defArgs s_Condition_tree) (defBody s_Condition_tree) (defScope s_Condition_tree) .none kV_Condition_tree dc_Condition_tree pm_Condition_tree an_Condition_tree cd_Condition_tree ct_Condition_tree), sl_Condition_tree⟩)
    (c_Condition_tree : PySem.W.codeIn K cd_Condition_tree "Condition.tree" = true)
    (k_Condition_tree : PySem.W.keepIn K (.ref f_Condition_tree) = true)
    (a_law : PySem.W.nsIn K mainGlobals "law" = some (some (.ref f_law)))
    (l_law : K.lookup f_law = some ⟨oc_law, od_law, .func (PySem.W.fnOf "law" "law" (defArgs s_law) (defBody s_law) (defScope s_law) .none kV_law dc_law pm_law an_law cd_law ct_law), sl_law⟩)
    (c_law : PySem.W.codeIn K cd_law "law" = true)
    (k_law : PySem.W.keepIn K (.ref f_law) = true)
    (n_Condition_own_parts : PySem.W.findIn K (.ref C_Condition) "own_parts" = some none)
    (n_Condition_own_period : PySem.W.findIn K (.ref C_Condition) "own_period" = some none)
    (n_Condition_own_text : PySem.W.findIn K (.ref C_Condition) "own_text" = some none)
    (n_Condition_own_tree : PySem.W.findIn K (.ref C_Condition) "own_tree" = some none)
    (z_all : PySem.W.nsIn K mainGlobals "all" = some none)
    (z_bool : PySem.W.nsIn K mainGlobals "bool" = some none)
    (z_enumerate : PySem.W.nsIn K mainGlobals "enumerate" = some none)
    (z_int : PySem.W.nsIn K mainGlobals "int" = some none)
    (z_isinstance : PySem.W.nsIn K mainGlobals "isinstance" = some none)
    (z_len : PySem.W.nsIn K mainGlobals "len" = some none)
    (z_list : PySem.W.nsIn K mainGlobals "list" = some none)
    (z_min : PySem.W.nsIn K mainGlobals "min" = some none)
    (z_range : PySem.W.nsIn K mainGlobals "range" = some none)
    (z_repr : PySem.W.nsIn K mainGlobals "repr" = some none)
    (z_str : PySem.W.nsIn K mainGlobals "str" = some none)
    (z_sum : PySem.W.nsIn K mainGlobals "sum" = some none)
    (z_tuple : PySem.W.nsIn K mainGlobals "tuple" = some none)
    (a_JOINS : PySem.W.nsIn K mainGlobals "JOINS" = some (some (.ref q_JOINS)))
    (b_JOINS : K.lookup q_JOINS = some ⟨.type "tuple", qd_JOINS, .seq #[Value.str "all" t0_JOINS, Value.str "any" t1_JOINS] qn_JOINS, qs_JOINS⟩)
    (a_MOST_AGE : PySem.W.nsIn K mainGlobals "MOST_AGE" = some (some (.int 59 t_MOST_AGE)))
    (a_MOST_PARTS : PySem.W.nsIn K mainGlobals "MOST_PARTS" = some (some (.int 8 t_MOST_PARTS)))
    (a_RANGES : PySem.W.nsIn K mainGlobals "RANGES" = some (some (.ref q_RANGES)))
    (d_RANGES : K.lookup q_RANGES = some ⟨.type "dict", none, .dict es_RANGES en_RANGES, #[]⟩)
    (y_RANGES : PySem.W.KeysLit w.params es_RANGES.toList)
    (s_RANGES : (q_RANGES == sysModules) = false)
    (e4_RANGES : PySem.W.nsIn K q_RANGES "apart" = some (some (.ref p4_RANGES)))
    (b4_RANGES : K.lookup p4_RANGES = some ⟨.type "tuple", qd4_RANGES, .seq #[Value.int 2 t4_0_RANGES, Value.int 20 t4_1_RANGES] qn4_RANGES, qs4_RANGES⟩)
    (e3_RANGES : PySem.W.nsIn K q_RANGES "last" = some (some (.ref p3_RANGES)))
    (b3_RANGES : K.lookup p3_RANGES = some ⟨.type "tuple", qd3_RANGES, .seq #[Value.int 2 t3_0_RANGES, Value.int 7 t3_1_RANGES] qn3_RANGES, qs3_RANGES⟩)
    (e2_RANGES : PySem.W.nsIn K q_RANGES "first" = some (some (.ref p2_RANGES)))
    (b2_RANGES : K.lookup p2_RANGES = some ⟨.type "tuple", qd2_RANGES, .seq #[Value.int 2 t2_0_RANGES, Value.int 7 t2_1_RANGES] qn2_RANGES, qs2_RANGES⟩)
    (e1_RANGES : PySem.W.nsIn K q_RANGES "oldest" = some (some (.ref p1_RANGES)))
    (b1_RANGES : K.lookup p1_RANGES = some ⟨.type "tuple", qd1_RANGES, .seq #[Value.int 1 t1_0_RANGES, Value.int 20 t1_1_RANGES] qn1_RANGES, qs1_RANGES⟩)
    (e0_RANGES : PySem.W.nsIn K q_RANGES "newest" = some (some (.ref p0_RANGES)))
    (b0_RANGES : K.lookup p0_RANGES = some ⟨.type "tuple", qd0_RANGES, .seq #[Value.int 1 t0_0_RANGES, Value.int 20 t0_1_RANGES] qn0_RANGES, qs0_RANGES⟩)
    : ∃ fd : FuncData, (∀ (s : Shared) (v : Value), BindsTo s fd ⟨[v], []⟩ [("_law_script", v)]) ∧ ∀ base : Heap, K.In base → base.Ns mainGlobals mg → Fn3 l.prog w K mg base 28 fa fd ["_law_script"] m_law := by
  have e := hfa.symm.trans (PySem.W.mg_of X G a_law)
  cases e
  refine ⟨PySem.W.fnOf "law" "law" (defArgs s_law) (defBody s_law) (defScope s_law) .none kV_law dc_law pm_law an_law cd_law ct_law, fun s v => .of_eq rfl, fun base _ _ => ?_⟩
  have hm_Condition := PySem.W.mg_of X G a_Condition
  have cl_Condition : Cls K C_Condition := ⟨pg_Condition, hd_Condition, po_Condition, sa_Condition⟩
  have hz_all := PySem.W.mg_none_of X G z_all
  have hz_bool := PySem.W.mg_none_of X G z_bool
  have hz_enumerate := PySem.W.mg_none_of X G z_enumerate
  have hz_int := PySem.W.mg_none_of X G z_int
  have hz_isinstance := PySem.W.mg_none_of X G z_isinstance
  have hz_len := PySem.W.mg_none_of X G z_len
  have hz_list := PySem.W.mg_none_of X G z_list
  have hz_min := PySem.W.mg_none_of X G z_min
  have hz_range := PySem.W.mg_none_of X G z_range
  have hz_repr := PySem.W.mg_none_of X G z_repr
  have hz_str := PySem.W.mg_none_of X G z_str
  have hz_sum := PySem.W.mg_none_of X G z_sum
  have hz_tuple := PySem.W.mg_none_of X G z_tuple
  have hK_Condition : GK ⟨l.prog, w, K, mg, base⟩ "Condition" k_Condition := ⟨_, .ref C_Condition, hm_Condition, rfl, fun μ G0 => .glb hm_Condition rfl⟩
  have hK_JOINS : GK ⟨l.prog, w, K, mg, base⟩ "JOINS" k_JOINS := ⟨_, .ref q_JOINS, PySem.W.mg_of X G a_JOINS, rfl, fun μ G0 => .ktp (.inr ⟨_, _, _, b_JOINS, rfl, rfl, by show 2 ≤ sizeLine; decide, (.cons (show L2.RelV (V.str "all") _ from ⟨_, rfl⟩) (.cons (show L2.RelV (V.str "any") _ from ⟨_, rfl⟩) .nil))⟩) (.cons (.str "all") (.cons (.str "any") .nil))⟩
  have hK_MOST_AGE : GK ⟨l.prog, w, K, mg, base⟩ "MOST_AGE" k_MOST_AGE := ⟨_, .int 59, PySem.W.mg_of X G a_MOST_AGE, ⟨_, rfl⟩, fun μ G0 => .int _⟩
  have hK_MOST_PARTS : GK ⟨l.prog, w, K, mg, base⟩ "MOST_PARTS" k_MOST_PARTS := ⟨_, .int 8, PySem.W.mg_of X G a_MOST_PARTS, ⟨_, rfl⟩, fun μ G0 => .int _⟩
  have hK_RANGES : GK ⟨l.prog, w, K, mg, base⟩ "RANGES" k_RANGES := ⟨_, .ref q_RANGES, PySem.W.mg_of X G a_RANGES, rfl, fun μ G0 => .glb (PySem.W.mg_of X G a_RANGES) rfl⟩
  have hD_RANGES : GD ⟨l.prog, w, K, mg, base⟩ "RANGES" kv_RANGES [] := gd_mk2 (PySem.W.mg_of X G a_RANGES) d_RANGES y_RANGES s_RANGES (ak_cons e0_RANGES (show L2.RelV (V.ref p0_RANGES) _ from rfl) (fun μ G0 => .ktp (.inr ⟨_, _, _, b0_RANGES, rfl, rfl, by show 2 ≤ sizeLine; decide, (.cons (show L2.RelV (V.int 1) _ from ⟨_, rfl⟩) (.cons (show L2.RelV (V.int 20) _ from ⟨_, rfl⟩) .nil))⟩) (.cons (.int 1) (.cons (.int 20) .nil))) (ak_cons e1_RANGES (show L2.RelV (V.ref p1_RANGES) _ from rfl) (fun μ G0 => .ktp (.inr ⟨_, _, _, b1_RANGES, rfl, rfl, by show 2 ≤ sizeLine; decide, (.cons (show L2.RelV (V.int 1) _ from ⟨_, rfl⟩) (.cons (show L2.RelV (V.int 20) _ from ⟨_, rfl⟩) .nil))⟩) (.cons (.int 1) (.cons (.int 20) .nil))) (ak_cons e2_RANGES (show L2.RelV (V.ref p2_RANGES) _ from rfl) (fun μ G0 => .ktp (.inr ⟨_, _, _, b2_RANGES, rfl, rfl, by show 2 ≤ sizeLine; decide, (.cons (show L2.RelV (V.int 2) _ from ⟨_, rfl⟩) (.cons (show L2.RelV (V.int 7) _ from ⟨_, rfl⟩) .nil))⟩) (.cons (.int 2) (.cons (.int 7) .nil))) (ak_cons e3_RANGES (show L2.RelV (V.ref p3_RANGES) _ from rfl) (fun μ G0 => .ktp (.inr ⟨_, _, _, b3_RANGES, rfl, rfl, by show 2 ≤ sizeLine; decide, (.cons (show L2.RelV (V.int 2) _ from ⟨_, rfl⟩) (.cons (show L2.RelV (V.int 7) _ from ⟨_, rfl⟩) .nil))⟩) (.cons (.int 2) (.cons (.int 7) .nil))) (ak_cons e4_RANGES (show L2.RelV (V.ref p4_RANGES) _ from rfl) (fun μ G0 => .ktp (.inr ⟨_, _, _, b4_RANGES, rfl, rfl, by show 2 ≤ sizeLine; decide, (.cons (show L2.RelV (V.int 2) _ from ⟨_, rfl⟩) (.cons (show L2.RelV (V.int 20) _ from ⟨_, rfl⟩) .nil))⟩) (.cons (.int 2) (.cons (.int 20) .nil))) ak_nil)))))
  have F_l_like := fun_mk (st := s_l_like) l_l_like c_l_like k_l_like
  have b_l_like := F_l_like.binds (ps := ["_law_found", "_law_due"]) fun _ _ _ _ _ _ us hl => match us, hl with | [_, _], _ => rfl
  have hm_l_like := PySem.W.mg_of X G a_l_like
  have o_l_like : Fn3 l.prog w K mg base 13 f_l_like _ ["_law_found", "_law_due"] m_l_like := fr_l_like F_l_like k_l_like b_l_like hm_l_like (fun k mm hself => { tr := True.intro, F_l_like := hself, z_all := hz_all, z_bool := hz_bool, z_int := hz_int, z_isinstance := hz_isinstance, z_len := hz_len, z_list := hz_list, z_range := hz_range, z_str := hz_str, z_tuple := hz_tuple }) 12
  have gc_l_like : Gc ⟨l.prog, w, K, mg, base⟩ (.ref f_l_like) 2 [] 13 m_l_like := gc_all o_l_like k_l_like b_l_like rfl
  have F_l_opened := fun_mk (st := s_l_opened) l_l_opened c_l_opened k_l_opened
  have b_l_opened := F_l_opened.binds (ps := ["_law_script"]) fun _ _ _ _ _ _ us hl => match us, hl with | [_], _ => rfl
  have hm_l_opened := PySem.W.mg_of X G a_l_opened
  have o_l_opened : Fn3 l.prog w K mg base 1 f_l_opened _ ["_law_script"] m_l_opened := fn_l_opened F_l_opened { tr := True.intro, z_list := hz_list }
  have gc_l_opened : Gc ⟨l.prog, w, K, mg, base⟩ (.ref f_l_opened) 1 [] 1 m_l_opened := gc_all o_l_opened k_l_opened b_l_opened rfl
  have F_l_inner := fun_mk (st := s_l_inner) l_l_inner c_l_inner k_l_inner
  have b_l_inner := F_l_inner.binds (ps := ["_law_tree_here"]) fun _ _ _ _ _ _ us hl => match us, hl with | [_], _ => rfl
  have hm_l_inner := PySem.W.mg_of X G a_l_inner
  have o_l_inner : Fn3 l.prog w K mg base 1 f_l_inner _ ["_law_tree_here"] m_l_inner := fn_l_inner F_l_inner { tr := True.intro, z_list := hz_list }
  have gc_l_inner : Gc ⟨l.prog, w, K, mg, base⟩ (.ref f_l_inner) 1 [] 1 m_l_inner := gc_all o_l_inner k_l_inner b_l_inner rfl
  have F_l_parts := fun_mk (st := s_l_parts) l_l_parts c_l_parts k_l_parts
  have b_l_parts := F_l_parts.binds (ps := ["_law_tree_here"]) fun _ _ _ _ _ _ us hl => match us, hl with | [_], _ => rfl
  have hm_l_parts := PySem.W.mg_of X G a_l_parts
  have o_l_parts : Fn3 l.prog w K mg base 14 f_l_parts _ ["_law_tree_here"] m_l_parts := fr_l_parts F_l_parts k_l_parts b_l_parts hm_l_parts (fun k mm hself => { tr := True.intro, F_l_inner := ⟨_, hm_l_inner, gc_l_inner⟩, F_l_parts := hself, z_sum := hz_sum }) 12
  have gc_l_parts : Gc ⟨l.prog, w, K, mg, base⟩ (.ref f_l_parts) 1 [] 14 m_l_parts := gc_all o_l_parts k_l_parts b_l_parts rfl
  have F_l_shared := fun_mk (st := s_l_shared) l_l_shared c_l_shared k_l_shared
  have b_l_shared := F_l_shared.binds (ps := ["_law_one", "_law_other"]) fun _ _ _ _ _ _ us hl => match us, hl with | [_, _], _ => rfl
  have hm_l_shared := PySem.W.mg_of X G a_l_shared
  have o_l_shared : Fn3 l.prog w K mg base 1 f_l_shared _ ["_law_one", "_law_other"] m_l_shared := fn_l_shared F_l_shared { tr := True.intro, z_int := hz_int }
  have gc_l_shared : Gc ⟨l.prog, w, K, mg, base⟩ (.ref f_l_shared) 2 [] 1 m_l_shared := gc_all o_l_shared k_l_shared b_l_shared rfl
  have F_l_period := fun_mk (st := s_l_period) l_l_period c_l_period k_l_period
  have b_l_period := F_l_period.binds (ps := ["_law_tree_here"]) fun _ _ _ _ _ _ us hl => match us, hl with | [_], _ => rfl
  have hm_l_period := PySem.W.mg_of X G a_l_period
  have o_l_period : Fn3 l.prog w K mg base 14 f_l_period _ ["_law_tree_here"] m_l_period := fr_l_period F_l_period k_l_period b_l_period hm_l_period (fun k mm hself => { tr := True.intro, F_l_inner := ⟨_, hm_l_inner, gc_l_inner⟩, F_l_period := hself, F_l_shared := ⟨_, hm_l_shared, gc_l_shared⟩ }) 12
  have gc_l_period : Gc ⟨l.prog, w, K, mg, base⟩ (.ref f_l_period) 1 [] 14 m_l_period := gc_all o_l_period k_l_period b_l_period rfl
  have F_l_pull := fun_mk (st := s_l_pull) l_l_pull c_l_pull k_l_pull
  have b_l_pull := F_l_pull.binds (ps := ["_law_bag", "_law_many"]) fun _ _ _ _ _ _ us hl => match us, hl with | [_, _], _ => rfl
  have hm_l_pull := PySem.W.mg_of X G a_l_pull
  have o_l_pull : Fn3 l.prog w K mg base 1 f_l_pull _ ["_law_bag", "_law_many"] m_l_pull := fn_l_pull F_l_pull { tr := True.intro, z_int := hz_int, z_len := hz_len }
  have gc_l_pull : Gc ⟨l.prog, w, K, mg, base⟩ (.ref f_l_pull) 2 [] 1 m_l_pull := gc_all o_l_pull k_l_pull b_l_pull rfl
  have F_l_text := fun_mk (st := s_l_text) l_l_text c_l_text k_l_text
  have b_l_text := F_l_text.binds (ps := ["_law_tree_here"]) fun _ _ _ _ _ _ us hl => match us, hl with | [_], _ => rfl
  have hm_l_text := PySem.W.mg_of X G a_l_text
  have o_l_text : Fn3 l.prog w K mg base 14 f_l_text _ ["_law_tree_here"] m_l_text := fr_l_text F_l_text k_l_text b_l_text hm_l_text (fun k mm hself => { tr := True.intro, F_l_inner := ⟨_, hm_l_inner, gc_l_inner⟩, F_l_text := hself, z_str := hz_str }) 12
  have gc_l_text : Gc ⟨l.prog, w, K, mg, base⟩ (.ref f_l_text) 1 [] 14 m_l_text := gc_all o_l_text k_l_text b_l_text rfl
  have F_l_any := fun_mk (st := s_l_any) l_l_any c_l_any k_l_any
  have b_l_any := F_l_any.binds (ps := ["_law_bag", "_law_things"]) fun _ _ _ _ _ _ us hl => match us, hl with | [_, _], _ => rfl
  have hm_l_any := PySem.W.mg_of X G a_l_any
  have o_l_any : Fn3 l.prog w K mg base 2 f_l_any _ ["_law_bag", "_law_things"] m_l_any := fn_l_any F_l_any { tr := True.intro, F_l_pull := ⟨_, hm_l_pull, gc_l_pull⟩, z_len := hz_len }
  have gc_l_any : Gc ⟨l.prog, w, K, mg, base⟩ (.ref f_l_any) 2 [] 2 m_l_any := gc_all o_l_any k_l_any b_l_any rfl
  have F_l_leaf := fun_mk (st := s_l_leaf) l_l_leaf c_l_leaf k_l_leaf
  have b_l_leaf := F_l_leaf.binds (ps := ["_law_bag", "_law_high", "_law_periods"]) fun _ _ _ _ _ _ us hl => match us, hl with | [_, _, _], _ => rfl
  have hm_l_leaf := PySem.W.mg_of X G a_l_leaf
  have o_l_leaf : Fn3 l.prog w K mg base 3 f_l_leaf _ ["_law_bag", "_law_high", "_law_periods"] m_l_leaf := fn_l_leaf F_l_leaf { tr := True.intro, F_l_any := ⟨_, hm_l_any, gc_l_any⟩, F_l_pull := ⟨_, hm_l_pull, gc_l_pull⟩, z_min := hz_min }
  have gc_l_leaf : Gc ⟨l.prog, w, K, mg, base⟩ (.ref f_l_leaf) 3 [] 3 m_l_leaf := gc_all o_l_leaf k_l_leaf b_l_leaf rfl
  have F_l_tree := fun_mk (st := s_l_tree) l_l_tree c_l_tree k_l_tree
  have b_l_tree := F_l_tree.binds (ps := ["_law_bag", "_law_room", "_law_high", "_law_periods"]) fun _ _ _ _ _ _ us hl => match us, hl with | [_, _, _, _], _ => rfl
  have hm_l_tree := PySem.W.mg_of X G a_l_tree
  have o_l_tree : Fn3 l.prog w K mg base 27 f_l_tree _ ["_law_bag", "_law_room", "_law_high", "_law_periods"] m_l_tree := fr_l_tree F_l_tree k_l_tree b_l_tree hm_l_tree (fun k mm hself => { tr := True.intro, F_l_leaf := ⟨_, hm_l_leaf, gc_l_leaf⟩, F_l_parts := ⟨_, hm_l_parts, gc_l_parts⟩, F_l_pull := ⟨_, hm_l_pull, gc_l_pull⟩, F_l_tree := hself, z_tuple := hz_tuple }) 12
  have gc_l_tree : Gc ⟨l.prog, w, K, mg, base⟩ (.ref f_l_tree) 4 [] 27 m_l_tree := gc_all o_l_tree k_l_tree b_l_tree rfl
  have F_inner_trees := fun_mk (st := s_inner_trees) l_inner_trees c_inner_trees k_inner_trees
  have b_inner_trees := F_inner_trees.binds (ps := ["tree"]) fun _ _ _ _ _ _ us hl => match us, hl with | [_], _ => rfl
  have hm_inner_trees := PySem.W.mg_of X G a_inner_trees
  have o_inner_trees : Fn3 l.prog w K mg base 1 f_inner_trees _ ["tree"] m_inner_trees := fn_inner_trees F_inner_trees { tr := True.intro, K_JOINS := hK_JOINS, z_list := hz_list }
  have gc_inner_trees : Gc ⟨l.prog, w, K, mg, base⟩ (.ref f_inner_trees) 1 [] 1 m_inner_trees := gc_all o_inner_trees k_inner_trees b_inner_trees rfl
  have F_parts_of := fun_mk (st := s_parts_of) l_parts_of c_parts_of k_parts_of
  have b_parts_of := F_parts_of.binds (ps := ["tree"]) fun _ _ _ _ _ _ us hl => match us, hl with | [_], _ => rfl
  have hm_parts_of := PySem.W.mg_of X G a_parts_of
  have o_parts_of : Fn3 l.prog w K mg base 14 f_parts_of _ ["tree"] m_parts_of := fr_parts_of F_parts_of k_parts_of b_parts_of hm_parts_of (fun k mm hself => { tr := True.intro, F_inner_trees := ⟨_, hm_inner_trees, gc_inner_trees⟩, F_parts_of := hself, z_sum := hz_sum }) 12
  have gc_parts_of : Gc ⟨l.prog, w, K, mg, base⟩ (.ref f_parts_of) 1 [] 14 m_parts_of := gc_all o_parts_of k_parts_of b_parts_of rfl
  have F_common_multiple := fun_mk (st := s_common_multiple) l_common_multiple c_common_multiple k_common_multiple
  have b_common_multiple := F_common_multiple.binds (ps := ["one", "other"]) fun _ _ _ _ _ _ us hl => match us, hl with | [_, _], _ => rfl
  have hm_common_multiple := PySem.W.mg_of X G a_common_multiple
  have o_common_multiple : Fn3 l.prog w K mg base 1 f_common_multiple _ ["one", "other"] m_common_multiple := fn_common_multiple F_common_multiple { tr := True.intro }
  have gc_common_multiple : Gc ⟨l.prog, w, K, mg, base⟩ (.ref f_common_multiple) 2 [] 1 m_common_multiple := gc_all o_common_multiple k_common_multiple b_common_multiple rfl
  have F_period_of := fun_mk (st := s_period_of) l_period_of c_period_of k_period_of
  have b_period_of := F_period_of.binds (ps := ["tree"]) fun _ _ _ _ _ _ us hl => match us, hl with | [_], _ => rfl
  have hm_period_of := PySem.W.mg_of X G a_period_of
  have o_period_of : Fn3 l.prog w K mg base 14 f_period_of _ ["tree"] m_period_of := fr_period_of F_period_of k_period_of b_period_of hm_period_of (fun k mm hself => { tr := True.intro, F_common_multiple := ⟨_, hm_common_multiple, gc_common_multiple⟩, F_inner_trees := ⟨_, hm_inner_trees, gc_inner_trees⟩, F_period_of := hself }) 12
  have gc_period_of : Gc ⟨l.prog, w, K, mg, base⟩ (.ref f_period_of) 1 [] 14 m_period_of := gc_all o_period_of k_period_of b_period_of rfl
  have F_number_of := fun_mk (st := s_number_of) l_number_of c_number_of k_number_of
  have b_number_of := F_number_of.binds (ps := ["word"]) fun _ _ _ _ _ _ us hl => match us, hl with | [_], _ => rfl
  have hm_number_of := PySem.W.mg_of X G a_number_of
  have o_number_of : Fn3 l.prog w K mg base 1 f_number_of _ ["word"] m_number_of := fn_number_of F_number_of { tr := True.intro, z_int := hz_int, z_len := hz_len }
  have gc_number_of : Gc ⟨l.prog, w, K, mg, base⟩ (.ref f_number_of) 1 [] 1 m_number_of := gc_all o_number_of k_number_of b_number_of rfl
  have F_plain_tree := fun_mk (st := s_plain_tree) l_plain_tree c_plain_tree k_plain_tree
  have b_plain_tree := F_plain_tree.binds (ps := ["words"]) fun _ _ _ _ _ _ us hl => match us, hl with | [_], _ => rfl
  have hm_plain_tree := PySem.W.mg_of X G a_plain_tree
  have o_plain_tree : Fn3 l.prog w K mg base 2 f_plain_tree _ ["words"] m_plain_tree := fn_plain_tree F_plain_tree { tr := True.intro, D_RANGES := hD_RANGES, F_number_of := ⟨_, hm_number_of, gc_number_of⟩, K_MOST_AGE := hK_MOST_AGE, K_RANGES := hK_RANGES }
  have gc_plain_tree : Gc ⟨l.prog, w, K, mg, base⟩ (.ref f_plain_tree) 1 [] 2 m_plain_tree := gc_all o_plain_tree k_plain_tree b_plain_tree rfl
  have F_split_inner := fun_mk (st := s_split_inner) l_split_inner c_split_inner k_split_inner
  have b_split_inner := F_split_inner.binds (ps := ["text"]) fun _ _ _ _ _ _ us hl => match us, hl with | [_], _ => rfl
  have hm_split_inner := PySem.W.mg_of X G a_split_inner
  have o_split_inner : Fn3 l.prog w K mg base 1 f_split_inner _ ["text"] m_split_inner := fn_split_inner F_split_inner { tr := True.intro, z_enumerate := hz_enumerate }
  have gc_split_inner : Gc ⟨l.prog, w, K, mg, base⟩ (.ref f_split_inner) 1 [] 1 m_split_inner := gc_all o_split_inner k_split_inner b_split_inner rfl
  have F_tree_of := fun_mk (st := s_tree_of) l_tree_of c_tree_of k_tree_of
  have b_tree_of := F_tree_of.binds (ps := ["text"]) fun _ _ _ _ _ _ us hl => match us, hl with | [_], _ => rfl
  have hm_tree_of := PySem.W.mg_of X G a_tree_of
  have o_tree_of : Fn3 l.prog w K mg base 15 f_tree_of _ ["text"] m_tree_of := fr_tree_of F_tree_of k_tree_of b_tree_of hm_tree_of (fun k mm hself => { tr := True.intro, F_plain_tree := ⟨_, hm_plain_tree, gc_plain_tree⟩, F_split_inner := ⟨_, hm_split_inner, gc_split_inner⟩, F_tree_of := hself, K_JOINS := hK_JOINS, z_len := hz_len, z_tuple := hz_tuple }) 12
  have gc_tree_of : Gc ⟨l.prog, w, K, mg, base⟩ (.ref f_tree_of) 1 [] 15 m_tree_of := gc_all o_tree_of k_tree_of b_tree_of rfl
  have F_Condition_DinitD := fun_mk (st := s_Condition_DinitD) l_Condition_DinitD c_Condition_DinitD k_Condition_DinitD
  have b_Condition_DinitD := F_Condition_DinitD.binds (ps := ["self", "text"]) fun _ _ _ _ _ _ us hl => match us, hl with | [_, _], _ => rfl
  have o_Condition_DinitD : Fn3 l.prog w K mg base 16 f_Condition_DinitD _ ["self", "text"] m_Condition_DinitD := fn_Condition_DinitD F_Condition_DinitD { tr := True.intro, A_Condition_own_parts := ⟨_, hm_Condition, cl_Condition, n_Condition_own_parts⟩, A_Condition_own_period := ⟨_, hm_Condition, cl_Condition, n_Condition_own_period⟩, A_Condition_own_text := ⟨_, hm_Condition, cl_Condition, n_Condition_own_text⟩, A_Condition_own_tree := ⟨_, hm_Condition, cl_Condition, n_Condition_own_tree⟩, F_parts_of := ⟨_, hm_parts_of, gc_parts_of⟩, F_period_of := ⟨_, hm_period_of, gc_period_of⟩, F_tree_of := ⟨_, hm_tree_of, gc_tree_of⟩, K_MOST_PARTS := hK_MOST_PARTS }
  have gm_Condition_DinitD : Gm ⟨l.prog, w, K, mg, base⟩ C_Condition 1 [] 16 m_Condition_DinitD := gm_all ⟨mk_Condition, a_Condition_DinitD, i_Condition_DinitD, kc_Condition⟩ o_Condition_DinitD b_Condition_DinitD rfl
  have kb_Condition_DinitD_1_text : KBn K (PySem.W.fnOf "__init__" "Condition.__init__" (defArgs s_Condition_DinitD) (defBody s_Condition_DinitD) (defScope s_Condition_DinitD) .none kV_Condition_DinitD dc_Condition_DinitD pm_Condition_DinitD an_Condition_DinitD cd_Condition_DinitD ct_Condition_DinitD) ["self", "text"] 1 ["text"] (fun us ws => pick [0, 1] (us ++ ws)) (fun us ws => pick [0, 1] (us ++ ws)) :=
    ⟨fun s us ws _ l1 l2 => match us, ws, l1, l2 with | [_], [_], _, _ => .of_eq rfl, fun r1 r2 => pick_vals (r1.append r2) _⟩
  have re_Condition_DinitD_1_text := re_pick (K := K) (mg := mg) (F := m_Condition_DinitD) (pl := 2) (n := 1) (k := 1) [0, 1] rfl (by decide)
  have gm_Condition_DinitD_1_text : Gm ⟨l.prog, w, K, mg, base⟩ C_Condition 0 ["text"] 16 m_Condition_DinitD_1_text := gm_kw ⟨mk_Condition, a_Condition_DinitD, i_Condition_DinitD, kc_Condition⟩ o_Condition_DinitD kb_Condition_DinitD_1_text re_Condition_DinitD_1_text
  have F_Condition_DeqD := fun_mk (st := s_Condition_DeqD) l_Condition_DeqD c_Condition_DeqD k_Condition_DeqD
  have b_Condition_DeqD := F_Condition_DeqD.binds (ps := ["self", "other"]) fun _ _ _ _ _ _ us hl => match us, hl with | [_, _], _ => rfl
  have o_Condition_DeqD : Fn3 l.prog w K mg base 1 f_Condition_DeqD _ ["self", "other"] m_Condition_DeqD := fn_Condition_DeqD F_Condition_DeqD { tr := True.intro, A_Condition_own_text := ⟨_, hm_Condition, cl_Condition, n_Condition_own_text⟩, K_Condition := hK_Condition, OI_Condition := ⟨_, hm_Condition, cl_Condition, ha_Condition, oc_g_, oc_t_, mo_Condition, ic_Condition, tc_Condition, ty_Condition⟩, z_isinstance := hz_isinstance }
  have gc_Condition_DeqD : Gc ⟨l.prog, w, K, mg, base⟩ (.ref f_Condition_DeqD) 2 [] 1 m_Condition_DeqD := gc_all o_Condition_DeqD k_Condition_DeqD b_Condition_DeqD rfl
  have F_Condition_DreprD := fun_mk (st := s_Condition_DreprD) l_Condition_DreprD c_Condition_DreprD k_Condition_DreprD
  have b_Condition_DreprD := F_Condition_DreprD.binds (ps := ["self"]) fun _ _ _ _ _ _ us hl => match us, hl with | [_], _ => rfl
  have o_Condition_DreprD : Fn3 l.prog w K mg base 1 f_Condition_DreprD _ ["self"] m_Condition_DreprD := fn_Condition_DreprD F_Condition_DreprD { tr := True.intro, A_Condition_own_text := ⟨_, hm_Condition, cl_Condition, n_Condition_own_text⟩ }
  have gc_Condition_DreprD : Gc ⟨l.prog, w, K, mg, base⟩ (.ref f_Condition_DreprD) 1 [] 1 m_Condition_DreprD := gc_all o_Condition_DreprD k_Condition_DreprD b_Condition_DreprD rfl
  have F_Condition_parts := fun_mk (st := s_Condition_parts) l_Condition_parts c_Condition_parts k_Condition_parts
  have b_Condition_parts := F_Condition_parts.binds (ps := ["self"]) fun _ _ _ _ _ _ us hl => match us, hl with | [_], _ => rfl
  have o_Condition_parts : Fn3 l.prog w K mg base 1 f_Condition_parts _ ["self"] m_Condition_parts := fn_Condition_parts F_Condition_parts { tr := True.intro, A_Condition_own_parts := ⟨_, hm_Condition, cl_Condition, n_Condition_own_parts⟩ }
  have F_Condition_period := fun_mk (st := s_Condition_period) l_Condition_period c_Condition_period k_Condition_period
  have b_Condition_period := F_Condition_period.binds (ps := ["self"]) fun _ _ _ _ _ _ us hl => match us, hl with | [_], _ => rfl
  have o_Condition_period : Fn3 l.prog w K mg base 1 f_Condition_period _ ["self"] m_Condition_period := fn_Condition_period F_Condition_period { tr := True.intro, A_Condition_own_period := ⟨_, hm_Condition, cl_Condition, n_Condition_own_period⟩ }
  have F_Condition_text := fun_mk (st := s_Condition_text) l_Condition_text c_Condition_text k_Condition_text
  have b_Condition_text := F_Condition_text.binds (ps := ["self"]) fun _ _ _ _ _ _ us hl => match us, hl with | [_], _ => rfl
  have o_Condition_text : Fn3 l.prog w K mg base 1 f_Condition_text _ ["self"] m_Condition_text := fn_Condition_text F_Condition_text { tr := True.intro, A_Condition_own_text := ⟨_, hm_Condition, cl_Condition, n_Condition_own_text⟩ }
  have F_Condition_tree := fun_mk (st := s_Condition_tree) l_Condition_tree c_Condition_tree k_Condition_tree
  have b_Condition_tree := F_Condition_tree.binds (ps := ["self"]) fun _ _ _ _ _ _ us hl => match us, hl with | [_], _ => rfl
  have o_Condition_tree : Fn3 l.prog w K mg base 1 f_Condition_tree _ ["self"] m_Condition_tree := fn_Condition_tree F_Condition_tree { tr := True.intro, A_Condition_own_tree := ⟨_, hm_Condition, cl_Condition, n_Condition_own_tree⟩ }
  have F_law := fun_mk (st := s_law) l_law c_law k_law
  have b_law := F_law.binds (ps := ["_law_script"]) fun _ _ _ _ _ _ us hl => match us, hl with | [_], _ => rfl
  have hm_law := PySem.W.mg_of X G a_law
  have o_law : Fn3 l.prog w K mg base 28 fa _ ["_law_script"] m_law := fn_law F_law { tr := True.intro, CV_Condition_MOST := ⟨_, _, _, .int _, hm_Condition, ⟨rd_Condition, ga_Condition⟩, ⟨v_Condition_MOST, ⟨_, rfl⟩⟩, rfl⟩, F_l_like := ⟨_, hm_l_like, gc_l_like⟩, F_l_opened := ⟨_, hm_l_opened, gc_l_opened⟩, F_l_parts := ⟨_, hm_l_parts, gc_l_parts⟩, F_l_period := ⟨_, hm_l_period, gc_l_period⟩, F_l_pull := ⟨_, hm_l_pull, gc_l_pull⟩, F_l_text := ⟨_, hm_l_text, gc_l_text⟩, F_l_tree := ⟨_, hm_l_tree, gc_l_tree⟩, N_Condition_DinitD_1_text := ⟨_, hm_Condition, gm_Condition_DinitD_1_text⟩, N_Condition_DinitD := ⟨_, hm_Condition, gm_Condition_DinitD⟩, O_Condition_DeqD := ⟨_, f_Condition_DeqD, hm_Condition, a_Condition_DeqD, i_Condition_DeqD, _, _, rfl, o_Condition_DeqD, k_Condition_DeqD, b_Condition_DeqD⟩, O_Condition_DreprD := ⟨_, f_Condition_DreprD, hm_Condition, a_Condition_DreprD, i_Condition_DreprD, _, _, rfl, o_Condition_DreprD, k_Condition_DreprD, b_Condition_DreprD⟩, OE_Condition := ⟨_, hm_Condition, ne_Condition, mo_Condition⟩, OT_Condition := ⟨_, hm_Condition, ty_Condition⟩, P_Condition_parts := ⟨_, p_Condition_parts, f_Condition_parts, hm_Condition, cl_Condition, ⟨a_Condition_parts, g_Condition_parts, t_Condition_parts, ⟨_, r1_Condition_parts⟩⟩, _, _, rfl, o_Condition_parts, k_Condition_parts, b_Condition_parts⟩, P_Condition_period := ⟨_, p_Condition_period, f_Condition_period, hm_Condition, cl_Condition, ⟨a_Condition_period, g_Condition_period, t_Condition_period, ⟨_, r1_Condition_period⟩⟩, _, _, rfl, o_Condition_period, k_Condition_period, b_Condition_period⟩, P_Condition_text := ⟨_, p_Condition_text, f_Condition_text, hm_Condition, cl_Condition, ⟨a_Condition_text, g_Condition_text, t_Condition_text, ⟨_, r1_Condition_text⟩⟩, _, _, rfl, o_Condition_text, k_Condition_text, b_Condition_text⟩, P_Condition_tree := ⟨_, p_Condition_tree, f_Condition_tree, hm_Condition, cl_Condition, ⟨a_Condition_tree, g_Condition_tree, t_Condition_tree, ⟨_, r1_Condition_tree⟩⟩, _, _, rfl, o_Condition_tree, k_Condition_tree, b_Condition_tree⟩, z_range := hz_range, z_repr := hz_repr }
  exact o_law
end G

set_option Elab.async false
set_option linter.all false
set_option autoImplicit false
set_option maxRecDepth 100000
set_option maxHeartbeats 4000000
/-! Tx: trees of conditions and their texts, plainly. -/
namespace G
open PySem L2 PySem.Builtin PySem.Builtin.Str SX
inductive W5 where
  | newest | oldest | first | last | apart
inductive Lf where
  | age (a b : Nat) | day (p r : Nat) | one (w : W5) (n : Nat)
inductive CT where
  | lf (l : Lf) | neg (t : CT) | j2 (b : Bool) (t u : CT) | j3 (b : Bool) (t u v : CT)
def W5.nm : W5 → List Nat
  | .newest => [110,101,119,101,115,116]
  | .oldest => [111,108,100,101,115,116]
  | .first => [102,105,114,115,116]
  | .last => [108,97,115,116]
  | .apart => [97,112,97,114,116]
def W5.lo : W5 → Nat
  | .newest => 1 | .oldest => 1 | .first => 2 | .last => 2 | .apart => 2
def W5.hi : W5 → Nat
  | .newest => 20 | .oldest => 20 | .first => 7 | .last => 7 | .apart => 20
def Lf.Ok : Lf → Prop
  | .age a b => a ≤ b ∧ b ≤ 59
  | .day p r => 2 ≤ p ∧ p ≤ 7 ∧ r < p
  | .one w n => w.lo ≤ n ∧ n ≤ w.hi
def CT.Ok : CT → Prop
  | .lf l => l.Ok
  | .neg t => t.Ok
  | .j2 _ t u => t.Ok ∧ u.Ok
  | .j3 _ t u v => t.Ok ∧ u.Ok ∧ v.Ok
def CT.parts : CT → Nat
  | .lf _ => 1
  | .neg t => 1 + t.parts
  | .j2 _ t u => 1 + (t.parts + u.parts)
  | .j3 _ t u v => 1 + (t.parts + (u.parts + v.parts))
def jn (b : Bool) : List Nat := if b = true then [97,108,108] else [97,110,121]
abbrev numL := TL.numL
def Lf.ws : Lf → List (List Nat)
  | .age a b => [[97,103,101], numL a, numL b]
  | .day p r => [[100,97,121], numL p, numL r]
  | .one w n => [w.nm, numL n]
def tx : CT → List Nat
  | .lf l => TL.joinL [32] l.ws
  | .neg t => [110,111,116] ++ ([40] ++ (tx t ++ [41]))
  | .j2 b t u => jn b ++ ([40] ++ (TL.joinL [44,32] [tx t, tx u] ++ [41]))
  | .j3 b t u v => jn b ++ ([40] ++ (TL.joinL [44,32] [tx t, tx u, tx v] ++ [41]))
theorem CT.parts_pos (t : CT) : 1 ≤ t.parts := by cases t <;> (unfold CT.parts; omega)
theorem num_mem {n c : Nat} (h : c ∈ numL n) : 48 ≤ c ∧ c ≤ 57 := by
  refine Classical.byContradiction fun z => ?_
  exact TL.numL_free (n := n) (s := c) (by omega) h
theorem num_len {n : Nat} (h : n < 100) : (numL n).length ≤ 2 := TL.numL_len (by decide) (by omega)
def lowc (c : Nat) : Bool := decide (97 ≤ c) && decide (c ≤ 122) || decide (48 ≤ c) && decide (c ≤ 57) || decide (c = 32)
theorem nm_low (w : W5) : w.nm.all lowc = true := by cases w <;> decide
theorem num_low (n : Nat) : (numL n).all lowc = true := by
  rw [List.all_eq_true]
  intro c hc
  have := num_mem hc
  unfold lowc
  simp only [Bool.or_eq_true, Bool.and_eq_true, decide_eq_true_eq]; omega
theorem lf_low (l : Lf) : (TL.joinL [32] l.ws).all lowc = true := by
  cases l <;> simp only [Lf.ws, TL.joinL, List.all_append, num_low, nm_low, Bool.and_true, Bool.true_and] <;> decide
theorem lf_bounds {l : Lf} (h : l.Ok) : (TL.joinL [32] l.ws).length ≤ 10 ∧ 1 ≤ (TL.joinL [32] l.ws).length := by
  cases l with
  | age a b =>
    have h1 := num_len (n := a) (by have := h.1; have := h.2; omega)
    have h2 := num_len (n := b) (by have := h.2; omega)
    simp only [Lf.ws, TL.joinL, List.length_append, List.length_cons, List.length_nil]; omega
  | day p r =>
    have h1 := num_len (n := p) (by have := h.2.1; omega)
    have h2 := num_len (n := r) (by have := h.2.1; have := h.2.2; omega)
    simp only [Lf.ws, TL.joinL, List.length_append, List.length_cons, List.length_nil]; omega
  | one w n =>
    have hn : n ≤ 20 := by have := h.2; cases w <;> simp only [W5.hi] at this <;> omega
    have h1 := num_len (n := n) (by omega)
    have h2 : w.nm.length ≤ 6 := by cases w <;> decide
    simp only [Lf.ws, TL.joinL, List.length_append, List.length_cons, List.length_nil]; omega
theorem jn_len (b : Bool) : (jn b).length = 3 := by cases b <;> rfl
theorem tx_len : ∀ {t : CT}, t.Ok → (tx t).length ≤ 20 * t.parts
  | .lf l, h => by
    have := (lf_bounds (l := l) h).1
    simp only [tx, CT.parts]; omega
  | .neg t, h => by
    have := tx_len (t := t) h
    simp only [tx, CT.parts, List.length_append, List.length_cons, List.length_nil]; omega
  | .j2 b t u, h => by
    have h1 := tx_len (t := t) h.1
    have h2 := tx_len (t := u) h.2
    simp only [tx, CT.parts, TL.joinL, List.length_append, List.length_cons, List.length_nil, jn_len]; omega
  | .j3 b t u v, h => by
    have h1 := tx_len (t := t) h.1
    have h2 := tx_len (t := u) h.2.1
    have h3 := tx_len (t := v) h.2.2
    simp only [tx, CT.parts, TL.joinL, List.length_append, List.length_cons, List.length_nil, jn_len]; omega
/-! ### the depth of a text -/
def qs (d c : Nat) : Option Nat := if c = 40 then some (d + 1) else if c = 41 then (match d with | 0 => none | k + 1 => some k) else if c = 44 ∧ d = 0 then none else some d
def quiet : List Nat → Nat → Option Nat
  | [], d => some d
  | c :: r, d => (qs d c).bind fun e => quiet r e
theorem quiet_app : ∀ (a b : List Nat) (d : Nat), quiet (a ++ b) d = (quiet a d).bind fun e => quiet b e
  | [], b, d => rfl
  | c :: r, b, d => by
    rw [List.cons_append, quiet, quiet]
    cases qs d c with
    | none => rfl
    | some e => exact quiet_app r b e
theorem low_ne {c : Nat} (h : lowc c = true) : c ≠ 40 ∧ c ≠ 41 ∧ c ≠ 44 := by
  unfold lowc at h
  simp only [Bool.or_eq_true, Bool.and_eq_true, decide_eq_true_eq] at h
  omega
theorem quiet_low : ∀ {a : List Nat} (d : Nat), a.all lowc = true → quiet a d = some d
  | [], d, _ => rfl
  | c :: r, d, h => by
    rw [List.all_cons, Bool.and_eq_true] at h
    have h1 := low_ne h.1
    have e : qs d c = some d := by
      unfold qs
      rw [if_neg h1.1, if_neg h1.2.1, if_neg (by omega)]
    rw [quiet, e]
    exact quiet_low d h.2
theorem quiet_open (d : Nat) (r : List Nat) : quiet ([40] ++ r) d = quiet r (d + 1) := rfl
theorem quiet_close (d : Nat) : quiet [41] (d + 1) = some d := rfl
theorem quiet_comma (d : Nat) (r : List Nat) : quiet ([44, 32] ++ r) (d + 1) = quiet r (d + 1) := by
  rw [quiet_app]
  have e : quiet [44, 32] (d + 1) = some (d + 1) := by simp [quiet, qs]
  rw [e]; rfl
theorem jn_low (b : Bool) : (jn b).all lowc = true := by cases b <;> decide
theorem quiet_tx : ∀ (t : CT) (d : Nat), quiet (tx t) d = some d
  | .lf l, d => quiet_low d (lf_low l)
  | .neg t, d => by
    rw [tx, quiet_app, quiet_low d (show [110,111,116].all lowc = true by decide), Option.bind_some, quiet_open, quiet_app, quiet_tx t, Option.bind_some, quiet_close]
  | .j2 b t u, d => by
    rw [tx, quiet_app, quiet_low d (jn_low b), Option.bind_some, quiet_open, quiet_app]
    show (quiet (tx t ++ ([44, 32] ++ tx u)) (d + 1)).bind _ = _
    rw [quiet_app, quiet_tx t, Option.bind_some, quiet_comma, quiet_tx u, Option.bind_some, quiet_close]
  | .j3 b t u v, d => by
    rw [tx, quiet_app, quiet_low d (jn_low b), Option.bind_some, quiet_open, quiet_app]
    show (quiet (tx t ++ ([44, 32] ++ (tx u ++ ([44, 32] ++ tx v)))) (d + 1)).bind _ = _
    rw [quiet_app, quiet_tx t, Option.bind_some, quiet_comma, quiet_app, quiet_tx u, Option.bind_some, quiet_comma, quiet_tx v, Option.bind_some, quiet_close]
/-! ### count of "(" -/
def cnt40 : List Nat → Nat
  | [] => 0
  | c :: r => (if c = 40 then 1 else 0) + cnt40 r
theorem cnt40_app : ∀ a b : List Nat, cnt40 (a ++ b) = cnt40 a + cnt40 b
  | [], b => by simp [cnt40]
  | c :: r, b => by rw [List.cons_append, cnt40, cnt40, cnt40_app r b]; omega
theorem cnt40_low : ∀ {a : List Nat}, a.all lowc = true → cnt40 a = 0
  | [], _ => rfl
  | c :: r, h => by
    rw [List.all_cons, Bool.and_eq_true] at h
    have h1 := h.1
    unfold lowc at h1
    simp only [Bool.or_eq_true, Bool.and_eq_true, decide_eq_true_eq] at h1
    rw [cnt40, if_neg (by omega), cnt40_low h.2]
theorem cnt40_tx : ∀ t : CT, cnt40 (tx t) + 1 ≤ t.parts
  | .lf l => by simp only [tx, CT.parts, cnt40_low (lf_low l)]; omega
  | .neg t => by
    have := cnt40_tx t
    simp only [tx, CT.parts, cnt40_app, cnt40_low (show [110,111,116].all lowc = true by decide)]
    have e1 : cnt40 [40] = 1 := rfl
    have e2 : cnt40 [41] = 0 := rfl
    omega
  | .j2 b t u => by
    have h1 := cnt40_tx t
    have h2 := cnt40_tx u
    simp only [tx, CT.parts, TL.joinL, cnt40_app, cnt40_low (jn_low b)]
    have e1 : cnt40 [40] = 1 := rfl
    have e2 : cnt40 [41] = 0 := rfl
    have e3 : cnt40 [44, 32] = 0 := rfl
    omega
  | .j3 b t u v => by
    have h1 := cnt40_tx t
    have h2 := cnt40_tx u
    have h3 := cnt40_tx v
    simp only [tx, CT.parts, TL.joinL, cnt40_app, cnt40_low (jn_low b)]
    have e1 : cnt40 [40] = 1 := rfl
    have e2 : cnt40 [41] = 0 := rfl
    have e3 : cnt40 [44, 32] = 0 := rfl
    omega
theorem cnt_is : ∀ l : List Nat, PyProof.Rows.cnt 40 l = ((cnt40 l : Nat) : Int)
  | [] => rfl
  | c :: r => by
    have e : PyProof.Rows.cnt 40 (c :: r) = (if PySem.Spec.same (.str ⟨#[c]⟩) (.str ⟨#[40]⟩) then 1 else 0) + PyProof.Rows.cnt 40 r := rfl
    rw [e, cnt_is r, cnt40]
    have e2 : PySem.Spec.same (.str ⟨#[c]⟩) (.str ⟨#[40]⟩) = decide (c = 40) := by
      show ((⟨#[c]⟩ : Str) == ⟨#[40]⟩) = _
      have := S_beq_eq (a := [c]) (b := [40])
      rw [show (S [c]) = (⟨#[c]⟩ : Str) from rfl, show (S [40]) = (⟨#[40]⟩ : Str) from rfl] at this
      rw [this]; simp
    rw [e2]
    by_cases h : c = 40 <;> simp [h]
theorem count_S (l : List Nat) : Txt.count (S l) (S [40]) = ((cnt40 l : Nat) : Int) := (PyProof.Rows.count_cnt (S l) 40).trans (cnt_is l)
theorem ends_yes (a : List Nat) : Txt.endswith (S (a ++ [41])) (S [41]) = true := by
  rw [← S_cat]
  exact PySem.W.KT.ends_app (S a) (S [41])
theorem ends_no (a : List Nat) (c : Nat) (h : c ≠ 41) : Txt.endswith (S (a ++ [c])) (S [41]) = false := by
  rw [← S_cat, PySem.W.KAf.ends_right (by simp [S, Str.length])]
  unfold Txt.endswith
  have e : subAt (S [c]) (S [41]) ((S [c]).length - (S [41]).length) = false := by
    unfold subAt
    simp [S, Str.length]
    exact h
  rw [e, Bool.and_false]
/-! ### numbers -/
theorem isd_code : ∀ c : Nat, 48 ≤ c → c ≤ 57 → Unicode.isDigit c = true := by
  intro c h1 h2
  have h : ∀ k : Fin 10, Unicode.isDigit (48 + k.1) = true := by decide +kernel
  have := h ⟨c - 48, by omega⟩
  rwa [show 48 + (c - 48) = c by omega] at this
theorem num_isdigit (n : Nat) : Txt.isdigit (S (numL n)) = true := by
  unfold Txt.isdigit
  have h0 : 0 < (numL n).length := List.length_pos_iff.mpr (TL.numL_ne n)
  rw [S_len, Bool.and_eq_true]
  refine ⟨decide_eq_true h0, ?_⟩
  rw [List.all_toArray, List.all_eq_true]
  intro c hc
  have := num_mem hc
  exact isd_code c this.1 this.2
theorem num_int (n : Nat) (h : n < 100) : intText? (S (numL n)) = some ((n : Nat) : Int) := by
  rw [← num_S]
  exact TL.int_num (by have := num_len h; show (numL n).length ≤ 4300; omega)
theorem num_head : ∀ n : Fin 100, 1 < (numL n.1).length → ∃ c r, numL n.1 = c :: r ∧ c ≠ 48 := by
  intro n h
  have key : ∀ n : Fin 100, 1 < (numL n.1).length → (numL n.1).head? ≠ some 48 := by decide +kernel
  have := key n h
  revert this
  cases hl : numL n.1 with
  | nil => intro z; exact absurd hl (TL.numL_ne n.1)
  | cons c r => intro z; exact ⟨c, r, rfl, fun e => z (by rw [e]; rfl)⟩
end G

set_option Elab.async false
set_option linter.all false
set_option autoImplicit false
set_option maxRecDepth 100000
set_option maxHeartbeats 4000000
local macro_rules | `(tactic| exists $es,*) => (let a := es.getElems.extract 1 es.getElems.size; if es.getElems[0]!.raw.isStrLit? == some "ev" then `(tactic| simp -implicitDefEqProofs (disch := (first | assumption | rfl | (simp only [List.getElem?_cons_zero, List.getElem?_cons_succ]; done) | (simp only [List.length_cons, List.length_nil, List.length_map, List.length_append, List.length_set, List.length_take, List.length_drop] <;> omega) | omega)) only [M3.e_var, M3.kV_val, M3.kV_own, M3.e_c, M3.e_un, M3.kU_ok, M3.kU_ex, M3.e_unN, M3.kUN_ok, M3.kUN_ex, M3.e_bin, M3.kB2_ok, M3.kB2_ex, M3.kB1_ok, M3.kB1_ex, M3.e_tru, M3.kTr_ok, M3.kTr_ex, M3.kT1_some, M3.e_isB, M3.kIB_ok, M3.kIB_ex, M3.e_not, M3.kNt_ok, M3.kNt_ex, M3.e_andB, M3.kAB_t, M3.kAB_f, M3.kAB_ex, M3.e_orB, M3.kOB_t, M3.kOB_f, M3.kOB_ex, M3.e_andV, M3.kAV_ok, M3.kAV_ex, M3.kAV1_t, M3.kAV1_f, M3.e_orV, M3.kOV_ok, M3.kOV_ex, M3.kOV1_t, M3.kOV1_f, M3.e_notV, M3.kNV_ok, M3.kNV_ex, M3.kNV1_some, M3.e_if, M3.kIf_t, M3.kIf_f, M3.kIf_ex, M3.e_chain, M3.kC1_ok, M3.kC2_ok, M3.kC3_t, M3.kC3_f, M3.e_fld, M3.kFl_ok, M3.kFl_ex, M3.kFl1_some, M3.kFl2_some, M3.e_nil, M3.e_cons, M3.kCs1_v, M3.kCs1_ex, M3.kCs2_ok, M3.kCs2_ex, M3.e_tup, M3.kTp_ok, M3.kTp_ex, M3.e_lst, M3.kLs_ok, M3.kLs_ex, M3.e_frz, M3.kFr_lst, M3.kFr_dct, M3.kFr_dcT, M3.kFr_ins, M3.kFr_ex, M3.e_cb, M3.kCB_ok, M3.kCB_ex, M3.rsA_ok, M3.rsA_ex, M3.e_call, M3.kCa_ok, M3.kCa_ex, M3.e_meth, M3.kMe1_v, M3.kMe1_ex, M3.kMe2_some, M3.kMe2'_none, M3.kMe3_ok, M3.kMe3_ex, M3.e_prop, M3.kPr_v, M3.kPr_ex, M3.kPr1_some, M3.kPr2_ok, M3.i_ins, M3.e_make, M3.kMk_ok, M3.kMk_ex, M3.mkEnd_ok, M3.e_args, M3.kAr1_ok, M3.kAr1_ex, M3.kAr2_ok, M3.kAr2_ex, M3.e_loc, M3.kLo_ok, M3.e_sl, M3.kSl1_ok, M3.kSl1_ex, M3.kSl2_ok, M3.kSl3_ok, M3.e_o0, M3.e_o1, M3.kO1_ok, M3.e_s0, M3.kS0_ok, M3.e_s1, M3.kS11_ok, M3.kS12_ok, M3.e_fmt, M3.kFm_str, M3.kFm_int, M3.e_jsM, M3.e_jsN, M3.kJ1_ok, M3.e_js, M3.kJs_ok, M3.e_get2, M3.kG2_ok, M3.kG3_ok, M3.kG3_s, M3.kG3_n, M3.e_seq, M3.kSq_nx, M3.kSq_rt, M3.kSq_bk, M3.kSq_ct, M3.kSq_ex, M3.e_next, M3.e_break, M3.e_cont, M3.e_ifS, M3.kIS_t, M3.kIS_f, M3.kIS_ex, M3.kG_some, M3.e_asg, M3.kAs_v, M3.kAs_ex, M3.e_gn, M3.e_gnil, M3.e_gcons, M3.kGc_some, M3.e_gt, M3.e_gtk, M3.e_asgO, M3.kAO_ok, M3.kAO_ex, M3.e_expr, M3.kEx_ok, M3.kEx_ex, M3.e_ret, M3.kRt_v, M3.kRt_ex, M3.e_retN, M3.e_fz, M3.kFz_lst, M3.kFz_dct, M3.kFz_val, M3.kFz_un, M3.fin_nx, M3.fin_rt, M3.fin_ex, M3.e_for, M3.kFo_ok, M3.kFo_ex, M3.e_forN, M3.kF1_some, M3.kF2_nx, M3.kF2_ct, M3.kF2_bk, M3.kF2_rt, M3.kF2_ex, M3.kW1_t, M3.kW1_f, M3.kW1_ex, M3.kW2_nx, M3.kW2_ct, M3.kW2_bk, M3.kW2_rt, M3.kW2_ex, M3.e_itA, M3.kIA_ok, M3.kIA_ex, M3.kI1_some, M3.e_en, M3.kIE_ok, M3.kI2_some, M3.it_lst, M3.it_tup, M3.it_ktp, M3.it_dct, M3.en_lst, M3.en_tup, M3.e_rng1, M3.kR1_ok, M3.e_rng2, M3.kR2_ok, M3.w_1, M3.w_2, M3.w_3, M3.e_yes, M3.e_lc, M3.kLc1_ok, M3.kLc1_ex, M3.kLc2_ok, M3.e_lcN, M3.kl1_some, M3.kl2_t, M3.kl2_f, M3.kl3_ok, M3.kl4_ok, M3.mb_b, M3.kMb_some, M3.mb_l, M3.kMo_some, M3.mp_b, M3.mp_loc, M3.mutK_ap, M3.mutA_ap, M3.e_mut, M3.e_mutA, M3.kM1_ok, M3.kM2_lst, M3.kM2_dct, M3.kM3_ok, M3.kM3_ex, M3.kM4_some, M3.kM5_some, M3.kM6_some, M3.g_app, M3.g_ins, M3.e_setIx, M3.kX1_v, M3.kX1_ex, M3.kX2_ok, M3.kX3_v, M3.kX4_some, M3.kX5_some, M3.kX6_some, M3.e_stF, M3.kS1a_v, M3.kS1a_ex, M3.kS1b_ok, M3.kS2_ins, M3.kS3_some, M3.e_aug, M3.kAu_some, M3.kAu2_ok, M3.e_cnil, M3.e_cv, M3.e_co, M3.kCv_v, M3.kCo_ok, M3.kC2b_ok, M3.e_par, M3.kPa_vv, M3.kPa_vo, M3.kPa_ov, M3.kPa_oo, M3.e_dc, M3.kDc1_ok, M3.kDc2_ok, M3.e_ssc, M3.kSs1_ok, M3.kSs2_ok, M3.lo_lst, M3.lo_tup, M3.lo_ktp, M3.lo_str, M3.lo_int, M3.lo_b, M3.kOL_some, M3.lo_loc, M3.kML_some, M3.i_loc, M3.kIL_some, M3.i_b, M3.kIO_some, M3.fp_nil, M3.so_lst, M3.so_tup, M3.so_ktp, M3.so_b, M3.so_loc, M3.g_int0, M3.g_neg, M3.g_fdiv, M3.g_mod, M3.g_mul, M3.g_pow18, M3.g_pow9, M3.g_pow12, M3.g_add_i, M3.g_add_s, M3.g_add_l, M3.g_add_t, M3.g_mul_l, M3.g_eq_i, M3.g_ne_i, M3.g_eq_s, M3.g_ne_s, M3.g_eq_b, M3.g_ne_b, M3.g_eq_si, M3.g_is_non, M3.g_isnt_non, M3.g_is_bl, M3.g_isnt_bl, M3.g_is_int, M3.g_isnt_int, M3.g_is_str, M3.g_isnt_str, M3.g_is_lst, M3.g_isnt_lst, M3.g_is_tup, M3.g_isnt_tup, M3.g_is_ktp, M3.g_isnt_ktp, M3.g_is_ins, M3.g_isnt_ins, M3.tr_non, M3.tr_bl, M3.tr_int, M3.tr_lst, M3.tr_tup, M3.g_len_l, M3.g_len_t, M3.g_len_k, M3.g_len_b, M3.kLn_some, M3.g_len_s, M3.kIx_some, M3.g_ix_l, M3.g_ix_t, M3.g_ix_k, M3.kIl_some, M3.g_ix_loc, M3.kIb_lst, M3.kIb_dct, M3.g_ix_b, M3.g_ix_ds, M3.g_ix_di, M3.at_0, M3.at_1, M3.at_2, M3.at_3, M3.at_4, M3.ix_0, M3.ix_1, M3.ix_2, M3.ix_3, M3.ix_4, M3.s_ix, M3.kSx_some, M3.s_dct_s, M3.s_dct_i, M3.kG1_d, M3.kG1_dT, M3.dl_s, M3.dl_i, M3.g_in, M3.kIn_f, M3.kIn_t, M3.in_str_l, M3.in_str_t, M3.in_str_k, M3.in_int_l, M3.in_dct_s, M3.in_dct_i, M3.g_sl_l, M3.g_sl_t, M3.g_sl_scr, M3.g_sl_b, M3.kSb_some, M3.cut_take, M3.cut_drop, M3.g_list_l, M3.g_list_t, M3.g_list_k, M3.g_list_s, M3.g_list_b, M3.kGl_some, M3.g_tup_l, M3.g_tup_t, M3.g_int1, M3.g_str1, M3.g_all, M3.g_any, M3.g_sum, M3.g_join_l, M3.isi_lst_list, M3.isi_lst_tuple, M3.isi_lst_bool, M3.isi_lst_int, M3.isi_lst_str, M3.isi_lst_dict, M3.isi_lst_lt, M3.isi_tup_list, M3.isi_tup_tuple, M3.isi_tup_bool, M3.isi_tup_int, M3.isi_tup_str, M3.isi_tup_dict, M3.isi_tup_lt, M3.isi_ktp_list, M3.isi_ktp_tuple, M3.isi_ktp_bool, M3.isi_ktp_int, M3.isi_ktp_str, M3.isi_ktp_dict, M3.isi_ktp_lt, M3.isi_bl_list, M3.isi_bl_tuple, M3.isi_bl_bool, M3.isi_bl_int, M3.isi_bl_str, M3.isi_bl_dict, M3.isi_bl_lt, M3.isi_int_list, M3.isi_int_tuple, M3.isi_int_bool, M3.isi_int_int, M3.isi_int_str, M3.isi_int_dict, M3.isi_int_lt, M3.isi_str_list, M3.isi_str_tuple, M3.isi_str_bool, M3.isi_str_int, M3.isi_str_str, M3.isi_str_dict, M3.isi_str_lt, M3.isi_non_list, M3.isi_non_tuple, M3.isi_non_bool, M3.isi_non_int, M3.isi_non_str, M3.isi_non_dict, M3.isi_non_lt, M3.isi_dct_list, M3.isi_dct_tuple, M3.isi_dct_bool, M3.isi_dct_int, M3.isi_dct_str, M3.isi_dct_dict, M3.isi_dct_lt, M3.e_star, M3.kSt1_v, M3.kSt2_some, M3.kSt3_ok, M3.e_match, M3.kMa_v, M3.e_casesN, M3.e_casesC, M3.kMe_ne, M3.kMe_eq, M3.kMf_n, M3.kMf_s, M3.kMh_n, M3.kMh_s, M3.kMg_t, M3.kMg_f, M3.ea_nil, M3.ea_lit_eq, M3.ea_lit_ne, M3.ea_lit_int, M3.ea_cap, M3.kEc_s, M3.kEc_n, M3.bd_nil, M3.bd_cons, M3.e_own, M3.own_ok, M3.e_slN, M3.kSn1_ok, M3.kSn2_ok, M3.kSn3_ok, M3.kSn_some, M3.e_zip, M3.kZi_ok, M3.e_rev, M3.kRv1_ok, M3.kRv_some, M3.g_inKd, M3.kKd_s, M3.g_ixKd, M3.e_par3, M3.kPa3_vvv, M3.kPa3_ovv, M3.e_ifB, M3.kIfB_t, M3.kIfB_f, M3.g_str2i, M3.g_str2s, M3.isiM_non, M3.isiM_bl, M3.isiM_int, M3.isiM_str, M3.isiM_lst, M3.isiM_tup, M3.isiM_ktp, M3.isiM_dct, M3.g_eqO_i, M3.g_eqO_s, M3.kNe2_ok, M3.g_neO_i, M3.kRp2_ok, M3.g_repr, M3.g_isiO_i, M3.g_isiO_s, Bool.not_true, Bool.not_false, List.getElem?_cons_zero, List.getElem?_cons_succ, List.set_cons_zero, List.set_cons_succ, List.length_cons, List.length_nil, List.length_map, List.length_append, $[$a:term],*]) else Lean.Macro.throwUnsupported)
namespace G
open PySem L2 M3
/-! ### the bag -/
structure Bag where
  cells : List Int
  ix : Int
  great : Int
  seed : Int
  cnt : Int
def bagO (b : Bag) : Ob := .lst [.lst (b.cells.map .int), .int b.ix, .int b.great, .int b.seed, .int b.cnt]
abbrev BM (b : Bag) : Mm := [some (bagO b)]
structure Bag.Ok (b : Bag) : Prop where
  ix : 0 ≤ b.ix
  great : 0 ≤ b.great
  seed : 0 ≤ b.seed
  seed2 : b.seed < 2147483579
  len : b.cells.length ≤ 63
theorem at_map {xs : List Int} {i : Int} (h : 0 ≤ i) (h2 : i < xs.length) : ∃ c, atI (xs.map Dv.int) i = some (.int c) := by
  obtain ⟨k, rfl⟩ := Int.eq_ofNat_of_zero_le h
  have hk : k < xs.length := by omega
  refine ⟨xs[k], ?_⟩
  rw [at_nat, List.getElem?_map, List.getElem?_eq_getElem hk]; rfl
theorem pull_tail (b : Bag) (hb : b.Ok) (k : Int) (hk : 0 < k) (hk2 : k < 2000000000000) (c : Cell) : ∃ (r : Nat) (b' : Bag), b'.Ok ∧ (r : Int) < k ∧ (sx9_l_pull [.val (.loc 0), .val (.int k), c, .un, .un] (BM b)).fin = .ok (.int r) (BM b') := by
  have h1 := hb.ix
  have h2 := hb.great
  have h3 := hb.seed
  have h4 := hb.seed2
  by_cases hg : 0 < b.great
  · have e : decide (0 < b.great) = true := decide_eq_true hg
    obtain ⟨r, hr⟩ : ∃ r : Nat, b.great % k = r := Int.eq_ofNat_of_zero_le (Int.emod_nonneg _ (by omega))
    refine ⟨r, { b with great := b.great / k }, ⟨h1, Int.ediv_nonneg h2 (by omega), h3, h4, hb.len⟩, by rw [← hr]; exact Int.emod_lt_of_pos _ hk, ?_⟩
    exists "ev", sx1_l_pull_e, sx2_l_pull_e, sx3_l_pull_e, sx4_l_pull_e, sx5_l_pull_e, sx6_l_pull_e, sx7_l_pull_e, sx8_l_pull_e, sx9_l_pull_e, b_l_pull_e, BM, bagO, e, hr
  · have e : decide (0 < b.great) = false := decide_eq_false hg
    obtain ⟨s', hs'⟩ : ∃ s' : Int, (b.seed * b.seed + b.seed * 33029 + (b.cnt + 1) * 1299709 + 91229) % 2147483579 = s' := ⟨_, rfl⟩
    have hs1 : 0 ≤ s' := by rw [← hs']; exact Int.emod_nonneg _ (by omega)
    have hs2 : s' < 2147483579 := by rw [← hs']; exact Int.emod_lt_of_pos _ (by omega)
    obtain ⟨r, hr⟩ : ∃ r : Nat, (s' / 71 + s' % 7919 * 59) % k = r := Int.eq_ofNat_of_zero_le (Int.emod_nonneg _ (by omega))
    refine ⟨r, { b with seed := s', cnt := b.cnt + 1 }, ⟨h1, h2, hs1, hs2, hb.len⟩, by rw [← hr]; exact Int.emod_lt_of_pos _ hk, ?_⟩
    exists "ev", sx1_l_pull_e, sx2_l_pull_e, sx3_l_pull_e, sx4_l_pull_e, sx5_l_pull_e, sx6_l_pull_e, sx7_l_pull_e, sx8_l_pull_e, sx9_l_pull_e, b_l_pull_e, BM, bagO, e, hs', hr
theorem pull_spec (b : Bag) (hb : b.Ok) (k : Int) (hk : 0 < k) (hk2 : k < 2000000000000) : ∃ (r : Nat) (b' : Bag), b'.Ok ∧ (r : Int) < k ∧ m_l_pull [.loc 0, .int k] (BM b) = .ok (.int r) (BM b') := by
  have h1 := hb.ix
  have h2 := hb.great
  have h3 := hb.seed
  have h4 := hb.seed2
  rw [u_l_pull]
  by_cases hg : b.great = 0
  · have eg : (b.great == 0) = true := by simp [hg]
    by_cases hl : b.ix < b.cells.length
    · have el : decide (b.ix < (b.cells.length : Int)) = true := decide_eq_true hl
      obtain ⟨c, hc⟩ := at_map h1 hl
      by_cases hbig : 1000000000000000000 ≤ c
      · have eb : decide (1000000000000000000 ≤ c) = true := decide_eq_true hbig
        obtain ⟨r, b', t1, t2, t3⟩ := pull_tail { b with ix := b.ix + 1, great := c } ⟨by show 0 ≤ b.ix + 1; omega, by show 0 ≤ c; omega, h3, h4, hb.len⟩ k hk hk2 (.val (.int c))
        refine ⟨r, b', t1, t2, ?_⟩
        rw [← t3]
        exists "ev", b_l_pull_e, sx1_l_pull_e, sx2_l_pull_e, BM, bagO, eg, el, hc, eb
      · have eb : decide (1000000000000000000 ≤ c) = false := decide_eq_false hbig
        obtain ⟨s', hs'⟩ : ∃ s' : Int, (b.seed * 44017 + c % 2147483543 * 51341 + 29) % 2147483579 = s' := ⟨_, rfl⟩
        have hs1 : 0 ≤ s' := by rw [← hs']; exact Int.emod_nonneg _ (by omega)
        have hs2 : s' < 2147483579 := by rw [← hs']; exact Int.emod_lt_of_pos _ (by omega)
        obtain ⟨r, b', t1, t2, t3⟩ := pull_tail { b with ix := b.ix + 1, seed := s' } ⟨by show 0 ≤ b.ix + 1; omega, h2, hs1, hs2, hb.len⟩ k hk hk2 (.val (.int c))
        refine ⟨r, b', t1, t2, ?_⟩
        rw [← t3]
        exists "ev", b_l_pull_e, sx1_l_pull_e, sx2_l_pull_e, BM, bagO, eg, el, hc, eb, hs'
    · have el : decide (b.ix < (b.cells.length : Int)) = false := decide_eq_false hl
      obtain ⟨r, b', t1, t2, t3⟩ := pull_tail b hb k hk hk2 .un
      refine ⟨r, b', t1, t2, ?_⟩
      rw [← t3]
      exists "ev", b_l_pull_e, BM, bagO, eg, el
  · have eg : (b.great == 0) = false := by simp [hg]
    obtain ⟨r, b', t1, t2, t3⟩ := pull_tail b hb k hk hk2 .un
    refine ⟨r, b', t1, t2, ?_⟩
    rw [← t3]
    exists "ev", b_l_pull_e, BM, bagO, eg
end G

set_option Elab.async false
set_option linter.all false
set_option autoImplicit false
set_option maxRecDepth 100000
set_option maxHeartbeats 4000000
namespace G
open PySem L2 M3
/-! ### like: data that is like itself -/
def leafD : Dv → Bool
  | .non => true
  | .bl _ => true
  | .int _ => true
  | .str _ => true
  | _ => false
def itemsD : Dv → Option (List Dv)
  | .lst ds => some ds
  | .tup ds => some ds
  | .ktp ds => some ds
  | _ => none
def lkD : Nat → Dv → Bool
  | 0, d => leafD d
  | n + 1, d => match itemsD d with
    | some ds => decide (ds.length ≤ 16777216) && ds.all (lkD n)
    | none => leafD d
theorem like_items {n : Nat} {d : Dv} {ds : List Dv} {m : Mm} (hd : ∀ (ρ : Sl) (i : Int), gIx ρ m (.v d) (.v (.int i)) = kIx m (atI ds i)) (h : ∀ e ∈ ds, mf_l_like n [e, e] m = .ok (.bl true) m) {c : Cell} : lcL (mGn 2) mYes (ce1_l_like (mf_l_like n)) [.val d, .val d, c] (rngD 0 ds.length) m = .ok ((List.range ds.length).map fun _ => .bl true) m := by
  unfold rngD
  refine lcL_all fun i hi => ⟨[.val d, .val d, .val (.int (0 + ((i : Nat) : Int)))], rfl, rfl, ?_⟩
  have hi' : i < ds.length := List.mem_range.mp hi
  have e0 : (0 : Int) + ((i : Nat) : Int) = ((i : Nat) : Int) := by omega
  have hat : ds[i]? = some ds[i] := List.getElem?_eq_getElem hi'
  have hr := h ds[i] (List.getElem_mem hi')
  exists "ev", ce1_l_like_e, sx1_l_like_e, sx2_l_like_e, sx3_l_like_e, sx4_l_like_e, b_l_like_e, hd, e0, at_nat, hat, hr
theorem like_leaf {m : Mm} {n : Nat} {d : Dv} (h : leafD d = true) : mf_l_like (n + 1) [d, d] m = .ok (.bl true) m := by
  cases d with
  | non => rw [u_l_like]; exists "ev", ce1_l_like_e, sx1_l_like_e, sx2_l_like_e, sx3_l_like_e, sx4_l_like_e, b_l_like_e
  | bl b =>
    have e : (b == b) = true := by simp
    rw [u_l_like]; exists "ev", ce1_l_like_e, sx1_l_like_e, sx2_l_like_e, sx3_l_like_e, sx4_l_like_e, b_l_like_e, e, Bool.not_true, beq_self_eq_true
  | int i =>
    have e : (i == i) = true := by simp
    rw [u_l_like]; exists "ev", ce1_l_like_e, sx1_l_like_e, sx2_l_like_e, sx3_l_like_e, sx4_l_like_e, b_l_like_e, e, Bool.not_true, beq_self_eq_true
  | str s =>
    have e : (s == s) = true := by simp
    rw [u_l_like]; exists "ev", ce1_l_like_e, sx1_l_like_e, sx2_l_like_e, sx3_l_like_e, sx4_l_like_e, b_l_like_e, e, Bool.not_true, beq_self_eq_true
  | _ => cases h
theorem like_lst {m : Mm} {n : Nat} {ds : List Dv} (hl : ds.length ≤ 16777216) (h : ∀ e ∈ ds, mf_l_like n [e, e] m = .ok (.bl true) m) : mf_l_like (n + 1) [.lst ds, .lst ds] m = .ok (.bl true) m := by
  have hc := like_items (n := n) (d := .lst ds) (ds := ds) (m := m) (fun ρ i => g_ix_l) h (c := .un)
  have hz : (0 : Int) ≤ ((ds.length : Nat) : Int) := by omega
  have hz2 : ((ds.length : Nat) : Int) ≤ 16777216 := by omega
  have hr : (List.range ds.length).length ≤ 16777216 := by rw [List.length_range]; exact hl
  have ha : ∀ l : List Nat, (l.all fun _ => true) = true := fun l => by simp
  rw [u_l_like]; exists "ev", ce1_l_like_e, sx1_l_like_e, sx2_l_like_e, sx3_l_like_e, sx4_l_like_e, b_l_like_e, w_1, Int.toNat_natCast, hc, ha, Bool.not_true, beq_self_eq_true, List.length_range
theorem like_tup {m : Mm} {n : Nat} {ds : List Dv} (hl : ds.length ≤ 16777216) (h : ∀ e ∈ ds, mf_l_like n [e, e] m = .ok (.bl true) m) : mf_l_like (n + 1) [.tup ds, .tup ds] m = .ok (.bl true) m := by
  have hc := like_items (n := n) (d := .tup ds) (ds := ds) (m := m) (fun ρ i => g_ix_t) h (c := .un)
  have hz : (0 : Int) ≤ ((ds.length : Nat) : Int) := by omega
  have hz2 : ((ds.length : Nat) : Int) ≤ 16777216 := by omega
  have hr : (List.range ds.length).length ≤ 16777216 := by rw [List.length_range]; exact hl
  have ha : ∀ l : List Nat, (l.all fun _ => true) = true := fun l => by simp
  rw [u_l_like]; exists "ev", ce1_l_like_e, sx1_l_like_e, sx2_l_like_e, sx3_l_like_e, sx4_l_like_e, b_l_like_e, w_1, Int.toNat_natCast, hc, ha, Bool.not_true, beq_self_eq_true, List.length_range
theorem like_ktp {m : Mm} {n : Nat} {ds : List Dv} (hl : ds.length ≤ 16777216) (h : ∀ e ∈ ds, mf_l_like n [e, e] m = .ok (.bl true) m) : mf_l_like (n + 1) [.ktp ds, .ktp ds] m = .ok (.bl true) m := by
  have hc := like_items (n := n) (d := .ktp ds) (ds := ds) (m := m) (fun ρ i => g_ix_k) h (c := .un)
  have hz : (0 : Int) ≤ ((ds.length : Nat) : Int) := by omega
  have hz2 : ((ds.length : Nat) : Int) ≤ 16777216 := by omega
  have hr : (List.range ds.length).length ≤ 16777216 := by rw [List.length_range]; exact hl
  have ha : ∀ l : List Nat, (l.all fun _ => true) = true := fun l => by simp
  rw [u_l_like]; exists "ev", ce1_l_like_e, sx1_l_like_e, sx2_l_like_e, sx3_l_like_e, sx4_l_like_e, b_l_like_e, w_1, Int.toNat_natCast, hc, ha, Bool.not_true, beq_self_eq_true, List.length_range
theorem like_refl {m : Mm} : ∀ (n : Nat) (d : Dv), lkD n d = true → mf_l_like (n + 1) [d, d] m = .ok (.bl true) m := by
  intro n
  induction n with
  | zero => exact fun d h => like_leaf h
  | succ n ih =>
    intro d h
    cases hi : itemsD d with
    | none =>
      unfold lkD at h
      rw [hi] at h
      exact like_leaf h
    | some ds =>
      unfold lkD at h
      rw [hi] at h
      simp only [Bool.and_eq_true, decide_eq_true_eq, List.all_eq_true] at h
      have hh := fun e he => ih e (h.2 e he)
      cases d with
      | lst xs => cases hi; exact like_lst h.1 hh
      | tup xs => cases hi; exact like_tup h.1 hh
      | ktp xs => cases hi; exact like_ktp h.1 hh
      | _ => cases hi
theorem like_same {d : Dv} {m : Mm} (h : lkD 11 d = true) : m_l_like [d, d] m = .ok (.bl true) m := like_refl 11 d h
end G

set_option Elab.async false
set_option linter.all false
set_option autoImplicit false
set_option maxRecDepth 100000
set_option maxHeartbeats 4000000
namespace G
open PySem L2 M3 SX
/-! ### values of trees -/
def W5.st : W5 → Str
  | .newest => "newest" | .oldest => "oldest" | .first => "first" | .last => "last" | .apart => "apart"
theorem st_S (w : W5) : S w.nm = w.st := by cases w <;> decide +kernel
theorem age_S : S [97,103,101] = ("age" : Str) := by decide +kernel
theorem day_S : S [100,97,121] = ("day" : Str) := by decide +kernel
theorem not_S : S [110,111,116] = ("not" : Str) := by decide +kernel
theorem open_S : S [40] = ("(" : Str) := by decide +kernel
theorem close_S : S [41] = (")" : Str) := by decide +kernel
theorem sp_S : S [32] = (" " : Str) := by decide +kernel
theorem cs_S : S [44, 32] = (", " : Str) := by decide +kernel
theorem comma_S : S [44] = ("," : Str) := by decide +kernel
theorem zero_S : S [48] = ("0" : Str) := by decide +kernel
def jS (b : Bool) : Str := if b = true then "all" else "any"
theorem jn_S (b : Bool) : S (jn b) = jS b := by cases b <;> decide +kernel
def Lf.enc : Lf → Dv
  | .age a b => .tup [.str "age", .int (a : Nat), .int (b : Nat)]
  | .day p r => .tup [.str "day", .int (p : Nat), .int (r : Nat)]
  | .one w n => .tup [.str w.st, .int (n : Nat)]
def enc : CT → Dv
  | .lf l => l.enc
  | .neg t => .tup [.str "not", enc t]
  | .j2 b t u => .tup [.str (jS b), .tup [enc t, enc u]]
  | .j3 b t u v => .tup [.str (jS b), .tup [enc t, enc u, enc v]]
/-! ### number_of -/
theorem g_ix_s {ρ : Sl} {m : Mm} {c : Nat} {r : List Nat} (h : (c :: r).length ≤ 16777216) : gIx ρ m (.v (.str (S (c :: r)))) (.v (.int 0)) = .ok (.v (.str (S [c]))) m := by
  unfold gIx
  have e : dlook ρ m (.v (.str (S (c :: r)))) (.v (.int 0)) = none := rfl
  have e2 : seqOf ρ m (.v (.str (S (c :: r)))) = none := rfl
  have e3 : (S (c :: r)).length ≤ sizeLine := by rw [S_len]; exact h
  have e4 : atI (S (c :: r)).cps.toList 0 = some c := at_0
  simp only [e, e2, e3, e4, if_true]
theorem g_isdig {ρ : Sl} {m : Mm} {z : Str} : gDigit z ρ m = .ok (.v (.bl (Txt.isdigit z))) m := rfl
theorem g_int_s {ρ : Sl} {m : Mm} {z : Str} {n : Int} (h : intText? z = some n) (h2 : z.length ≤ 640) : gInt1 ρ m (.v (.str z)) = .ok (.v (.int n)) m := by
  unfold gInt1
  simp only [h, h2, if_true]
theorem number_of {n : Nat} (h : n < 100) {m : Mm} : m_number_of [.str (S (numL n))] m = .ok (.int (n : Nat)) m := by
  have h1 := num_len h
  have h2 : 1 ≤ (numL n).length := List.length_pos_iff.mpr (TL.numL_ne n)
  have hd := num_isdigit n
  have hi := num_int n h
  have hl : (S (numL n)).length ≤ 640 := by rw [S_len]; omega
  have e1 : decide ((1 : Int) ≤ ((numL n).length : Nat)) = true := decide_eq_true (by omega)
  have e2 : decide (((numL n).length : Int) ≤ 4) = true := decide_eq_true (by omega)
  have hl2 : (S (numL n)).length ≤ 16777216 := by rw [S_len]; omega
  rw [u_number_of]
  by_cases hc : 1 < (numL n).length
  · obtain ⟨c, r, he, hn⟩ := num_head ⟨n, h⟩ hc
    have he : numL n = c :: r := he
    have e3 : decide ((1 : Int) < ((numL n).length : Nat)) = true := decide_eq_true (by omega)
    have e4 : (S [c] == ("0" : Str)) = false := by
      rw [← zero_S, S_beq]; simpa using hn
    have ix := fun ρ => g_ix_s (ρ := ρ) (m := m) (c := c) (r := r) (by rw [← he]; omega)
    rw [← he] at ix
    exists "ev", sx1_number_of_e, b_number_of_e, g_len_s hl2, S_len, e1, e2, e3, e4, ix, g_isdig, hd, g_int_s hi hl
  · have e3 : decide ((1 : Int) < ((numL n).length : Nat)) = false := decide_eq_false (by omega)
    exists "ev", sx1_number_of_e, b_number_of_e, g_len_s hl2, S_len, e1, e2, e3, g_isdig, hd, g_int_s hi hl
end G

set_option Elab.async false
set_option linter.all false
set_option autoImplicit false
set_option maxRecDepth 100000
set_option maxHeartbeats 4000000
namespace G
open PySem L2 M3 SX
/-! ### plain_tree -/
theorem cut_1 {d : Dv} {ds : List Dv} : cutD (d :: ds) (some 1) none = ds := cut_drop (ds := d :: ds) (k := 1)
theorem in_non2 {ρ : Sl} {m : Mm} {i j : Int} : inOf ρ m (.v .non) (.v (.lst [.int i, .int j])) = some false := rfl
theorem in_non1 {ρ : Sl} {m : Mm} {i : Int} : inOf ρ m (.v .non) (.v (.lst [.int i])) = some false := rfl
theorem rng_look (w : W5) : List.lookup w.st kv_RANGES = some (.ktp [.int (w.lo : Nat), .int (w.hi : Nat)]) := by
  unfold kv_RANGES
  cases w with
  | newest => rw [W5.st, lk_eq]; rfl
  | oldest => rw [W5.st, lk_ne (by decide +kernel), lk_eq]; rfl
  | first => rw [W5.st, lk_ne (by decide +kernel), lk_ne (by decide +kernel), lk_eq]; rfl
  | last => rw [W5.st, lk_ne (by decide +kernel), lk_ne (by decide +kernel), lk_ne (by decide +kernel), lk_eq]; rfl
  | apart => rw [W5.st, lk_ne (by decide +kernel), lk_ne (by decide +kernel), lk_ne (by decide +kernel), lk_ne (by decide +kernel), lk_eq]; rfl
theorem day_age : (("day" : Str) == ("age" : Str)) = false := by decide +kernel
theorem plain_age {a b : Nat} (h : a ≤ b) (h2 : b ≤ 59) {m : Mm} : m_plain_tree [.lst [.str "age", .str (S (numL a)), .str (S (numL b))]] m = .ok (.tup [.str "age", .int (a : Nat), .int (b : Nat)]) m := by
  have n1 := fun m => number_of (n := a) (by omega) (m := m)
  have n2 := fun m => number_of (n := b) (by omega) (m := m)
  have e1 : decide ((a : Int) ≤ (b : Nat)) = true := decide_eq_true (by omega)
  have e2 : decide ((b : Int) ≤ 59) = true := decide_eq_true (by omega)
  rw [u_plain_tree]
  exists "ev", ce1_plain_tree_e, mb1_plain_tree_e, mg1_plain_tree_e, mb2_plain_tree_e, mg2_plain_tree_e, mb3_plain_tree_e, mg3_plain_tree_e, sx1_plain_tree_e, sx2_plain_tree_e, sx3_plain_tree_e, b_plain_tree_e, e_lcC, cut_1, n1, n2, in_non2, e_casesC, List.cons_append, List.nil_append, List.append_nil, e1, e2, k_MOST_AGE
theorem plain_day {p r : Nat} (h : 2 ≤ p) (h2 : p ≤ 7) (h3 : r < p) {m : Mm} : m_plain_tree [.lst [.str "day", .str (S (numL p)), .str (S (numL r))]] m = .ok (.tup [.str "day", .int (p : Nat), .int (r : Nat)]) m := by
  have n1 := fun m => number_of (n := p) (by omega) (m := m)
  have n2 := fun m => number_of (n := r) (by omega) (m := m)
  have e1 : decide ((2 : Int) ≤ (p : Nat)) = true := decide_eq_true (by omega)
  have e2 : decide ((p : Int) ≤ 7) = true := decide_eq_true (by omega)
  have e3 : decide ((r : Int) < (p : Nat)) = true := decide_eq_true (by omega)
  rw [u_plain_tree]
  exists "ev", ce1_plain_tree_e, mb1_plain_tree_e, mg1_plain_tree_e, mb2_plain_tree_e, mg2_plain_tree_e, mb3_plain_tree_e, mg3_plain_tree_e, sx1_plain_tree_e, sx2_plain_tree_e, sx3_plain_tree_e, b_plain_tree_e, e_lcC, cut_1, n1, n2, in_non2, e_casesC, List.cons_append, List.nil_append, List.append_nil, ea_lit_ne day_age, e1, e2, e3
theorem plain_one {w : W5} {n : Nat} (h : w.lo ≤ n) (h2 : n ≤ w.hi) {m : Mm} : m_plain_tree [.lst [.str w.st, .str (S (numL n))]] m = .ok (.tup [.str w.st, .int (n : Nat)]) m := by
  have hw : w.hi ≤ 20 := by cases w <;> decide
  have n1 := fun m => number_of (n := n) (by omega) (m := m)
  have e1 : decide (((w.lo : Nat) : Int) ≤ (n : Nat)) = true := decide_eq_true (by omega)
  have e2 : decide ((n : Int) ≤ (w.hi : Nat)) = true := decide_eq_true (by omega)
  rw [u_plain_tree]
  exists "ev", ce1_plain_tree_e, mb1_plain_tree_e, mg1_plain_tree_e, mb2_plain_tree_e, mg2_plain_tree_e, mb3_plain_tree_e, mg3_plain_tree_e, sx1_plain_tree_e, sx2_plain_tree_e, sx3_plain_tree_e, b_plain_tree_e, e_lcC, cut_1, n1, in_non1, e_casesC, List.cons_append, List.nil_append, List.append_nil, e1, e2, k_RANGES, rng_look
theorem plain_tree {l : Lf} (h : l.Ok) {m : Mm} : m_plain_tree [.lst (l.ws.map fun x => .str (S x))] m = .ok l.enc m := by
  cases l with
  | age a b =>
    have := plain_age h.1 h.2 (m := m)
    rw [← age_S] at this
    exact this.trans (by rw [age_S]; rfl)
  | day p r =>
    have := plain_day h.1 h.2.1 h.2.2 (m := m)
    rw [← day_S] at this
    exact this.trans (by rw [day_S]; rfl)
  | one w n =>
    have := plain_one h.1 h.2 (m := m)
    rw [← st_S] at this
    exact this.trans (by rw [st_S]; rfl)
end G

set_option Elab.async false
set_option linter.all false
set_option autoImplicit false
set_option maxRecDepth 100000
set_option maxHeartbeats 4000000
namespace G
open PySem L2 M3 SX
/-! ### the loop of split_inner -/
def nf : Nat → List Nat → List Dv
  | _, [] => []
  | k, c :: r => .tup [.int (k : Nat), .str (S [c])] :: nf (k + 1) r
theorem nf_app : ∀ (a b : List Nat) (k : Nat), nf k (a ++ b) = nf k a ++ nf (k + a.length) b
  | [], b, k => rfl
  | c :: r, b, k => by
    rw [List.cons_append, nf, nf, nf_app r b (k + 1), List.cons_append, List.length_cons]
    congr 3
    omega
theorem nf_idx : ∀ (l : List Nat) (k : Nat), (l.map fun c => Dv.str (S [c])).mapIdx (fun i d => .tup [.int ((i + k : Nat) : Int), d]) = nf k l
  | [], k => rfl
  | c :: r, k => by
    rw [List.map_cons, List.mapIdx_cons, nf]
    have ih := nf_idx r (k + 1)
    rw [← ih]
    congr 2
    · simp
    · funext i d
      congr 4
      omega
theorem nf_en {w : List Nat} (h : w.length ≤ 16777216) : enOf (.v (.str (S w))) = some (w.map fun c => Dv.str (S [c])) := by
  unfold enOf
  have : (S w).length ≤ sizeLine := by rw [S_len]; exact h
  simp only [this, if_true]
theorem nf_num (w : List Nat) : numD (w.map fun c => Dv.str (S [c])) = nf 0 w := by
  have := nf_idx w 0
  exact this
abbrev SIt : MG := mGt 2 (mGcons (mGn 4) (mGcons (mGn 5) mGnil))
abbrev SIs (w : List Nat) (F : List Dv) (d st : Int) (c4 c5 : Cell) : Sl := [.val (.str (S w)), .own (.lst F), .val (.int d), .val (.int st), c4, c5]
theorem sg_eq (c k : Nat) : (S [c] == S [k]) = decide (c = k) := by rw [S_beq_eq]; simp
theorem si_one {w : List Nat} {F : List Dv} {d d' : Nat} {st : Int} {c k : Nat} (h : qs d c = some d') (c4 c5 : Cell) {more : List Dv} {m : Mm} : ∃ c4' c5', forL SIt lp1_split_inner (.tup [.int (k : Nat), .str (S [c])] :: more) (SIs w F (d : Nat) st c4 c5) m = forL SIt lp1_split_inner more (SIs w F (d' : Nat) st c4' c5') m := by
  refine ⟨.val (.int (k : Nat)), .val (.str (S [c])), ?_⟩
  rw [e_forC]
  unfold qs at h
  by_cases h1 : c = 40
  · subst h1
    rw [if_pos rfl] at h
    cases h
    have e1 : (S [40] == ("(" : Str)) = true := by decide +kernel
    have e2 : ((d : Nat) : Int) + 1 = ((d + 1 : Nat) : Int) := by omega
    exists "ev", sx1_split_inner_e, sx2_split_inner_e, sx3_split_inner_e, lp1_split_inner_e, sx4_split_inner_e, sx5_split_inner_e, b_split_inner_e, e1, e2
  · rw [if_neg h1] at h
    have e1 : (S [c] == ("(" : Str)) = false := by rw [← open_S, sg_eq]; exact decide_eq_false h1
    by_cases h2 : c = 41
    · subst h2
      rw [if_pos rfl] at h
      have e2 : (S [41] == (")" : Str)) = true := by decide +kernel
      cases d with
      | zero => cases h
      | succ d =>
        cases h
        have e3 : ((d' + 1 : Nat) : Int) - 1 = (d' : Nat) := by omega
        have e4 : decide (((d' : Nat) : Int) < 0) = false := decide_eq_false (by omega)
        exists "ev", sx1_split_inner_e, sx2_split_inner_e, sx3_split_inner_e, lp1_split_inner_e, sx4_split_inner_e, sx5_split_inner_e, b_split_inner_e, e1, e2, e3, e4
    · rw [if_neg h2] at h
      have e2 : (S [c] == (")" : Str)) = false := by rw [← close_S, sg_eq]; exact decide_eq_false h2
      by_cases h3 : c = 44
      · subst h3
        have e3 : (S [44] == ("," : Str)) = true := by decide +kernel
        have hd : d ≠ 0 := fun z => by rw [if_pos ⟨rfl, z⟩] at h; cases h
        rw [if_neg (by omega)] at h
        cases h
        have e4 : (((d : Nat) : Int) == 0) = false := by rw [beq_eq_false_iff_ne]; omega
        exists "ev", sx1_split_inner_e, sx2_split_inner_e, sx3_split_inner_e, lp1_split_inner_e, sx4_split_inner_e, sx5_split_inner_e, b_split_inner_e, e1, e2, e3, e4
      · rw [if_neg (by omega)] at h
        cases h
        have e3 : (S [c] == ("," : Str)) = false := by rw [← comma_S, sg_eq]; exact decide_eq_false h3
        exists "ev", sx1_split_inner_e, sx2_split_inner_e, sx3_split_inner_e, lp1_split_inner_e, sx4_split_inner_e, sx5_split_inner_e, b_split_inner_e, e1, e2, e3
theorem si_run {w : List Nat} {F : List Dv} {st : Int} {more : List Dv} {m : Mm} : ∀ (cs : List Nat) (k d d' : Nat) (c4 c5 : Cell), quiet cs d = some d' → ∃ c4' c5', forL SIt lp1_split_inner (nf k cs ++ more) (SIs w F (d : Nat) st c4 c5) m = forL SIt lp1_split_inner more (SIs w F (d' : Nat) st c4' c5') m
  | [], k, d, d', c4, c5, h => by
    cases h
    exact ⟨c4, c5, rfl⟩
  | c :: r, k, d, d', c4, c5, h => by
    rw [quiet] at h
    cases e : qs d c with
    | none => rw [e] at h; cases h
    | some d1 =>
      rw [e, Option.bind_some] at h
      obtain ⟨a4, a5, z1⟩ := si_one (w := w) (F := F) (st := st) (k := k) e c4 c5 (more := nf (k + 1) r ++ more) (m := m)
      obtain ⟨b4, b5, z2⟩ := si_run r (k + 1) d1 d' a4 a5 h
      exact ⟨b4, b5, by rw [nf, List.cons_append, z1, z2]⟩
theorem sl_mid {a : List Nat} {i j : Int} (h : 0 ≤ i) (hj : i ≤ j) (hl : j ≤ (a.length : Nat)) : cutS (S a) (some i) (some j) = S ((a.drop i.toNat).take (j - i).toNat) := by
  rw [C8.cutS_slice]
  have e := beq_iff_eq.mp (PyProof.Rows.slice_closesL (x := S a) h hj (by rw [S_len]; omega))
  exact e.trans (TL.ext_tl rfl)
theorem g_sl_s {ρ : Sl} {m : Mm} {z : Str} {lo hi : Option Int} (h : z.length ≤ 16777216) : gSl ρ m (.v (.str z)) lo hi = .ok (.v (.str (cutS z lo hi))) m := if_pos h
theorem si_comma {w : List Nat} {F : List Dv} {st k : Nat} {p : List Nat} (hw : w.length ≤ 16777216) (hF : F.length < 16777216) (e1 : cutS (S w) (some ((k : Int) + 1)) (some ((k : Int) + 2)) = S [32]) (e2 : cutS (S w) (some (st : Nat)) (some (k : Nat)) = S p) (c4 c5 : Cell) {more : List Dv} {m : Mm} : ∃ c4' c5', forL SIt lp1_split_inner (.tup [.int (k : Nat), .str (S [44])] :: .tup [.int ((k + 1 : Nat) : Int), .str (S [32])] :: more) (SIs w F ((0 : Nat) : Int) (st : Nat) c4 c5) m = forL SIt lp1_split_inner more (SIs w (F ++ [.str (S p)]) ((0 : Nat) : Int) ((k + 2 : Nat) : Int) c4' c5') m := by
  obtain ⟨b4, b5, z⟩ := si_one (w := w) (F := F ++ [.str (S p)]) (st := ((k + 2 : Nat) : Int)) (k := k + 1) (d := 0) (d' := 0) (c := 32) rfl (.val (.int (k : Nat))) (.val (.str (S [44]))) (more := more) (m := m)
  refine ⟨b4, b5, ?_⟩
  rw [← z, e_forC]
  have f1 : (S [44] == ("(" : Str)) = false := by decide +kernel
  have f2 : (S [44] == (")" : Str)) = false := by decide +kernel
  have f3 : (S [44] == ("," : Str)) = true := by decide +kernel
  have f4 : (S [32] == (" " : Str)) = true := by decide +kernel
  have f5 : (((0 : Nat) : Int) == 0) = true := rfl
  have f6 : ((k : Nat) : Int) + 2 = ((k + 2 : Nat) : Int) := by omega
  have hl : (S w).length ≤ 16777216 := by rw [S_len]; exact hw
  rw [f6] at e1
  exists "ev", sx1_split_inner_e, sx2_split_inner_e, sx3_split_inner_e, lp1_split_inner_e, sx4_split_inner_e, sx5_split_inner_e, b_split_inner_e, f1, f2, f3, f4, f5, g_sl_s hl, e1, e2, mutK_ap, f6
theorem drop_pre (a b : List Nat) {k : Nat} (h : k = a.length) : (a ++ b).drop k = b := by subst h; exact List.drop_left
theorem si_all {w : List Nat} (hw : w.length ≤ 1000000) {m : Mm} : ∀ (ps : List (List Nat)) (pre : List Nat) (F : List Dv) (c4 c5 : Cell), ps ≠ [] → (∀ p ∈ ps, quiet p 0 = some 0) → w = pre ++ TL.joinL [44, 32] ps → F.length + ps.length ≤ 1000 →
    ∃ c4' c5' F' st, st ≤ w.length ∧ forL SIt lp1_split_inner (nf pre.length (TL.joinL [44, 32] ps)) (SIs w F ((0 : Nat) : Int) (pre.length : Nat) c4 c5) m = .nx (SIs w F' ((0 : Nat) : Int) (st : Nat) c4' c5') m ∧ F' ++ [.str (S (w.drop st))] = F ++ ps.map fun p => .str (S p)
  | [], _, _, _, _, h, _, _, _ => absurd rfl h
  | [p], pre, F, c4, c5, _, hq, hw', hl => by
    have hw' : w = pre ++ p := hw'
    obtain ⟨a4, a5, z⟩ := si_run (w := w) (F := F) (st := (pre.length : Nat)) (more := []) (m := m) p pre.length 0 0 c4 c5 (hq p (List.mem_cons_self ..))
    rw [List.append_nil] at z
    refine ⟨a4, a5, F, pre.length, by rw [hw', List.length_append]; omega, ?_, ?_⟩
    · show forL SIt lp1_split_inner (nf pre.length p) _ m = _
      rw [z, e_forN]
    · rw [hw', drop_pre _ _ rfl]; rfl
  | p :: q :: r, pre, F, c4, c5, _, hq, hw', hl => by
    have hj : TL.joinL [44, 32] (p :: q :: r) = p ++ ([44, 32] ++ TL.joinL [44, 32] (q :: r)) := rfl
    rw [hj] at hw' ⊢
    have hwl : w.length = pre.length + p.length + 2 + (TL.joinL [44, 32] (q :: r)).length := by
      rw [hw']; simp only [List.length_append, List.length_cons, List.length_nil]; omega
    have e1 : cutS (S w) (some (((pre.length + p.length : Nat) : Int) + 1)) (some (((pre.length + p.length : Nat) : Int) + 2)) = S [32] := by
      rw [sl_mid (by omega) (by omega) (by omega)]
      have h1 : (((pre.length + p.length : Nat) : Int) + 1).toNat = pre.length + p.length + 1 := by omega
      have h2 : (((pre.length + p.length : Nat) : Int) + 2 - (((pre.length + p.length : Nat) : Int) + 1)).toNat = 1 := by omega
      rw [h1, h2, hw', show pre ++ (p ++ ([44, 32] ++ TL.joinL [44, 32] (q :: r))) = (pre ++ (p ++ [44])) ++ (32 :: TL.joinL [44, 32] (q :: r)) by simp, drop_pre _ _ (by simp only [List.length_append, List.length_cons, List.length_nil]; omega)]
      rfl
    have e2 : cutS (S w) (some ((pre.length : Nat) : Int)) (some ((pre.length + p.length : Nat) : Int)) = S p := by
      rw [sl_mid (by omega) (by omega) (by omega)]
      have h2 : (((pre.length + p.length : Nat) : Int) - ((pre.length : Nat) : Int)).toNat = p.length := by omega
      rw [Int.toNat_natCast, h2, hw', drop_pre _ _ rfl]
      exact congrArg S List.take_left
    obtain ⟨a4, a5, z1⟩ := si_run (w := w) (F := F) (st := (pre.length : Nat)) (more := nf (pre.length + p.length) ([44, 32] ++ TL.joinL [44, 32] (q :: r))) (m := m) p pre.length 0 0 c4 c5 (hq p (List.mem_cons_self ..))
    obtain ⟨b4, b5, z2⟩ := si_comma (w := w) (F := F) (k := pre.length + p.length) (st := pre.length) (p := p) (by omega) (by omega) e1 e2 a4 a5 (more := nf (pre.length + p.length + 2) (TL.joinL [44, 32] (q :: r))) (m := m)
    have hp : (pre ++ (p ++ [44, 32])).length = pre.length + p.length + 2 := by simp only [List.length_append, List.length_cons, List.length_nil]; omega
    obtain ⟨d4, d5, F', st, hs, z3, hF⟩ := si_all hw (m := m) (q :: r) (pre ++ (p ++ [44, 32])) (F ++ [.str (S p)]) b4 b5 (by simp) (fun x hx => hq x (List.mem_cons_of_mem _ hx)) (by rw [hw']; simp) (by simp only [List.length_append, List.length_cons, List.length_nil] at hl ⊢; omega)
    refine ⟨d4, d5, F', st, hs, ?_, ?_⟩
    · rw [nf_app, z1]
      rw [hp] at z3
      exact z2.trans z3
    · rw [hF]; simp
theorem split_inner {ps : List (List Nat)} (hne : ps ≠ []) (hq : ∀ p ∈ ps, quiet p 0 = some 0) (hl : (TL.joinL [44, 32] ps).length ≤ 1000000) (hl2 : ps.length ≤ 900) {m : Mm} : m_split_inner [.str (S (TL.joinL [44, 32] ps))] m = .ok (.lst (ps.map fun p => .str (S p))) m := by
  obtain ⟨a4, a5, F', st, hs, z, hF⟩ := si_all (w := TL.joinL [44, 32] ps) hl (m := m) ps [] [] .un .un hne hq rfl (by simp only [List.length_nil]; omega)
  have hlS : (S (TL.joinL [44, 32] ps)).length ≤ 16777216 := by rw [S_len]; omega
  have en := nf_en (w := TL.joinL [44, 32] ps) (by omega)
  have hsl : cutS (S (TL.joinL [44, 32] ps)) (some ((st : Nat) : Int)) none = S ((TL.joinL [44, 32] ps).drop st) := by
    rw [C8.cutS_slice, slice_from (by omega)]; rfl
  have f5 : (((0 : Nat) : Int) == 0) = true := rfl
  rw [List.nil_append] at hF
  have z : forL (mGt 2 (mGcons (mGn 4) (mGcons (mGn 5) mGnil))) lp1_split_inner (nf 0 (TL.joinL [44, 32] ps)) [.val (.str (S (TL.joinL [44, 32] ps))), .own (.lst []), .val (.int 0), .val (.int 0), .un, .un] m = .nx [.val (.str (S (TL.joinL [44, 32] ps))), .own (.lst F'), .val (.int ((0 : Nat) : Int)), .val (.int (st : Nat)), a4, a5] m := z
  have hF2 : F'.length ≤ 1000 := by
    have := congrArg List.length hF
    simp only [List.length_append, List.length_cons, List.length_nil, List.length_map] at this; omega
  rw [u_split_inner]
  exists "ev", sx1_split_inner_e, sx2_split_inner_e, sx3_split_inner_e, lp1_split_inner_e, sx4_split_inner_e, sx5_split_inner_e, b_split_inner_e, en, nf_num, z, f5, g_sl_s hlS, hsl, hF
end G

set_option Elab.async false
set_option linter.all false
set_option autoImplicit false
set_option maxRecDepth 100000
set_option maxHeartbeats 4000000
namespace G
open PySem L2 M3 SX
/-! ### trees as plain data -/
def Lf.encP : Lf → PyData
  | .age a b => .tuple [.str "age", .int (a : Nat), .int (b : Nat)]
  | .day p r => .tuple [.str "day", .int (p : Nat), .int (r : Nat)]
  | .one w n => .tuple [.str w.st, .int (n : Nat)]
def encP : CT → PyData
  | .lf l => l.encP
  | .neg t => .tuple [.str "not", encP t]
  | .j2 b t u => .tuple [.str (jS b), .tuple [encP t, encP u]]
  | .j3 b t u v => .tuple [.str (jS b), .tuple [encP t, encP u, encP v]]
theorem toPy_enc : ∀ t : CT, toPy (enc t) = some (encP t)
  | .lf l => by cases l <;> rfl
  | .neg t => by simp only [enc, encP, toPy, toPys, toPy_enc t, Option.map_some]
  | .j2 b t u => by simp only [enc, encP, toPy, toPys, toPy_enc t, toPy_enc u, Option.map_some]
  | .j3 b t u v => by simp only [enc, encP, toPy, toPys, toPy_enc t, toPy_enc u, toPy_enc v, Option.map_some]
theorem can_st (w : W5) : PyData.strOk w.st = true := by cases w <;> decide +kernel
theorem can_j (b : Bool) : PyData.strOk (jS b) = true := by cases b <;> decide +kernel
theorem can_not : PyData.strOk "not" = true := by decide +kernel
theorem can_age : PyData.strOk "age" = true := by decide +kernel
theorem can_day : PyData.strOk "day" = true := by decide +kernel
theorem can_enc : ∀ t : CT, PyData.canLay0 (encP t) = true
  | .lf l => by cases l <;> simp only [encP, Lf.encP, PyData.canLay0, PyData.canLayAll0, can_st, can_age, can_day, Bool.and_true]
  | .neg t => by simp only [encP, PyData.canLay0, PyData.canLayAll0, can_not, can_enc t, Bool.and_true]
  | .j2 b t u => by simp only [encP, PyData.canLay0, PyData.canLayAll0, can_j, can_enc t, can_enc u, Bool.and_true]
  | .j3 b t u v => by simp only [encP, PyData.canLay0, PyData.canLayAll0, can_j, can_enc t, can_enc u, can_enc v, Bool.and_true]
theorem depth_enc : ∀ t : CT, PyData.depth (encP t) ≤ 2 * t.parts
  | .lf l => by cases l <;> simp [encP, Lf.encP, PyData.depth, PyData.depthAll, CT.parts]
  | .neg t => by
    have := depth_enc t
    simp only [encP, PyData.depth, PyData.depthAll, CT.parts]; omega
  | .j2 b t u => by
    have h1 := depth_enc t
    have h2 := depth_enc u
    simp only [encP, PyData.depth, PyData.depthAll, CT.parts]; omega
  | .j3 b t u v => by
    have h1 := depth_enc t
    have h2 := depth_enc u
    have h3 := depth_enc v
    simp only [encP, PyData.depth, PyData.depthAll, CT.parts]; omega
theorem toPys_enc : ∀ ts : List CT, toPys (ts.map enc) = some (ts.map encP)
  | [] => rfl
  | t :: ts => by simp only [List.map_cons, toPys, toPy_enc t, toPys_enc ts]
theorem can_encs : ∀ ts : List CT, PyData.canLayAll0 (ts.map encP) = true
  | [] => rfl
  | t :: ts => by simp only [List.map_cons, PyData.canLayAll0, can_enc t, can_encs ts, Bool.and_true]
theorem depth_encs : ∀ {ts : List CT}, (∀ t ∈ ts, t.parts ≤ 20) → PyData.depthAll (ts.map encP) ≤ 40
  | [], _ => by simp [PyData.depthAll]
  | t :: ts, h => by
    have h1 := depth_enc t
    have h2 := depth_encs (ts := ts) fun x hx => h x (List.mem_cons_of_mem _ hx)
    have h3 := h t (List.mem_cons_self ..)
    simp only [List.map_cons, PyData.depthAll]; omega
theorem shaped_encs {ts : List CT} (h : ∀ t ∈ ts, t.parts ≤ 20) : SeqAt.shaped (.list (ts.map encP)) = true := by
  unfold SeqAt.shaped
  have := depth_encs h
  rw [Bool.and_eq_true, PyData.canLay0]
  exact ⟨can_encs ts, decide_eq_true (by rw [PyData.depth]; omega)⟩
theorem eqv_non : ∀ t : CT, PyData.eqv (encP t) .none = false
  | .lf l => by cases l <;> rfl
  | .neg t => rfl
  | .j2 b t u => rfl
  | .j3 b t u v => rfl
theorem vOf_enc : ∀ t : CT, vOf (enc t) = none
  | .lf l => by cases l <;> rfl
  | .neg t => rfl
  | .j2 b t u => rfl
  | .j3 b t u v => rfl
theorem in_non_t {ρ : Sl} {m : Mm} {t : CT} {ts : List CT} (h : ∀ x ∈ t :: ts, x.parts ≤ 20) : inOf ρ m (.v .non) (.v (.lst ((t :: ts).map enc))) = some false := by
  have e1 : dlook ρ m (.v (.lst ((t :: ts).map enc))) (.v .non) = none := rfl
  have e2 : vOfs ((t :: ts).map enc) = none := by
    rw [List.map_cons]
    unfold vOfs
    rw [vOf_enc]
  have e3 : (seqOf ρ m (.v (.lst ((t :: ts).map enc)))).bind vOfs = none := e2
  have e4 : (lstOf ρ m (.v (.lst ((t :: ts).map enc)))).bind toPys = some ((t :: ts).map encP) := toPys_enc _
  have e5 : pyOf ρ m (.v .non) = some .none := rfl
  have e6 : SeqAt.shaped .none = true := rfl
  have e7 : (((t :: ts).map encP).any fun z => PyData.eqv z .none) = false := by
    rw [List.any_eq_false]
    intro x hx
    obtain ⟨y, _, rfl⟩ := List.mem_map.mp hx
    rw [eqv_non]; decide
  have e8 : aV (.v .non) = some V.non := rfl
  unfold inOf
  simp only [e1, e3, e4, e5, e6, e8, shaped_encs h, e7, and_self, if_true]
/-! ### tree_of -/
theorem g_split {ρ : Sl} {m : Mm} {a b : Str} {xs : List Str} (h : (b.length == 0) = false) (h1 : a.length + 2 ≤ 16777216) (h2 : Txt.split a b = xs) (h3 : xs.length ≤ 16777216) : gSplit a ρ m (.v (.str b)) = .ok (.v (.lst (xs.map .str))) m := by
  subst h2
  exact if_pos ⟨h, h1, h3⟩
theorem g_part {ρ : Sl} {m : Mm} {a b x y z : Str} (h : (b.length == 0) = false) (h1 : a.length ≤ 16777216) (h2 : Txt.partition a b = (x, y, z)) : gPart a ρ m (.v (.str b)) = .ok (.v (.tup [.str x, .str y, .str z])) m := by
  have e : gPart a ρ m (.v (.str b)) = .ok (.v (.tup [.str (Txt.partition a b).1, .str (Txt.partition a b).2.1, .str (Txt.partition a b).2.2])) m := if_pos ⟨h, h1⟩
  rw [e, h2]
theorem g_s2 {ρ : Sl} {m : Mm} {f : Str → Str → Dv} {a b : Str} : gS2 f a ρ m (.v (.str b)) = .ok (.v (f a b)) m := rfl
theorem low_last : ∀ {a : List Nat}, a.all lowc = true → a ≠ [] → ∃ r c, a = r ++ [c] ∧ c ≠ 41 := by
  intro a h hne
  refine ⟨a.dropLast, a.getLast hne, (List.dropLast_concat_getLast hne).symm, ?_⟩
  exact (low_ne (List.all_eq_true.mp h _ (List.getLast_mem hne))).2.1
theorem ws_no (l : Lf) : ∀ p ∈ l.ws, 32 ∉ p := by
  intro p hp h
  cases l with
  | age a b =>
    rcases List.mem_cons.mp hp with rfl | hp
    · revert h; decide
    · rcases List.mem_cons.mp hp with rfl | hp
      · have := num_mem h; omega
      · rcases List.mem_cons.mp hp with rfl | hp
        · have := num_mem h; omega
        · cases hp
  | day a b =>
    rcases List.mem_cons.mp hp with rfl | hp
    · revert h; decide
    · rcases List.mem_cons.mp hp with rfl | hp
      · have := num_mem h; omega
      · rcases List.mem_cons.mp hp with rfl | hp
        · have := num_mem h; omega
        · cases hp
  | one w n =>
    rcases List.mem_cons.mp hp with rfl | hp
    · revert h; cases w <;> decide
    · rcases List.mem_cons.mp hp with rfl | hp
      · have := num_mem h; omega
      · cases hp
theorem ws_ne (l : Lf) : l.ws ≠ [] ∧ l.ws.length ≤ 3 := by cases l <;> exact ⟨by simp [Lf.ws], by simp [Lf.ws]⟩
theorem tree_leaf {l : Lf} (h : l.Ok) {n : Nat} {m : Mm} : mf_tree_of (n + 1) [.str (S (tx (.lf l)))] m = .ok l.enc m := by
  have hb := lf_bounds h
  obtain ⟨r, c, he, hc⟩ := low_last (lf_low l) (fun z => by rw [z] at hb; simp at hb)
  have e1 : Txt.endswith (S (tx (.lf l))) (")" : Str) = false := by
    rw [← close_S, tx, he]; exact ends_no r c hc
  have e2 : Txt.split (S (tx (.lf l))) (" " : Str) = l.ws.map S := by
    rw [← sp_S, tx, split_S (by simp) (by decide), spl_join (ws_ne l).1 (ws_no l)]
  have e3 : ((" " : Str).length == 0) = false := by decide +kernel
  have e4 : (S (tx (.lf l))).length + 2 ≤ 16777216 := by rw [S_len, tx]; omega
  have e5 : (l.ws.map S).length ≤ 16777216 := by rw [List.length_map]; have := (ws_ne l).2; omega
  have e6 : m_plain_tree [.lst ((l.ws.map S).map .str)] m = .ok l.enc m := by
    rw [List.map_map]; exact plain_tree h
  rw [u_tree_of]
  exists "ev", ce1_tree_of_e, sx1_tree_of_e, sx2_tree_of_e, sx3_tree_of_e, sx4_tree_of_e, sx5_tree_of_e, sx6_tree_of_e, b_tree_of_e, beq_self_eq_true, g_s2, e1, g_split e3 e4 e2 e5, e6
theorem in_word {z : Str} {ρ : Sl} {m : Mm} : inOf ρ m (.v (.str z)) (.v (.tup [.str "not", .str "all", .str "any"])) = some ([("not" : Str), "all", "any"].any (· == z)) := in_str_t (xs := ["not", "all", "any"])
theorem in_1 {ρ : Sl} {m : Mm} : inOf ρ m (.v (.int ((0 + 1 : Nat) : Int))) (.v (.tup [.int 1])) = some true := rfl
theorem in_2 {ρ : Sl} {m : Mm} : inOf ρ m (.v (.int ((0 + 1 + 1 : Nat) : Int))) (.v (.tup [.int 2, .int 3])) = some true := rfl
theorem in_3 {ρ : Sl} {m : Mm} : inOf ρ m (.v (.int ((0 + 1 + 1 + 1 : Nat) : Int))) (.v (.tup [.int 2, .int 3])) = some true := rfl
theorem w_not : ([("not" : Str), "all", "any"].any (· == ("not" : Str))) = true := by decide +kernel
theorem w_jS (b : Bool) : ([("not" : Str), "all", "any"].any (· == jS b)) = true := by cases b <;> decide +kernel
theorem jS_not (b : Bool) : (jS b == ("not" : Str)) = false := by cases b <;> decide +kernel
theorem op_ne : (("(" : Str).length == 0) = false := by decide +kernel
theorem cut_last (a : List Nat) : cutS (S (a ++ [41])) none (some (-1)) = S a := by rw [C8.cutS_slice]; exact butlast_snoc a 41
theorem nm_no {a : List Nat} (h : a.all lowc = true) : 40 ∉ a := fun z => (low_ne (List.all_eq_true.mp h _ z)).1 rfl
/-- the frame of a text with inner ones -/
theorem tree_frame {w body : List Nat} (hw : w.all lowc = true) (hl : (w ++ ([40] ++ (body ++ [41]))).length ≤ 1000) :
    Txt.endswith (S (w ++ ([40] ++ (body ++ [41])))) (")" : Str) = true ∧ Txt.partition (S (w ++ ([40] ++ (body ++ [41])))) ("(" : Str) = (S w, ("(" : Str), S (body ++ [41])) ∧ (S (w ++ ([40] ++ (body ++ [41])))).length ≤ 16777216 ∧ (S (body ++ [41])).length ≤ 16777216 := by
  refine ⟨?_, ?_, ?_, ?_⟩
  · rw [← close_S, show w ++ ([40] ++ (body ++ [41])) = (w ++ ([40] ++ body)) ++ [41] by simp]
    exact ends_yes _
  · rw [← open_S]
    exact partition_some (by simp) (par_head (c := 40) (sep := []) (p := w) (body ++ [41]) (nm_no hw))
  · rw [S_len]; omega
  · rw [S_len]; simp only [List.length_append, List.length_cons, List.length_nil] at hl ⊢; omega
theorem tree_of {m : Mm} : ∀ {t : CT}, t.Ok → ∀ n, t.parts ≤ n → n ≤ 12 → mf_tree_of n [.str (S (tx t))] m = .ok (enc t) m
  | .lf l, h, n, hn, _ => by
    obtain ⟨k, rfl⟩ : ∃ k, n = k + 1 := ⟨n - 1, by simp only [CT.parts] at hn; omega⟩
    exact tree_leaf h
  | .neg t, h, n, hn, h12 => by
    have hp : t.parts + 1 ≤ n := by simp only [CT.parts] at hn; omega
    obtain ⟨k, rfl⟩ : ∃ k, n = k + 1 := ⟨n - 1, by omega⟩
    have ih := fun m => tree_of (m := m) (t := t) h k (by omega) (by omega)
    have hl := tx_len (t := .neg t) h
    simp only [CT.parts] at hl
    obtain ⟨f1, f2, f3, f4⟩ := tree_frame (w := [110,111,116]) (body := tx t) (by decide) (by simp only [tx] at hl; omega)
    have hs : m_split_inner [.str (S (tx t))] m = .ok (.lst [.str (S (tx t))]) m := split_inner (ps := [tx t]) (by simp) (fun p hp => by rw [List.mem_singleton.mp hp]; exact quiet_tx t 0) (by have := tx_len (t := t) h; show (tx t).length ≤ _; omega) (by simp)
    have hin := fun ρ => in_non_t (ρ := ρ) (m := m) (t := t) (ts := []) (fun x hx => by rw [List.mem_singleton.mp hx]; omega)
    simp only [List.map_cons, List.map_nil] at hin
    rw [u_tree_of, tx]
    generalize S ([110,111,116] ++ ([40] ++ (tx t ++ [41]))) = X at f1 f2 f3 ⊢
    exists "ev", ce1_tree_of_e, sx1_tree_of_e, sx2_tree_of_e, sx3_tree_of_e, sx4_tree_of_e, sx5_tree_of_e, sx6_tree_of_e, b_tree_of_e, beq_self_eq_true, g_s2, f1, g_part op_ne f3 f2, not_S, k_JOINS, List.cons_append, List.nil_append, List.append_nil, in_word, w_not, g_sl_s f4, cut_last, hs, in_1, e_lcC, ih, hin, enc, at_0
  | .j2 b t u, h, n, hn, h12 => by
    have hp : t.parts + u.parts + 1 ≤ n := by simp only [CT.parts] at hn; omega
    obtain ⟨k, rfl⟩ : ∃ k, n = k + 1 := ⟨n - 1, by omega⟩
    have q1 := t.parts_pos
    have q2 := u.parts_pos
    have ih1 := fun m => tree_of (m := m) (t := t) h.1 k (by omega) (by omega)
    have ih2 := fun m => tree_of (m := m) (t := u) h.2 k (by omega) (by omega)
    have hl := tx_len (t := .j2 b t u) h
    simp only [CT.parts] at hl
    obtain ⟨f1, f2, f3, f4⟩ := tree_frame (w := jn b) (body := TL.joinL [44, 32] [tx t, tx u]) (jn_low b) (by simp only [tx] at hl; omega)
    have hs : m_split_inner [.str (S (TL.joinL [44, 32] [tx t, tx u]))] m = .ok (.lst [.str (S (tx t)), .str (S (tx u))]) m := split_inner (ps := [tx t, tx u]) (by simp) (fun p hp => by
      rcases List.mem_cons.mp hp with rfl | hp
      · exact quiet_tx t 0
      · rw [List.mem_singleton.mp hp]; exact quiet_tx u 0) (by simp only [tx, List.length_append] at hl; omega) (by simp)
    have hin := fun ρ => in_non_t (ρ := ρ) (m := m) (t := t) (ts := [u]) (fun x hx => by
      rcases List.mem_cons.mp hx with rfl | hx
      · omega
      · rw [List.mem_singleton.mp hx]; omega)
    simp only [List.map_cons, List.map_nil] at hin
    rw [u_tree_of, tx]
    generalize S (jn b ++ ([40] ++ (TL.joinL [44, 32] [tx t, tx u] ++ [41]))) = X at f1 f2 f3 ⊢
    exists "ev", ce1_tree_of_e, sx1_tree_of_e, sx2_tree_of_e, sx3_tree_of_e, sx4_tree_of_e, sx5_tree_of_e, sx6_tree_of_e, b_tree_of_e, beq_self_eq_true, g_s2, f1, g_part op_ne f3 f2, jn_S, jS_not, k_JOINS, List.cons_append, List.nil_append, List.append_nil, in_word, w_jS, g_sl_s f4, cut_last, hs, in_2, e_lcC, ih1, ih2, hin, enc
  | .j3 b t u v, h, n, hn, h12 => by
    have hp : t.parts + u.parts + v.parts + 1 ≤ n := by simp only [CT.parts] at hn; omega
    obtain ⟨k, rfl⟩ : ∃ k, n = k + 1 := ⟨n - 1, by omega⟩
    have q1 := t.parts_pos
    have q2 := u.parts_pos
    have q3 := v.parts_pos
    have ih1 := fun m => tree_of (m := m) (t := t) h.1 k (by omega) (by omega)
    have ih2 := fun m => tree_of (m := m) (t := u) h.2.1 k (by omega) (by omega)
    have ih3 := fun m => tree_of (m := m) (t := v) h.2.2 k (by omega) (by omega)
    have hl := tx_len (t := .j3 b t u v) h
    simp only [CT.parts] at hl
    obtain ⟨f1, f2, f3, f4⟩ := tree_frame (w := jn b) (body := TL.joinL [44, 32] [tx t, tx u, tx v]) (jn_low b) (by simp only [tx] at hl; omega)
    have hs : m_split_inner [.str (S (TL.joinL [44, 32] [tx t, tx u, tx v]))] m = .ok (.lst [.str (S (tx t)), .str (S (tx u)), .str (S (tx v))]) m := split_inner (ps := [tx t, tx u, tx v]) (by simp) (fun p hp => by
      rcases List.mem_cons.mp hp with rfl | hp
      · exact quiet_tx t 0
      · rcases List.mem_cons.mp hp with rfl | hp
        · exact quiet_tx u 0
        · rw [List.mem_singleton.mp hp]; exact quiet_tx v 0) (by simp only [tx, List.length_append] at hl; omega) (by simp)
    have hin := fun ρ => in_non_t (ρ := ρ) (m := m) (t := t) (ts := [u, v]) (fun x hx => by
      rcases List.mem_cons.mp hx with rfl | hx
      · omega
      · rcases List.mem_cons.mp hx with rfl | hx
        · omega
        · rw [List.mem_singleton.mp hx]; omega)
    simp only [List.map_cons, List.map_nil] at hin
    rw [u_tree_of, tx]
    generalize S (jn b ++ ([40] ++ (TL.joinL [44, 32] [tx t, tx u, tx v] ++ [41]))) = X at f1 f2 f3 ⊢
    exists "ev", ce1_tree_of_e, sx1_tree_of_e, sx2_tree_of_e, sx3_tree_of_e, sx4_tree_of_e, sx5_tree_of_e, sx6_tree_of_e, b_tree_of_e, beq_self_eq_true, g_s2, f1, g_part op_ne f3 f2, jn_S, jS_not, k_JOINS, List.cons_append, List.nil_append, List.append_nil, in_word, w_jS, g_sl_s f4, cut_last, hs, in_3, e_lcC, ih1, ih2, ih3, hin, enc
end G

set_option Elab.async false
set_option linter.all false
set_option autoImplicit false
set_option maxRecDepth 100000
set_option maxHeartbeats 4000000
namespace G
open PySem L2 M3 SX
def ch : CT → List CT
  | .lf _ => []
  | .neg t => [t]
  | .j2 _ t u => [t, u]
  | .j3 _ t u v => [t, u, v]
theorem age_not : (("age" : Str) == ("not" : Str)) = false := by decide +kernel
theorem day_not : (("day" : Str) == ("not" : Str)) = false := by decide +kernel
theorem st_not (w : W5) : (w.st == ("not" : Str)) = false := by cases w <;> decide +kernel
theorem any_age : ([("all" : Str), "any"].any (· == ("age" : Str))) = false := by decide +kernel
theorem any_day : ([("all" : Str), "any"].any (· == ("day" : Str))) = false := by decide +kernel
theorem any_st (w : W5) : ([("all" : Str), "any"].any (· == w.st)) = false := by cases w <;> decide +kernel
theorem any_jS (b : Bool) : ([("all" : Str), "any"].any (· == jS b)) = true := by cases b <;> decide +kernel
theorem in_aat {z : Str} {ρ : Sl} {m : Mm} : inOf ρ m (.v (.str z)) (.v (.tup [.str "all", .str "any"])) = some ([("all" : Str), "any"].any (· == z)) := in_str_t (xs := ["all", "any"])
theorem in_aak {z : Str} {ρ : Sl} {m : Mm} : inOf ρ m (.v (.str z)) (.v (.ktp [.str "all", .str "any"])) = some ([("all" : Str), "any"].any (· == z)) := in_str_k (xs := ["all", "any"])
theorem sum_1 {ρ : Sl} {m : Mm} {a : Int} : gSum ρ m (.v (.lst [.int a])) = .ok (.v (.int (a + 0))) m := g_sum (q := id) (xs := [a])
theorem sum_0 {ρ : Sl} {m : Mm} : gSum ρ m (.v (.lst [])) = .ok (.v (.int 0)) m := g_sum (q := id) (xs := [])
theorem sum_2 {ρ : Sl} {m : Mm} {a b : Int} : gSum ρ m (.v (.lst [.int a, .int b])) = .ok (.v (.int (a + (b + 0)))) m := g_sum (q := id) (xs := [a, b])
theorem sum_3 {ρ : Sl} {m : Mm} {a b c : Int} : gSum ρ m (.v (.lst [.int a, .int b, .int c])) = .ok (.v (.int (a + (b + (c + 0))))) m := g_sum (q := id) (xs := [a, b, c])
theorem l_inner : ∀ (t : CT) {m : Mm}, m_l_inner [enc t] m = .ok (.lst ((ch t).map enc)) m
  | .lf (.age a b), m => by
    rw [u_l_inner]
    exists "ev", sx1_l_inner_e, b_l_inner_e, enc, Lf.enc, ch, List.map_nil, age_not, any_age, in_aat, k_JOINS
  | .lf (.day a b), m => by
    rw [u_l_inner]
    exists "ev", sx1_l_inner_e, b_l_inner_e, enc, Lf.enc, ch, List.map_nil, day_not, any_day, in_aat, k_JOINS
  | .lf (.one w n), m => by
    rw [u_l_inner]
    exists "ev", sx1_l_inner_e, b_l_inner_e, enc, Lf.enc, ch, List.map_nil, st_not, any_st, in_aat, k_JOINS
  | .neg t, m => by
    rw [u_l_inner]
    exists "ev", sx1_l_inner_e, b_l_inner_e, enc, ch, List.map_nil, List.map_cons, beq_self_eq_true
  | .j2 b t u, m => by
    rw [u_l_inner]
    exists "ev", sx1_l_inner_e, b_l_inner_e, enc, ch, List.map_nil, List.map_cons, jS_not, any_jS, in_aat, k_JOINS
  | .j3 b t u v, m => by
    rw [u_l_inner]
    exists "ev", sx1_l_inner_e, b_l_inner_e, enc, ch, List.map_nil, List.map_cons, jS_not, any_jS, in_aat, k_JOINS
theorem l_parts : ∀ {t : CT} {m : Mm} (n : Nat), t.parts ≤ n → mf_l_parts n [enc t] m = .ok (.int (t.parts : Nat)) m
  | .lf l, m, n, h => by
    obtain ⟨k, rfl⟩ : ∃ k, n = k + 1 := ⟨n - 1, by simp only [CT.parts] at h; omega⟩
    rw [u_l_parts]
    exists "ev", ce1_l_parts_e, b_l_parts_e, l_inner, ch, List.map_nil, e_lcN, sum_0, CT.parts
    rfl
  | .neg t, m, n, h => by
    have hp : t.parts + 1 ≤ n := by simp only [CT.parts] at h; omega
    obtain ⟨k, rfl⟩ : ∃ k, n = k + 1 := ⟨n - 1, by omega⟩
    have ih := fun m => l_parts (t := t) (m := m) k (by omega)
    have e : (1 : Int) + (((t.parts : Nat) : Int) + 0) = ((1 + t.parts : Nat) : Int) := by omega
    rw [u_l_parts]
    exists "ev", ce1_l_parts_e, b_l_parts_e, l_inner, ch, List.map_cons, List.map_nil, e_lcC, e_lcN, ih, sum_1, CT.parts, e
  | .j2 b t u, m, n, h => by
    have hp : t.parts + u.parts + 1 ≤ n := by simp only [CT.parts] at h; omega
    obtain ⟨k, rfl⟩ : ∃ k, n = k + 1 := ⟨n - 1, by omega⟩
    have ih1 := fun m => l_parts (t := t) (m := m) k (by omega)
    have ih2 := fun m => l_parts (t := u) (m := m) k (by omega)
    have e : (1 : Int) + (((t.parts : Nat) : Int) + (((u.parts : Nat) : Int) + 0)) = ((1 + (t.parts + u.parts) : Nat) : Int) := by omega
    rw [u_l_parts]
    exists "ev", ce1_l_parts_e, b_l_parts_e, l_inner, ch, List.map_cons, List.map_nil, e_lcC, e_lcN, ih1, ih2, sum_2, CT.parts, e
  | .j3 b t u v, m, n, h => by
    have hp : t.parts + u.parts + v.parts + 1 ≤ n := by simp only [CT.parts] at h; omega
    obtain ⟨k, rfl⟩ : ∃ k, n = k + 1 := ⟨n - 1, by omega⟩
    have ih1 := fun m => l_parts (t := t) (m := m) k (by omega)
    have ih2 := fun m => l_parts (t := u) (m := m) k (by omega)
    have ih3 := fun m => l_parts (t := v) (m := m) k (by omega)
    have e : (1 : Int) + (((t.parts : Nat) : Int) + (((u.parts : Nat) : Int) + (((v.parts : Nat) : Int) + 0))) = ((1 + (t.parts + (u.parts + v.parts)) : Nat) : Int) := by omega
    rw [u_l_parts]
    exists "ev", ce1_l_parts_e, b_l_parts_e, l_inner, ch, List.map_cons, List.map_nil, e_lcC, e_lcN, ih1, ih2, ih3, sum_3, CT.parts, e
theorem inner_trees : ∀ (t : CT) {m : Mm}, m_inner_trees [enc t] m = .ok (.lst ((ch t).map enc)) m
  | .lf (.age a b), m => by
    rw [u_inner_trees]
    exists "ev", sx1_inner_trees_e, b_inner_trees_e, enc, Lf.enc, ch, List.map_nil, age_not, any_age, in_aak, k_JOINS
  | .lf (.day a b), m => by
    rw [u_inner_trees]
    exists "ev", sx1_inner_trees_e, b_inner_trees_e, enc, Lf.enc, ch, List.map_nil, day_not, any_day, in_aak, k_JOINS
  | .lf (.one w n), m => by
    rw [u_inner_trees]
    exists "ev", sx1_inner_trees_e, b_inner_trees_e, enc, Lf.enc, ch, List.map_nil, st_not, any_st, in_aak, k_JOINS
  | .neg t, m => by
    rw [u_inner_trees]
    exists "ev", sx1_inner_trees_e, b_inner_trees_e, enc, ch, List.map_nil, List.map_cons, beq_self_eq_true
  | .j2 b t u, m => by
    rw [u_inner_trees]
    exists "ev", sx1_inner_trees_e, b_inner_trees_e, enc, ch, List.map_nil, List.map_cons, jS_not, any_jS, in_aak, k_JOINS
  | .j3 b t u v, m => by
    rw [u_inner_trees]
    exists "ev", sx1_inner_trees_e, b_inner_trees_e, enc, ch, List.map_nil, List.map_cons, jS_not, any_jS, in_aak, k_JOINS
theorem parts_of : ∀ {t : CT} {m : Mm} (n : Nat), t.parts ≤ n → mf_parts_of n [enc t] m = .ok (.int (t.parts : Nat)) m
  | .lf l, m, n, h => by
    obtain ⟨k, rfl⟩ : ∃ k, n = k + 1 := ⟨n - 1, by simp only [CT.parts] at h; omega⟩
    rw [u_parts_of]
    exists "ev", ce1_parts_of_e, b_parts_of_e, inner_trees, ch, List.map_nil, e_lcN, sum_0, CT.parts
    rfl
  | .neg t, m, n, h => by
    have hp : t.parts + 1 ≤ n := by simp only [CT.parts] at h; omega
    obtain ⟨k, rfl⟩ : ∃ k, n = k + 1 := ⟨n - 1, by omega⟩
    have ih := fun m => parts_of (t := t) (m := m) k (by omega)
    have e : (1 : Int) + (((t.parts : Nat) : Int) + 0) = ((1 + t.parts : Nat) : Int) := by omega
    rw [u_parts_of]
    exists "ev", ce1_parts_of_e, b_parts_of_e, inner_trees, ch, List.map_cons, List.map_nil, e_lcC, e_lcN, ih, sum_1, CT.parts, e
  | .j2 b t u, m, n, h => by
    have hp : t.parts + u.parts + 1 ≤ n := by simp only [CT.parts] at h; omega
    obtain ⟨k, rfl⟩ : ∃ k, n = k + 1 := ⟨n - 1, by omega⟩
    have ih1 := fun m => parts_of (t := t) (m := m) k (by omega)
    have ih2 := fun m => parts_of (t := u) (m := m) k (by omega)
    have e : (1 : Int) + (((t.parts : Nat) : Int) + (((u.parts : Nat) : Int) + 0)) = ((1 + (t.parts + u.parts) : Nat) : Int) := by omega
    rw [u_parts_of]
    exists "ev", ce1_parts_of_e, b_parts_of_e, inner_trees, ch, List.map_cons, List.map_nil, e_lcC, e_lcN, ih1, ih2, sum_2, CT.parts, e
  | .j3 b t u v, m, n, h => by
    have hp : t.parts + u.parts + v.parts + 1 ≤ n := by simp only [CT.parts] at h; omega
    obtain ⟨k, rfl⟩ : ∃ k, n = k + 1 := ⟨n - 1, by omega⟩
    have ih1 := fun m => parts_of (t := t) (m := m) k (by omega)
    have ih2 := fun m => parts_of (t := u) (m := m) k (by omega)
    have ih3 := fun m => parts_of (t := v) (m := m) k (by omega)
    have e : (1 : Int) + (((t.parts : Nat) : Int) + (((u.parts : Nat) : Int) + (((v.parts : Nat) : Int) + 0))) = ((1 + (t.parts + (u.parts + v.parts)) : Nat) : Int) := by omega
    rw [u_parts_of]
    exists "ev", ce1_parts_of_e, b_parts_of_e, inner_trees, ch, List.map_cons, List.map_nil, e_lcC, e_lcN, ih1, ih2, ih3, sum_3, CT.parts, e
end G

set_option Elab.async false
set_option linter.all false
set_option autoImplicit false
set_option maxRecDepth 100000
set_option maxHeartbeats 4000000
namespace G
open PySem L2 M3 SX
/-! ### texts of trees -/
theorem g_add_S {ρ : Sl} {m : Mm} {a c : List Nat} (h : a.length + c.length ≤ 16777216) : gAdd ρ m (.v (.str (S a))) (.v (.str (S c))) = .ok (.v (.str (S (a ++ c)))) m := by
  rw [g_add_s (by rw [S_len, S_len]; exact h), S_cat]
theorem join_n {ρ : Sl} {m : Mm} {a : List Nat} {xs : List (List Nat)} (h : (xs.map (·.length)).sum + xs.length * a.length ≤ 16777216) : gJoin (S a) ρ m (.v (.lst (xs.map fun x => .str (S x)))) = .ok (.v (.str (S (TL.joinL a xs)))) m := by
  have := g_join_l (s := S a) (q := S) (xs := xs) (ρ := ρ) (m := m) (by rw [lens, List.length_map, S_len]; exact h)
  rw [this, join_S]
theorem join_2 {ρ : Sl} {m : Mm} {a x y : List Nat} (h : x.length + y.length + 2 * a.length ≤ 16777216) : gJoin (S a) ρ m (.v (.lst [.str (S x), .str (S y)])) = .ok (.v (.str (S (TL.joinL a [x, y])))) m := join_n (xs := [x, y]) (by simp only [List.map_cons, List.map_nil, List.sum_cons, List.sum_nil, List.length_cons, List.length_nil]; omega)
theorem join_1 {ρ : Sl} {m : Mm} {a x : List Nat} (h : x.length + a.length ≤ 16777216) : gJoin (S a) ρ m (.v (.lst [.str (S x)])) = .ok (.v (.str (S x))) m := join_n (xs := [x]) (by simp only [List.map_cons, List.map_nil, List.sum_cons, List.sum_nil, List.length_cons, List.length_nil]; omega)
theorem join_3 {ρ : Sl} {m : Mm} {a x y z : List Nat} (h : x.length + y.length + z.length + 3 * a.length ≤ 16777216) : gJoin (S a) ρ m (.v (.lst [.str (S x), .str (S y), .str (S z)])) = .ok (.v (.str (S (TL.joinL a [x, y, z])))) m := join_n (xs := [x, y, z]) (by simp only [List.map_cons, List.map_nil, List.sum_cons, List.sum_nil, List.length_cons, List.length_nil]; omega)
theorem eq_nil {ρ : Sl} {m : Mm} : gEq ρ m (.v (.lst [])) (.v (.lst [])) = .ok (.v (.bl true)) m := rfl
theorem eq_ts {ρ : Sl} {m : Mm} {t : CT} {ts : List CT} (h : ∀ x ∈ t :: ts, x.parts ≤ 20) : gEq ρ m (.v (.lst ((t :: ts).map enc))) (.v (.lst [])) = .ok (.v (.bl false)) m :=
  g_eq_py (P := .list ((t :: ts).map encP)) (Q := .list []) (.inl rfl) (by show (toPys _).map PyData.list = _; rw [toPys_enc]; rfl) rfl (shaped_encs h) rfl
theorem small_log {n : Nat} (h : n < 100) : ((n : Nat) : Int).natAbs.log2 < 1920 := by
  rw [Int.natAbs_natCast]
  have : n.log2 < 7 := by
    by_cases h0 : n = 0
    · subst h0; decide
    · exact (Nat.log2_lt h0).mpr (by omega)
  omega
theorem l_text : ∀ {t : CT} {m : Mm} (n : Nat), t.Ok → t.parts ≤ n → n ≤ 12 → mf_l_text n [enc t] m = .ok (.str (S (tx t))) m
  | .lf (.age a b), m, n, ho, h, _ => by
    obtain ⟨k, rfl⟩ : ∃ k, n = k + 1 := ⟨n - 1, by simp only [CT.parts] at h; omega⟩
    have h1 := small_log (n := a) (by have := ho.1; have := ho.2; omega)
    have h2 := small_log (n := b) (by have := ho.2; omega)
    have l1 : (TL.numL a).length ≤ 2 := num_len (n := a) (by have := ho.1; have := ho.2; omega)
    have l2 : (TL.numL b).length ≤ 2 := num_len (n := b) (by have := ho.2; omega)
    have i := fun m => l_inner (.lf (.age a b)) (m := m)
    simp only [enc, Lf.enc, ← age_S] at i ⊢
    rw [u_l_text]
    simp -implicitDefEqProofs (disch := (first | assumption | rfl | (simp only [List.getElem?_cons_zero, List.getElem?_cons_succ]; done) | (simp only [List.length_cons, List.length_nil, List.length_map, List.length_append, List.length_set, List.length_take, List.length_drop] <;> omega) | omega)) only [e_var, kV_val, kV_own, e_c, e_un, kU_ok, kU_ex, e_unN, kUN_ok, kUN_ex, e_bin, kB2_ok, kB2_ex, kB1_ok, kB1_ex, e_tru, kTr_ok, kTr_ex, kT1_some, e_isB, kIB_ok, kIB_ex, e_not, kNt_ok, kNt_ex, e_andB, kAB_t, kAB_f, kAB_ex, e_orB, kOB_t, kOB_f, kOB_ex, e_andV, kAV_ok, kAV_ex, kAV1_t, kAV1_f, e_orV, kOV_ok, kOV_ex, kOV1_t, kOV1_f, e_notV, kNV_ok, kNV_ex, kNV1_some, e_if, kIf_t, kIf_f, kIf_ex, e_chain, kC1_ok, kC2_ok, kC3_t, kC3_f, e_fld, kFl_ok, kFl_ex, kFl1_some, kFl2_some, e_nil, e_cons, kCs1_v, kCs1_ex, kCs2_ok, kCs2_ex, e_tup, kTp_ok, kTp_ex, e_lst, kLs_ok, kLs_ex, e_frz, kFr_lst, kFr_dct, kFr_dcT, kFr_ins, kFr_ex, e_cb, kCB_ok, kCB_ex, rsA_ok, rsA_ex, e_call, kCa_ok, kCa_ex, e_meth, kMe1_v, kMe1_ex, kMe2_some, kMe2'_none, kMe3_ok, kMe3_ex, e_prop, kPr_v, kPr_ex, kPr1_some, kPr2_ok, i_ins, e_make, kMk_ok, kMk_ex, mkEnd_ok, e_args, kAr1_ok, kAr1_ex, kAr2_ok, kAr2_ex, e_loc, kLo_ok, e_sl, kSl1_ok, kSl1_ex, kSl2_ok, kSl3_ok, e_o0, e_o1, kO1_ok, e_s0, kS0_ok, e_s1, kS11_ok, kS12_ok, e_fmt, kFm_str, kFm_int, e_jsM, e_jsN, kJ1_ok, e_js, kJs_ok, e_get2, kG2_ok, kG3_ok, kG3_s, kG3_n, e_seq, kSq_nx, kSq_rt, kSq_bk, kSq_ct, kSq_ex, e_next, e_break, e_cont, e_ifS, kIS_t, kIS_f, kIS_ex, kG_some, e_asg, kAs_v, kAs_ex, e_gn, e_gnil, e_gcons, kGc_some, e_gt, e_gtk, e_asgO, kAO_ok, kAO_ex, e_expr, kEx_ok, kEx_ex, e_ret, kRt_v, kRt_ex, e_retN, e_fz, kFz_lst, kFz_dct, kFz_val, kFz_un, fin_nx, fin_rt, fin_ex, e_for, kFo_ok, kFo_ex, e_forN, kF1_some, kF2_nx, kF2_ct, kF2_bk, kF2_rt, kF2_ex, kW1_t, kW1_f, kW1_ex, kW2_nx, kW2_ct, kW2_bk, kW2_rt, kW2_ex, e_itA, kIA_ok, kIA_ex, kI1_some, e_en, kIE_ok, kI2_some, it_lst, it_tup, it_ktp, it_dct, en_lst, en_tup, e_rng1, kR1_ok, e_rng2, kR2_ok, w_1, w_2, w_3, e_yes, e_lc, kLc1_ok, kLc1_ex, kLc2_ok, e_lcN, kl1_some, kl2_t, kl2_f, kl3_ok, kl4_ok, mb_b, kMb_some, mb_l, kMo_some, mp_b, mp_loc, mutK_ap, mutA_ap, e_mut, e_mutA, kM1_ok, kM2_lst, kM2_dct, kM3_ok, kM3_ex, kM4_some, kM5_some, kM6_some, g_app, g_ins, e_setIx, kX1_v, kX1_ex, kX2_ok, kX3_v, kX4_some, kX5_some, kX6_some, e_stF, kS1a_v, kS1a_ex, kS1b_ok, kS2_ins, kS3_some, e_aug, kAu_some, kAu2_ok, e_cnil, e_cv, e_co, kCv_v, kCo_ok, kC2b_ok, e_par, kPa_vv, kPa_vo, kPa_ov, kPa_oo, e_dc, kDc1_ok, kDc2_ok, e_ssc, kSs1_ok, kSs2_ok, lo_lst, lo_tup, lo_ktp, lo_str, lo_int, lo_b, kOL_some, lo_loc, kML_some, i_loc, kIL_some, i_b, kIO_some, fp_nil, so_lst, so_tup, so_ktp, so_b, so_loc, g_int0, g_neg, g_fdiv, g_mod, g_mul, g_pow18, g_pow9, g_pow12, g_add_i, g_add_s, g_add_l, g_add_t, g_mul_l, g_eq_i, g_ne_i, g_eq_s, g_ne_s, g_eq_b, g_ne_b, g_eq_si, g_is_non, g_isnt_non, g_is_bl, g_isnt_bl, g_is_int, g_isnt_int, g_is_str, g_isnt_str, g_is_lst, g_isnt_lst, g_is_tup, g_isnt_tup, g_is_ktp, g_isnt_ktp, g_is_ins, g_isnt_ins, tr_non, tr_bl, tr_int, tr_lst, tr_tup, g_len_l, g_len_t, g_len_k, g_len_b, kLn_some, g_len_s, kIx_some, g_ix_l, g_ix_t, g_ix_k, kIl_some, g_ix_loc, kIb_lst, kIb_dct, g_ix_b, g_ix_ds, g_ix_di, at_0, at_1, at_2, at_3, at_4, ix_0, ix_1, ix_2, ix_3, ix_4, s_ix, kSx_some, s_dct_s, s_dct_i, kG1_d, kG1_dT, dl_s, dl_i, g_in, kIn_f, kIn_t, in_str_l, in_str_t, in_str_k, in_int_l, in_dct_s, in_dct_i, g_sl_l, g_sl_t, g_sl_scr, g_sl_b, kSb_some, cut_take, cut_drop, g_list_l, g_list_t, g_list_k, g_list_s, g_list_b, kGl_some, g_tup_l, g_tup_t, g_int1, g_str1, g_all, g_any, g_sum, g_join_l, isi_lst_list, isi_lst_tuple, isi_lst_bool, isi_lst_int, isi_lst_str, isi_lst_dict, isi_lst_lt, isi_tup_list, isi_tup_tuple, isi_tup_bool, isi_tup_int, isi_tup_str, isi_tup_dict, isi_tup_lt, isi_ktp_list, isi_ktp_tuple, isi_ktp_bool, isi_ktp_int, isi_ktp_str, isi_ktp_dict, isi_ktp_lt, isi_bl_list, isi_bl_tuple, isi_bl_bool, isi_bl_int, isi_bl_str, isi_bl_dict, isi_bl_lt, isi_int_list, isi_int_tuple, isi_int_bool, isi_int_int, isi_int_str, isi_int_dict, isi_int_lt, isi_str_list, isi_str_tuple, isi_str_bool, isi_str_int, isi_str_str, isi_str_dict, isi_str_lt, isi_non_list, isi_non_tuple, isi_non_bool, isi_non_int, isi_non_str, isi_non_dict, isi_non_lt, isi_dct_list, isi_dct_tuple, isi_dct_bool, isi_dct_int, isi_dct_str, isi_dct_dict, isi_dct_lt, e_star, kSt1_v, kSt2_some, kSt3_ok, e_match, kMa_v, e_casesN, e_casesC, kMe_ne, kMe_eq, kMf_n, kMf_s, kMh_n, kMh_s, kMg_t, kMg_f, ea_nil, ea_lit_eq, ea_lit_ne, ea_lit_int, ea_cap, kEc_s, kEc_n, bd_nil, bd_cons, e_own, own_ok, e_slN, kSn1_ok, kSn2_ok, kSn3_ok, kSn_some, e_zip, kZi_ok, e_rev, kRv1_ok, kRv_some, g_inKd, kKd_s, g_ixKd, e_par3, kPa3_vvv, kPa3_ovv, e_ifB, kIfB_t, kIfB_f, g_str2i, g_str2s, isiM_non, isiM_bl, isiM_int, isiM_str, isiM_lst, isiM_tup, isiM_ktp, isiM_dct, g_eqO_i, g_eqO_s, kNe2_ok, g_neO_i, kRp2_ok, g_repr, g_isiO_i, g_isiO_s, Bool.not_true, Bool.not_false, List.getElem?_cons_zero, List.getElem?_cons_succ, List.set_cons_zero, List.set_cons_succ, List.length_cons, List.length_nil, List.length_map, List.length_append, ce1_l_text_e, ce2_l_text_e, sx1_l_text_e, sx2_l_text_e, b_l_text_e, i, ch, List.map_nil, eq_nil, e_lcC, e_lcN, g_str2s, g_str2i h1, g_str2i h2, num_S, ← age_S, ← sp_S, join_3]
    rfl
  | .lf (.day a b), m, n, ho, h, _ => by
    obtain ⟨k, rfl⟩ : ∃ k, n = k + 1 := ⟨n - 1, by simp only [CT.parts] at h; omega⟩
    have h1 := small_log (n := a) (by have := ho.1; have := ho.2.1; omega)
    have h2 := small_log (n := b) (by have := ho.2.1; have := ho.2.2; omega)
    have l1 : (TL.numL a).length ≤ 2 := num_len (n := a) (by have := ho.1; have := ho.2.1; omega)
    have l2 : (TL.numL b).length ≤ 2 := num_len (n := b) (by have := ho.2.1; have := ho.2.2; omega)
    have i := fun m => l_inner (.lf (.day a b)) (m := m)
    simp only [enc, Lf.enc, ← day_S] at i ⊢
    rw [u_l_text]
    simp -implicitDefEqProofs (disch := (first | assumption | rfl | (simp only [List.getElem?_cons_zero, List.getElem?_cons_succ]; done) | (simp only [List.length_cons, List.length_nil, List.length_map, List.length_append, List.length_set, List.length_take, List.length_drop] <;> omega) | omega)) only [e_var, kV_val, kV_own, e_c, e_un, kU_ok, kU_ex, e_unN, kUN_ok, kUN_ex, e_bin, kB2_ok, kB2_ex, kB1_ok, kB1_ex, e_tru, kTr_ok, kTr_ex, kT1_some, e_isB, kIB_ok, kIB_ex, e_not, kNt_ok, kNt_ex, e_andB, kAB_t, kAB_f, kAB_ex, e_orB, kOB_t, kOB_f, kOB_ex, e_andV, kAV_ok, kAV_ex, kAV1_t, kAV1_f, e_orV, kOV_ok, kOV_ex, kOV1_t, kOV1_f, e_notV, kNV_ok, kNV_ex, kNV1_some, e_if, kIf_t, kIf_f, kIf_ex, e_chain, kC1_ok, kC2_ok, kC3_t, kC3_f, e_fld, kFl_ok, kFl_ex, kFl1_some, kFl2_some, e_nil, e_cons, kCs1_v, kCs1_ex, kCs2_ok, kCs2_ex, e_tup, kTp_ok, kTp_ex, e_lst, kLs_ok, kLs_ex, e_frz, kFr_lst, kFr_dct, kFr_dcT, kFr_ins, kFr_ex, e_cb, kCB_ok, kCB_ex, rsA_ok, rsA_ex, e_call, kCa_ok, kCa_ex, e_meth, kMe1_v, kMe1_ex, kMe2_some, kMe2'_none, kMe3_ok, kMe3_ex, e_prop, kPr_v, kPr_ex, kPr1_some, kPr2_ok, i_ins, e_make, kMk_ok, kMk_ex, mkEnd_ok, e_args, kAr1_ok, kAr1_ex, kAr2_ok, kAr2_ex, e_loc, kLo_ok, e_sl, kSl1_ok, kSl1_ex, kSl2_ok, kSl3_ok, e_o0, e_o1, kO1_ok, e_s0, kS0_ok, e_s1, kS11_ok, kS12_ok, e_fmt, kFm_str, kFm_int, e_jsM, e_jsN, kJ1_ok, e_js, kJs_ok, e_get2, kG2_ok, kG3_ok, kG3_s, kG3_n, e_seq, kSq_nx, kSq_rt, kSq_bk, kSq_ct, kSq_ex, e_next, e_break, e_cont, e_ifS, kIS_t, kIS_f, kIS_ex, kG_some, e_asg, kAs_v, kAs_ex, e_gn, e_gnil, e_gcons, kGc_some, e_gt, e_gtk, e_asgO, kAO_ok, kAO_ex, e_expr, kEx_ok, kEx_ex, e_ret, kRt_v, kRt_ex, e_retN, e_fz, kFz_lst, kFz_dct, kFz_val, kFz_un, fin_nx, fin_rt, fin_ex, e_for, kFo_ok, kFo_ex, e_forN, kF1_some, kF2_nx, kF2_ct, kF2_bk, kF2_rt, kF2_ex, kW1_t, kW1_f, kW1_ex, kW2_nx, kW2_ct, kW2_bk, kW2_rt, kW2_ex, e_itA, kIA_ok, kIA_ex, kI1_some, e_en, kIE_ok, kI2_some, it_lst, it_tup, it_ktp, it_dct, en_lst, en_tup, e_rng1, kR1_ok, e_rng2, kR2_ok, w_1, w_2, w_3, e_yes, e_lc, kLc1_ok, kLc1_ex, kLc2_ok, e_lcN, kl1_some, kl2_t, kl2_f, kl3_ok, kl4_ok, mb_b, kMb_some, mb_l, kMo_some, mp_b, mp_loc, mutK_ap, mutA_ap, e_mut, e_mutA, kM1_ok, kM2_lst, kM2_dct, kM3_ok, kM3_ex, kM4_some, kM5_some, kM6_some, g_app, g_ins, e_setIx, kX1_v, kX1_ex, kX2_ok, kX3_v, kX4_some, kX5_some, kX6_some, e_stF, kS1a_v, kS1a_ex, kS1b_ok, kS2_ins, kS3_some, e_aug, kAu_some, kAu2_ok, e_cnil, e_cv, e_co, kCv_v, kCo_ok, kC2b_ok, e_par, kPa_vv, kPa_vo, kPa_ov, kPa_oo, e_dc, kDc1_ok, kDc2_ok, e_ssc, kSs1_ok, kSs2_ok, lo_lst, lo_tup, lo_ktp, lo_str, lo_int, lo_b, kOL_some, lo_loc, kML_some, i_loc, kIL_some, i_b, kIO_some, fp_nil, so_lst, so_tup, so_ktp, so_b, so_loc, g_int0, g_neg, g_fdiv, g_mod, g_mul, g_pow18, g_pow9, g_pow12, g_add_i, g_add_s, g_add_l, g_add_t, g_mul_l, g_eq_i, g_ne_i, g_eq_s, g_ne_s, g_eq_b, g_ne_b, g_eq_si, g_is_non, g_isnt_non, g_is_bl, g_isnt_bl, g_is_int, g_isnt_int, g_is_str, g_isnt_str, g_is_lst, g_isnt_lst, g_is_tup, g_isnt_tup, g_is_ktp, g_isnt_ktp, g_is_ins, g_isnt_ins, tr_non, tr_bl, tr_int, tr_lst, tr_tup, g_len_l, g_len_t, g_len_k, g_len_b, kLn_some, g_len_s, kIx_some, g_ix_l, g_ix_t, g_ix_k, kIl_some, g_ix_loc, kIb_lst, kIb_dct, g_ix_b, g_ix_ds, g_ix_di, at_0, at_1, at_2, at_3, at_4, ix_0, ix_1, ix_2, ix_3, ix_4, s_ix, kSx_some, s_dct_s, s_dct_i, kG1_d, kG1_dT, dl_s, dl_i, g_in, kIn_f, kIn_t, in_str_l, in_str_t, in_str_k, in_int_l, in_dct_s, in_dct_i, g_sl_l, g_sl_t, g_sl_scr, g_sl_b, kSb_some, cut_take, cut_drop, g_list_l, g_list_t, g_list_k, g_list_s, g_list_b, kGl_some, g_tup_l, g_tup_t, g_int1, g_str1, g_all, g_any, g_sum, g_join_l, isi_lst_list, isi_lst_tuple, isi_lst_bool, isi_lst_int, isi_lst_str, isi_lst_dict, isi_lst_lt, isi_tup_list, isi_tup_tuple, isi_tup_bool, isi_tup_int, isi_tup_str, isi_tup_dict, isi_tup_lt, isi_ktp_list, isi_ktp_tuple, isi_ktp_bool, isi_ktp_int, isi_ktp_str, isi_ktp_dict, isi_ktp_lt, isi_bl_list, isi_bl_tuple, isi_bl_bool, isi_bl_int, isi_bl_str, isi_bl_dict, isi_bl_lt, isi_int_list, isi_int_tuple, isi_int_bool, isi_int_int, isi_int_str, isi_int_dict, isi_int_lt, isi_str_list, isi_str_tuple, isi_str_bool, isi_str_int, isi_str_str, isi_str_dict, isi_str_lt, isi_non_list, isi_non_tuple, isi_non_bool, isi_non_int, isi_non_str, isi_non_dict, isi_non_lt, isi_dct_list, isi_dct_tuple, isi_dct_bool, isi_dct_int, isi_dct_str, isi_dct_dict, isi_dct_lt, e_star, kSt1_v, kSt2_some, kSt3_ok, e_match, kMa_v, e_casesN, e_casesC, kMe_ne, kMe_eq, kMf_n, kMf_s, kMh_n, kMh_s, kMg_t, kMg_f, ea_nil, ea_lit_eq, ea_lit_ne, ea_lit_int, ea_cap, kEc_s, kEc_n, bd_nil, bd_cons, e_own, own_ok, e_slN, kSn1_ok, kSn2_ok, kSn3_ok, kSn_some, e_zip, kZi_ok, e_rev, kRv1_ok, kRv_some, g_inKd, kKd_s, g_ixKd, e_par3, kPa3_vvv, kPa3_ovv, e_ifB, kIfB_t, kIfB_f, g_str2i, g_str2s, isiM_non, isiM_bl, isiM_int, isiM_str, isiM_lst, isiM_tup, isiM_ktp, isiM_dct, g_eqO_i, g_eqO_s, kNe2_ok, g_neO_i, kRp2_ok, g_repr, g_isiO_i, g_isiO_s, Bool.not_true, Bool.not_false, List.getElem?_cons_zero, List.getElem?_cons_succ, List.set_cons_zero, List.set_cons_succ, List.length_cons, List.length_nil, List.length_map, List.length_append, ce1_l_text_e, ce2_l_text_e, sx1_l_text_e, sx2_l_text_e, b_l_text_e, i, ch, List.map_nil, eq_nil, e_lcC, e_lcN, g_str2s, g_str2i h1, g_str2i h2, num_S, ← day_S, ← sp_S, join_3]
    rfl
  | .lf (.one w q), m, n, ho, h, _ => by
    obtain ⟨k, rfl⟩ : ∃ k, n = k + 1 := ⟨n - 1, by simp only [CT.parts] at h; omega⟩
    have hw : w.hi ≤ 20 := by cases w <;> decide
    have h1 := small_log (n := q) (by have := ho.2; omega)
    have l1 : (TL.numL q).length ≤ 2 := num_len (n := q) (by have := ho.2; omega)
    have l2 : w.nm.length ≤ 6 := by cases w <;> decide
    have i := fun m => l_inner (.lf (.one w q)) (m := m)
    simp only [enc, Lf.enc, ← st_S] at i ⊢
    rw [u_l_text]
    simp -implicitDefEqProofs (disch := (first | assumption | rfl | (simp only [List.getElem?_cons_zero, List.getElem?_cons_succ]; done) | (simp only [List.length_cons, List.length_nil, List.length_map, List.length_append, List.length_set, List.length_take, List.length_drop] <;> omega) | omega)) only [e_var, kV_val, kV_own, e_c, e_un, kU_ok, kU_ex, e_unN, kUN_ok, kUN_ex, e_bin, kB2_ok, kB2_ex, kB1_ok, kB1_ex, e_tru, kTr_ok, kTr_ex, kT1_some, e_isB, kIB_ok, kIB_ex, e_not, kNt_ok, kNt_ex, e_andB, kAB_t, kAB_f, kAB_ex, e_orB, kOB_t, kOB_f, kOB_ex, e_andV, kAV_ok, kAV_ex, kAV1_t, kAV1_f, e_orV, kOV_ok, kOV_ex, kOV1_t, kOV1_f, e_notV, kNV_ok, kNV_ex, kNV1_some, e_if, kIf_t, kIf_f, kIf_ex, e_chain, kC1_ok, kC2_ok, kC3_t, kC3_f, e_fld, kFl_ok, kFl_ex, kFl1_some, kFl2_some, e_nil, e_cons, kCs1_v, kCs1_ex, kCs2_ok, kCs2_ex, e_tup, kTp_ok, kTp_ex, e_lst, kLs_ok, kLs_ex, e_frz, kFr_lst, kFr_dct, kFr_dcT, kFr_ins, kFr_ex, e_cb, kCB_ok, kCB_ex, rsA_ok, rsA_ex, e_call, kCa_ok, kCa_ex, e_meth, kMe1_v, kMe1_ex, kMe2_some, kMe2'_none, kMe3_ok, kMe3_ex, e_prop, kPr_v, kPr_ex, kPr1_some, kPr2_ok, i_ins, e_make, kMk_ok, kMk_ex, mkEnd_ok, e_args, kAr1_ok, kAr1_ex, kAr2_ok, kAr2_ex, e_loc, kLo_ok, e_sl, kSl1_ok, kSl1_ex, kSl2_ok, kSl3_ok, e_o0, e_o1, kO1_ok, e_s0, kS0_ok, e_s1, kS11_ok, kS12_ok, e_fmt, kFm_str, kFm_int, e_jsM, e_jsN, kJ1_ok, e_js, kJs_ok, e_get2, kG2_ok, kG3_ok, kG3_s, kG3_n, e_seq, kSq_nx, kSq_rt, kSq_bk, kSq_ct, kSq_ex, e_next, e_break, e_cont, e_ifS, kIS_t, kIS_f, kIS_ex, kG_some, e_asg, kAs_v, kAs_ex, e_gn, e_gnil, e_gcons, kGc_some, e_gt, e_gtk, e_asgO, kAO_ok, kAO_ex, e_expr, kEx_ok, kEx_ex, e_ret, kRt_v, kRt_ex, e_retN, e_fz, kFz_lst, kFz_dct, kFz_val, kFz_un, fin_nx, fin_rt, fin_ex, e_for, kFo_ok, kFo_ex, e_forN, kF1_some, kF2_nx, kF2_ct, kF2_bk, kF2_rt, kF2_ex, kW1_t, kW1_f, kW1_ex, kW2_nx, kW2_ct, kW2_bk, kW2_rt, kW2_ex, e_itA, kIA_ok, kIA_ex, kI1_some, e_en, kIE_ok, kI2_some, it_lst, it_tup, it_ktp, it_dct, en_lst, en_tup, e_rng1, kR1_ok, e_rng2, kR2_ok, w_1, w_2, w_3, e_yes, e_lc, kLc1_ok, kLc1_ex, kLc2_ok, e_lcN, kl1_some, kl2_t, kl2_f, kl3_ok, kl4_ok, mb_b, kMb_some, mb_l, kMo_some, mp_b, mp_loc, mutK_ap, mutA_ap, e_mut, e_mutA, kM1_ok, kM2_lst, kM2_dct, kM3_ok, kM3_ex, kM4_some, kM5_some, kM6_some, g_app, g_ins, e_setIx, kX1_v, kX1_ex, kX2_ok, kX3_v, kX4_some, kX5_some, kX6_some, e_stF, kS1a_v, kS1a_ex, kS1b_ok, kS2_ins, kS3_some, e_aug, kAu_some, kAu2_ok, e_cnil, e_cv, e_co, kCv_v, kCo_ok, kC2b_ok, e_par, kPa_vv, kPa_vo, kPa_ov, kPa_oo, e_dc, kDc1_ok, kDc2_ok, e_ssc, kSs1_ok, kSs2_ok, lo_lst, lo_tup, lo_ktp, lo_str, lo_int, lo_b, kOL_some, lo_loc, kML_some, i_loc, kIL_some, i_b, kIO_some, fp_nil, so_lst, so_tup, so_ktp, so_b, so_loc, g_int0, g_neg, g_fdiv, g_mod, g_mul, g_pow18, g_pow9, g_pow12, g_add_i, g_add_s, g_add_l, g_add_t, g_mul_l, g_eq_i, g_ne_i, g_eq_s, g_ne_s, g_eq_b, g_ne_b, g_eq_si, g_is_non, g_isnt_non, g_is_bl, g_isnt_bl, g_is_int, g_isnt_int, g_is_str, g_isnt_str, g_is_lst, g_isnt_lst, g_is_tup, g_isnt_tup, g_is_ktp, g_isnt_ktp, g_is_ins, g_isnt_ins, tr_non, tr_bl, tr_int, tr_lst, tr_tup, g_len_l, g_len_t, g_len_k, g_len_b, kLn_some, g_len_s, kIx_some, g_ix_l, g_ix_t, g_ix_k, kIl_some, g_ix_loc, kIb_lst, kIb_dct, g_ix_b, g_ix_ds, g_ix_di, at_0, at_1, at_2, at_3, at_4, ix_0, ix_1, ix_2, ix_3, ix_4, s_ix, kSx_some, s_dct_s, s_dct_i, kG1_d, kG1_dT, dl_s, dl_i, g_in, kIn_f, kIn_t, in_str_l, in_str_t, in_str_k, in_int_l, in_dct_s, in_dct_i, g_sl_l, g_sl_t, g_sl_scr, g_sl_b, kSb_some, cut_take, cut_drop, g_list_l, g_list_t, g_list_k, g_list_s, g_list_b, kGl_some, g_tup_l, g_tup_t, g_int1, g_str1, g_all, g_any, g_sum, g_join_l, isi_lst_list, isi_lst_tuple, isi_lst_bool, isi_lst_int, isi_lst_str, isi_lst_dict, isi_lst_lt, isi_tup_list, isi_tup_tuple, isi_tup_bool, isi_tup_int, isi_tup_str, isi_tup_dict, isi_tup_lt, isi_ktp_list, isi_ktp_tuple, isi_ktp_bool, isi_ktp_int, isi_ktp_str, isi_ktp_dict, isi_ktp_lt, isi_bl_list, isi_bl_tuple, isi_bl_bool, isi_bl_int, isi_bl_str, isi_bl_dict, isi_bl_lt, isi_int_list, isi_int_tuple, isi_int_bool, isi_int_int, isi_int_str, isi_int_dict, isi_int_lt, isi_str_list, isi_str_tuple, isi_str_bool, isi_str_int, isi_str_str, isi_str_dict, isi_str_lt, isi_non_list, isi_non_tuple, isi_non_bool, isi_non_int, isi_non_str, isi_non_dict, isi_non_lt, isi_dct_list, isi_dct_tuple, isi_dct_bool, isi_dct_int, isi_dct_str, isi_dct_dict, isi_dct_lt, e_star, kSt1_v, kSt2_some, kSt3_ok, e_match, kMa_v, e_casesN, e_casesC, kMe_ne, kMe_eq, kMf_n, kMf_s, kMh_n, kMh_s, kMg_t, kMg_f, ea_nil, ea_lit_eq, ea_lit_ne, ea_lit_int, ea_cap, kEc_s, kEc_n, bd_nil, bd_cons, e_own, own_ok, e_slN, kSn1_ok, kSn2_ok, kSn3_ok, kSn_some, e_zip, kZi_ok, e_rev, kRv1_ok, kRv_some, g_inKd, kKd_s, g_ixKd, e_par3, kPa3_vvv, kPa3_ovv, e_ifB, kIfB_t, kIfB_f, g_str2i, g_str2s, isiM_non, isiM_bl, isiM_int, isiM_str, isiM_lst, isiM_tup, isiM_ktp, isiM_dct, g_eqO_i, g_eqO_s, kNe2_ok, g_neO_i, kRp2_ok, g_repr, g_isiO_i, g_isiO_s, Bool.not_true, Bool.not_false, List.getElem?_cons_zero, List.getElem?_cons_succ, List.set_cons_zero, List.set_cons_succ, List.length_cons, List.length_nil, List.length_map, List.length_append, ce1_l_text_e, ce2_l_text_e, sx1_l_text_e, sx2_l_text_e, b_l_text_e, i, ch, List.map_nil, eq_nil, e_lcC, e_lcN, g_str2s, g_str2i h1, num_S, ← st_S, ← sp_S, join_2]
    rfl
  | .neg t, m, n, ho, h, h12 => by
    have hp : t.parts + 1 ≤ n := by simp only [CT.parts] at h; omega
    obtain ⟨k, rfl⟩ : ∃ k, n = k + 1 := ⟨n - 1, by omega⟩
    have ih := fun m => l_text (t := t) (m := m) k ho (by omega) (by omega)
    have hl := tx_len (t := t) ho
    have i := fun m => l_inner (.neg t) (m := m)
    have e := fun ρ m => eq_ts (ρ := ρ) (m := m) (t := t) (ts := []) (fun x hx => by rw [List.mem_singleton.mp hx]; omega)
    simp only [enc, ch, List.map_cons, List.map_nil, ← not_S] at i e ⊢
    rw [u_l_text]
    simp -implicitDefEqProofs (disch := (first | assumption | rfl | (simp only [List.getElem?_cons_zero, List.getElem?_cons_succ]; done) | (simp only [List.length_cons, List.length_nil, List.length_map, List.length_append, List.length_set, List.length_take, List.length_drop] <;> omega) | omega)) only [e_var, kV_val, kV_own, e_c, e_un, kU_ok, kU_ex, e_unN, kUN_ok, kUN_ex, e_bin, kB2_ok, kB2_ex, kB1_ok, kB1_ex, e_tru, kTr_ok, kTr_ex, kT1_some, e_isB, kIB_ok, kIB_ex, e_not, kNt_ok, kNt_ex, e_andB, kAB_t, kAB_f, kAB_ex, e_orB, kOB_t, kOB_f, kOB_ex, e_andV, kAV_ok, kAV_ex, kAV1_t, kAV1_f, e_orV, kOV_ok, kOV_ex, kOV1_t, kOV1_f, e_notV, kNV_ok, kNV_ex, kNV1_some, e_if, kIf_t, kIf_f, kIf_ex, e_chain, kC1_ok, kC2_ok, kC3_t, kC3_f, e_fld, kFl_ok, kFl_ex, kFl1_some, kFl2_some, e_nil, e_cons, kCs1_v, kCs1_ex, kCs2_ok, kCs2_ex, e_tup, kTp_ok, kTp_ex, e_lst, kLs_ok, kLs_ex, e_frz, kFr_lst, kFr_dct, kFr_dcT, kFr_ins, kFr_ex, e_cb, kCB_ok, kCB_ex, rsA_ok, rsA_ex, e_call, kCa_ok, kCa_ex, e_meth, kMe1_v, kMe1_ex, kMe2_some, kMe2'_none, kMe3_ok, kMe3_ex, e_prop, kPr_v, kPr_ex, kPr1_some, kPr2_ok, i_ins, e_make, kMk_ok, kMk_ex, mkEnd_ok, e_args, kAr1_ok, kAr1_ex, kAr2_ok, kAr2_ex, e_loc, kLo_ok, e_sl, kSl1_ok, kSl1_ex, kSl2_ok, kSl3_ok, e_o0, e_o1, kO1_ok, e_s0, kS0_ok, e_s1, kS11_ok, kS12_ok, e_fmt, kFm_str, kFm_int, e_jsM, e_jsN, kJ1_ok, e_js, kJs_ok, e_get2, kG2_ok, kG3_ok, kG3_s, kG3_n, e_seq, kSq_nx, kSq_rt, kSq_bk, kSq_ct, kSq_ex, e_next, e_break, e_cont, e_ifS, kIS_t, kIS_f, kIS_ex, kG_some, e_asg, kAs_v, kAs_ex, e_gn, e_gnil, e_gcons, kGc_some, e_gt, e_gtk, e_asgO, kAO_ok, kAO_ex, e_expr, kEx_ok, kEx_ex, e_ret, kRt_v, kRt_ex, e_retN, e_fz, kFz_lst, kFz_dct, kFz_val, kFz_un, fin_nx, fin_rt, fin_ex, e_for, kFo_ok, kFo_ex, e_forN, kF1_some, kF2_nx, kF2_ct, kF2_bk, kF2_rt, kF2_ex, kW1_t, kW1_f, kW1_ex, kW2_nx, kW2_ct, kW2_bk, kW2_rt, kW2_ex, e_itA, kIA_ok, kIA_ex, kI1_some, e_en, kIE_ok, kI2_some, it_lst, it_tup, it_ktp, it_dct, en_lst, en_tup, e_rng1, kR1_ok, e_rng2, kR2_ok, w_1, w_2, w_3, e_yes, e_lc, kLc1_ok, kLc1_ex, kLc2_ok, e_lcN, kl1_some, kl2_t, kl2_f, kl3_ok, kl4_ok, mb_b, kMb_some, mb_l, kMo_some, mp_b, mp_loc, mutK_ap, mutA_ap, e_mut, e_mutA, kM1_ok, kM2_lst, kM2_dct, kM3_ok, kM3_ex, kM4_some, kM5_some, kM6_some, g_app, g_ins, e_setIx, kX1_v, kX1_ex, kX2_ok, kX3_v, kX4_some, kX5_some, kX6_some, e_stF, kS1a_v, kS1a_ex, kS1b_ok, kS2_ins, kS3_some, e_aug, kAu_some, kAu2_ok, e_cnil, e_cv, e_co, kCv_v, kCo_ok, kC2b_ok, e_par, kPa_vv, kPa_vo, kPa_ov, kPa_oo, e_dc, kDc1_ok, kDc2_ok, e_ssc, kSs1_ok, kSs2_ok, lo_lst, lo_tup, lo_ktp, lo_str, lo_int, lo_b, kOL_some, lo_loc, kML_some, i_loc, kIL_some, i_b, kIO_some, fp_nil, so_lst, so_tup, so_ktp, so_b, so_loc, g_int0, g_neg, g_fdiv, g_mod, g_mul, g_pow18, g_pow9, g_pow12, g_add_i, g_add_s, g_add_l, g_add_t, g_mul_l, g_eq_i, g_ne_i, g_eq_s, g_ne_s, g_eq_b, g_ne_b, g_eq_si, g_is_non, g_isnt_non, g_is_bl, g_isnt_bl, g_is_int, g_isnt_int, g_is_str, g_isnt_str, g_is_lst, g_isnt_lst, g_is_tup, g_isnt_tup, g_is_ktp, g_isnt_ktp, g_is_ins, g_isnt_ins, tr_non, tr_bl, tr_int, tr_lst, tr_tup, g_len_l, g_len_t, g_len_k, g_len_b, kLn_some, g_len_s, kIx_some, g_ix_l, g_ix_t, g_ix_k, kIl_some, g_ix_loc, kIb_lst, kIb_dct, g_ix_b, g_ix_ds, g_ix_di, at_0, at_1, at_2, at_3, at_4, ix_0, ix_1, ix_2, ix_3, ix_4, s_ix, kSx_some, s_dct_s, s_dct_i, kG1_d, kG1_dT, dl_s, dl_i, g_in, kIn_f, kIn_t, in_str_l, in_str_t, in_str_k, in_int_l, in_dct_s, in_dct_i, g_sl_l, g_sl_t, g_sl_scr, g_sl_b, kSb_some, cut_take, cut_drop, g_list_l, g_list_t, g_list_k, g_list_s, g_list_b, kGl_some, g_tup_l, g_tup_t, g_int1, g_str1, g_all, g_any, g_sum, g_join_l, isi_lst_list, isi_lst_tuple, isi_lst_bool, isi_lst_int, isi_lst_str, isi_lst_dict, isi_lst_lt, isi_tup_list, isi_tup_tuple, isi_tup_bool, isi_tup_int, isi_tup_str, isi_tup_dict, isi_tup_lt, isi_ktp_list, isi_ktp_tuple, isi_ktp_bool, isi_ktp_int, isi_ktp_str, isi_ktp_dict, isi_ktp_lt, isi_bl_list, isi_bl_tuple, isi_bl_bool, isi_bl_int, isi_bl_str, isi_bl_dict, isi_bl_lt, isi_int_list, isi_int_tuple, isi_int_bool, isi_int_int, isi_int_str, isi_int_dict, isi_int_lt, isi_str_list, isi_str_tuple, isi_str_bool, isi_str_int, isi_str_str, isi_str_dict, isi_str_lt, isi_non_list, isi_non_tuple, isi_non_bool, isi_non_int, isi_non_str, isi_non_dict, isi_non_lt, isi_dct_list, isi_dct_tuple, isi_dct_bool, isi_dct_int, isi_dct_str, isi_dct_dict, isi_dct_lt, e_star, kSt1_v, kSt2_some, kSt3_ok, e_match, kMa_v, e_casesN, e_casesC, kMe_ne, kMe_eq, kMf_n, kMf_s, kMh_n, kMh_s, kMg_t, kMg_f, ea_nil, ea_lit_eq, ea_lit_ne, ea_lit_int, ea_cap, kEc_s, kEc_n, bd_nil, bd_cons, e_own, own_ok, e_slN, kSn1_ok, kSn2_ok, kSn3_ok, kSn_some, e_zip, kZi_ok, e_rev, kRv1_ok, kRv_some, g_inKd, kKd_s, g_ixKd, e_par3, kPa3_vvv, kPa3_ovv, e_ifB, kIfB_t, kIfB_f, g_str2i, g_str2s, isiM_non, isiM_bl, isiM_int, isiM_str, isiM_lst, isiM_tup, isiM_ktp, isiM_dct, g_eqO_i, g_eqO_s, kNe2_ok, g_neO_i, kRp2_ok, g_repr, g_isiO_i, g_isiO_s, Bool.not_true, Bool.not_false, List.getElem?_cons_zero, List.getElem?_cons_succ, List.set_cons_zero, List.set_cons_succ, List.length_cons, List.length_nil, List.length_map, List.length_append, ce1_l_text_e, ce2_l_text_e, sx1_l_text_e, sx2_l_text_e, b_l_text_e, i, e, e_lcC, e_lcN, ih, ← not_S, ← open_S, ← cs_S, ← close_S, join_1, g_add_S]
    rw [tx]
    simp only [List.append_assoc]
  | .j2 b t u, m, n, ho, h, h12 => by
    have hp : t.parts + u.parts + 1 ≤ n := by simp only [CT.parts] at h; omega
    obtain ⟨k, rfl⟩ : ∃ k, n = k + 1 := ⟨n - 1, by omega⟩
    have ih1 := fun m => l_text (t := t) (m := m) k ho.1 (by omega) (by omega)
    have ih2 := fun m => l_text (t := u) (m := m) k ho.2 (by omega) (by omega)
    have hl1 := tx_len (t := t) ho.1
    have hl2 := tx_len (t := u) ho.2
    have i := fun m => l_inner (.j2 b t u) (m := m)
    have e := fun ρ m => eq_ts (ρ := ρ) (m := m) (t := t) (ts := [u]) (fun x hx => by
      rcases List.mem_cons.mp hx with rfl | hx
      · omega
      · rw [List.mem_singleton.mp hx]; omega)
    simp only [enc, ch, List.map_cons, List.map_nil, ← jn_S] at i e ⊢
    have hJ : (TL.joinL [44, 32] [tx t, tx u]).length ≤ 1000 := by simp only [TL.joinL, List.length_append, List.length_cons, List.length_nil]; omega
    have hb := jn_len b
    rw [u_l_text]
    simp -implicitDefEqProofs (disch := (first | assumption | rfl | (simp only [List.getElem?_cons_zero, List.getElem?_cons_succ]; done) | (simp only [List.length_cons, List.length_nil, List.length_map, List.length_append, List.length_set, List.length_take, List.length_drop] <;> omega) | omega)) only [e_var, kV_val, kV_own, e_c, e_un, kU_ok, kU_ex, e_unN, kUN_ok, kUN_ex, e_bin, kB2_ok, kB2_ex, kB1_ok, kB1_ex, e_tru, kTr_ok, kTr_ex, kT1_some, e_isB, kIB_ok, kIB_ex, e_not, kNt_ok, kNt_ex, e_andB, kAB_t, kAB_f, kAB_ex, e_orB, kOB_t, kOB_f, kOB_ex, e_andV, kAV_ok, kAV_ex, kAV1_t, kAV1_f, e_orV, kOV_ok, kOV_ex, kOV1_t, kOV1_f, e_notV, kNV_ok, kNV_ex, kNV1_some, e_if, kIf_t, kIf_f, kIf_ex, e_chain, kC1_ok, kC2_ok, kC3_t, kC3_f, e_fld, kFl_ok, kFl_ex, kFl1_some, kFl2_some, e_nil, e_cons, kCs1_v, kCs1_ex, kCs2_ok, kCs2_ex, e_tup, kTp_ok, kTp_ex, e_lst, kLs_ok, kLs_ex, e_frz, kFr_lst, kFr_dct, kFr_dcT, kFr_ins, kFr_ex, e_cb, kCB_ok, kCB_ex, rsA_ok, rsA_ex, e_call, kCa_ok, kCa_ex, e_meth, kMe1_v, kMe1_ex, kMe2_some, kMe2'_none, kMe3_ok, kMe3_ex, e_prop, kPr_v, kPr_ex, kPr1_some, kPr2_ok, i_ins, e_make, kMk_ok, kMk_ex, mkEnd_ok, e_args, kAr1_ok, kAr1_ex, kAr2_ok, kAr2_ex, e_loc, kLo_ok, e_sl, kSl1_ok, kSl1_ex, kSl2_ok, kSl3_ok, e_o0, e_o1, kO1_ok, e_s0, kS0_ok, e_s1, kS11_ok, kS12_ok, e_fmt, kFm_str, kFm_int, e_jsM, e_jsN, kJ1_ok, e_js, kJs_ok, e_get2, kG2_ok, kG3_ok, kG3_s, kG3_n, e_seq, kSq_nx, kSq_rt, kSq_bk, kSq_ct, kSq_ex, e_next, e_break, e_cont, e_ifS, kIS_t, kIS_f, kIS_ex, kG_some, e_asg, kAs_v, kAs_ex, e_gn, e_gnil, e_gcons, kGc_some, e_gt, e_gtk, e_asgO, kAO_ok, kAO_ex, e_expr, kEx_ok, kEx_ex, e_ret, kRt_v, kRt_ex, e_retN, e_fz, kFz_lst, kFz_dct, kFz_val, kFz_un, fin_nx, fin_rt, fin_ex, e_for, kFo_ok, kFo_ex, e_forN, kF1_some, kF2_nx, kF2_ct, kF2_bk, kF2_rt, kF2_ex, kW1_t, kW1_f, kW1_ex, kW2_nx, kW2_ct, kW2_bk, kW2_rt, kW2_ex, e_itA, kIA_ok, kIA_ex, kI1_some, e_en, kIE_ok, kI2_some, it_lst, it_tup, it_ktp, it_dct, en_lst, en_tup, e_rng1, kR1_ok, e_rng2, kR2_ok, w_1, w_2, w_3, e_yes, e_lc, kLc1_ok, kLc1_ex, kLc2_ok, e_lcN, kl1_some, kl2_t, kl2_f, kl3_ok, kl4_ok, mb_b, kMb_some, mb_l, kMo_some, mp_b, mp_loc, mutK_ap, mutA_ap, e_mut, e_mutA, kM1_ok, kM2_lst, kM2_dct, kM3_ok, kM3_ex, kM4_some, kM5_some, kM6_some, g_app, g_ins, e_setIx, kX1_v, kX1_ex, kX2_ok, kX3_v, kX4_some, kX5_some, kX6_some, e_stF, kS1a_v, kS1a_ex, kS1b_ok, kS2_ins, kS3_some, e_aug, kAu_some, kAu2_ok, e_cnil, e_cv, e_co, kCv_v, kCo_ok, kC2b_ok, e_par, kPa_vv, kPa_vo, kPa_ov, kPa_oo, e_dc, kDc1_ok, kDc2_ok, e_ssc, kSs1_ok, kSs2_ok, lo_lst, lo_tup, lo_ktp, lo_str, lo_int, lo_b, kOL_some, lo_loc, kML_some, i_loc, kIL_some, i_b, kIO_some, fp_nil, so_lst, so_tup, so_ktp, so_b, so_loc, g_int0, g_neg, g_fdiv, g_mod, g_mul, g_pow18, g_pow9, g_pow12, g_add_i, g_add_s, g_add_l, g_add_t, g_mul_l, g_eq_i, g_ne_i, g_eq_s, g_ne_s, g_eq_b, g_ne_b, g_eq_si, g_is_non, g_isnt_non, g_is_bl, g_isnt_bl, g_is_int, g_isnt_int, g_is_str, g_isnt_str, g_is_lst, g_isnt_lst, g_is_tup, g_isnt_tup, g_is_ktp, g_isnt_ktp, g_is_ins, g_isnt_ins, tr_non, tr_bl, tr_int, tr_lst, tr_tup, g_len_l, g_len_t, g_len_k, g_len_b, kLn_some, g_len_s, kIx_some, g_ix_l, g_ix_t, g_ix_k, kIl_some, g_ix_loc, kIb_lst, kIb_dct, g_ix_b, g_ix_ds, g_ix_di, at_0, at_1, at_2, at_3, at_4, ix_0, ix_1, ix_2, ix_3, ix_4, s_ix, kSx_some, s_dct_s, s_dct_i, kG1_d, kG1_dT, dl_s, dl_i, g_in, kIn_f, kIn_t, in_str_l, in_str_t, in_str_k, in_int_l, in_dct_s, in_dct_i, g_sl_l, g_sl_t, g_sl_scr, g_sl_b, kSb_some, cut_take, cut_drop, g_list_l, g_list_t, g_list_k, g_list_s, g_list_b, kGl_some, g_tup_l, g_tup_t, g_int1, g_str1, g_all, g_any, g_sum, g_join_l, isi_lst_list, isi_lst_tuple, isi_lst_bool, isi_lst_int, isi_lst_str, isi_lst_dict, isi_lst_lt, isi_tup_list, isi_tup_tuple, isi_tup_bool, isi_tup_int, isi_tup_str, isi_tup_dict, isi_tup_lt, isi_ktp_list, isi_ktp_tuple, isi_ktp_bool, isi_ktp_int, isi_ktp_str, isi_ktp_dict, isi_ktp_lt, isi_bl_list, isi_bl_tuple, isi_bl_bool, isi_bl_int, isi_bl_str, isi_bl_dict, isi_bl_lt, isi_int_list, isi_int_tuple, isi_int_bool, isi_int_int, isi_int_str, isi_int_dict, isi_int_lt, isi_str_list, isi_str_tuple, isi_str_bool, isi_str_int, isi_str_str, isi_str_dict, isi_str_lt, isi_non_list, isi_non_tuple, isi_non_bool, isi_non_int, isi_non_str, isi_non_dict, isi_non_lt, isi_dct_list, isi_dct_tuple, isi_dct_bool, isi_dct_int, isi_dct_str, isi_dct_dict, isi_dct_lt, e_star, kSt1_v, kSt2_some, kSt3_ok, e_match, kMa_v, e_casesN, e_casesC, kMe_ne, kMe_eq, kMf_n, kMf_s, kMh_n, kMh_s, kMg_t, kMg_f, ea_nil, ea_lit_eq, ea_lit_ne, ea_lit_int, ea_cap, kEc_s, kEc_n, bd_nil, bd_cons, e_own, own_ok, e_slN, kSn1_ok, kSn2_ok, kSn3_ok, kSn_some, e_zip, kZi_ok, e_rev, kRv1_ok, kRv_some, g_inKd, kKd_s, g_ixKd, e_par3, kPa3_vvv, kPa3_ovv, e_ifB, kIfB_t, kIfB_f, g_str2i, g_str2s, isiM_non, isiM_bl, isiM_int, isiM_str, isiM_lst, isiM_tup, isiM_ktp, isiM_dct, g_eqO_i, g_eqO_s, kNe2_ok, g_neO_i, kRp2_ok, g_repr, g_isiO_i, g_isiO_s, Bool.not_true, Bool.not_false, List.getElem?_cons_zero, List.getElem?_cons_succ, List.set_cons_zero, List.set_cons_succ, List.length_cons, List.length_nil, List.length_map, List.length_append, ce1_l_text_e, ce2_l_text_e, sx1_l_text_e, sx2_l_text_e, b_l_text_e, i, e, e_lcC, e_lcN, ih1, ih2, ← jn_S, ← open_S, ← cs_S, ← close_S, join_2, g_add_S]
    rw [tx]
    simp only [List.append_assoc]
  | .j3 b t u v, m, n, ho, h, h12 => by
    have hp : t.parts + u.parts + v.parts + 1 ≤ n := by simp only [CT.parts] at h; omega
    obtain ⟨k, rfl⟩ : ∃ k, n = k + 1 := ⟨n - 1, by omega⟩
    have ih1 := fun m => l_text (t := t) (m := m) k ho.1 (by omega) (by omega)
    have ih2 := fun m => l_text (t := u) (m := m) k ho.2.1 (by omega) (by omega)
    have ih3 := fun m => l_text (t := v) (m := m) k ho.2.2 (by omega) (by omega)
    have hl1 := tx_len (t := t) ho.1
    have hl2 := tx_len (t := u) ho.2.1
    have hl3 := tx_len (t := v) ho.2.2
    have i := fun m => l_inner (.j3 b t u v) (m := m)
    have e := fun ρ m => eq_ts (ρ := ρ) (m := m) (t := t) (ts := [u, v]) (fun x hx => by
      rcases List.mem_cons.mp hx with rfl | hx
      · omega
      · rcases List.mem_cons.mp hx with rfl | hx
        · omega
        · rw [List.mem_singleton.mp hx]; omega)
    simp only [enc, ch, List.map_cons, List.map_nil, ← jn_S] at i e ⊢
    have hJ : (TL.joinL [44, 32] [tx t, tx u, tx v]).length ≤ 1000 := by simp only [TL.joinL, List.length_append, List.length_cons, List.length_nil]; omega
    have hb := jn_len b
    rw [u_l_text]
    simp -implicitDefEqProofs (disch := (first | assumption | rfl | (simp only [List.getElem?_cons_zero, List.getElem?_cons_succ]; done) | (simp only [List.length_cons, List.length_nil, List.length_map, List.length_append, List.length_set, List.length_take, List.length_drop] <;> omega) | omega)) only [e_var, kV_val, kV_own, e_c, e_un, kU_ok, kU_ex, e_unN, kUN_ok, kUN_ex, e_bin, kB2_ok, kB2_ex, kB1_ok, kB1_ex, e_tru, kTr_ok, kTr_ex, kT1_some, e_isB, kIB_ok, kIB_ex, e_not, kNt_ok, kNt_ex, e_andB, kAB_t, kAB_f, kAB_ex, e_orB, kOB_t, kOB_f, kOB_ex, e_andV, kAV_ok, kAV_ex, kAV1_t, kAV1_f, e_orV, kOV_ok, kOV_ex, kOV1_t, kOV1_f, e_notV, kNV_ok, kNV_ex, kNV1_some, e_if, kIf_t, kIf_f, kIf_ex, e_chain, kC1_ok, kC2_ok, kC3_t, kC3_f, e_fld, kFl_ok, kFl_ex, kFl1_some, kFl2_some, e_nil, e_cons, kCs1_v, kCs1_ex, kCs2_ok, kCs2_ex, e_tup, kTp_ok, kTp_ex, e_lst, kLs_ok, kLs_ex, e_frz, kFr_lst, kFr_dct, kFr_dcT, kFr_ins, kFr_ex, e_cb, kCB_ok, kCB_ex, rsA_ok, rsA_ex, e_call, kCa_ok, kCa_ex, e_meth, kMe1_v, kMe1_ex, kMe2_some, kMe2'_none, kMe3_ok, kMe3_ex, e_prop, kPr_v, kPr_ex, kPr1_some, kPr2_ok, i_ins, e_make, kMk_ok, kMk_ex, mkEnd_ok, e_args, kAr1_ok, kAr1_ex, kAr2_ok, kAr2_ex, e_loc, kLo_ok, e_sl, kSl1_ok, kSl1_ex, kSl2_ok, kSl3_ok, e_o0, e_o1, kO1_ok, e_s0, kS0_ok, e_s1, kS11_ok, kS12_ok, e_fmt, kFm_str, kFm_int, e_jsM, e_jsN, kJ1_ok, e_js, kJs_ok, e_get2, kG2_ok, kG3_ok, kG3_s, kG3_n, e_seq, kSq_nx, kSq_rt, kSq_bk, kSq_ct, kSq_ex, e_next, e_break, e_cont, e_ifS, kIS_t, kIS_f, kIS_ex, kG_some, e_asg, kAs_v, kAs_ex, e_gn, e_gnil, e_gcons, kGc_some, e_gt, e_gtk, e_asgO, kAO_ok, kAO_ex, e_expr, kEx_ok, kEx_ex, e_ret, kRt_v, kRt_ex, e_retN, e_fz, kFz_lst, kFz_dct, kFz_val, kFz_un, fin_nx, fin_rt, fin_ex, e_for, kFo_ok, kFo_ex, e_forN, kF1_some, kF2_nx, kF2_ct, kF2_bk, kF2_rt, kF2_ex, kW1_t, kW1_f, kW1_ex, kW2_nx, kW2_ct, kW2_bk, kW2_rt, kW2_ex, e_itA, kIA_ok, kIA_ex, kI1_some, e_en, kIE_ok, kI2_some, it_lst, it_tup, it_ktp, it_dct, en_lst, en_tup, e_rng1, kR1_ok, e_rng2, kR2_ok, w_1, w_2, w_3, e_yes, e_lc, kLc1_ok, kLc1_ex, kLc2_ok, e_lcN, kl1_some, kl2_t, kl2_f, kl3_ok, kl4_ok, mb_b, kMb_some, mb_l, kMo_some, mp_b, mp_loc, mutK_ap, mutA_ap, e_mut, e_mutA, kM1_ok, kM2_lst, kM2_dct, kM3_ok, kM3_ex, kM4_some, kM5_some, kM6_some, g_app, g_ins, e_setIx, kX1_v, kX1_ex, kX2_ok, kX3_v, kX4_some, kX5_some, kX6_some, e_stF, kS1a_v, kS1a_ex, kS1b_ok, kS2_ins, kS3_some, e_aug, kAu_some, kAu2_ok, e_cnil, e_cv, e_co, kCv_v, kCo_ok, kC2b_ok, e_par, kPa_vv, kPa_vo, kPa_ov, kPa_oo, e_dc, kDc1_ok, kDc2_ok, e_ssc, kSs1_ok, kSs2_ok, lo_lst, lo_tup, lo_ktp, lo_str, lo_int, lo_b, kOL_some, lo_loc, kML_some, i_loc, kIL_some, i_b, kIO_some, fp_nil, so_lst, so_tup, so_ktp, so_b, so_loc, g_int0, g_neg, g_fdiv, g_mod, g_mul, g_pow18, g_pow9, g_pow12, g_add_i, g_add_s, g_add_l, g_add_t, g_mul_l, g_eq_i, g_ne_i, g_eq_s, g_ne_s, g_eq_b, g_ne_b, g_eq_si, g_is_non, g_isnt_non, g_is_bl, g_isnt_bl, g_is_int, g_isnt_int, g_is_str, g_isnt_str, g_is_lst, g_isnt_lst, g_is_tup, g_isnt_tup, g_is_ktp, g_isnt_ktp, g_is_ins, g_isnt_ins, tr_non, tr_bl, tr_int, tr_lst, tr_tup, g_len_l, g_len_t, g_len_k, g_len_b, kLn_some, g_len_s, kIx_some, g_ix_l, g_ix_t, g_ix_k, kIl_some, g_ix_loc, kIb_lst, kIb_dct, g_ix_b, g_ix_ds, g_ix_di, at_0, at_1, at_2, at_3, at_4, ix_0, ix_1, ix_2, ix_3, ix_4, s_ix, kSx_some, s_dct_s, s_dct_i, kG1_d, kG1_dT, dl_s, dl_i, g_in, kIn_f, kIn_t, in_str_l, in_str_t, in_str_k, in_int_l, in_dct_s, in_dct_i, g_sl_l, g_sl_t, g_sl_scr, g_sl_b, kSb_some, cut_take, cut_drop, g_list_l, g_list_t, g_list_k, g_list_s, g_list_b, kGl_some, g_tup_l, g_tup_t, g_int1, g_str1, g_all, g_any, g_sum, g_join_l, isi_lst_list, isi_lst_tuple, isi_lst_bool, isi_lst_int, isi_lst_str, isi_lst_dict, isi_lst_lt, isi_tup_list, isi_tup_tuple, isi_tup_bool, isi_tup_int, isi_tup_str, isi_tup_dict, isi_tup_lt, isi_ktp_list, isi_ktp_tuple, isi_ktp_bool, isi_ktp_int, isi_ktp_str, isi_ktp_dict, isi_ktp_lt, isi_bl_list, isi_bl_tuple, isi_bl_bool, isi_bl_int, isi_bl_str, isi_bl_dict, isi_bl_lt, isi_int_list, isi_int_tuple, isi_int_bool, isi_int_int, isi_int_str, isi_int_dict, isi_int_lt, isi_str_list, isi_str_tuple, isi_str_bool, isi_str_int, isi_str_str, isi_str_dict, isi_str_lt, isi_non_list, isi_non_tuple, isi_non_bool, isi_non_int, isi_non_str, isi_non_dict, isi_non_lt, isi_dct_list, isi_dct_tuple, isi_dct_bool, isi_dct_int, isi_dct_str, isi_dct_dict, isi_dct_lt, e_star, kSt1_v, kSt2_some, kSt3_ok, e_match, kMa_v, e_casesN, e_casesC, kMe_ne, kMe_eq, kMf_n, kMf_s, kMh_n, kMh_s, kMg_t, kMg_f, ea_nil, ea_lit_eq, ea_lit_ne, ea_lit_int, ea_cap, kEc_s, kEc_n, bd_nil, bd_cons, e_own, own_ok, e_slN, kSn1_ok, kSn2_ok, kSn3_ok, kSn_some, e_zip, kZi_ok, e_rev, kRv1_ok, kRv_some, g_inKd, kKd_s, g_ixKd, e_par3, kPa3_vvv, kPa3_ovv, e_ifB, kIfB_t, kIfB_f, g_str2i, g_str2s, isiM_non, isiM_bl, isiM_int, isiM_str, isiM_lst, isiM_tup, isiM_ktp, isiM_dct, g_eqO_i, g_eqO_s, kNe2_ok, g_neO_i, kRp2_ok, g_repr, g_isiO_i, g_isiO_s, Bool.not_true, Bool.not_false, List.getElem?_cons_zero, List.getElem?_cons_succ, List.set_cons_zero, List.set_cons_succ, List.length_cons, List.length_nil, List.length_map, List.length_append, ce1_l_text_e, ce2_l_text_e, sx1_l_text_e, sx2_l_text_e, b_l_text_e, i, e, e_lcC, e_lcN, ih1, ih2, ih3, ← jn_S, ← open_S, ← cs_S, ← close_S, join_3, g_add_S]
    rw [tx]
    simp only [List.append_assoc]
end G

set_option Elab.async false
set_option linter.all false
set_option autoImplicit false
set_option maxRecDepth 100000
set_option maxHeartbeats 4000000
namespace G
open PySem L2 M3 SX
/-! ### periods -/
theorem gcd_loop {x y : Cell} {m : Mm} : ∀ (n b a : Nat), b < n → whileN wt1_common_multiple wb1_common_multiple n [x, y, .val (.int (a : Nat)), .val (.int (b : Nat))] m = .nx [x, y, .val (.int (Nat.gcd a b : Nat)), .val (.int ((0 : Nat) : Int))] m
  | 0, b, a, h => absurd h (Nat.not_lt_zero _)
  | n + 1, b, a, h => by
    rw [e_while]
    by_cases hb : b = 0
    · subst hb
      have e : decide (((0 : Nat) : Int) > 0) = false := rfl
      have e : decide ((0 : Int) < ((0 : Nat) : Int)) = false := rfl
      exists "ev", wt1_common_multiple_e, wb1_common_multiple_e, sx1_common_multiple_e, sx2_common_multiple_e, b_common_multiple_e, e, Nat.gcd_zero_right
    · have e : decide ((0 : Int) < ((b : Nat) : Int)) = true := decide_eq_true (by omega)
      have hm : a % b < b := Nat.mod_lt _ (by omega)
      have ih := gcd_loop (x := x) (y := y) (m := m) n (a % b) b (by omega)
      have e2 : ((a : Nat) : Int) % ((b : Nat) : Int) = ((a % b : Nat) : Int) := rfl
      have e3 : Nat.gcd b (a % b) = Nat.gcd a b := by rw [Nat.gcd_comm b, ← Nat.gcd_rec, Nat.gcd_comm]
      rw [e3] at ih
      exists "ev", wt1_common_multiple_e, wb1_common_multiple_e, sx1_common_multiple_e, sx2_common_multiple_e, b_common_multiple_e, e, e2, ih
theorem common_multiple {a b : Nat} (ha : 1 ≤ a) (hb : 1 ≤ b) (ha2 : a ≤ 100000) (hb2 : b ≤ 100000) {m : Mm} : m_common_multiple [.int (a : Nat), .int (b : Nat)] m = .ok (.int (Nat.lcm a b : Nat)) m := by
  have h := gcd_loop (x := .val (.int (a : Nat))) (y := .val (.int (b : Nat))) (m := m) 1000000 b a (by omega)
  have hg : 0 < Nat.gcd a b := Nat.gcd_pos_of_pos_left _ (by omega)
  have hg2 : Nat.gcd a b ≤ a := Nat.gcd_le_left _ (by omega)
  have e : ((a : Nat) : Int) * ((b : Nat) : Int) / ((Nat.gcd a b : Nat) : Int) = ((Nat.lcm a b : Nat) : Int) := rfl
  rw [u_common_multiple]
  exists "ev", wt1_common_multiple_e, wb1_common_multiple_e, sx1_common_multiple_e, sx2_common_multiple_e, b_common_multiple_e, h, e
def Lf.per : Lf → Nat
  | .day p _ => p
  | .one .first n => n
  | .one .last n => n
  | _ => 1
def CT.per : CT → Nat
  | .lf l => l.per
  | .neg t => Nat.lcm 1 t.per
  | .j2 _ t u => Nat.lcm (Nat.lcm 1 t.per) u.per
  | .j3 _ t u v => Nat.lcm (Nat.lcm (Nat.lcm 1 t.per) u.per) v.per
theorem dvd_small {n : Nat} (h1 : 1 ≤ n) (h2 : n ≤ 7) : n ∣ 420 := by
  have : ∀ k : Fin 8, 1 ≤ k.1 → k.1 ∣ 420 := by decide
  exact this ⟨n, by omega⟩ h1
theorem per_dvd : ∀ {t : CT}, t.Ok → t.per ∣ 420
  | .lf (.age a b), h => ⟨420, rfl⟩
  | .lf (.day p r), h => dvd_small (n := p) (by have h1 : 2 ≤ p := h.1; omega) h.2.1
  | .lf (.one w n), h => by
    have h1 := h.1
    have h2 := h.2
    cases w <;> simp only [CT.per, Lf.per, W5.lo, W5.hi] at h1 h2 ⊢ <;> first | exact dvd_small (by omega) (by omega) | exact ⟨420, rfl⟩
  | .neg t, h => Nat.lcm_dvd ⟨420, rfl⟩ (per_dvd (t := t) h)
  | .j2 _ t u, h => Nat.lcm_dvd (Nat.lcm_dvd ⟨420, rfl⟩ (per_dvd (t := t) h.1)) (per_dvd (t := u) h.2)
  | .j3 _ t u v, h => Nat.lcm_dvd (Nat.lcm_dvd (Nat.lcm_dvd ⟨420, rfl⟩ (per_dvd (t := t) h.1)) (per_dvd (t := u) h.2.1)) (per_dvd (t := v) h.2.2)
theorem dvd_bnd {n : Nat} (h : n ∣ 420) : 1 ≤ n ∧ n ≤ 420 := ⟨Nat.pos_of_dvd_of_pos h (by decide), Nat.le_of_dvd (by decide) h⟩
def CT.hd : CT → Str
  | .lf (.age _ _) => "age"
  | .lf (.day _ _) => "day"
  | .lf (.one w _) => w.st
  | .neg _ => "not"
  | .j2 b _ _ => jS b
  | .j3 b _ _ _ => jS b
theorem in_dfl {z : Str} {ρ : Sl} {m : Mm} : inOf ρ m (.v (.str z)) (.v (.tup [.str "day", .str "first", .str "last"])) = some ([("day" : Str), "first", "last"].any (· == z)) := in_str_t (xs := ["day", "first", "last"])
theorem dfl_age : ([("day" : Str), "first", "last"].any (· == ("age" : Str))) = false := by decide +kernel
theorem dfl_day : ([("day" : Str), "first", "last"].any (· == ("day" : Str))) = true := by decide +kernel
theorem dfl_not : ([("day" : Str), "first", "last"].any (· == ("not" : Str))) = false := by decide +kernel
theorem dfl_jS (b : Bool) : ([("day" : Str), "first", "last"].any (· == jS b)) = false := by cases b <;> decide +kernel
def W5.fl : W5 → Bool
  | .first => true | .last => true | _ => false
theorem dfl_st (w : W5) : ([("day" : Str), "first", "last"].any (· == w.st)) = w.fl := by cases w <;> decide +kernel
theorem period_of : ∀ {t : CT} {m : Mm} (n : Nat), t.Ok → t.parts ≤ n → mf_period_of n [enc t] m = .ok (.int (t.per : Nat)) m
  | .lf (.age a b), m, n, ho, h => by
    obtain ⟨k, rfl⟩ : ∃ k, n = k + 1 := ⟨n - 1, by simp only [CT.parts] at h; omega⟩
    have i := fun m => inner_trees (.lf (.age a b)) (m := m)
    simp only [enc, Lf.enc, ch, List.map_nil] at i ⊢
    rw [u_period_of]
    exists "ev", lp1_period_of_e, sx1_period_of_e, sx2_period_of_e, b_period_of_e, i, in_dfl, dfl_age
    rfl
  | .lf (.day a b), m, n, ho, h => by
    obtain ⟨k, rfl⟩ : ∃ k, n = k + 1 := ⟨n - 1, by simp only [CT.parts] at h; omega⟩
    have i := fun m => inner_trees (.lf (.day a b)) (m := m)
    simp only [enc, Lf.enc, ch, List.map_nil] at i ⊢
    rw [u_period_of]
    exists "ev", lp1_period_of_e, sx1_period_of_e, sx2_period_of_e, b_period_of_e, i, in_dfl, dfl_day
    rfl
  | .lf (.one w q), m, n, ho, h => by
    obtain ⟨k, rfl⟩ : ∃ k, n = k + 1 := ⟨n - 1, by simp only [CT.parts] at h; omega⟩
    have i := fun m => inner_trees (.lf (.one w q)) (m := m)
    simp only [enc, Lf.enc, ch, List.map_nil] at i ⊢
    rw [u_period_of]
    cases w <;> (exists "ev", lp1_period_of_e, sx1_period_of_e, sx2_period_of_e, b_period_of_e, i, in_dfl, dfl_st, W5.fl; rfl)
  | .neg t, m, n, ho, h => by
    have hp : t.parts + 1 ≤ n := by simp only [CT.parts] at h; omega
    obtain ⟨k, rfl⟩ : ∃ k, n = k + 1 := ⟨n - 1, by omega⟩
    have ih := fun m => period_of (t := t) (m := m) k ho (by omega)
    have i := fun m => inner_trees (.neg t) (m := m)
    have b1 := dvd_bnd (per_dvd (t := t) ho)
    have c1 := fun m => common_multiple (a := 1) (b := t.per) (m := m) (by omega) (by omega) (by omega) (by omega)
    have c1 : ∀ m, m_common_multiple [.int 1, .int (t.per : Nat)] m = .ok (.int (Nat.lcm 1 t.per : Nat)) m := c1
    simp only [enc, ch, List.map_nil, List.map_cons] at i ⊢
    rw [u_period_of]
    exists "ev", lp1_period_of_e, sx1_period_of_e, sx2_period_of_e, b_period_of_e, i, in_dfl, dfl_not, e_forC, e_forN, ih, c1
    rfl
  | .j2 b t u, m, n, ho, h => by
    have hp : t.parts + u.parts + 1 ≤ n := by simp only [CT.parts] at h; omega
    obtain ⟨k, rfl⟩ : ∃ k, n = k + 1 := ⟨n - 1, by omega⟩
    have ih1 := fun m => period_of (t := t) (m := m) k ho.1 (by omega)
    have ih2 := fun m => period_of (t := u) (m := m) k ho.2 (by omega)
    have i := fun m => inner_trees (.j2 b t u) (m := m)
    have b1 := dvd_bnd (per_dvd (t := t) ho.1)
    have b2 := dvd_bnd (per_dvd (t := u) ho.2)
    have b3 := dvd_bnd (Nat.lcm_dvd ⟨420, rfl⟩ (per_dvd (t := t) ho.1) : Nat.lcm 1 t.per ∣ 420)
    have c1 : ∀ m, m_common_multiple [.int 1, .int (t.per : Nat)] m = .ok (.int (Nat.lcm 1 t.per : Nat)) m := fun m => common_multiple (a := 1) (b := t.per) (m := m) (by omega) (by omega) (by omega) (by omega)
    have c2 := fun m => common_multiple (a := Nat.lcm 1 t.per) (b := u.per) (m := m) (by omega) (by omega) (by omega) (by omega)
    simp only [enc, ch, List.map_nil, List.map_cons] at i ⊢
    rw [u_period_of]
    exists "ev", lp1_period_of_e, sx1_period_of_e, sx2_period_of_e, b_period_of_e, i, in_dfl, dfl_jS, e_forC, e_forN, ih1, ih2, c1, c2
    rfl
  | .j3 b t u v, m, n, ho, h => by
    have hp : t.parts + u.parts + v.parts + 1 ≤ n := by simp only [CT.parts] at h; omega
    obtain ⟨k, rfl⟩ : ∃ k, n = k + 1 := ⟨n - 1, by omega⟩
    have ih1 := fun m => period_of (t := t) (m := m) k ho.1 (by omega)
    have ih2 := fun m => period_of (t := u) (m := m) k ho.2.1 (by omega)
    have ih3 := fun m => period_of (t := v) (m := m) k ho.2.2 (by omega)
    have i := fun m => inner_trees (.j3 b t u v) (m := m)
    have b1 := dvd_bnd (per_dvd (t := t) ho.1)
    have b2 := dvd_bnd (per_dvd (t := u) ho.2.1)
    have b4 := dvd_bnd (per_dvd (t := v) ho.2.2)
    have b3 := dvd_bnd (Nat.lcm_dvd ⟨420, rfl⟩ (per_dvd (t := t) ho.1) : Nat.lcm 1 t.per ∣ 420)
    have b5 := dvd_bnd (Nat.lcm_dvd (Nat.lcm_dvd ⟨420, rfl⟩ (per_dvd (t := t) ho.1)) (per_dvd (t := u) ho.2.1) : Nat.lcm (Nat.lcm 1 t.per) u.per ∣ 420)
    have c1 : ∀ m, m_common_multiple [.int 1, .int (t.per : Nat)] m = .ok (.int (Nat.lcm 1 t.per : Nat)) m := fun m => common_multiple (a := 1) (b := t.per) (m := m) (by omega) (by omega) (by omega) (by omega)
    have c2 := fun m => common_multiple (a := Nat.lcm 1 t.per) (b := u.per) (m := m) (by omega) (by omega) (by omega) (by omega)
    have c3 := fun m => common_multiple (a := Nat.lcm (Nat.lcm 1 t.per) u.per) (b := v.per) (m := m) (by omega) (by omega) (by omega) (by omega)
    simp only [enc, ch, List.map_nil, List.map_cons] at i ⊢
    rw [u_period_of]
    exists "ev", lp1_period_of_e, sx1_period_of_e, sx2_period_of_e, b_period_of_e, i, in_dfl, dfl_jS, e_forC, e_forN, ih1, ih2, ih3, c1, c2, c3
    rfl
/-! ### Condition(text) -/
def cFs (t : CT) : List (Str × Dv) := [("own_text", .str (S (tx t))), ("own_tree", enc t), ("own_parts", .int (t.parts : Nat)), ("own_period", .int (t.per : Nat))]
abbrev CD (t : CT) : Dv := .ins "Condition" (cFs t)
theorem fp_Condition_own_tree {a b : Dv} : fput ("own_tree" : Str) b ([("own_text", a)] : List (Str × Dv)) = ([("own_text", a), ("own_tree", b)] : List (Str × Dv)) := by
  rw [fp_ne (by decide +kernel)]; rfl
theorem fp_Condition_own_parts {a b c : Dv} : fput ("own_parts" : Str) c ([("own_text", a), ("own_tree", b)] : List (Str × Dv)) = ([("own_text", a), ("own_tree", b), ("own_parts", c)] : List (Str × Dv)) := by
  rw [fp_ne (by decide +kernel), fp_ne (by decide +kernel)]; rfl
theorem fp_Condition_own_period {a b c d : Dv} : fput ("own_period" : Str) d ([("own_text", a), ("own_tree", b), ("own_parts", c)] : List (Str × Dv)) = ([("own_text", a), ("own_tree", b), ("own_parts", c), ("own_period", d)] : List (Str × Dv)) := by
  rw [fp_ne (by decide +kernel), fp_ne (by decide +kernel), fp_ne (by decide +kernel)]; rfl
theorem lk_Condition_own_text {a b c d : Dv} : List.lookup ("own_text" : Str) ([("own_text", a), ("own_tree", b), ("own_parts", c), ("own_period", d)] : List (Str × Dv)) = some a := by
  rw [lk_eq]
theorem lk_Condition_own_tree {a b c d : Dv} : List.lookup ("own_tree" : Str) ([("own_text", a), ("own_tree", b), ("own_parts", c), ("own_period", d)] : List (Str × Dv)) = some b := by
  rw [lk_ne (by decide +kernel), lk_eq]
theorem lk_Condition_own_parts {a b c d : Dv} : List.lookup ("own_parts" : Str) ([("own_text", a), ("own_tree", b), ("own_parts", c), ("own_period", d)] : List (Str × Dv)) = some c := by
  rw [lk_ne (by decide +kernel), lk_ne (by decide +kernel), lk_eq]
theorem lk_Condition_own_period {a b c d : Dv} : List.lookup ("own_period" : Str) ([("own_text", a), ("own_tree", b), ("own_parts", c), ("own_period", d)] : List (Str × Dv)) = some d := by
  rw [lk_ne (by decide +kernel), lk_ne (by decide +kernel), lk_ne (by decide +kernel), lk_eq]
theorem lk_Condition_chosen {a b c d : Dv} : List.lookup ("chosen" : Str) ([("own_text", a), ("own_tree", b), ("own_parts", c), ("own_period", d)] : List (Str × Dv)) = none := by
  rw [lk_ne (by decide +kernel), lk_ne (by decide +kernel), lk_ne (by decide +kernel), lk_ne (by decide +kernel)]; rfl
theorem isnt_enc {ρ : Sl} {m : Mm} (t : CT) : gIsN false ρ m (.v (enc t)) (.v .non) = .ok (.v (.bl false)) m := by
  cases t with
  | lf l => cases l <;> rfl
  | neg t => rfl
  | j2 b t u => rfl
  | j3 b t u v => rfl
theorem cond_init {t : CT} (ho : t.Ok) (hp : t.parts ≤ 8) : m_Condition_DinitD [.loc 0, .str (S (tx t))] [some (.ins "Condition" [])] = .ok .non [some (.ins "Condition" (cFs t))] := by
  have h40 := cnt40_tx t
  have e1 : decide (((cnt40 (tx t) : Nat) : Int) ≤ 8) = true := decide_eq_true (by omega)
  have e2 : decide ((8 : Int) < ((t.parts : Nat) : Int)) = false := decide_eq_false (by omega)
  have t1 : ∀ m, m_tree_of [.str (S (tx t))] m = .ok (enc t) m := fun m => tree_of ho 12 (by omega) (by omega)
  have t2 : ∀ m, m_parts_of [enc t] m = .ok (.int (t.parts : Nat)) m := fun m => parts_of 12 (by omega)
  have t3 : ∀ m, m_period_of [enc t] m = .ok (.int (t.per : Nat)) m := fun m => period_of 12 ho (by omega)
  rw [u_Condition_DinitD]
  simp -implicitDefEqProofs (disch := (first | assumption | rfl | (simp only [List.getElem?_cons_zero, List.getElem?_cons_succ]; done) | (simp only [List.length_cons, List.length_nil, List.length_map, List.length_append, List.length_set, List.length_take, List.length_drop] <;> omega) | omega)) only [e_var, kV_val, kV_own, e_c, e_un, kU_ok, kU_ex, e_unN, kUN_ok, kUN_ex, e_bin, kB2_ok, kB2_ex, kB1_ok, kB1_ex, e_tru, kTr_ok, kTr_ex, kT1_some, e_isB, kIB_ok, kIB_ex, e_not, kNt_ok, kNt_ex, e_andB, kAB_t, kAB_f, kAB_ex, e_orB, kOB_t, kOB_f, kOB_ex, e_andV, kAV_ok, kAV_ex, kAV1_t, kAV1_f, e_orV, kOV_ok, kOV_ex, kOV1_t, kOV1_f, e_notV, kNV_ok, kNV_ex, kNV1_some, e_if, kIf_t, kIf_f, kIf_ex, e_chain, kC1_ok, kC2_ok, kC3_t, kC3_f, e_fld, kFl_ok, kFl_ex, kFl1_some, kFl2_some, e_nil, e_cons, kCs1_v, kCs1_ex, kCs2_ok, kCs2_ex, e_tup, kTp_ok, kTp_ex, e_lst, kLs_ok, kLs_ex, e_frz, kFr_lst, kFr_dct, kFr_dcT, kFr_ins, kFr_ex, e_cb, kCB_ok, kCB_ex, rsA_ok, rsA_ex, e_call, kCa_ok, kCa_ex, e_meth, kMe1_v, kMe1_ex, kMe2_some, kMe2'_none, kMe3_ok, kMe3_ex, e_prop, kPr_v, kPr_ex, kPr1_some, kPr2_ok, i_ins, e_make, kMk_ok, kMk_ex, mkEnd_ok, e_args, kAr1_ok, kAr1_ex, kAr2_ok, kAr2_ex, e_loc, kLo_ok, e_sl, kSl1_ok, kSl1_ex, kSl2_ok, kSl3_ok, e_o0, e_o1, kO1_ok, e_s0, kS0_ok, e_s1, kS11_ok, kS12_ok, e_fmt, kFm_str, kFm_int, e_jsM, e_jsN, kJ1_ok, e_js, kJs_ok, e_get2, kG2_ok, kG3_ok, kG3_s, kG3_n, e_seq, kSq_nx, kSq_rt, kSq_bk, kSq_ct, kSq_ex, e_next, e_break, e_cont, e_ifS, kIS_t, kIS_f, kIS_ex, kG_some, e_asg, kAs_v, kAs_ex, e_gn, e_gnil, e_gcons, kGc_some, e_gt, e_gtk, e_asgO, kAO_ok, kAO_ex, e_expr, kEx_ok, kEx_ex, e_ret, kRt_v, kRt_ex, e_retN, e_fz, kFz_lst, kFz_dct, kFz_val, kFz_un, fin_nx, fin_rt, fin_ex, e_for, kFo_ok, kFo_ex, e_forN, kF1_some, kF2_nx, kF2_ct, kF2_bk, kF2_rt, kF2_ex, kW1_t, kW1_f, kW1_ex, kW2_nx, kW2_ct, kW2_bk, kW2_rt, kW2_ex, e_itA, kIA_ok, kIA_ex, kI1_some, e_en, kIE_ok, kI2_some, it_lst, it_tup, it_ktp, it_dct, en_lst, en_tup, e_rng1, kR1_ok, e_rng2, kR2_ok, w_1, w_2, w_3, e_yes, e_lc, kLc1_ok, kLc1_ex, kLc2_ok, e_lcN, kl1_some, kl2_t, kl2_f, kl3_ok, kl4_ok, mb_b, kMb_some, mb_l, kMo_some, mp_b, mp_loc, mutK_ap, mutA_ap, e_mut, e_mutA, kM1_ok, kM2_lst, kM2_dct, kM3_ok, kM3_ex, kM4_some, kM5_some, kM6_some, g_app, g_ins, e_setIx, kX1_v, kX1_ex, kX2_ok, kX3_v, kX4_some, kX5_some, kX6_some, e_stF, kS1a_v, kS1a_ex, kS1b_ok, kS2_ins, kS3_some, e_aug, kAu_some, kAu2_ok, e_cnil, e_cv, e_co, kCv_v, kCo_ok, kC2b_ok, e_par, kPa_vv, kPa_vo, kPa_ov, kPa_oo, e_dc, kDc1_ok, kDc2_ok, e_ssc, kSs1_ok, kSs2_ok, lo_lst, lo_tup, lo_ktp, lo_str, lo_int, lo_b, kOL_some, lo_loc, kML_some, i_loc, kIL_some, i_b, kIO_some, fp_nil, so_lst, so_tup, so_ktp, so_b, so_loc, g_int0, g_neg, g_fdiv, g_mod, g_mul, g_pow18, g_pow9, g_pow12, g_add_i, g_add_s, g_add_l, g_add_t, g_mul_l, g_eq_i, g_ne_i, g_eq_s, g_ne_s, g_eq_b, g_ne_b, g_eq_si, g_is_non, g_isnt_non, g_is_bl, g_isnt_bl, g_is_int, g_isnt_int, g_is_str, g_isnt_str, g_is_lst, g_isnt_lst, g_is_tup, g_isnt_tup, g_is_ktp, g_isnt_ktp, g_is_ins, g_isnt_ins, tr_non, tr_bl, tr_int, tr_lst, tr_tup, g_len_l, g_len_t, g_len_k, g_len_b, kLn_some, g_len_s, kIx_some, g_ix_l, g_ix_t, g_ix_k, kIl_some, g_ix_loc, kIb_lst, kIb_dct, g_ix_b, g_ix_ds, g_ix_di, at_0, at_1, at_2, at_3, at_4, ix_0, ix_1, ix_2, ix_3, ix_4, s_ix, kSx_some, s_dct_s, s_dct_i, kG1_d, kG1_dT, dl_s, dl_i, g_in, kIn_f, kIn_t, in_str_l, in_str_t, in_str_k, in_int_l, in_dct_s, in_dct_i, g_sl_l, g_sl_t, g_sl_scr, g_sl_b, kSb_some, cut_take, cut_drop, g_list_l, g_list_t, g_list_k, g_list_s, g_list_b, kGl_some, g_tup_l, g_tup_t, g_int1, g_str1, g_all, g_any, g_sum, g_join_l, isi_lst_list, isi_lst_tuple, isi_lst_bool, isi_lst_int, isi_lst_str, isi_lst_dict, isi_lst_lt, isi_tup_list, isi_tup_tuple, isi_tup_bool, isi_tup_int, isi_tup_str, isi_tup_dict, isi_tup_lt, isi_ktp_list, isi_ktp_tuple, isi_ktp_bool, isi_ktp_int, isi_ktp_str, isi_ktp_dict, isi_ktp_lt, isi_bl_list, isi_bl_tuple, isi_bl_bool, isi_bl_int, isi_bl_str, isi_bl_dict, isi_bl_lt, isi_int_list, isi_int_tuple, isi_int_bool, isi_int_int, isi_int_str, isi_int_dict, isi_int_lt, isi_str_list, isi_str_tuple, isi_str_bool, isi_str_int, isi_str_str, isi_str_dict, isi_str_lt, isi_non_list, isi_non_tuple, isi_non_bool, isi_non_int, isi_non_str, isi_non_dict, isi_non_lt, isi_dct_list, isi_dct_tuple, isi_dct_bool, isi_dct_int, isi_dct_str, isi_dct_dict, isi_dct_lt, e_star, kSt1_v, kSt2_some, kSt3_ok, e_match, kMa_v, e_casesN, e_casesC, kMe_ne, kMe_eq, kMf_n, kMf_s, kMh_n, kMh_s, kMg_t, kMg_f, ea_nil, ea_lit_eq, ea_lit_ne, ea_lit_int, ea_cap, kEc_s, kEc_n, bd_nil, bd_cons, e_own, own_ok, e_slN, kSn1_ok, kSn2_ok, kSn3_ok, kSn_some, e_zip, kZi_ok, e_rev, kRv1_ok, kRv_some, g_inKd, kKd_s, g_ixKd, e_par3, kPa3_vvv, kPa3_ovv, e_ifB, kIfB_t, kIfB_f, g_str2i, g_str2s, isiM_non, isiM_bl, isiM_int, isiM_str, isiM_lst, isiM_tup, isiM_ktp, isiM_dct, g_eqO_i, g_eqO_s, kNe2_ok, g_neO_i, kRp2_ok, g_repr, g_isiO_i, g_isiO_s, Bool.not_true, Bool.not_false, List.getElem?_cons_zero, List.getElem?_cons_succ, List.set_cons_zero, List.set_cons_succ, List.length_cons, List.length_nil, List.length_map, List.length_append, sx1_Condition_DinitD_e, sx2_Condition_DinitD_e, sx3_Condition_DinitD_e, sx4_Condition_DinitD_e, sx5_Condition_DinitD_e, b_Condition_DinitD_e, g_s2, ← open_S, count_S, e1, e2, t1, t2, t3, isnt_enc, k_MOST_PARTS, i_loc, kIL_some, fp_Condition_own_tree, fp_Condition_own_parts, fp_Condition_own_period]
  rfl
end G

set_option Elab.async false
set_option linter.all false
set_option autoImplicit false
set_option maxRecDepth 100000
set_option maxHeartbeats 4000000
namespace G
open PySem L2 M3
abbrev Is (S : List Int) : List Dv := S.map .int
theorem g_max2 {ρ : Sl} {m : Mm} {i j : Int} : gMax2 ρ m [.int i, .int j] = .ok (.v (.int (if j > i then j else i))) m := rfl
theorem len_is {S : List Int} (h : S.length ≤ 900) : (Is S).length ≤ 16777216 := by unfold Is; rw [List.length_map]; omega
end G

set_option Elab.async false
set_option linter.all false
set_option autoImplicit false
set_option maxRecDepth 100000
set_option maxHeartbeats 4000000
namespace G
open PySem L2 M3 SX
theorem any_spec {b : Bag} (hb : b.Ok) {ds : List Dv} (h : ds ≠ []) (hl : ds.length ≤ 1000000) : ∃ (i : Nat) (d : Dv) (b' : Bag), ds[i]? = some d ∧ b'.Ok ∧ m_l_any [.loc 0, .lst ds] (BM b) = .ok d (BM b') := by
  have hp : 0 < ds.length := List.length_pos_iff.mpr h
  obtain ⟨r, b', o, hr, e⟩ := pull_spec b hb (ds.length : Nat) (by omega) (by omega)
  have hr' : r < ds.length := by omega
  refine ⟨r, ds[r], b', List.getElem?_eq_getElem hr', o, ?_⟩
  rw [u_l_any]
  have hat : ds[r]? = some ds[r] := List.getElem?_eq_getElem hr'
  exists "ev", b_l_any_e, e, at_nat, hat
theorem any_is {b : Bag} (hb : b.Ok) {S : List Int} (h : S ≠ []) (hl : S.length ≤ 1000) : ∃ (d : Int) (b' : Bag), d ∈ S ∧ b'.Ok ∧ m_l_any [.loc 0, .lst (Is S)] (BM b) = .ok (.int d) (BM b') := by
  obtain ⟨i, d, b', h1, h2, h3⟩ := any_spec hb (ds := Is S) (fun z => h (List.map_eq_nil_iff.mp z)) (by unfold Is; rw [List.length_map]; omega)
  have h1 := List.mem_of_getElem? h1
  obtain ⟨x, hx, rfl⟩ := List.mem_map.mp h1
  exact ⟨x, b', hx, h2, h3⟩
/-! ### leaves -/
def PsOk (P : List Int) : Prop := P ≠ [] ∧ P.length ≤ 1000 ∧ ∀ q ∈ P, ∃ p : Nat, q = (p : Nat) ∧ 2 ≤ p ∧ p ≤ 7
theorem ps_ok {P : List Int} (h1 : P ≠ []) (h2 : P.length ≤ 1000) (h3 : (P.all fun q => decide (2 ≤ q) && decide (q ≤ 7)) = true) : PsOk P := ⟨h1, h2, fun q hq => ⟨q.toNat, by
  have := List.all_eq_true.mp h3 q hq
  simp only [Bool.and_eq_true, decide_eq_true_eq] at this
  omega⟩⟩
theorem g_min2 {ρ : Sl} {m : Mm} {i j : Int} : gMin2 ρ m [.int i, .int j] = .ok (.v (.int (if j < i then j else i))) m := rfl
theorem l_leaf {P : List Int} (hP : PsOk P) {b : Bag} (hb : b.Ok) {high : Nat} (h1 : 3 ≤ high) (h2 : high ≤ 59) : ∃ (l : Lf) (b' : Bag), l.Ok ∧ b'.Ok ∧ m_l_leaf [.loc 0, .int (high : Nat), .lst (Is P)] (BM b) = .ok l.enc (BM b') := by
  obtain ⟨r, b1, o1, hr, e1⟩ := pull_spec b hb 7 (by omega) (by omega)
  have hr7 : r < 7 := by omega
  have hhi : ((high : Nat) : Int) + 1 = ((high + 1 : Nat) : Int) := by omega
  by_cases h0 : r = 0
  · subst h0
    obtain ⟨lo, b2, o2, hlo, e2⟩ := pull_spec b1 o1 ((high + 1 : Nat) : Int) (by omega) (by omega)
    obtain ⟨x, b3, o3, hx, e3⟩ := pull_spec b2 o2 (((high : Nat) : Int) - ((lo : Nat) : Int) + 1) (by omega) (by omega)
    refine ⟨.age lo (lo + x), b3, ⟨by omega, by omega⟩, o3, ?_⟩
    have q1 : (((0 : Nat) : Int) == 0) = true := rfl
    have q2 : ((lo : Nat) : Int) + ((x : Nat) : Int) = ((lo + x : Nat) : Int) := by omega
    rw [u_l_leaf, Lf.enc]
    exists "ev", sx1_l_leaf_e, sx2_l_leaf_e, sx3_l_leaf_e, sx4_l_leaf_e, sx5_l_leaf_e, sx6_l_leaf_e, sx7_l_leaf_e, b_l_leaf_e, e1, q1, hhi, e2, e3, q2
  · have q1 : (((r : Nat) : Int) == 0) = false := by rw [beq_eq_false_iff_ne]; omega
    by_cases hA : r = 1
    · subst hA
      obtain ⟨q, b2, hq, o2, e2⟩ := any_is o1 (S := P) hP.1 hP.2.1
      obtain ⟨p, rfl, hp2, hp7⟩ := hP.2.2 _ hq
      obtain ⟨x, b3, o3, hx, e3⟩ := pull_spec b2 o2 ((p : Nat) : Int) (by omega) (by omega)
      refine ⟨.day p x, b3, ⟨hp2, hp7, by omega⟩, o3, ?_⟩
      have q2 : (((1 : Nat) : Int) == 1) = true := rfl
      rw [u_l_leaf, Lf.enc]
      exists "ev", sx1_l_leaf_e, sx2_l_leaf_e, sx3_l_leaf_e, sx4_l_leaf_e, sx5_l_leaf_e, sx6_l_leaf_e, sx7_l_leaf_e, b_l_leaf_e, e1, q1, q2, e2, e3
    · have q2 : (((r : Nat) : Int) == 1) = false := by rw [beq_eq_false_iff_ne]; omega
      by_cases hB : r < 4
      · have q3 : decide (((r : Nat) : Int) < 4) = true := decide_eq_true (by omega)
        obtain ⟨k, hk⟩ : ∃ k : Int, (if ((high + 1 : Nat) : Int) < 20 then ((high + 1 : Nat) : Int) else 20) = k := ⟨_, rfl⟩
        have hk1 : 1 ≤ k ∧ k ≤ 20 := by rw [← hk]; split <;> omega
        obtain ⟨x, b3, o3, hx, e3⟩ := pull_spec b1 o1 k (by omega) (by omega)
        have q5 : (1 : Int) + ((x : Nat) : Int) = ((1 + x : Nat) : Int) := by omega
        by_cases hC : r = 2
        · refine ⟨.one .newest (1 + x), b3, ⟨by simp only [W5.lo]; omega, by simp only [W5.hi]; omega⟩, o3, ?_⟩
          subst hC
          have q4 : atI [Dv.str "newest", Dv.str "oldest"] (((2 : Nat) : Int) - 2) = some (.str "newest") := rfl
          rw [u_l_leaf, Lf.enc]
          exists "ev", sx1_l_leaf_e, sx2_l_leaf_e, sx3_l_leaf_e, sx4_l_leaf_e, sx5_l_leaf_e, sx6_l_leaf_e, sx7_l_leaf_e, b_l_leaf_e, e1, q1, q2, q3, q4, hhi, g_min2, hk, e3, q5
          rfl
        · have : r = 3 := by omega
          refine ⟨.one .oldest (1 + x), b3, ⟨by simp only [W5.lo]; omega, by simp only [W5.hi]; omega⟩, o3, ?_⟩
          subst this
          have q4 : atI [Dv.str "newest", Dv.str "oldest"] (((3 : Nat) : Int) - 2) = some (.str "oldest") := rfl
          rw [u_l_leaf, Lf.enc]
          exists "ev", sx1_l_leaf_e, sx2_l_leaf_e, sx3_l_leaf_e, sx4_l_leaf_e, sx5_l_leaf_e, sx6_l_leaf_e, sx7_l_leaf_e, b_l_leaf_e, e1, q1, q2, q3, q4, hhi, g_min2, hk, e3, q5
          rfl
      · have q3 : decide (((r : Nat) : Int) < 4) = false := decide_eq_false (by omega)
        by_cases hD : r < 6
        · have q4 : decide (((r : Nat) : Int) < 6) = true := decide_eq_true (by omega)
          obtain ⟨q, b2, hq, o2, e2⟩ := any_is o1 (S := P) hP.1 hP.2.1
          obtain ⟨p, rfl, hp2, hp7⟩ := hP.2.2 _ hq
          by_cases hC : r = 4
          · refine ⟨.one .first p, b2, ⟨hp2, hp7⟩, o2, ?_⟩
            subst hC
            have q5 : atI [Dv.str "first", Dv.str "last"] (((4 : Nat) : Int) - 4) = some (.str "first") := rfl
            rw [u_l_leaf, Lf.enc]
            exists "ev", sx1_l_leaf_e, sx2_l_leaf_e, sx3_l_leaf_e, sx4_l_leaf_e, sx5_l_leaf_e, sx6_l_leaf_e, sx7_l_leaf_e, b_l_leaf_e, e1, q1, q2, q3, q4, q5, e2
            rfl
          · have : r = 5 := by omega
            refine ⟨.one .last p, b2, ⟨hp2, hp7⟩, o2, ?_⟩
            subst this
            have q5 : atI [Dv.str "first", Dv.str "last"] (((5 : Nat) : Int) - 4) = some (.str "last") := rfl
            rw [u_l_leaf, Lf.enc]
            exists "ev", sx1_l_leaf_e, sx2_l_leaf_e, sx3_l_leaf_e, sx4_l_leaf_e, sx5_l_leaf_e, sx6_l_leaf_e, sx7_l_leaf_e, b_l_leaf_e, e1, q1, q2, q3, q4, q5, e2
            rfl
        · have q4 : decide (((r : Nat) : Int) < 6) = false := decide_eq_false (by omega)
          obtain ⟨k, hk⟩ : ∃ k : Int, (if ((high + 1 : Nat) : Int) < 19 then ((high + 1 : Nat) : Int) else 19) = k := ⟨_, rfl⟩
          have hk1 : 1 ≤ k ∧ k ≤ 19 := by rw [← hk]; split <;> omega
          obtain ⟨x, b3, o3, hx, e3⟩ := pull_spec b1 o1 k (by omega) (by omega)
          have q5 : (2 : Int) + ((x : Nat) : Int) = ((2 + x : Nat) : Int) := by omega
          refine ⟨.one .apart (2 + x), b3, ⟨by simp only [W5.lo]; omega, by simp only [W5.hi]; omega⟩, o3, ?_⟩
          rw [u_l_leaf, Lf.enc]
          exists "ev", sx1_l_leaf_e, sx2_l_leaf_e, sx3_l_leaf_e, sx4_l_leaf_e, sx5_l_leaf_e, sx6_l_leaf_e, sx7_l_leaf_e, b_l_leaf_e, e1, q1, q2, q3, q4, hhi, g_min2, hk, e3, q5
          rfl
end G

set_option Elab.async false
set_option linter.all false
set_option autoImplicit false
set_option maxRecDepth 100000
set_option maxHeartbeats 4000000
namespace G
open PySem L2 M3 SX
theorem lp12 {t : CT} (h : t.parts ≤ 12) (m : Mm) : m_l_parts [enc t] m = .ok (.int (t.parts : Nat)) m := l_parts 12 h
def kTu (m : Mm) : Option (List Dv) → Rs Ar
  | some ds => if ds.length ≤ sizeLine then .ok (.v (.tup ds)) m else .no
  | none => .no
theorem g_tup_b {ρ : Sl} {m : Mm} {k : Nat} : gTuple ρ m (.b k) = kTu m (kOL ρ[k]?) := by
  unfold gTuple kTu
  rw [lo_b]
  all_goals (cases kOL ρ[k]? <;> rfl)
theorem kTu_some {m : Mm} {ds : List Dv} (h : ds.length ≤ 16777216) : kTu m (some ds) = .ok (.v (.tup ds)) m := if_pos h
theorem tup_2 {ρ : Sl} {m : Mm} {a b : Dv} : gTuple ρ m (.v (.lst [a, b])) = .ok (.v (.tup [a, b])) m := g_tup_l (by simp)
theorem l_tree {P : List Int} (hP : PsOk P) {high : Nat} (hh1 : 3 ≤ high) (hh2 : high ≤ 59) : ∀ (n : Nat) {b : Bag}, b.Ok → ∀ {room : Nat}, 1 ≤ room → room ≤ n → n ≤ 12 → ∃ (t : CT) (b' : Bag), t.Ok ∧ t.parts ≤ room ∧ b'.Ok ∧ mf_l_tree n [.loc 0, .int (room : Nat), .int (high : Nat), .lst (Is P)] (BM b) = .ok (enc t) (BM b')
  | 0, b, hb, room, h1, h2, _ => by omega
  | n + 1, b, hb, room, h1, h2, h12 => by
    have tail : ∀ (way : Nat) {b : Bag}, b.Ok → way < 6 → (way = 0 ∨ 2 ≤ room) → ∃ (t : CT) (b' : Bag), t.Ok ∧ t.parts ≤ room ∧ b'.Ok ∧ (sx6_l_tree (mf_l_tree n) [.val (.loc 0), .val (.int (room : Nat)), .val (.int (high : Nat)), .val (.lst (Is P)), .val (.int (way : Nat)), .un, .un] (BM b)).fin = .ok (enc t) (BM b') := by
      intro way b hb hw6 hw
      have e1 : ((room : Nat) : Int) - 1 = ((room - 1 : Nat) : Int) := by omega
      by_cases hA : way < 2
      · obtain ⟨l, b1, ho, o1, e⟩ := l_leaf hP hb hh1 hh2
        refine ⟨.lf l, b1, ho, by simp only [CT.parts]; omega, o1, ?_⟩
        have q1 : decide (((way : Nat) : Int) < 2) = true := decide_eq_true (by omega)
        exists "ev", sx1_l_tree_e, sx2_l_tree_e, sx3_l_tree_e, sx4_l_tree_e, sx5_l_tree_e, sx6_l_tree_e, b_l_tree_e, q1, e, enc
      · have q1 : decide (((way : Nat) : Int) < 2) = false := decide_eq_false (by omega)
        by_cases hB : 2 < way ∧ room < 3
        · obtain ⟨l, b1, ho, o1, e⟩ := l_leaf hP hb hh1 hh2
          refine ⟨.lf l, b1, ho, by simp only [CT.parts]; omega, o1, ?_⟩
          have q2 : decide (((2 : Int)) < ((way : Nat) : Int)) = true := decide_eq_true (by omega)
          have q3 : decide (((room : Nat) : Int) < 3) = true := decide_eq_true (by omega)
          exists "ev", sx1_l_tree_e, sx2_l_tree_e, sx3_l_tree_e, sx4_l_tree_e, sx5_l_tree_e, sx6_l_tree_e, b_l_tree_e, q1, q2, q3, e, enc
        · by_cases hC : way = 2
          · subst hC
            obtain ⟨t, b1, ho, hp, o1, e⟩ := l_tree hP hh1 hh2 n hb (room := room - 1) (by omega) (by omega) (by omega)
            refine ⟨.neg t, b1, ho, by simp only [CT.parts]; omega, o1, ?_⟩
            have q2 : decide ((2 : Int) < ((2 : Nat) : Int)) = false := rfl
            have q3 : (((2 : Nat) : Int) == 2) = true := rfl
            exists "ev", sx1_l_tree_e, sx2_l_tree_e, sx3_l_tree_e, sx4_l_tree_e, sx5_l_tree_e, sx6_l_tree_e, b_l_tree_e, q1, q2, q3, e1, e, enc
          · have q2 : decide ((2 : Int) < ((way : Nat) : Int)) = true := decide_eq_true (by omega)
            have q3 : decide (((room : Nat) : Int) < 3) = false := decide_eq_false (by omega)
            have q4 : (((way : Nat) : Int) == 2) = false := by rw [beq_eq_false_iff_ne]; omega
            have e2 : ((room - 1 : Nat) : Int) / 2 = (((room - 1) / 2 : Nat) : Int) := by omega
            obtain ⟨t, b1, ho1, hp1, o1, f1⟩ := l_tree hP hh1 hh2 n hb (room := (room - 1) / 2) (by omega) (by omega) (by omega)
            have e3 : ((room - 1 : Nat) : Int) - ((t.parts : Nat) : Int) = ((room - 1 - t.parts : Nat) : Int) := by omega
            obtain ⟨u, b2, ho2, hp2, o2, f2⟩ := l_tree hP hh1 hh2 n o1 (room := room - 1 - t.parts) (by omega) (by omega) (by omega)
            have r1 := lp12 (t := t) (by omega)
            have r2 := lp12 (t := u) (by omega)
            obtain ⟨bb, q5⟩ : ∃ bb : Bool, atI [Dv.str "all", Dv.str "any", Dv.str "any"] (((way : Nat) : Int) - 3) = some (.str (jS bb)) := by
              by_cases h3 : way = 3
              · subst h3; exact ⟨true, rfl⟩
              · by_cases h4 : way = 4
                · subst h4; exact ⟨false, rfl⟩
                · have : way = 5 := by omega
                  subst this; exact ⟨false, rfl⟩
            have e4 : (1 : Int) + ((t.parts : Nat) : Int) + ((u.parts : Nat) : Int) = ((1 + (t.parts + u.parts) : Nat) : Int) := by omega
            by_cases hD : 1 + (t.parts + u.parts) < room
            · have q6 : decide (((1 + (t.parts + u.parts) : Nat) : Int) < ((room : Nat) : Int)) = true := decide_eq_true (by omega)
              obtain ⟨x, b3, o3, hx, f3⟩ := pull_spec b2 o2 2 (by omega) (by omega)
              by_cases hx0 : x = 0
              · obtain ⟨l, b4, ho4, o4, f4⟩ := l_leaf hP o3 hh1 hh2
                refine ⟨.j3 bb t u (.lf l), b4, ⟨ho1, ho2, ho4⟩, by simp only [CT.parts]; omega, o4, ?_⟩
                have q7 : (((x : Nat) : Int) == 0) = true := by rw [beq_iff_eq]; omega
                exists "ev", sx1_l_tree_e, sx2_l_tree_e, sx3_l_tree_e, sx4_l_tree_e, sx5_l_tree_e, sx6_l_tree_e, b_l_tree_e, q1, q2, q3, q4, e1, e2, f1, r1, e3, f2, at_1, r2, e4, q6, f3, q7, f4, q5, mutK_ap, List.cons_append, List.nil_append, enc, g_tup_b, kTu_some
              · refine ⟨.j2 bb t u, b3, ⟨ho1, ho2⟩, by simp only [CT.parts]; omega, o3, ?_⟩
                have q7 : (((x : Nat) : Int) == 0) = false := by rw [beq_eq_false_iff_ne]; omega
                exists "ev", sx1_l_tree_e, sx2_l_tree_e, sx3_l_tree_e, sx4_l_tree_e, sx5_l_tree_e, sx6_l_tree_e, b_l_tree_e, q1, q2, q3, q4, e1, e2, f1, r1, e3, f2, at_1, r2, e4, q6, f3, q7, q5, mutK_ap, List.cons_append, List.nil_append, enc, g_tup_b, kTu_some
            · have q6 : decide (((1 + (t.parts + u.parts) : Nat) : Int) < ((room : Nat) : Int)) = false := decide_eq_false (by omega)
              refine ⟨.j2 bb t u, b2, ⟨ho1, ho2⟩, by simp only [CT.parts]; omega, o2, ?_⟩
              exists "ev", sx1_l_tree_e, sx2_l_tree_e, sx3_l_tree_e, sx4_l_tree_e, sx5_l_tree_e, sx6_l_tree_e, b_l_tree_e, q1, q2, q3, q4, e1, e2, f1, r1, e3, f2, at_1, r2, e4, q6, q5, mutK_ap, List.cons_append, List.nil_append, enc, g_tup_b, kTu_some
    rw [u_l_tree]
    by_cases hr : 1 < room
    · have q1 : decide ((1 : Int) < ((room : Nat) : Int)) = true := decide_eq_true (by omega)
      obtain ⟨w, b1, o1, hw, e⟩ := pull_spec b hb 6 (by omega) (by omega)
      obtain ⟨t, b2, ho, hp, o2, f⟩ := tail w o1 (by omega) (.inr (by omega))
      refine ⟨t, b2, ho, hp, o2, ?_⟩
      rw [← f]
      exists "ev", b_l_tree_e, q1, e
    · have q1 : decide ((1 : Int) < ((room : Nat) : Int)) = false := decide_eq_false (by omega)
      obtain ⟨t, b2, ho, hp, o2, f⟩ := tail 0 hb (by omega) (.inl rfl)
      refine ⟨t, b2, ho, hp, o2, ?_⟩
      rw [← f]
      exists "ev", b_l_tree_e, q1
      rfl
end G

set_option Elab.async false
set_option linter.all false
set_option autoImplicit false
set_option maxRecDepth 100000
set_option maxHeartbeats 4000000
namespace G
open PySem L2 M3 SX
/-! ### the law's periods: a multiple by steps -/
theorem shared_loop {a b : Nat} (ha : 1 ≤ a) (hb : 1 ≤ b) (hb2 : b ≤ 100000) {m : Mm} : ∀ (n k : Nat), k * a ≤ Nat.lcm a b → 1 ≤ k → Nat.lcm a b < (k + n) * a →
    whileN wt1_l_shared wb1_l_shared n [.val (.int (a : Nat)), .val (.int (b : Nat)), .val (.int (k * a : Nat))] m = .nx [.val (.int (a : Nat)), .val (.int (b : Nat)), .val (.int (Nat.lcm a b : Nat))] m
  | 0, k, h, hk, hn => by rw [Nat.add_zero] at hn; omega
  | n + 1, k, h, hk, hn => by
    rw [e_while]
    have e0 : ((k * a : Nat) : Int) % ((b : Nat) : Int) = ((k * a % b : Nat) : Int) := rfl
    by_cases hd : k * a % b = 0
    · have hdv : b ∣ k * a := Nat.dvd_of_mod_eq_zero hd
      have hl : Nat.lcm a b ∣ k * a := Nat.lcm_dvd ⟨k, Nat.mul_comm _ _⟩ hdv
      have hpos : 0 < k * a := Nat.mul_pos hk ha
      have he : k * a = Nat.lcm a b := Nat.le_antisymm h (Nat.le_of_dvd hpos hl)
      have q : (((k * a % b : Nat) : Int) == 0) = true := by rw [hd]; rfl
      rw [← he]
      exists "ev", wt1_l_shared_e, wb1_l_shared_e, sx1_l_shared_e, sx2_l_shared_e, b_l_shared_e, g_int1, e0, q
    · have q : (((k * a % b : Nat) : Int) == 0) = false := by rw [beq_eq_false_iff_ne]; omega
      have hne : k * a ≠ Nat.lcm a b := fun e => hd (Nat.mod_eq_zero_of_dvd (e ▸ Nat.dvd_lcm_right a b))
      obtain ⟨c, hc⟩ : a ∣ Nat.lcm a b := Nat.dvd_lcm_left a b
      have hlt : k * a < Nat.lcm a b := by omega
      have hkc : k < c := by
        rw [hc, Nat.mul_comm a c] at hlt
        exact Nat.lt_of_mul_lt_mul_right hlt
      have h' : (k + 1) * a ≤ Nat.lcm a b := by
        rw [hc, Nat.mul_comm a c]
        exact Nat.mul_le_mul_right a hkc
      have ih := shared_loop ha hb hb2 (m := m) n (k + 1) h' (by omega) (by rw [show k + 1 + n = k + (n + 1) by omega]; exact hn)
      have e1 : ((k * a : Nat) : Int) + ((a : Nat) : Int) = (((k + 1) * a : Nat) : Int) := by rw [Nat.add_mul, Nat.one_mul]; omega
      exists "ev", wt1_l_shared_e, wb1_l_shared_e, sx1_l_shared_e, sx2_l_shared_e, b_l_shared_e, g_int1, e0, q, e1, ih
theorem l_shared {a b : Nat} (ha : 1 ≤ a) (hb : 1 ≤ b) (hb2 : b ≤ 100000) {m : Mm} : m_l_shared [.int (a : Nat), .int (b : Nat)] m = .ok (.int (Nat.lcm a b : Nat)) m := by
  have h1 : 1 * a ≤ Nat.lcm a b := by
    rw [Nat.one_mul]
    exact Nat.le_of_dvd (Nat.lcm_pos ha hb) (Nat.dvd_lcm_left a b)
  have h2 : Nat.lcm a b < (1 + 1000000) * a := by
    have h : Nat.lcm a b ≤ a * b := Nat.le_of_dvd (Nat.mul_pos ha hb) (Nat.lcm_dvd ⟨b, rfl⟩ ⟨a, Nat.mul_comm _ _⟩)
    have h' : a * b ≤ a * 100000 := Nat.mul_le_mul_left a hb2
    omega
  have h := shared_loop ha hb hb2 (m := m) 1000000 1 h1 (Nat.le_refl 1) h2
  rw [Nat.one_mul] at h
  rw [u_l_shared]
  exists "ev", wt1_l_shared_e, wb1_l_shared_e, sx1_l_shared_e, sx2_l_shared_e, b_l_shared_e, h
theorem l_period : ∀ {t : CT} {m : Mm} (n : Nat), t.Ok → t.parts ≤ n → mf_l_period n [enc t] m = .ok (.int (t.per : Nat)) m
  | .lf (.age a b), m, n, ho, h => by
    obtain ⟨k, rfl⟩ : ∃ k, n = k + 1 := ⟨n - 1, by simp only [CT.parts] at h; omega⟩
    have i := fun m => l_inner (.lf (.age a b)) (m := m)
    simp only [enc, Lf.enc, ch, List.map_nil] at i ⊢
    rw [u_l_period]
    exists "ev", lp1_l_period_e, sx1_l_period_e, sx2_l_period_e, b_l_period_e, i, in_dfl, dfl_age
    rfl
  | .lf (.day a b), m, n, ho, h => by
    obtain ⟨k, rfl⟩ : ∃ k, n = k + 1 := ⟨n - 1, by simp only [CT.parts] at h; omega⟩
    have i := fun m => l_inner (.lf (.day a b)) (m := m)
    simp only [enc, Lf.enc, ch, List.map_nil] at i ⊢
    rw [u_l_period]
    exists "ev", lp1_l_period_e, sx1_l_period_e, sx2_l_period_e, b_l_period_e, i, in_dfl, dfl_day
    rfl
  | .lf (.one w q), m, n, ho, h => by
    obtain ⟨k, rfl⟩ : ∃ k, n = k + 1 := ⟨n - 1, by simp only [CT.parts] at h; omega⟩
    have i := fun m => l_inner (.lf (.one w q)) (m := m)
    simp only [enc, Lf.enc, ch, List.map_nil] at i ⊢
    rw [u_l_period]
    cases w <;> (exists "ev", lp1_l_period_e, sx1_l_period_e, sx2_l_period_e, b_l_period_e, i, in_dfl, dfl_st, W5.fl; rfl)
  | .neg t, m, n, ho, h => by
    have hp : t.parts + 1 ≤ n := by simp only [CT.parts] at h; omega
    obtain ⟨k, rfl⟩ : ∃ k, n = k + 1 := ⟨n - 1, by omega⟩
    have ih := fun m => l_period (t := t) (m := m) k ho (by omega)
    have i := fun m => l_inner (.neg t) (m := m)
    have b1 := dvd_bnd (per_dvd (t := t) ho)
    have c1 : ∀ m, m_l_shared [.int 1, .int (t.per : Nat)] m = .ok (.int (Nat.lcm 1 t.per : Nat)) m := fun m => l_shared (a := 1) (b := t.per) (m := m) (by omega) (by omega) (by omega)
    simp only [enc, ch, List.map_nil, List.map_cons] at i ⊢
    rw [u_l_period]
    exists "ev", lp1_l_period_e, sx1_l_period_e, sx2_l_period_e, b_l_period_e, i, in_dfl, dfl_not, e_forC, e_forN, ih, c1
    rfl
  | .j2 b t u, m, n, ho, h => by
    have hp : t.parts + u.parts + 1 ≤ n := by simp only [CT.parts] at h; omega
    obtain ⟨k, rfl⟩ : ∃ k, n = k + 1 := ⟨n - 1, by omega⟩
    have ih1 := fun m => l_period (t := t) (m := m) k ho.1 (by omega)
    have ih2 := fun m => l_period (t := u) (m := m) k ho.2 (by omega)
    have i := fun m => l_inner (.j2 b t u) (m := m)
    have b1 := dvd_bnd (per_dvd (t := t) ho.1)
    have b2 := dvd_bnd (per_dvd (t := u) ho.2)
    have b3 := dvd_bnd (Nat.lcm_dvd ⟨420, rfl⟩ (per_dvd (t := t) ho.1) : Nat.lcm 1 t.per ∣ 420)
    have c1 : ∀ m, m_l_shared [.int 1, .int (t.per : Nat)] m = .ok (.int (Nat.lcm 1 t.per : Nat)) m := fun m => l_shared (a := 1) (b := t.per) (m := m) (by omega) (by omega) (by omega)
    have c2 := fun m => l_shared (a := Nat.lcm 1 t.per) (b := u.per) (m := m) (by omega) (by omega) (by omega)
    simp only [enc, ch, List.map_nil, List.map_cons] at i ⊢
    rw [u_l_period]
    exists "ev", lp1_l_period_e, sx1_l_period_e, sx2_l_period_e, b_l_period_e, i, in_dfl, dfl_jS, e_forC, e_forN, ih1, ih2, c1, c2
    rfl
  | .j3 b t u v, m, n, ho, h => by
    have hp : t.parts + u.parts + v.parts + 1 ≤ n := by simp only [CT.parts] at h; omega
    obtain ⟨k, rfl⟩ : ∃ k, n = k + 1 := ⟨n - 1, by omega⟩
    have ih1 := fun m => l_period (t := t) (m := m) k ho.1 (by omega)
    have ih2 := fun m => l_period (t := u) (m := m) k ho.2.1 (by omega)
    have ih3 := fun m => l_period (t := v) (m := m) k ho.2.2 (by omega)
    have i := fun m => l_inner (.j3 b t u v) (m := m)
    have b1 := dvd_bnd (per_dvd (t := t) ho.1)
    have b2 := dvd_bnd (per_dvd (t := u) ho.2.1)
    have b4 := dvd_bnd (per_dvd (t := v) ho.2.2)
    have b3 := dvd_bnd (Nat.lcm_dvd ⟨420, rfl⟩ (per_dvd (t := t) ho.1) : Nat.lcm 1 t.per ∣ 420)
    have b5 := dvd_bnd (Nat.lcm_dvd (Nat.lcm_dvd ⟨420, rfl⟩ (per_dvd (t := t) ho.1)) (per_dvd (t := u) ho.2.1) : Nat.lcm (Nat.lcm 1 t.per) u.per ∣ 420)
    have c1 : ∀ m, m_l_shared [.int 1, .int (t.per : Nat)] m = .ok (.int (Nat.lcm 1 t.per : Nat)) m := fun m => l_shared (a := 1) (b := t.per) (m := m) (by omega) (by omega) (by omega)
    have c2 := fun m => l_shared (a := Nat.lcm 1 t.per) (b := u.per) (m := m) (by omega) (by omega) (by omega)
    have c3 := fun m => l_shared (a := Nat.lcm (Nat.lcm 1 t.per) u.per) (b := v.per) (m := m) (by omega) (by omega) (by omega)
    simp only [enc, ch, List.map_nil, List.map_cons] at i ⊢
    rw [u_l_period]
    exists "ev", lp1_l_period_e, sx1_l_period_e, sx2_l_period_e, b_l_period_e, i, in_dfl, dfl_jS, e_forC, e_forN, ih1, ih2, ih3, c1, c2, c3
    rfl
/-! ### conditions as objects -/
theorem pure_encL (l : Lf) : pureD l.enc = true := by cases l <;> rfl
theorem pure_enc : ∀ t : CT, pureD (enc t) = true
  | .lf l => pure_encL l
  | .neg t => by
    show (true && (pureD (enc t) && true)) = true
    rw [pure_enc t]; rfl
  | .j2 b t u => by
    show (true && ((pureD (enc t) && (pureD (enc u) && true)) && true)) = true
    rw [pure_enc t, pure_enc u]; rfl
  | .j3 b t u v => by
    show (true && ((pureD (enc t) && (pureD (enc u) && (pureD (enc v) && true))) && true)) = true
    rw [pure_enc t, pure_enc u, pure_enc v]; rfl
theorem pure_cF (t : CT) : pureO (.ins "Condition" (cFs t)) = true := by
  show (true && (pureD (enc t) && (true && (true && true)))) = true
  rw [pure_enc t]; rfl
theorem cond_make {t : CT} (ho : t.Ok) (hp : t.parts ≤ 8) (m : Mm) : mkEnd m (m_Condition_DinitD [.loc 0, .str (S (tx t))] [some (.ins "Condition" [])]) = .ok (.ins "Condition" (cFs t)) m := by
  rw [cond_init ho hp]; exact mkEnd_ok (pure_cF t)
theorem c_text {t : CT} {m : Mm} : m_Condition_text [CD t] m = .ok (.str (S (tx t))) m := by
  rw [u_Condition_text]
  exists "ev", b_Condition_text_e, cFs, lk_Condition_own_text
theorem c_tree {t : CT} {m : Mm} : m_Condition_tree [CD t] m = .ok (enc t) m := by
  rw [u_Condition_tree]
  exists "ev", b_Condition_tree_e, cFs, lk_Condition_own_tree
theorem c_parts {t : CT} {m : Mm} : m_Condition_parts [CD t] m = .ok (.int (t.parts : Nat)) m := by
  rw [u_Condition_parts]
  exists "ev", b_Condition_parts_e, cFs, lk_Condition_own_parts
theorem c_period {t : CT} {m : Mm} : m_Condition_period [CD t] m = .ok (.int (t.per : Nat)) m := by
  rw [u_Condition_period]
  exists "ev", b_Condition_period_e, cFs, lk_Condition_own_period
theorem c_eq {t u : CT} {m : Mm} : m_Condition_DeqD [CD t, CD u] m = .ok (.bl (S (tx t) == S (tx u))) m := by
  rw [u_Condition_DeqD]
  exists "ev", b_Condition_DeqD_e, k_Condition, cFs, lk_Condition_own_text
theorem c_eqs {t : CT} {z : Str} {m : Mm} : m_Condition_DeqD [CD t, .str z] m = .ok (.bl false) m := by
  rw [u_Condition_DeqD]
  exists "ev", b_Condition_DeqD_e, k_Condition, cFs
def rpT (t : CT) : Str := S ([67,111,110,100,105,116,105,111,110,40] ++ tx t ++ [41])
theorem c_repr {t : CT} (ho : t.Ok) (hp : t.parts ≤ 8) {m : Mm} : m_Condition_DreprD [CD t] m = .ok (.str (rpT t)) m := by
  have hl := tx_len ho
  have h0 : (("Condition(" : Str)) = S [67,111,110,100,105,116,105,111,110,40] := by decide +kernel
  have h1 : ((")" : Str)) = S [41] := by decide +kernel
  have e0 : Str.empty ++ S [67,111,110,100,105,116,105,111,110,40] = S [67,111,110,100,105,116,105,111,110,40] := by rw [show Str.empty = S [] from rfl, S_cat]; rfl
  have l1 : (S [67,111,110,100,105,116,105,111,110,40]).length ≤ 16777216 := by rw [S_len]; decide
  have l0 : (Str.empty ++ S [67,111,110,100,105,116,105,111,110,40]).length ≤ 16777216 := by rw [e0]; exact l1
  have l2 : (S (tx t)).length ≤ 16777216 := by rw [S_len]; omega
  have l3 : (S [67,111,110,100,105,116,105,111,110,40] ++ S (tx t)).length ≤ 16777216 := by
    rw [S_cat, S_len]; simp only [List.length_append, List.length_cons, List.length_nil]; omega
  have l4 : (S [67,111,110,100,105,116,105,111,110,40] ++ S (tx t) ++ S [41]).length ≤ 16777216 := by
    rw [S_cat, S_cat, S_len]; simp only [List.length_append, List.length_cons, List.length_nil]; omega
  rw [u_Condition_DreprD]
  exists "ev", b_Condition_DreprD_e, cFs, lk_Condition_own_text, h0, h1, e0
  rw [S_cat, S_cat]; rfl
end G

set_option Elab.async false
set_option linter.all false
set_option autoImplicit false
set_option maxRecDepth 100000
set_option maxHeartbeats 4000000
namespace G
open PySem L2 M3 SX
theorem opened (ns : List Int) (h : ns.length ≤ 63) : ∃ b : Bag, b.Ok ∧ m_l_opened [.scr ns] [] = .ok (.loc 0) (BM b) := by
  refine ⟨⟨ns, 0, 0, 5794, 0⟩, ⟨by show (0 : Int) ≤ 0; omega, by show (0 : Int) ≤ 0; omega, by show (0 : Int) ≤ 5794; omega, by show (5794 : Int) < 2147483579; omega, h⟩, ?_⟩
  rw [u_l_opened]
  have hl : ns.length ≤ 16777216 := by omega
  have hcut : cutD (ns.map Dv.int) none (some 63) = ns.map Dv.int := by
    have := cut_take (ds := ns.map Dv.int) (k := 63)
    rw [List.take_of_length_le (by rw [List.length_map]; exact h)] at this
    exact this
  exists "ev", b_l_opened_e, hcut, e_loc, kLo_ok, BM, bagO, List.nil_append
/-! ### like of trees -/
theorem lk_lf (l : Lf) (n : Nat) : lkD (n + 1) l.enc = true := by
  cases l <;> (cases n <;> rfl)
theorem lk_enc : ∀ (t : CT) (n : Nat), t.parts ≤ n → lkD n (enc t) = true
  | .lf l, n, h => by
    obtain ⟨k, rfl⟩ : ∃ k, n = k + 1 := ⟨n - 1, by simp only [CT.parts] at h; omega⟩
    exact lk_lf l k
  | .neg t, n, h => by
    obtain ⟨k, rfl⟩ : ∃ k, n = k + 1 := ⟨n - 1, by simp only [CT.parts] at h; omega⟩
    have h1 := lk_enc t k (by simp only [CT.parts] at h; omega)
    have h2 : lkD k (.str "not") = true := by cases k <;> rfl
    show (decide (2 ≤ 16777216) && (lkD k (.str "not") && (lkD k (enc t) && true))) = true
    rw [h1, h2]; rfl
  | .j2 b t u, n, h => by
    have p1 := CT.parts_pos t
    have p2 := CT.parts_pos u
    obtain ⟨k, rfl⟩ : ∃ k, n = k + 2 := ⟨n - 2, by simp only [CT.parts] at h; omega⟩
    have h1 := lk_enc t k (by simp only [CT.parts] at h; omega)
    have h3 := lk_enc u k (by simp only [CT.parts] at h; omega)
    show (decide (2 ≤ 16777216) && (lkD (k + 1) (.str (jS b)) && (lkD (k + 1) (.tup [enc t, enc u]) && true))) = true
    have h4 : lkD (k + 1) (.tup [enc t, enc u]) = true := by
      show (decide (2 ≤ 16777216) && (lkD k (enc t) && (lkD k (enc u) && true))) = true
      rw [h1, h3]; rfl
    rw [h4]; rfl
  | .j3 b t u v, n, h => by
    have p1 := CT.parts_pos t
    have p2 := CT.parts_pos u
    obtain ⟨k, rfl⟩ : ∃ k, n = k + 2 := ⟨n - 2, by simp only [CT.parts] at h; omega⟩
    have h1 := lk_enc t k (by simp only [CT.parts] at h; omega)
    have h2 := lk_enc u k (by simp only [CT.parts] at h; omega)
    have h3 := lk_enc v k (by simp only [CT.parts] at h; omega)
    show (decide (2 ≤ 16777216) && (lkD (k + 1) (.str (jS b)) && (lkD (k + 1) (.tup [enc t, enc u, enc v]) && true))) = true
    have h4 : lkD (k + 1) (.tup [enc t, enc u, enc v]) = true := by
      show (decide (3 ≤ 16777216) && (lkD k (enc t) && (lkD k (enc u) && (lkD k (enc v) && true)))) = true
      rw [h1, h2, h3]; rfl
    rw [h4]; rfl
theorem ps27 : PsOk [2, 3, 4, 5, 6, 7] := ps_ok (by simp) (by simp) (by decide)
theorem ps23 : PsOk [2, 3] := ps_ok (by simp) (by simp) (by decide)
theorem cond_make1 {t : CT} (ho : t.Ok) (hp : t.parts ≤ 8) (m : Mm) : mkEnd m (m_Condition_DinitD_1_text [.loc 0, .str (S (tx t))] [some (.ins "Condition" [])]) = .ok (.ins "Condition" (cFs t)) m := cond_make ho hp m
theorem turn {ns : List Int} {b : Bag} (hb : b.Ok) {i : Int} {c3 c4 c5 c6 c7 c8 c9 : Cell} : ∃ (b' : Bag) (c3' c4' c5' c6' c7' c8' c9' : Cell), b'.Ok ∧
    lp1_law [.val (.scr ns), .val (.loc 0), .val (.int i), c3, c4, c5, c6, c7, c8, c9] (BM b) = .nx [.val (.scr ns), .val (.loc 0), .val (.int i), c3', c4', c5', c6', c7', c8', c9'] (BM b') := by
  obtain ⟨r, b1, o1, hr, e1⟩ := pull_spec b hb 8 (by omega) (by omega)
  have q1 : (1 : Int) + ((r : Nat) : Int) = ((1 + r : Nat) : Int) := by omega
  obtain ⟨t, b2, ho, hp, o2, e2⟩ := l_tree ps27 (high := 59) (by omega) (by omega) 12 o1 (room := 1 + r) (by omega) (by omega) (by omega)
  have e2 : m_l_tree [.loc 0, .int ((1 + r : Nat) : Int), .int 59, .lst [.int 2, .int 3, .int 4, .int 5, .int 6, .int 7]] (BM b1) = .ok (enc t) (BM b2) := e2
  obtain ⟨u, b3, hou, hpu, o3, e3⟩ := l_tree ps23 (high := 3) (by omega) (by omega) 12 o2 (room := 2) (by omega) (by omega) (by omega)
  have e3 : m_l_tree [.loc 0, .int 2, .int 3, .lst [.int 2, .int 3]] (BM b2) = .ok (enc u) (BM b3) := e3
  have hp8 : t.parts ≤ 8 := by omega
  have hu8 : u.parts ≤ 8 := by omega
  have e4 : ∀ m, m_l_text [enc t] m = .ok (.str (S (tx t))) m := fun m => l_text 12 ho (by omega) (by omega)
  have e5 : ∀ m, m_l_text [enc u] m = .ok (.str (S (tx u))) m := fun m => l_text 12 hou (by omega) (by omega)
  have e6 := cond_make ho hp8
  have e7 := cond_make hou hu8
  have e8 := cond_make1 ho hp8
  have pt : pureL [Dv.str (S (tx t))] = true := rfl
  have pu : pureL [Dv.str (S (tx u))] = true := rfl
  have a1 := fun m => c_text (t := t) (m := m)
  have a2 := fun m => c_tree (t := t) (m := m)
  have a3 := fun m => c_parts (t := t) (m := m)
  have a4 := fun m => c_period (t := t) (m := m)
  have a5 := fun m => c_repr ho hp8 (m := m)
  have a6 := fun m => c_eq (t := t) (u := t) (m := m)
  have a7 := fun m => c_eq (t := t) (u := u) (m := m)
  have a8 := fun m => c_eqs (t := t) (z := S (tx t)) (m := m)
  have a9 : ∀ m, m_l_parts [enc t] m = .ok (.int (t.parts : Nat)) m := lp12 (by omega)
  have a10 : ∀ m, m_l_period [enc t] m = .ok (.int (t.per : Nat)) m := fun m => l_period 12 ho (by omega)
  have ht : (S (tx t) == S (tx t)) = true := by simp
  have hl := tx_len ho
  have s1 : (S [67,111,110,100,105,116,105,111,110,40]).length + (S (tx t)).length ≤ 16777216 := by rw [S_len, S_len]; simp only [List.length_cons, List.length_nil]; omega
  have s2 : (S ([67,111,110,100,105,116,105,111,110,40] ++ tx t)).length + (S [41]).length ≤ 16777216 := by rw [S_len, S_len]; simp only [List.length_append, List.length_cons, List.length_nil]; omega
  have h0 : (("Condition(" : Str)) = S [67,111,110,100,105,116,105,111,110,40] := by decide +kernel
  have h1 : ((")" : Str)) = S [41] := by decide +kernel
  have h2 : S ([67,111,110,100,105,116,105,111,110,40] ++ tx t ++ [41]) = rpT t := rfl
  have sy : (S (tx u) == S (tx t)) = (S (tx t) == S (tx u)) := by
    rw [Bool.eq_iff_iff, beq_iff_eq, beq_iff_eq]; exact ⟨Eq.symm, Eq.symm⟩
  obtain ⟨k, hk⟩ : ∃ k : Bool, (S (tx t) == S (tx u)) = k := ⟨_, rfl⟩
  have k1 : ∀ m, m_l_like [.lst [.str (S (tx t)), enc t, .int (t.parts : Nat), .int (t.per : Nat), .str (rpT t)], .lst [.str (S (tx t)), enc t, .int (t.parts : Nat), .int (t.per : Nat), .str (rpT t)]] m = .ok (.bl true) m := fun m => like_same (by
    have h1 := lk_enc t 10 (by omega)
    show (decide (5 ≤ 16777216) && (true && (lkD 10 (enc t) && (true && (true && (true && true)))))) = true
    rw [h1]; rfl)
  have k2 : ∀ m, m_l_like [.lst [.bl true, .bl k, .bl (!k), .bl false], .lst [.bl true, .bl k, .bl (!k), .bl false]] m = .ok (.bl true) m := fun m => like_same rfl
  refine ⟨b3, .val (enc t), .val (enc u), .val (.str (S (tx t))), .val (CD t), .val (.lst [.str (S (tx t)), enc t, .int (t.parts : Nat), .int (t.per : Nat), .str (rpT t)]), .val (.bl k), .val (.lst [.bl true, .bl k, .bl (!k), .bl false]), o3, ?_⟩
  generalize BM b3 = m3 at *
  exists "ev", sx1_law_e, sx2_law_e, sx3_law_e, sx4_law_e, sx5_law_e, sx6_law_e, sx7_law_e, sx8_law_e, lp1_law_e, sx9_law_e, sx10_law_e, b_law_e, e1, q1, e2, e3, e4, e5, e6, e7, e8, pt, pu, a1, a2, a3, a4, a5, a6, a7, a8, a9, a10, ht, h0, h1, S_cat, h2, sy, hk, k1, k2, List.nil_append
theorem turns {ns : List Int} : ∀ (l : List Int) {b : Bag} {c2 c3 c4 c5 c6 c7 c8 c9 : Cell}, b.Ok → ∃ (b' : Bag) (c2' c3' c4' c5' c6' c7' c8' c9' : Cell), b'.Ok ∧
    forL (mGn 2) lp1_law (Is l) [.val (.scr ns), .val (.loc 0), c2, c3, c4, c5, c6, c7, c8, c9] (BM b) = .nx [.val (.scr ns), .val (.loc 0), c2', c3', c4', c5', c6', c7', c8', c9'] (BM b')
  | [], b, c2, c3, c4, c5, c6, c7, c8, c9, hb => ⟨b, c2, c3, c4, c5, c6, c7, c8, c9, hb, rfl⟩
  | i :: l, b, c2, c3, c4, c5, c6, c7, c8, c9, hb => by
    obtain ⟨b1, d3, d4, d5, d6, d7, d8, d9, o1, e⟩ := turn (ns := ns) hb (i := i) (c3 := c3) (c4 := c4) (c5 := c5) (c6 := c6) (c7 := c7) (c8 := c8) (c9 := c9)
    obtain ⟨b', f2, f3, f4, f5, f6, f7, f8, f9, o, h⟩ := turns (ns := ns) l (c2 := .val (.int i)) (c3 := d3) (c4 := d4) (c5 := d5) (c6 := d6) (c7 := d7) (c8 := d8) (c9 := d9) o1
    refine ⟨b', f2, f3, f4, f5, f6, f7, f8, f9, o, ?_⟩
    rw [← h, show Is (i :: l) = .int i :: Is l from rfl, e_forC]
    show kF1 _ _ _ _ (some _) = _
    rw [kF1_some]
    have e : lp1_law (List.set [.val (.scr ns), .val (.loc 0), c2, c3, c4, c5, c6, c7, c8, c9] 2 (.val (.int i))) (BM b) = .nx [.val (.scr ns), .val (.loc 0), .val (.int i), d3, d4, d5, d6, d7, d8, d9] (BM b1) := e
    rw [e, kF2_nx]
abbrev t20 : CT := .lf (.one .newest 20)
theorem tx20 : S (tx t20) = ("newest 20" : Str) := by decide +kernel
theorem law_ok (ns : List Int) (h : ns.length ≤ 63) : ∃ m, m_law [.scr ns] [] = .ok (.bl true) m := by
  obtain ⟨b, o, e⟩ := opened ns h
  obtain ⟨b', d2, d3, d4, d5, d6, d7, d8, d9, o', ht⟩ := turns (ns := ns) [0, 1, 2, 3, 4] (c2 := .un) (c3 := .un) (c4 := .un) (c5 := .un) (c6 := .un) (c7 := .un) (c8 := .un) (c9 := .un) o
  refine ⟨BM b', ?_⟩
  have h5 : rngD 0 (5 : Int).toNat = Is [0, 1, 2, 3, 4] := rfl
  have ho : t20.Ok := ⟨by decide, by decide⟩
  have e6 := cond_make (t := t20) ho (by decide)
  rw [tx20] at e6
  have pt : pureL [Dv.str ("newest 20" : Str)] = true := rfl
  have a2 := fun m => c_tree (t := t20) (m := m)
  have k1 : ∀ m, m_l_like [.lst [.int 8, enc t20], .lst [.int 8, .tup [.str "newest", .int 20]]] m = .ok (.bl true) m := fun m => like_same (d := .lst [.int 8, enc t20]) rfl
  rw [u_law]
  exists "ev", b_law_e, sx10_law_e, sx9_law_e, e, h5, ht, e6, pt, a2, k1
end G

open PySem PySem.W PyProof.Rows
set_option maxRecDepth 100000 in
set_option maxHeartbeats 0 in
theorem PySem.Challenge.cw_copyweather_k02_conditions_told_holds : PySem.Challenge.rw_copyweather_k02_conditions_told.Holds := by
  w_on; o_law; k_head; (case hw => w_witness2)
  k_fill
  refine M3.walk3 (l := PySem.Challenge.rw_copyweather_k02_conditions_told) 28 "_law_script" G.m_law ⟨rfl, by decide, by decide⟩ rfl rfl (fun w h Y => PySem.W.kIn_of Y) G.law_ok ?F
  case F =>
    intro w mg fa h KX GG hmg
    refine' G.all_mk KX GG hmg ?a_Condition ?pg_Condition ?hd_Condition ?po_Condition ?sa_Condition ?mk_Condition ?kc_Condition ?ty_Condition ?oc_g_ ?oc_t_ ?ha_Condition ?ic_Condition ?tc_Condition ?ne_Condition ?mo_Condition ?v_Condition_MOST ?rd_Condition ?ga_Condition ?a_l_like ?l_l_like ?c_l_like ?k_l_like ?a_l_opened ?l_l_opened ?c_l_opened ?k_l_opened ?a_l_inner ?l_l_inner ?c_l_inner ?k_l_inner ?a_l_parts ?l_l_parts ?c_l_parts ?k_l_parts ?a_l_shared ?l_l_shared ?c_l_shared ?k_l_shared ?a_l_period ?l_l_period ?c_l_period ?k_l_period ?a_l_pull ?l_l_pull ?c_l_pull ?k_l_pull ?a_l_text ?l_l_text ?c_l_text ?k_l_text ?a_l_any ?l_l_any ?c_l_any ?k_l_any ?a_l_leaf ?l_l_leaf ?c_l_leaf ?k_l_leaf ?a_l_tree ?l_l_tree ?c_l_tree ?k_l_tree ?a_inner_trees ?l_inner_trees ?c_inner_trees ?k_inner_trees ?a_parts_of ?l_parts_of ?c_parts_of ?k_parts_of ?a_common_multiple ?l_common_multiple ?c_common_multiple ?k_common_multiple ?a_period_of ?l_period_of ?c_period_of ?k_period_of ?a_number_of ?l_number_of ?c_number_of ?k_number_of ?a_plain_tree ?l_plain_tree ?c_plain_tree ?k_plain_tree ?a_split_inner ?l_split_inner ?c_split_inner ?k_split_inner ?a_tree_of ?l_tree_of ?c_tree_of ?k_tree_of ?a_Condition_DinitD ?i_Condition_DinitD ?l_Condition_DinitD ?c_Condition_DinitD ?k_Condition_DinitD ?a_Condition_DeqD ?i_Condition_DeqD ?l_Condition_DeqD ?c_Condition_DeqD ?k_Condition_DeqD ?a_Condition_DreprD ?i_Condition_DreprD ?l_Condition_DreprD ?c_Condition_DreprD ?k_Condition_DreprD ?a_Condition_parts ?g_Condition_parts ?t_Condition_parts ?r1_Condition_parts ?l_Condition_parts ?c_Condition_parts ?k_Condition_parts ?a_Condition_period ?g_Condition_period ?t_Condition_period ?r1_Condition_period ?l_Condition_period ?c_Condition_period ?k_Condition_period ?a_Condition_text ?g_Condition_text ?t_Condition_text ?r1_Condition_text ?l_Condition_text ?c_Condition_text ?k_Condition_text ?a_Condition_tree ?g_Condition_tree ?t_Condition_tree ?r1_Condition_tree ?l_Condition_tree ?c_Condition_tree ?k_Condition_tree ?a_law ?l_law ?c_law ?k_law ?n_Condition_own_parts ?n_Condition_own_period ?n_Condition_own_text ?n_Condition_own_tree ?z_all ?z_bool ?z_enumerate ?z_int ?z_isinstance ?z_len ?z_list ?z_min ?z_range ?z_repr ?z_str ?z_sum ?z_tuple ?a_JOINS ?b_JOINS ?a_MOST_AGE ?a_MOST_PARTS ?a_RANGES ?d_RANGES ?y_RANGES ?s_RANGES ?e4_RANGES ?b4_RANGES ?e3_RANGES ?b3_RANGES ?e2_RANGES ?b2_RANGES ?e1_RANGES ?b1_RANGES ?e0_RANGES ?b0_RANGES
    (case a_Condition => k_is)
    (case pg_Condition => k_is)
    (case hd_Condition => k_is)
    (case po_Condition => k_is)
    (case sa_Condition => k_is)
    (case mk_Condition => k_is)
    (case kc_Condition => k_is)
    (case ty_Condition => k_is)
    (case oc_g_ => k_is)
    (case oc_t_ => k_is)
    (case ha_Condition => k_is)
    (case ic_Condition => k_is)
    (case tc_Condition => k_is)
    (case ne_Condition => k_is)
    (case mo_Condition => k_is)
    (case v_Condition_MOST => k_is)
    (case rd_Condition => k_is)
    (case ga_Condition => k_is)
    (case a_l_like => k_is)
    (case l_l_like => k_is)
    (case c_l_like => k_is)
    (case k_l_like => k_is)
    (case a_l_opened => k_is)
    (case l_l_opened => k_is)
    (case c_l_opened => k_is)
    (case k_l_opened => k_is)
    (case a_l_inner => k_is)
    (case l_l_inner => k_is)
    (case c_l_inner => k_is)
    (case k_l_inner => k_is)
    (case a_l_parts => k_is)
    (case l_l_parts => k_is)
    (case c_l_parts => k_is)
    (case k_l_parts => k_is)
    (case a_l_shared => k_is)
    (case l_l_shared => k_is)
    (case c_l_shared => k_is)
    (case k_l_shared => k_is)
    (case a_l_period => k_is)
    (case l_l_period => k_is)
    (case c_l_period => k_is)
    (case k_l_period => k_is)
    (case a_l_pull => k_is)
    (case l_l_pull => k_is)
    (case c_l_pull => k_is)
    (case k_l_pull => k_is)
    (case a_l_text => k_is)
    (case l_l_text => k_is)
    (case c_l_text => k_is)
    (case k_l_text => k_is)
    (case a_l_any => k_is)
    (case l_l_any => k_is)
    (case c_l_any => k_is)
    (case k_l_any => k_is)
    (case a_l_leaf => k_is)
    (case l_l_leaf => k_is)
    (case c_l_leaf => k_is)
    (case k_l_leaf => k_is)
    (case a_l_tree => k_is)
    (case l_l_tree => k_is)
    (case c_l_tree => k_is)
    (case k_l_tree => k_is)
    (case a_inner_trees => k_is)
    (case l_inner_trees => k_is)
    (case c_inner_trees => k_is)
    (case k_inner_trees => k_is)
    (case a_parts_of => k_is)
    (case l_parts_of => k_is)
    (case c_parts_of => k_is)
    (case k_parts_of => k_is)
    (case a_common_multiple => k_is)
    (case l_common_multiple => k_is)
    (case c_common_multiple => k_is)
    (case k_common_multiple => k_is)
    (case a_period_of => k_is)
    (case l_period_of => k_is)
    (case c_period_of => k_is)
    (case k_period_of => k_is)
    (case a_number_of => k_is)
    (case l_number_of => k_is)
    (case c_number_of => k_is)
    (case k_number_of => k_is)
    (case a_plain_tree => k_is)
    (case l_plain_tree => k_is)
    (case c_plain_tree => k_is)
    (case k_plain_tree => k_is)
    (case a_split_inner => k_is)
    (case l_split_inner => k_is)
    (case c_split_inner => k_is)
    (case k_split_inner => k_is)
    (case a_tree_of => k_is)
    (case l_tree_of => k_is)
    (case c_tree_of => k_is)
    (case k_tree_of => k_is)
    (case a_Condition_DinitD => k_is)
    (case i_Condition_DinitD => k_is)
    (case l_Condition_DinitD => k_is)
    (case c_Condition_DinitD => k_is)
    (case k_Condition_DinitD => k_is)
    (case a_Condition_DeqD => k_is)
    (case i_Condition_DeqD => k_is)
    (case l_Condition_DeqD => k_is)
    (case c_Condition_DeqD => k_is)
    (case k_Condition_DeqD => k_is)
    (case a_Condition_DreprD => k_is)
    (case i_Condition_DreprD => k_is)
    (case l_Condition_DreprD => k_is)
    (case c_Condition_DreprD => k_is)
    (case k_Condition_DreprD => k_is)
    (case a_Condition_parts => k_is)
    (case g_Condition_parts => k_is)
    (case t_Condition_parts => k_is)
    (case r1_Condition_parts => k_is)
    (case l_Condition_parts => k_is)
    (case c_Condition_parts => k_is)
    (case k_Condition_parts => k_is)
    (case a_Condition_period => k_is)
    (case g_Condition_period => k_is)
    (case t_Condition_period => k_is)
    (case r1_Condition_period => k_is)
    (case l_Condition_period => k_is)
    (case c_Condition_period => k_is)
    (case k_Condition_period => k_is)
    (case a_Condition_text => k_is)
    (case g_Condition_text => k_is)
    (case t_Condition_text => k_is)
    (case r1_Condition_text => k_is)
    (case l_Condition_text => k_is)
    (case c_Condition_text => k_is)
    (case k_Condition_text => k_is)
    (case a_Condition_tree => k_is)
    (case g_Condition_tree => k_is)
    (case t_Condition_tree => k_is)
    (case r1_Condition_tree => k_is)
    (case l_Condition_tree => k_is)
    (case c_Condition_tree => k_is)
    (case k_Condition_tree => k_is)
    (case a_law => k_is)
    (case l_law => k_is)
    (case c_law => k_is)
    (case k_law => k_is)
    (case n_Condition_own_parts => k_is)
    (case n_Condition_own_period => k_is)
    (case n_Condition_own_text => k_is)
    (case n_Condition_own_tree => k_is)
    (case z_all => k_is)
    (case z_bool => k_is)
    (case z_enumerate => k_is)
    (case z_int => k_is)
    (case z_isinstance => k_is)
    (case z_len => k_is)
    (case z_list => k_is)
    (case z_min => k_is)
    (case z_range => k_is)
    (case z_repr => k_is)
    (case z_str => k_is)
    (case z_sum => k_is)
    (case z_tuple => k_is)
    (case a_JOINS => k_is)
    (case b_JOINS => k_is)
    (case a_MOST_AGE => k_is)
    (case a_MOST_PARTS => k_is)
    (case a_RANGES => k_is)
    (case d_RANGES => k_is)
    (case y_RANGES => k_keys)
    (case s_RANGES => decide)
    (case e4_RANGES => k_is)
    (case b4_RANGES => k_is)
    (case e3_RANGES => k_is)
    (case b3_RANGES => k_is)
    (case e2_RANGES => k_is)
    (case b2_RANGES => k_is)
    (case e1_RANGES => k_is)
    (case b1_RANGES => k_is)
    (case e0_RANGES => k_is)
    (case b0_RANGES => k_is)
