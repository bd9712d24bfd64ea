import PyProof.Rows.All
import Wide.All
import OpenK.AllK
import Wide.FinOn
import HandS.ForMost
import HandS.ForExc
import HandS.Flow
import HandS.FStr
import HandS.Wide
import HandS.IsInst
import HandS.SetKeys
import HandS.DictComp
import HandS.Defaults
import HandS.MakeKw
import HandS.MakeKwOnly
import HandS.Property
import HandS.Star
import HandS.TryMany
import HandS.Conv
import HandS.SortInts
import HandS.ClsMeth
import HandS.Deep
import HandS.Style
import HandS.More
import HandS.CallSlots
import HandS.TupAny
import HandS.Text
import KE.GoesEnum
import HandS.Zip
import HandS.SetBool
import HandS.Strs
import KE.KUnpack
import HandS.HeadHook3
import HandS.RaiseMore
import HandS.OwnEq
import HandS.TryOnly
import KE.KUnpackStar
import HandS.ExcValue
import HandS.ExcInit
import KE.KExcSuper
import HandS.Lambda
import HandS.ExcField
import HandS.HotCalls
import HandS.EndOwn
import HandS.Codes
import KE.KxText
import KE.KxAffix
import PyProof.Rows.RegReprOcc
import PySem.Challenge.RW_copyweather_k39_wishes_told
set_option Elab.async false
set_option linter.all false
set_option autoImplicit false
set_option maxRecDepth 100000
set_option maxHeartbeats 2000000
namespace M3
open PySem L2
inductive Dv where
  | non | bl (b : Bool) | int (i : Int) | str (s : Str)
  | lst (xs : List Dv) | tup (xs : List Dv)
  | dct (kvs : List (Key × Dv)) | dcT (kvs : List (List Key × Dv))
  | ins (c : Str) (fs : List (Str × Dv))
  | loc (n : Nat) | glb (x : Str) | ty (n : String)
  | scr (ns : List Int)
  | ktp (xs : List Dv)
  | lck (o : Obj) (ws : List (Key × V)) (kvs : List (Key × Dv))
  | lckT (o : Obj) (ws : List (List Key × V)) (kvs : List (List Key × Dv))
  | ext (a : Addr) (ps : List (Addr × HO))
inductive Ob where
  | lst (xs : List Dv) | dct (kvs : List (Key × Dv)) | dcT (kvs : List (List Key × Dv)) | ins (c : Str) (fs : List (Str × Dv)) | raw (u : HO)
inductive Cell where
  | un | val (d : Dv) | own (o : Ob)
abbrev Mm := List (Option Ob)
abbrev Sl := List Cell
mutual
inductive Rep (K : PySem.W.Frag) (mg : Str → Option Value) (μ : List Addr) (G : Hp) : Dv → V → Prop
  | non : Rep K mg μ G .non .non
  | bl (b : Bool) : Rep K mg μ G (.bl b) (.bl b)
  | int (i : Int) : Rep K mg μ G (.int i) (.int i)
  | str (s : Str) : Rep K mg μ G (.str s) (.str s)
  | ty (n : String) : Rep K mg μ G (.ty n) (.ty n)
  | lst {ds : List Dv} {a : Addr} {vs : List V} : G a = some (.lst vs) → ds.length ≤ sizeLine → RepL K mg μ G ds vs → Rep K mg μ G (.lst ds) (.ref a)
  | scr {ns : List Int} {a : Addr} : SqL K G a (ns.map V.int) → Rep K mg μ G (.scr ns) (.ref a)
  | ktp {ds : List Dv} {a : Addr} {vs : List V} : SqT K G a vs → RepL K mg μ G ds vs → Rep K mg μ G (.ktp ds) (.ref a)
  | tup {ds : List Dv} {a : Addr} {vs : List V} : G a = some (.tup vs) → ds.length ≤ sizeLine → RepL K mg μ G ds vs → Rep K mg μ G (.tup ds) (.ref a)
  | dct {kvs : List (Key × Dv)} {a : Addr} {ws : List (Key × V)} : Rd G a (.dK ws) → kvs.length ≤ sizeLine → RepK K mg μ G kvs ws → Rep K mg μ G (.dct kvs) (.ref a)
  | lck {o : Obj} {kvs : List (Key × Dv)} {a : Addr} {ws : List (Key × V)} : G a = some (.frz o (.dK ws)) → RepK K mg μ G kvs ws → Rep K mg μ G (.lck o ws kvs) (.ref a)
  | dcT {kvs : List (List Key × Dv)} {a : Addr} {ws : List (List Key × V)} : Rd G a (.dT ws) → kvs.length ≤ sizeLine → RepK K mg μ G kvs ws → Rep K mg μ G (.dcT kvs) (.ref a)
  | lckT {o : Obj} {kvs : List (List Key × Dv)} {a : Addr} {ws : List (List Key × V)} : G a = some (.frz o (.dT ws)) → RepK K mg μ G kvs ws → Rep K mg μ G (.lckT o ws kvs) (.ref a)
  | ins {c : Str} {fs : List (Str × Dv)} {a C dx : Addr} {ws : List (Str × V)} : mg c = some (.ref C) → G a = some (.ins C dx ws) → RepK K mg μ G fs ws → Rep K mg μ G (.ins c fs) (.ref a)
  | loc {n : Nat} {a : Addr} : μ[n]? = some a → Rep K mg μ G (.loc n) (.ref a)
  | glb {x : Str} {u : Value} {v : V} : mg x = some u → RelV v u → Rep K mg μ G (.glb x) v
  | ext {a : Addr} {ps : List (Addr × HO)} : (∀ p ∈ ps, G p.1 = some p.2 ∧ ¬ ((∃ ws, p.2 = .dK ws) ∨ ∃ ws, p.2 = .dT ws) ∧ ∀ qs, p.2 ≠ .tbl qs) → Rep K mg μ G (.ext a ps) (.ref a)
inductive RepL (K : PySem.W.Frag) (mg : Str → Option Value) (μ : List Addr) (G : Hp) : List Dv → List V → Prop
  | nil : RepL K mg μ G [] []
  | cons {d : Dv} {v : V} {ds : List Dv} {vs : List V} : Rep K mg μ G d v → RepL K mg μ G ds vs → RepL K mg μ G (d :: ds) (v :: vs)
inductive RepK (K : PySem.W.Frag) (mg : Str → Option Value) (μ : List Addr) (G : Hp) : {κ : Type} → List (κ × Dv) → List (κ × V) → Prop
  | nil {κ : Type} : RepK K mg μ G (κ := κ) [] []
  | cons {κ : Type} {k : κ} {d : Dv} {v : V} {ds : List (κ × Dv)} {vs : List (κ × V)} : Rep K mg μ G d v → RepK K mg μ G ds vs → RepK K mg μ G ((k, d) :: ds) ((k, v) :: vs)
end
section
variable {K : PySem.W.Frag} {mg : Str → Option Value} {μ μ' : List Addr} {G G' : Hp}
def IsDk (u : HO) : Prop := (∃ ws, u = .dK ws) ∨ ∃ ws, u = .dT ws
def Ex (G G' : Hp) : Prop := ∀ a u, G a = some u → G' a = some u ∨ (IsDk u ∧ ∃ o, G' a = some (.frz o u))
theorem Ex.refl (G : Hp) : Ex G G := fun _ _ h => .inl h
theorem not_dk_frz {o : Obj} {u : HO} : ¬ IsDk (.frz o u) := fun z => by rcases z with ⟨_, z⟩ | ⟨_, z⟩ <;> cases z
theorem Ex.at {G G' : Hp} (e : Ex G G') {a : Addr} {u : HO} (h : G a = some u) (n : ¬ IsDk u) : G' a = some u := by
  rcases e a u h with q | ⟨q, _⟩
  · exact q
  · exact absurd q n
theorem Ex.trans {G G1 G2 : Hp} (a : Ex G G1) (b : Ex G1 G2) : Ex G G2 := fun x o h => by
  rcases a x o h with q | ⟨q, o', q'⟩
  · exact b x o q
  · exact .inr ⟨q, o', b.at q' not_dk_frz⟩
theorem Ex.new {G : Hp} {p : Addr} {o : HO} (h : G p = none) : Ex G (upd G p o) := fun a u e => .inl (by
  rw [upd_ne (ne_of_none e h)]; exact e)
theorem ndL {xs : List V} : ¬ IsDk (.lst xs) := fun z => by rcases z with ⟨_, z⟩ | ⟨_, z⟩ <;> cases z
theorem ndT {xs : List V} : ¬ IsDk (.tup xs) := fun z => by rcases z with ⟨_, z⟩ | ⟨_, z⟩ <;> cases z
theorem ndI {C dx : Addr} {ws : List (Str × V)} : ¬ IsDk (.ins C dx ws) := fun z => by rcases z with ⟨_, z⟩ | ⟨_, z⟩ <;> cases z
theorem ndX {ws : List (Str × V)} : ¬ IsDk (.xd ws) := fun z => by rcases z with ⟨_, z⟩ | ⟨_, z⟩ <;> cases z
theorem Ex.rdD {a : Addr} {u : HO} (e : Ex G G') (d : IsDk u) (h : Rd G a u) : Rd G' a u := by
  rcases h with h | ⟨o, h⟩
  · rcases e a u h with q | ⟨_, o, q⟩
    · exact .inl q
    · exact .inr ⟨o, q⟩
  · exact .inr ⟨o, e.at h not_dk_frz⟩
theorem Ex.rd {a : Addr} {u : HO} (e : Ex G G') (n : ¬ IsDk u) (h : Rd G a u) : Rd G' a u := by
  rcases h with h | ⟨o, h⟩
  · exact .inl (e.at h n)
  · exact .inr ⟨o, e.at h not_dk_frz⟩
theorem Ex.sqL {a : Addr} {xs : List V} (e : Ex G G') (h : SqL K G a xs) : SqL K G' a xs := by
  rcases h with h | h
  · exact .inl (e.rd ndL h)
  · exact .inr h
theorem Ex.sqT {a : Addr} {xs : List V} (e : Ex G G') (h : SqT K G a xs) : SqT K G' a xs := by
  rcases h with h | h
  · exact .inl (e.rd ndT h)
  · exact .inr h
def Pre (μ μ' : List Addr) : Prop := ∀ (n : Nat) (a : Addr), μ[n]? = some a → μ'[n]? = some a
theorem Pre.refl (μ : List Addr) : Pre μ μ := fun _ _ h => h
theorem Pre.trans {a b c : List Addr} (x : Pre a b) (y : Pre b c) : Pre a c := fun n q h => y n q (x n q h)
theorem Pre.app (μ : List Addr) (l : List Addr) : Pre μ (μ ++ l) := fun n a h => by
  rw [List.getElem?_append_left (List.getElem?_eq_some_iff.mp h).1]; exact h
mutual
theorem Rep.mono (e : Ex G G') (p : Pre μ μ') : ∀ {d : Dv} {v : V}, Rep K mg μ G d v → Rep K mg μ' G' d v
  | _, _, .non => .non
  | _, _, .bl b => .bl b
  | _, _, .int b => .int b
  | _, _, .str b => .str b
  | _, _, .ty b => .ty b
  | _, _, .lst s z r => .lst (e.at s ndL) z (RepL.mono e p r)
  | _, _, .scr s => .scr (e.sqL s)
  | _, _, .tup s z r => .tup (e.at s ndT) z (RepL.mono e p r)
  | _, _, .ktp s r => .ktp (e.sqT s) (RepL.mono e p r)
  | _, _, .dct s z r => .dct (e.rdD (.inl ⟨_, rfl⟩) s) z (RepK.mono e p r)
  | _, _, .lck s r => .lck (e.at s not_dk_frz) (RepK.mono e p r)
  | _, _, .dcT s z r => .dcT (e.rdD (.inr ⟨_, rfl⟩) s) z (RepK.mono e p r)
  | _, _, .lckT s r => .lckT (e.at s not_dk_frz) (RepK.mono e p r)
  | _, _, .ins c s r => .ins c (e.at s ndI) (RepK.mono e p r)
  | _, _, .loc h => .loc (p _ _ h)
  | _, _, .glb h r => .glb h r
  | _, _, .ext h => .ext fun p hp => ⟨e.at (h p hp).1 (h p hp).2.1, (h p hp).2⟩
theorem RepL.mono (e : Ex G G') (p : Pre μ μ') : ∀ {d : List Dv} {v : List V}, RepL K mg μ G d v → RepL K mg μ' G' d v
  | _, _, .nil => .nil
  | _, _, .cons a b => .cons (Rep.mono e p a) (RepL.mono e p b)
theorem RepK.mono (e : Ex G G') (p : Pre μ μ') : ∀ {κ : Type} {d : List (κ × Dv)} {v : List (κ × V)}, RepK K mg μ G d v → RepK K mg μ' G' d v
  | _, _, _, .nil => .nil
  | _, _, _, .cons a b => .cons (Rep.mono e p a) (RepK.mono e p b)
end
theorem RepL.length {ds : List Dv} : ∀ {vs : List V}, RepL K mg μ G ds vs → ds.length = vs.length := by
  induction ds with
  | nil => intro vs h; cases h; rfl
  | cons d ds ih => intro vs h; cases h with | cons a b => simp [ih b]
theorem RepL.get {ds : List Dv} : ∀ {vs : List V} {i : Nat} {d : Dv}, RepL K mg μ G ds vs → ds[i]? = some d → ∃ v, vs[i]? = some v ∧ Rep K mg μ G d v := by
  induction ds with
  | nil => intro vs i d h e; simp at e
  | cons x ds ih =>
    intro vs i d h e
    cases h with
    | cons a b =>
      cases i with
      | zero => simp at e; subst e; exact ⟨_, rfl, a⟩
      | succ i =>
        obtain ⟨v, h1, h2⟩ := ih b (by simpa using e)
        exact ⟨v, by simpa using h1, h2⟩
theorem RepL.app {ds es : List Dv} {ws : List V} (r : RepL K mg μ G es ws) : ∀ {vs : List V}, RepL K mg μ G ds vs → RepL K mg μ G (ds ++ es) (vs ++ ws) := by
  induction ds with
  | nil => intro vs h; cases h; exact r
  | cons d ds ih => intro vs h; cases h with | cons a b => exact .cons a (ih b)
theorem RepL.one {d : Dv} {v : V} (r : Rep K mg μ G d v) : RepL K mg μ G [d] [v] := .cons r .nil
theorem RepL.set {ds : List Dv} {d : Dv} {v : V} (r : Rep K mg μ G d v) : ∀ {vs : List V} (i : Nat), RepL K mg μ G ds vs → RepL K mg μ G (ds.set i d) (vs.set i v) := by
  induction ds with
  | nil => intro vs i h; cases h; exact .nil
  | cons x ds ih =>
    intro vs i h
    cases h with
    | cons a b =>
      cases i with
      | zero => exact .cons r b
      | succ i => exact .cons a (ih i b)
theorem RepL.take {ds : List Dv} : ∀ {vs : List V} (i : Nat), RepL K mg μ G ds vs → RepL K mg μ G (ds.take i) (vs.take i) := by
  induction ds with
  | nil => intro vs i h; cases h; simp; exact .nil
  | cons x ds ih =>
    intro vs i h
    cases h with
    | cons a b =>
      cases i with
      | zero => exact .nil
      | succ i => exact .cons a (ih i b)
theorem RepL.drop {ds : List Dv} : ∀ {vs : List V} (i : Nat), RepL K mg μ G ds vs → RepL K mg μ G (ds.drop i) (vs.drop i) := by
  induction ds with
  | nil => intro vs i h; cases h; simp; exact .nil
  | cons x ds ih =>
    intro vs i h
    cases h with
    | cons a b =>
      cases i with
      | zero => exact .cons a b
      | succ i => exact ih i b
theorem RepK.length {κ : Type} {ds : List (κ × Dv)} : ∀ {vs : List (κ × V)}, RepK K mg μ G ds vs → ds.length = vs.length := by
  induction ds with
  | nil => intro vs h; cases h; rfl
  | cons d ds ih => intro vs h; cases h with | cons a b => simp [ih b]
theorem RepK.keys {κ : Type} {ds : List (κ × Dv)} : ∀ {vs : List (κ × V)}, RepK K mg μ G ds vs → ds.map (·.1) = vs.map (·.1) := by
  induction ds with
  | nil => intro vs h; cases h; rfl
  | cons d ds ih => intro vs h; cases h with | cons a b => simp [ih b]
def ObAt (K : PySem.W.Frag) (mg : Str → Option Value) (μ : List Addr) (G H : Hp) (a : Addr) : Ob → Prop
  | .lst ds => ∃ vs, H a = some (.lst vs) ∧ RepL K mg μ G ds vs
  | .dct kvs => ∃ ws, H a = some (.dK ws) ∧ RepK K mg μ G kvs ws
  | .dcT kvs => ∃ ws, H a = some (.dT ws) ∧ RepK K mg μ G kvs ws
  | .ins c fs => ∃ C dx ws, mg c = some (.ref C) ∧ H a = some (.ins C dx ws) ∧ RepK K mg μ G fs ws
  | .raw u => H a = some u
theorem ObAt.mono {H H' : Hp} {a : Addr} {o : Ob} (e : Ex G G') (p : Pre μ μ') (k : ∀ u, H a = some u → H' a = some u) (h : ObAt K mg μ G H a o) : ObAt K mg μ' G' H' a o := by
  cases o with
  | lst ds => obtain ⟨vs, x, r⟩ := h; exact ⟨vs, k _ x, r.mono e p⟩
  | dct ds => obtain ⟨vs, x, r⟩ := h; exact ⟨vs, k _ x, r.mono e p⟩
  | dcT ds => obtain ⟨vs, x, r⟩ := h; exact ⟨vs, k _ x, r.mono e p⟩
  | ins c fs => obtain ⟨C, dx, ws, q, x, r⟩ := h; exact ⟨C, dx, ws, q, k _ x, r.mono e p⟩
  | raw u => exact k _ h
theorem ObAt.some {H : Hp} {a : Addr} {o : Ob} (h : ObAt K mg μ G H a o) : ∃ u, H a = some u := by
  cases o with
  | lst ds => obtain ⟨vs, x, r⟩ := h; exact ⟨_, x⟩
  | dct ds => obtain ⟨vs, x, r⟩ := h; exact ⟨_, x⟩
  | dcT ds => obtain ⟨vs, x, r⟩ := h; exact ⟨_, x⟩
  | ins c fs => obtain ⟨C, dx, ws, q, x, r⟩ := h; exact ⟨_, x⟩
  | raw u => exact ⟨_, h⟩
def Stands (G H : Hp) : Prop := ∀ a u, G a = some u → H a = some u ∨ (((∃ ws, u = .dK ws) ∨ ∃ ws, u = .dT ws) ∧ ∃ o, H a = some (.frz o u))
theorem Stands.none {G H : Hp} (s : Stands G H) {a : Addr} (h : H a = none) : G a = none := by
  cases e : G a with
  | none => rfl
  | some u =>
    rcases s a u e with q | ⟨_, o, q⟩ <;> rw [h] at q <;> cases q
theorem Stands.frz {G H : Hp} (s : Stands G H) {a : Addr} {o : Obj} {u : HO} (h : G a = some (.frz o u)) : H a = some (.frz o u) := by
  rcases s a _ h with q | ⟨z, _, _⟩
  · exact q
  · rcases z with ⟨_, z⟩ | ⟨_, z⟩ <;> cases z
theorem Stands.rdD {G H : Hp} (s : Stands G H) {a : Addr} {u : HO} (h : Rd G a u) : Rd H a u := by
  rcases h with h | ⟨o, h⟩
  · rcases s a u h with q | ⟨_, o, q⟩
    · exact .inl q
    · exact .inr ⟨o, q⟩
  · exact .inr ⟨o, s.frz h⟩
theorem Stands.rd {G H : Hp} (s : Stands G H) {a : Addr} {u : HO} (h : G a = some u) : Rd H a u := by
  rcases s a u h with q | ⟨_, o, q⟩
  · exact .inl q
  · exact .inr ⟨o, q⟩
theorem Stands.l {G H : Hp} (s : Stands G H) {a : Addr} {xs : List V} (h : G a = some (.lst xs)) : H a = some (.lst xs) := by
  rcases s a _ h with q | ⟨z, _, _⟩
  · exact q
  · rcases z with ⟨_, z⟩ | ⟨_, z⟩ <;> cases z
theorem Stands.t {G H : Hp} (s : Stands G H) {a : Addr} {xs : List V} (h : G a = some (.tup xs)) : H a = some (.tup xs) := by
  rcases s a _ h with q | ⟨z, _, _⟩
  · exact q
  · rcases z with ⟨_, z⟩ | ⟨_, z⟩ <;> cases z
theorem Stands.lst {G H : Hp} (s : Stands G H) {a : Addr} {xs : List V} (h : SqL K G a xs) : SqL K H a xs := by
  rcases h with (h | ⟨o, h⟩) | h
  · rcases s a _ h with q | ⟨z, _, _⟩
    · exact .inl (.inl q)
    · rcases z with ⟨_, z⟩ | ⟨_, z⟩ <;> cases z
  · rcases s a _ h with q | ⟨z, _, _⟩
    · exact .inl (.inr ⟨o, q⟩)
    · rcases z with ⟨_, z⟩ | ⟨_, z⟩ <;> cases z
  · exact .inr h
theorem Stands.tup {G H : Hp} (s : Stands G H) {a : Addr} {xs : List V} (h : SqT K G a xs) : SqT K H a xs := by
  rcases h with (h | ⟨o, h⟩) | h
  · rcases s a _ h with q | ⟨z, _, _⟩
    · exact .inl (.inl q)
    · rcases z with ⟨_, z⟩ | ⟨_, z⟩ <;> cases z
  · rcases s a _ h with q | ⟨z, _, _⟩
    · exact .inl (.inr ⟨o, q⟩)
    · rcases z with ⟨_, z⟩ | ⟨_, z⟩ <;> cases z
  · exact .inr h
theorem Stands.ins {G H : Hp} (s : Stands G H) {a C dx : Addr} {ws : List (Str × V)} (h : G a = some (.ins C dx ws)) : H a = some (.ins C dx ws) := by
  rcases s a _ h with q | ⟨z, _, _⟩
  · exact q
  · rcases z with ⟨_, z⟩ | ⟨_, z⟩ <;> cases z
structure MemOk (K : PySem.W.Frag) (mg : Str → Option Value) (G : Hp) (μ : List Addr) (H : Hp) (m : Mm) : Prop where
  st : Stands G H
  len : μ.length = m.length
  nd : ∀ (i j : Nat) (a : Addr), μ[i]? = some a → μ[j]? = some a → i = j
  ob : ∀ (n : Nat) (o : Ob), m[n]? = some (some o) → ∃ a, μ[n]? = some a ∧ G a = none ∧ ObAt K mg μ G H a o
  th : ∀ a, a ∈ μ → ∃ u, H a = some u
structure Le (G : Hp) (μ : List Addr) (H : Hp) (G' : Hp) (μ' : List Addr) (H' : Hp) : Prop where
  ex : Ex G G'
  pre : Pre μ μ'
  prv : ∀ a o, H a = some o → G a = none → a ∉ μ → H' a = some o ∧ G' a = none ∧ a ∉ μ'
  th : ∀ a o, H a = some o → ∃ u, H' a = some u
theorem Le.refl (G : Hp) (μ : List Addr) (H : Hp) : Le G μ H G μ H := ⟨.refl _, .refl _, fun _ _ a b c => ⟨a, b, c⟩, fun _ o a => ⟨o, a⟩⟩
theorem Le.trans {G μ H G1 μ1 H1 G2 μ2 H2} (a : Le G μ H G1 μ1 H1) (b : Le G1 μ1 H1 G2 μ2 H2) : Le G μ H G2 μ2 H2 :=
  ⟨a.ex.trans b.ex, a.pre.trans b.pre, fun x o h1 h2 h3 => let ⟨q1, q2, q3⟩ := a.prv x o h1 h2 h3; b.prv x o q1 q2 q3, fun x o h => let ⟨u, q⟩ := a.th x o h; b.th x u q⟩
structure Cf where
  K : PySem.W.Frag
  mg : Str → Option Value
  G0 : Hp
  μ0 : List Addr
  H0 : Hp
def CellOk (c : Cf) (μ : List Addr) (G H : Hp) (x : Option V) : Cell → Prop
  | .un => True
  | .val d => ∃ v, x = some v ∧ Rep c.K c.mg μ G d v
  | .own o => ∃ a, x = some (.ref a) ∧ ObAt c.K c.mg μ G H a o ∧ G a = none ∧ a ∉ μ ∧ c.H0 a = none
def ownA : Option V × Cell → Option Addr
  | (some (.ref a), .own _) => some a
  | _ => none
theorem ownA_some {p : Option V × Cell} {a : Addr} (h : ownA p = some a) : ∃ o, p = (some (.ref a), .own o) := by
  unfold ownA at h
  split at h
  · cases h; exact ⟨_, rfl⟩
  · cases h
abbrev Tm := List (Option V × Cell)
structure St3 (c : Cf) (ρ : Sl) (m : Mm) (σ : L2.St) (H : Hp) (T : Tm) (G : Hp) (μ : List Addr) : Prop where
  len : σ.length = ρ.length
  mem : MemOk c.K c.mg G μ H m
  le : Le c.G0 c.μ0 c.H0 G μ H
  cells : ∀ p ∈ T ++ σ.zip ρ, CellOk c μ G H p.1 p.2
  nd : ((T ++ σ.zip ρ).filterMap ownA).Nodup
def S3 (c : Cf) (ρ : Sl) (m : Mm) (σ : L2.St) (H : Hp) (T : Tm) : Prop := ∃ G μ, St3 c ρ m σ H T G μ
end
section
variable {c : Cf} {ρ : Sl} {m : Mm} {σ : L2.St} {H H' : Hp} {T T' : Tm} {G G' : Hp} {μ μ' : List Addr}
abbrev tv (v : V) (d : Dv) : Option V × Cell := (some v, .val d)
theorem ownA_val {x : Option V} {d : Dv} : ownA (x, .val d) = none := by
  cases x with
  | none => rfl
  | some v => cases v <;> rfl
theorem ownA_un {x : Option V} : ownA (x, .un) = none := by
  cases x with
  | none => rfl
  | some v => cases v <;> rfl
theorem St3.weak (h : St3 c ρ m σ H T G μ) (hs : ∀ p ∈ T', p ∈ T) (hl : (T'.filterMap ownA).Sublist (T.filterMap ownA)) : St3 c ρ m σ H T' G μ where
  len := h.len
  mem := h.mem
  le := h.le
  cells := fun p hp => by
    rcases List.mem_append.mp hp with q | q
    · exact h.cells p (List.mem_append_left _ (hs p q))
    · exact h.cells p (List.mem_append_right _ q)
  nd := by
    have := h.nd
    rw [List.filterMap_append] at this ⊢
    exact this.sublist (List.Sublist.append hl (List.Sublist.refl _))
theorem St3.pop {p : Option V × Cell} (h : St3 c ρ m σ H (p :: T) G μ) : St3 c ρ m σ H T G μ := h.weak (fun _ q => List.mem_cons_of_mem _ q) (by
  rw [List.filterMap_cons]; split
  · exact List.Sublist.refl _
  · exact List.sublist_cons_self _ _)
theorem St3.pops {S : Tm} (h : St3 c ρ m σ H (S ++ T) G μ) : St3 c ρ m σ H T G μ := by
  induction S with
  | nil => exact h
  | cons p S ih => exact ih h.pop
theorem St3.top {v : V} {d : Dv} (h : St3 c ρ m σ H (tv v d :: T) G μ) : Rep c.K c.mg μ G d v := by
  obtain ⟨w, e, r⟩ := h.cells (tv v d) (by simp)
  cases e; exact r
theorem St3.at {v : V} {d : Dv} (h : St3 c ρ m σ H T G μ) (hm : tv v d ∈ T) : Rep c.K c.mg μ G d v := by
  obtain ⟨w, e, r⟩ := h.cells (tv v d) (List.mem_append_left _ hm)
  cases e; exact r
theorem St3.push {v : V} {d : Dv} (h : St3 c ρ m σ H T G μ) (r : Rep c.K c.mg μ G d v) : St3 c ρ m σ H (tv v d :: T) G μ where
  len := h.len
  mem := h.mem
  le := h.le
  cells := fun p hp => by
    rcases List.mem_cons.mp hp with rfl | q
    · exact ⟨v, rfl, r⟩
    · exact h.cells p q
  nd := by
    have := h.nd
    rw [List.cons_append, List.filterMap_cons, ownA_val]; exact this
theorem St3.slot {i : Nat} {d : Dv} (h : St3 c ρ m σ H T G μ) (e : ρ[i]? = some (.val d)) : ∃ v, σ[i]? = some (some v) ∧ Rep c.K c.mg μ G d v := by
  have hi : i < σ.length := by rw [h.len]; exact (List.getElem?_eq_some_iff.mp e).1
  have hm : (σ[i], Cell.val d) ∈ σ.zip ρ := by
    have hr := (List.getElem?_eq_some_iff.mp e).1
    have he := (List.getElem?_eq_some_iff.mp e).2
    rw [List.mem_iff_getElem]
    refine ⟨i, by rw [List.length_zip]; omega, ?_⟩
    rw [List.getElem_zip, he]
  obtain ⟨v, q, r⟩ := h.cells _ (List.mem_append_right _ hm)
  exact ⟨v, by rw [List.getElem?_eq_getElem hi]; exact congrArg some q, r⟩
theorem zip_get {α β : Type} {σ : List α} {ρ : List β} {i : Nat} {x : α} {y : β} (a : σ[i]? = some x) (b : ρ[i]? = some y) : (x, y) ∈ σ.zip ρ := by
  have h1 := List.getElem?_eq_some_iff.mp a
  have h2 := List.getElem?_eq_some_iff.mp b
  rw [List.mem_iff_getElem]
  refine ⟨i, by rw [List.length_zip]; have := h1.1; have := h2.1; omega, ?_⟩
  rw [List.getElem_zip, h1.2, h2.2]
theorem St3.ownAt {i : Nat} {o : Ob} (h : St3 c ρ m σ H T G μ) (e : ρ[i]? = some (.own o)) : ∃ a, σ[i]? = some (some (.ref a)) ∧ ObAt c.K c.mg μ G H a o ∧ G a = none ∧ a ∉ μ ∧ c.H0 a = none := by
  have hi : i < σ.length := by rw [h.len]; exact (List.getElem?_eq_some_iff.mp e).1
  have e1 : σ[i]? = some σ[i] := List.getElem?_eq_getElem hi
  obtain ⟨a, q, r⟩ := h.cells _ (List.mem_append_right _ (zip_get e1 e))
  exact ⟨a, by rw [e1]; exact congrArg some q, r⟩
theorem MemOk.notIn (h : MemOk c.K c.mg G μ H m) {p : Addr} (hp : H p = none) : p ∉ μ := fun hm => by
  obtain ⟨u, e⟩ := h.th p hm
  rw [hp] at e; cases e
theorem St3.next {m' : Mm} (h : St3 c ρ m σ H T G μ) (mem : MemOk c.K c.mg G' μ' H' m') (le : Le G μ H G' μ' H') : St3 c ρ m' σ H' T G' μ' where
  len := h.len
  mem := mem
  le := h.le.trans le
  cells := fun p hp => by
    have q := h.cells p hp
    obtain ⟨x, y⟩ := p
    cases y with
    | un => trivial
    | val d => obtain ⟨v, e, r⟩ := q; exact ⟨v, e, r.mono le.ex le.pre⟩
    | own o =>
      obtain ⟨a, e, r, g, n, z⟩ := q
      obtain ⟨u, hu⟩ := r.some
      obtain ⟨k1, k2, k3⟩ := le.prv a u hu g n
      exact ⟨a, e, r.mono le.ex le.pre (fun w hw => by rw [hu] at hw; cases hw; exact k1), k2, k3, z⟩
  nd := h.nd
theorem ex_upd_none {H : Hp} {p : Addr} {o : HO} (h : H p = none) {a : Addr} {u : HO} (e : H a = some u) : upd H p o a = some u := by
  rw [upd_ne (ne_of_none e h)]; exact e
theorem St3.newG {p : Addr} {o : HO} (h : St3 c ρ m σ H T G μ) (hp : H p = none) : St3 c ρ m σ (upd H p o) T (upd G p o) μ := by
  have hg : G p = none := h.mem.st.none hp
  have hn : p ∉ μ := h.mem.notIn hp
  refine h.next ⟨fun a u e => ?_, h.mem.len, h.mem.nd, fun n ob e => ?_, fun a hm => ?_⟩ ⟨Ex.new hg, .refl _, fun a u h1 h2 h3 => ⟨ex_upd_none hp h1, ?_, h3⟩, fun a u h1 => ⟨u, ex_upd_none hp h1⟩⟩
  · by_cases ha : a = p
    · subst ha; rw [upd_same] at e ⊢; cases e; exact .inl rfl
    · rw [upd_ne ha] at e ⊢; exact h.mem.st a u e
  · obtain ⟨a, e1, e2, e3⟩ := h.mem.ob n ob e
    have ha : a ≠ p := fun z => hn (by rw [← z]; exact List.mem_of_getElem? e1)
    exact ⟨a, e1, by rw [upd_ne ha]; exact e2, e3.mono (Ex.new hg) (.refl _) fun u q => ex_upd_none hp q⟩
  · obtain ⟨u, e⟩ := h.mem.th a hm
    exact ⟨u, ex_upd_none hp e⟩
  · rw [upd_ne (ne_of_none h1 hp)]; exact h2
theorem St3.newO {p : Addr} {o : HO} {ob : Ob} (h : St3 c ρ m σ H T G μ) (hp : H p = none) (r : ObAt c.K c.mg μ G (upd H p o) p ob) : St3 c ρ m σ (upd H p o) ((some (.ref p), .own ob) :: T) G μ := by
  have hg : G p = none := h.mem.st.none hp
  have hn : p ∉ μ := h.mem.notIn hp
  have le : Le G μ H G μ (upd H p o) := ⟨.refl _, .refl _, fun a u h1 h2 h3 => ⟨ex_upd_none hp h1, h2, h3⟩, fun a u h1 => ⟨u, ex_upd_none hp h1⟩⟩
  have h' : St3 c ρ m σ (upd H p o) T G μ := by
    refine h.next ⟨fun a u e => ?_, h.mem.len, h.mem.nd, fun n ob' e => ?_, fun a hm => ?_⟩ le
    · have ha : a ≠ p := fun z => by subst z; rw [hg] at e; cases e
      rw [upd_ne ha]; exact h.mem.st a u e
    · obtain ⟨a, e1, e2, e3⟩ := h.mem.ob n ob' e
      exact ⟨a, e1, e2, e3.mono (.refl _) (.refl _) fun u q => ex_upd_none hp q⟩
    · obtain ⟨u, e⟩ := h.mem.th a hm
      exact ⟨u, ex_upd_none hp e⟩
  have h0 : c.H0 p = none := by
    cases e : c.H0 p with
    | none => rfl
    | some u =>
      obtain ⟨w, q⟩ := h.le.th p u e
      rw [hp] at q; cases q
  refine ⟨h'.len, h'.mem, h'.le, fun q hq => ?_, ?_⟩
  · rcases List.mem_cons.mp hq with rfl | hq
    · exact ⟨p, rfl, r, hg, hn, h0⟩
    · exact h'.cells q hq
  · show (((some (V.ref p), Cell.own ob) :: (T ++ σ.zip ρ)).filterMap ownA).Nodup
    rw [List.filterMap_cons]
    show (p :: (T ++ σ.zip ρ).filterMap ownA).Nodup
    refine List.nodup_cons.mpr ⟨fun hm => ?_, h'.nd⟩
    obtain ⟨q, hq, e⟩ := List.mem_filterMap.mp hm
    obtain ⟨ob', rfl⟩ := ownA_some e
    obtain ⟨a, ea, ra, _⟩ := h.cells _ hq
    cases ea
    obtain ⟨u, eu⟩ := ra.some
    rw [hp] at eu; cases eu
end
end M3
set_option Elab.async false
set_option linter.all false
set_option autoImplicit false
set_option maxRecDepth 100000
set_option maxHeartbeats 2000000
namespace M3
open PySem L2
inductive Rs (α : Type) where
  | ok (a : α) (m : Mm) | ex (x : Dv) (m : Mm) | no
def Rs.bind {α β : Type} (r : Rs α) (f : α → Mm → Rs β) : Rs β := match r with
  | .ok a m => f a m
  | .ex x m => .ex x m
  | .no => .no
@[simp] theorem Rs.bind_ok {α β : Type} (a : α) (m : Mm) (f : α → Mm → Rs β) : (Rs.ok a m).bind f = f a m := rfl
@[simp] theorem Rs.bind_ex {α β : Type} (x : Dv) (m : Mm) (f : α → Mm → Rs β) : (Rs.ex x m).bind f = .ex x m := rfl
@[simp] theorem Rs.bind_no {α β : Type} (f : α → Mm → Rs β) : (Rs.no : Rs α).bind f = .no := rfl
inductive Ar where
  | v (d : Dv) | b (i : Nat)
abbrev ME := Sl → Mm → Rs Ar
abbrev MB := Sl → Mm → Rs Bool
abbrev MA := Sl → Mm → Rs (List Dv)
abbrev MN := Sl → Mm → Rs Ob
def RepX (K : PySem.W.Frag) (mg : Str → Option Value) (μ : List Addr) (G : Hp) (x : Dv) (cls : Value) (d : Option Addr) : Prop :=
  ∃ (cn : Str) (fs : List (Str × Dv)) (C dd : Addr) (ws : List (Str × V)), x = .ins cn fs ∧ cls = .ref C ∧ mg cn = some (.ref C) ∧ d = some dd ∧ G dd = some (.xd ws) ∧ RepK K mg μ G fs ws
structure Bs where
  G0 : Hp
  μ0 : List Addr
  H0 : Hp
abbrev Bs.cf (b : Bs) (K : PySem.W.Frag) (mg : Str → Option Value) : Cf := ⟨K, mg, b.G0, b.μ0, b.H0⟩
def tvs : List V → List Dv → Tm
  | v :: vs, d :: ds => tv v d :: tvs vs ds
  | _, _ => []
def tva (v : V) : Ar → Tm
  | .v d => [tv v d]
  | .b _ => []
def ArAt (K : PySem.W.Frag) (mg : Str → Option Value) (μ : List Addr) (G : Hp) (σ : L2.St) (v : V) : Ar → Prop
  | .v d => Rep K mg μ G d v
  | .b i => σ[i]? = some (some v)
def WantX (E : WX) (c : Cf) (ρ : Sl) (σ : L2.St) (T : Tm) (x : Dv) (m : Mm) : Prop := ∀ (cls : Value) (d : Option Addr) (H' : Hp) (G : Hp) (μ : List Addr), St3 c ρ m σ H' T G μ → RepX c.K c.mg μ G x cls d → E cls d σ H'
def Want (E : WX) (c : Cf) (ρ : Sl) (σ : L2.St) (T : Tm) (Q : VK) : Rs Ar → Prop
  | .ok x m => ∀ v H', S3 c ρ m σ H' (tva v x ++ T) → (∀ i, x = .b i → σ[i]? = some (some v)) → Q v H'
  | .ex x m => WantX E c ρ σ T x m
  | .no => False
def WantB (E : WX) (c : Cf) (ρ : Sl) (σ : L2.St) (T : Tm) (Q : Bool → Hp → Prop) : Rs Bool → Prop
  | .ok b m => ∀ H', S3 c ρ m σ H' T → Q b H'
  | .ex x m => WantX E c ρ σ T x m
  | .no => False
def WantA (E : WX) (c : Cf) (ρ : Sl) (σ : L2.St) (T : Tm) (Q : List V → Hp → Prop) : Rs (List Dv) → Prop
  | .ok ds m => ∀ vs H', vs.length = ds.length → S3 c ρ m σ H' (tvs vs ds ++ T) → Q vs H'
  | .ex x m => WantX E c ρ σ T x m
  | .no => False
def WantN (E : WX) (c : Cf) (ρ : Sl) (σ : L2.St) (T : Tm) (Q : VK) : Rs Ob → Prop
  | .ok o m => ∀ p H', S3 c ρ m σ H' ((some (.ref p), .own o) :: T) → Q (.ref p) H'
  | .ex x m => WantX E c ρ σ T x m
  | .no => False
def tOf (K : PySem.W.Frag) (mg : Str → Option Value) (E : WX) (f : ME) : TE := fun σ H Q => ∃ (b : Bs) (ρ : Sl) (m : Mm) (T : Tm), S3 (b.cf K mg) ρ m σ H T ∧ Want E (b.cf K mg) ρ σ T Q (f ρ m)
def tbOf (K : PySem.W.Frag) (mg : Str → Option Value) (E : WX) (f : MB) : TT := fun σ H Q => ∃ (b : Bs) (ρ : Sl) (m : Mm) (T : Tm), S3 (b.cf K mg) ρ m σ H T ∧ WantB E (b.cf K mg) ρ σ T Q (f ρ m)
def taOf (K : PySem.W.Frag) (mg : Str → Option Value) (E : WX) (f : MA) : TA := fun σ H Q => ∃ (b : Bs) (ρ : Sl) (m : Mm) (T : Tm), S3 (b.cf K mg) ρ m σ H T ∧ WantA E (b.cf K mg) ρ σ T Q (f ρ m)
def tnOf (K : PySem.W.Frag) (mg : Str → Option Value) (E : WX) (f : MN) : TE := fun σ H Q => ∃ (b : Bs) (ρ : Sl) (m : Mm) (T : Tm), S3 (b.cf K mg) ρ m σ H T ∧ WantN E (b.cf K mg) ρ σ T Q (f ρ m)
abbrev PX (X : Cx) (E : WX) (e : Expr) (f : ME) : Prop := PE X e (tOf X.K X.mg E f)
abbrev PB (X : Cx) (E : WX) (e : Expr) (f : MB) : Prop := PT X e (tbOf X.K X.mg E f)
abbrev PBW (X : Cx) (E : WX) (e : Expr) (f : MB) : Prop := PW X e (tbOf X.K X.mg E f)
abbrev PXs (X : Cx) (E : WX) (es : List Expr) (f : MA) : Prop := PA X es (taOf X.K X.mg E f)
abbrev PN (X : Cx) (E : WX) (e : Expr) (f : MN) : Prop := PE X e (tnOf X.K X.mg E f)
theorem PEi {X : Cx} {e : Expr} {t t' : TE} (h : PE X e t) (i : ∀ σ H Q, t' σ H Q → t σ H Q) : PE X e t' := ⟨fun pins s σ H Q I q => h.run pins s σ H Q I (i σ H Q q)⟩
theorem PTi {X : Cx} {e : Expr} {t t' : TT} (h : PT X e t) (i : ∀ σ H Q, t' σ H Q → t σ H Q) : PT X e t' := ⟨fun pins s σ H Q I q => h.run pins s σ H Q I (i σ H Q q)⟩
theorem PWi {X : Cx} {e : Expr} {t t' : TT} (h : PW X e t) (i : ∀ σ H Q, t' σ H Q → t σ H Q) : PW X e t' := ⟨fun whole pins s σ H Q I q => h.run whole pins s σ H Q I (i σ H Q q)⟩
theorem PAi {X : Cx} {e : List Expr} {t t' : TA} (h : PA X e t) (i : ∀ σ H Q, t' σ H Q → t σ H Q) : PA X e t' := ⟨fun pos pins s σ H Q I q => h.run pos pins s σ H Q I (i σ H Q q)⟩
section
variable {K : PySem.W.Frag} {mg : Str → Option Value} {E : WX} {c : Cf} {ρ : Sl} {m : Mm} {σ : L2.St} {H : Hp} {T : Tm} {G : Hp} {μ : List Addr}
theorem S3.pop {p : Option V × Cell} (h : S3 c ρ m σ H (p :: T)) : S3 c ρ m σ H T := let ⟨G, μ, s⟩ := h; ⟨G, μ, s.pop⟩
theorem S3.pops {S : Tm} (h : S3 c ρ m σ H (S ++ T)) : S3 c ρ m σ H T := let ⟨G, μ, s⟩ := h; ⟨G, μ, s.pops⟩
theorem WantX.weak {x : Dv} {S : Tm} (h : WantX E c ρ σ T x m) : WantX E c ρ σ (S ++ T) x m := fun cls d H' G μ s r => h cls d H' G μ s.pops r
theorem St3.ar {v : V} {x : Ar} {S : Tm} (h : St3 c ρ m σ H (tva v x ++ T) G μ) (hb : ∀ i, x = .b i → σ[i]? = some (some v)) : ArAt c.K c.mg μ G σ v x := by
  cases x with
  | v d => exact h.top
  | b i => exact hb i rfl
theorem Want.v {d : Dv} {Q : VK} (w : Want E c ρ σ T Q (.ok (.v d) m)) {v : V} {H' : Hp} (s : S3 c ρ m σ H' (tv v d :: T)) : Q v H' := w v H' s (fun i e => by cases e)
def vOf : Dv → Option V
  | .non => some .non
  | .bl b => some (.bl b)
  | .int i => some (.int i)
  | .str s => some (.str s)
  | .ty n => some (.ty n)
  | _ => none
theorem rep_vOf {d : Dv} {v : V} (h : vOf d = some v) : Rep K mg μ G d v := by
  cases d <;> simp [vOf] at h <;> subst h <;> constructor
theorem vOf_rep {d : Dv} {v w : V} (h : vOf d = some v) (r : Rep K mg μ G d w) : w = v := by
  cases d <;> simp [vOf] at h <;> subst h <;> cases r <;> rfl
theorem Want.s {d : Dv} {Q : VK} (w : Want E c ρ σ T Q (.ok (.v d) m)) (s : St3 c ρ m σ H T G μ) {v : V} (e : vOf d = some v) : Q v H := w.v ⟨G, μ, s.push (rep_vOf e)⟩
def lstOf (ρ : Sl) (m : Mm) : Ar → Option (List Dv)
  | .v (.lst ds) => some ds
  | .v (.loc n) => match m[n]? with
    | some (some (.lst ds)) => some ds
    | _ => none
  | .b i => match ρ[i]? with
    | some (.own (.lst ds)) => some ds
    | _ => none
  | _ => none
def tupOf : Ar → Option (List Dv)
  | .v (.tup ds) => some ds
  | .v (.ktp ds) => some ds
  | _ => none
theorem lst_at (s : St3 c ρ m σ H T G μ) {x : Ar} {v : V} {ds : List Dv} (r : ArAt c.K c.mg μ G σ v x) (e : lstOf ρ m x = some ds) : ∃ a vs, v = .ref a ∧ H a = some (.lst vs) ∧ RepL c.K c.mg μ G ds vs := by
  unfold lstOf at e
  split at e
  · cases e
    cases r with
    | lst h z r => exact ⟨_, _, rfl, s.mem.st.l h, r⟩
  · split at e
    · rename_i h
      cases e
      cases r with
      | loc hm =>
        obtain ⟨a, e1, e2, vs, e3, e4⟩ := s.mem.ob _ _ h
        rw [hm] at e1; cases e1
        exact ⟨_, _, rfl, e3, e4⟩
    · cases e
  · split at e
    · rename_i h
      cases e
      obtain ⟨a, q, ⟨vs, e3, e4⟩, _⟩ := s.ownAt h
      have r : σ[_]? = some (some v) := r
      rw [q] at r; cases r
      exact ⟨a, vs, rfl, e3, e4⟩
    · cases e
  · cases e
theorem tup_at (s : St3 c ρ m σ H T G μ) {x : Ar} {v : V} {ds : List Dv} (r : ArAt c.K c.mg μ G σ v x) (e : tupOf x = some ds) : ∃ a vs, v = .ref a ∧ SqT c.K H a vs ∧ RepL c.K c.mg μ G ds vs := by
  unfold tupOf at e
  split at e
  · cases e
    cases r with
    | tup h z r => exact ⟨_, _, rfl, SqT.of (s.mem.st.t h), r⟩
  · cases e
    cases r with
    | ktp h r => exact ⟨_, _, rfl, s.mem.st.tup h, r⟩
  · cases e
def seqOf (ρ : Sl) (m : Mm) (x : Ar) : Option (List Dv) := match lstOf ρ m x with
  | some ds => some ds
  | none => tupOf x
theorem seq_at (s : St3 c ρ m σ H T G μ) {x : Ar} {v : V} {ds : List Dv} (r : ArAt c.K c.mg μ G σ v x) (e : seqOf ρ m x = some ds) : ∃ a vs, v = .ref a ∧ (SqL c.K H a vs ∨ SqT c.K H a vs) ∧ RepL c.K c.mg μ G ds vs := by
  unfold seqOf at e
  split at e
  · rename_i h
    cases e
    obtain ⟨a, vs, e1, e2, e3⟩ := lst_at s r h
    exact ⟨a, vs, e1, .inl (SqL.of e2), e3⟩
  · obtain ⟨a, vs, e1, e2, e3⟩ := tup_at s r e
    exact ⟨a, vs, e1, .inr e2, e3⟩
theorem St3.newL {p : Addr} {ds : List Dv} {vs : List V} (s : St3 c ρ m σ H T G μ) (r : RepL c.K c.mg μ G ds vs) (z : ds.length ≤ sizeLine) (hp : H p = none) : S3 c ρ m σ (upd H p (.lst vs)) (tv (.ref p) (.lst ds) :: T) :=
  ⟨_, μ, (s.newG (o := .lst vs) hp).push (.lst upd_same z (r.mono (Ex.new (s.mem.st.none hp)) (.refl _)))⟩
theorem St3.newT {p : Addr} {ds : List Dv} {vs : List V} (s : St3 c ρ m σ H T G μ) (r : RepL c.K c.mg μ G ds vs) (z : ds.length ≤ sizeLine) (hp : H p = none) : S3 c ρ m σ (upd H p (.tup vs)) (tv (.ref p) (.tup ds) :: T) :=
  ⟨_, μ, (s.newG (o := .tup vs) hp).push (.tup upd_same z (r.mono (Ex.new (s.mem.st.none hp)) (.refl _)))⟩
theorem St3.newOL {p : Addr} {ds : List Dv} {vs : List V} (s : St3 c ρ m σ H T G μ) (r : RepL c.K c.mg μ G ds vs) (hp : H p = none) : S3 c ρ m σ (upd H p (.lst vs)) ((some (.ref p), .own (.lst ds)) :: T) :=
  ⟨G, μ, s.newO hp ⟨vs, upd_same, r⟩⟩
def obD : Ob → Dv
  | .lst ds => .lst ds
  | .dct kvs => .dct kvs
  | .dcT kvs => .dcT kvs
  | .ins c fs => .ins c fs
  | .raw _ => .non
def obZ : Ob → Bool
  | .lst ds => decide (ds.length ≤ sizeLine)
  | .dct kvs => decide (kvs.length ≤ sizeLine)
  | .dcT kvs => decide (kvs.length ≤ sizeLine)
  | .ins c fs => true
  | .raw _ => false
theorem obAt_rep {G : Hp} {a : Addr} {o : Ob} {u : HO} (h : ObAt K mg μ G H a o) (e : H a = some u) (z : obZ o = true) (g : G a = none) : Rep K mg μ (upd G a u) (obD o) (.ref a) := by
  cases o with
  | lst ds => obtain ⟨vs, x, r⟩ := h; rw [e] at x; cases x; exact .lst upd_same (of_decide_eq_true z) (r.mono (Ex.new g) (.refl _))
  | dct ds => obtain ⟨vs, x, r⟩ := h; rw [e] at x; cases x; exact .dct (.inl upd_same) (of_decide_eq_true z) (r.mono (Ex.new g) (.refl _))
  | dcT ds => obtain ⟨vs, x, r⟩ := h; rw [e] at x; cases x; exact .dcT (.inl upd_same) (of_decide_eq_true z) (r.mono (Ex.new g) (.refl _))
  | ins cc fs => obtain ⟨C, dx, ws, q, x, r⟩ := h; rw [e] at x; cases x; exact .ins q upd_same (r.mono (Ex.new g) (.refl _))
  | raw u => cases z
theorem MemOk.frz {a : Addr} {u : HO} (h : MemOk c.K c.mg G μ H m) (e : H a = some u) (g : G a = none) (n : a ∉ μ) : MemOk c.K c.mg (upd G a u) μ H m := by
  refine ⟨fun x w q => ?_, h.len, h.nd, fun k o q => ?_, h.th⟩
  · by_cases hx : x = a
    · subst hx; rw [upd_same] at q; cases q; exact .inl e
    · rw [upd_ne hx] at q; exact h.st x w q
  · obtain ⟨b, e1, e2, e3⟩ := h.ob k o q
    have hb : b ≠ a := fun z => n (by rw [← z]; exact List.mem_of_getElem? e1)
    exact ⟨b, e1, by rw [upd_ne hb]; exact e2, e3.mono (Ex.new g) (.refl _) fun _ q => q⟩
theorem S3.frzTop {p : Addr} {o : Ob} (h : S3 c ρ m σ H ((some (.ref p), .own o) :: T)) (z : obZ o = true) : S3 c ρ m σ H (tv (.ref p) (obD o) :: T) := by
  obtain ⟨G, μ, s⟩ := h
  obtain ⟨a, ea, ob, g, n, h0⟩ := s.cells (some (.ref p), .own o) (by simp)
  cases ea
  obtain ⟨u, hu⟩ := ob.some
  have sp := s.pop
  have nd := s.nd
  rw [List.cons_append, List.filterMap_cons] at nd
  have nd : (p :: (T ++ σ.zip ρ).filterMap ownA).Nodup := nd
  have hnot := (List.nodup_cons.mp nd).1
  refine ⟨upd G p u, μ, St3.push ⟨sp.len, sp.mem.frz hu g n, ⟨sp.le.ex.trans (Ex.new g), sp.le.pre, fun a w h1 h2 h3 => ?_, sp.le.th⟩, fun q hq => ?_, sp.nd⟩ (obAt_rep ob hu z g)⟩
  · obtain ⟨k1, k2, k3⟩ := sp.le.prv a w h1 h2 h3
    have ha : a ≠ p := fun z => by subst z; rw [h0] at h1; cases h1
    exact ⟨k1, by rw [upd_ne ha]; exact k2, k3⟩
  · have k := sp.cells q hq
    obtain ⟨x, y⟩ := q
    cases y with
    | un => trivial
    | val d => obtain ⟨v, e, r⟩ := k; exact ⟨v, e, r.mono (Ex.new g) (.refl _)⟩
    | own o' =>
      obtain ⟨a, e, r, g', n', z'⟩ := k
      have e : x = some (.ref a) := e
      subst e
      have ha : a ≠ p := fun z => by
        subst z
        exact hnot (List.mem_filterMap.mpr ⟨_, hq, rfl⟩)
      exact ⟨a, rfl, r.mono (Ex.new g) (.refl _) (fun _ q => q), by rw [upd_ne ha]; exact g', n', z'⟩
end
section
variable {X : Cx} {E : WX} {a b e : Expr} {fa fb fc : ME} {pos : Pos}
def mVar (i : Nat) : ME := fun ρ m => match ρ[i]? with
  | some (.val d) => .ok (.v d) m
  | some (.own _) => .ok (.b i) m
  | _ => .no
def mC (d : Dv) : ME := fun _ m => .ok (.v d) m
theorem x_var {i : Nat} {x : Str} (hN : X.N[i]? = some x) (hv : Vis X.env.scope x) (hd : (x == ("__debug__" : Str)) = false := by decide) (hcd : (x == ("__classdict__" : Str)) = false := by decide) : PX X E (.Name x pos) (mVar i) :=
  PEi (pe_var hN hv hd hcd) fun σ H Q ⟨b, ρ, m, T, S, w⟩ => by
    obtain ⟨G, μ, s⟩ := S
    unfold mVar at w
    cases e : ρ[i]? with
    | none => rw [e] at w; exact w.elim
    | some cc =>
      rw [e] at w
      cases cc with
      | un => exact w.elim
      | own o =>
        obtain ⟨a, q, r⟩ := s.ownAt e
        exact ⟨.ref a, q, w _ H ⟨G, μ, s⟩ (fun j z => by cases z; exact q)⟩
      | val d =>
        obtain ⟨v, q, r⟩ := s.slot e
        exact ⟨v, q, w.v ⟨G, μ, s.push r⟩⟩
theorem x_c {v : V} {d : Dv} (h : PE X e (tC v)) (ev : vOf d = some v) : PX X E e (mC d) :=
  PEi h fun σ H Q ⟨b, ρ, m, T, ⟨G, μ, s⟩, w⟩ => Want.s w s ev
theorem x_int {i j pos} : PX X E (.Constant (.int i) j pos) (mC (.int i)) := x_c pe_int rfl
theorem x_bl {i j pos} : PX X E (.Constant (.bool i) j pos) (mC (.bl i)) := x_c pe_bl rfl
theorem x_str {i j pos} : PX X E (.Constant (.str i) j pos) (mC (.str i)) := x_c pe_str rfl
theorem x_non {j pos} : PX X E (.Constant .none j pos) (mC .non) := x_c pe_non rfl
theorem x_glob {x : Str} {v : V} {u : Value} {d : Dv} (hg : Gl X x) (hm : X.mg x = some u) (r : RelV v u) (hr : ∀ mu G, Rep X.K X.mg mu G d v) (hd : (x == ("__debug__" : Str)) = false := by decide) : PX X E (.Name x pos) (mC d) :=
  PEi (pe_glob hg hm r hd) fun σ H Q ⟨b, ρ, m, T, ⟨G, μ, s⟩, w⟩ => Want.v w ⟨G, μ, s.push (hr _ _)⟩
def UnS (K : PySem.W.Frag) (mg : Str → Option Value) (E : WX) (r : V → Hp → VK → Prop) (g : Sl → Mm → Ar → Rs Ar) : Prop :=
  ∀ (b : Bs) (ρ : Sl) (m : Mm) (σ : L2.St) (H : Hp) (T : Tm) (G : Hp) (μ : List Addr) (v : V) (x : Ar) (Q : VK), St3 (b.cf K mg) ρ m σ H T G μ → ArAt K mg μ G σ v x → Want E (b.cf K mg) ρ σ T Q (g ρ m x) → r v H Q
def OpS (K : PySem.W.Frag) (mg : Str → Option Value) (E : WX) (r : R2) (g : Sl → Mm → Ar → Ar → Rs Ar) : Prop :=
  ∀ (b : Bs) (ρ : Sl) (m : Mm) (σ : L2.St) (H : Hp) (T : Tm) (G : Hp) (μ : List Addr) (v u : V) (x y : Ar) (Q : VK), St3 (b.cf K mg) ρ m σ H T G μ → ArAt K mg μ G σ v x → ArAt K mg μ G σ u y → Want E (b.cf K mg) ρ σ T Q (g ρ m x y) → r v u H Q
def mUn (g : Sl → Mm → Ar → Rs Ar) (fa : ME) : ME := fun ρ m => (fa ρ m).bind fun x m1 => g ρ m1 x
def mBin (g : Sl → Mm → Ar → Ar → Rs Ar) (fa fb : ME) : ME := fun ρ m => (fa ρ m).bind fun x m1 => (fb ρ m1).bind fun y m2 => g ρ m2 x y
section
variable {K : PySem.W.Frag} {mg : Str → Option Value}
theorem un_want {r : V → Hp → VK → Prop} {g : Sl → Mm → Ar → Rs Ar} (hs : UnS K mg E r g) {σ : L2.St} {H : Hp} {Q : VK} (h : tOf K mg E (mUn g fa) σ H Q) : tUn r (tOf K mg E fa) σ H Q := by
  obtain ⟨b, ρ, m, T, S, w⟩ := h
  refine ⟨b, ρ, m, T, S, ?_⟩
  unfold mUn at w
  revert w
  cases fa ρ m with
  | no => exact id
  | ex x m1 => exact id
  | ok x m1 =>
    intro w v H1 ⟨G, μ, s⟩ hb
    exact hs b ρ m1 σ H1 T G μ v x Q s.pops (s.ar (S := T) hb) w
theorem bin_want {r : R2} {g : Sl → Mm → Ar → Ar → Rs Ar} (hs : OpS K mg E r g) {σ : L2.St} {H : Hp} {Q : VK} (h : tOf K mg E (mBin g fa fb) σ H Q) : tOp r (tOf K mg E fa) (tOf K mg E fb) σ H Q := by
  obtain ⟨b, ρ, m, T, S, w⟩ := h
  refine ⟨b, ρ, m, T, S, ?_⟩
  unfold mBin at w
  revert w
  cases fa ρ m with
  | no => exact id
  | ex x m1 => exact id
  | ok x m1 =>
    intro w v H1 S1 hb1
    refine ⟨b, ρ, m1, tva v x ++ T, S1, ?_⟩
    have w : Want E (b.cf K mg) ρ σ T Q ((fb ρ m1).bind fun y m2 => g ρ m2 x y) := w
    revert w
    cases fb ρ m1 with
    | no => exact id
    | ex x m2 => exact fun w => WantX.weak w
    | ok y m2 =>
      intro w u H2 ⟨G, μ, s⟩ hb2
      exact hs b ρ m2 σ H2 T G μ v u x y Q s.pops.pops (s.pops.ar (S := T) hb1) (s.ar (S := T) hb2) w
theorem OpS.or {r r' : R2} {g g' g'' : Sl → Mm → Ar → Ar → Rs Ar} (h : OpS K mg E r g) (h' : OpS K mg E r' g') (hg : ∀ ρ m x y, g'' ρ m x y = g ρ m x y ∨ g'' ρ m x y = g' ρ m x y) : OpS K mg E (fun x y H Q => r x y H Q ∨ r' x y H Q) g'' :=
  fun b ρ m σ H T G μ v u x y Q s r1 r2 w => by
    rcases hg ρ m x y with q | q
    · rw [q] at w; exact .inl (h b ρ m σ H T G μ v u x y Q s r1 r2 w)
    · rw [q] at w; exact .inr (h' b ρ m σ H T G μ v u x y Q s r1 r2 w)
end
theorem x_bin {op : Operator} {r : R2} {g : Sl → Mm → Ar → Ar → Rs Ar} (ho : OpR X (binaryOp op) r) (hs : OpS X.K X.mg E r g) (ha : PX X E a fa) (hb : PX X E b fb) : PX X E (.BinOp a op b pos) (mBin g fa fb) :=
  PEi (pe_op ho ha hb) fun _ _ _ h => bin_want hs h
theorem x_cmp {op : CmpOp} {r : R2} {g : Sl → Mm → Ar → Ar → Rs Ar} (ho : OpR X (compareOp op) r) (hs : OpS X.K X.mg E r g) (ha : PX X E a fa) (hb : PX X E b fb) (hm : behindInMarks op b = false) : PX X E (.Compare a [op] [b] pos) (mBin g fa fb) :=
  PEi (pe_cmpR ho ha hb hm) fun _ _ _ h => bin_want hs h
theorem x_ix {r : R2} {g : Sl → Mm → Ar → Ar → Rs Ar} (hr : IxR X r) (hs : OpS X.K X.mg E r g) (ha : PX X E a fa) (hb : PX X E b fb) (hp : PlainIx b) : PX X E (.Subscript a b pos) (mBin g fa fb) :=
  PEi (pe_ix hr ha hb hp) fun _ _ _ h => bin_want hs h
end
end M3
set_option Elab.async false
set_option linter.all false
set_option autoImplicit false
set_option maxRecDepth 100000
set_option maxHeartbeats 2000000
namespace M3
open PySem L2 PySem.Spec PyProof.Rows
section
variable {K : PySem.W.Frag} {mg : Str → Option Value} {E : WX} {c : Cf} {ρ : Sl} {m : Mm} {σ : L2.St} {H : Hp} {T : Tm} {G : Hp} {μ : List Addr}
def gInt (C : Int → Int → Prop) [∀ i j, Decidable (C i j)] (g : Int → Int → Dv) : Sl → Mm → Ar → Ar → Rs Ar := fun _ m x y => match x, y with
  | .v (.int i), .v (.int j) => if C i j then .ok (.v (g i j)) m else .no
  | _, _ => .no
theorem opS_I {C : Int → Int → Prop} [∀ i j, Decidable (C i j)] {g : Int → Int → Dv} {gv : Int → Int → V} (hg : ∀ i j, vOf (g i j) = some (gv i j)) : OpS K mg E (rI C gv) (gInt C g) :=
  fun b ρ m σ H T G μ v u x y Q s r1 r2 w => by
    unfold gInt at w
    split at w
    · rename_i i j
      split at w
      · rename_i hc
        exact ⟨i, j, vOf_rep rfl r1, vOf_rep rfl r2, hc, Want.s w s (hg i j)⟩
      · exact w.elim
    · exact w.elim
def gInt0 (g : Int → Int → Dv) : Sl → Mm → Ar → Ar → Rs Ar := fun _ m x y => match x, y with
  | .v (.int i), .v (.int j) => .ok (.v (g i j)) m
  | _, _ => .no
theorem opS_I0 {g : Int → Int → Dv} {gv : Int → Int → V} (hg : ∀ i j, vOf (g i j) = some (gv i j)) : OpS K mg E (rI0 gv) (gInt0 g) :=
  fun b ρ m σ H T G μ v u x y Q s r1 r2 w => by
    unfold gInt0 at w
    split at w
    · rename_i i j
      exact ⟨i, j, vOf_rep rfl r1, vOf_rep rfl r2, Want.s w s (hg i j)⟩
    · exact w.elim
def gUn (g : Int → Dv) : Sl → Mm → Ar → Rs Ar := fun _ m x => match x with
  | .v (.int i) => .ok (.v (g i)) m
  | _ => .no
instance : ∀ i j, Decidable (CDivW i j) := fun i j => by unfold CDivW; infer_instance
instance : ∀ i j, Decidable (CMulW i j) := fun i j => by unfold CMulW; infer_instance
instance : ∀ i j, Decidable (CPow i j) := fun i j => by unfold CPow; infer_instance
instance : ∀ i j, Decidable (CMul i j) := fun i j => by unfold CMul; infer_instance
def CMulX (i j : Int) : Prop := CMulW i j ∨ CMul i j
instance : ∀ i j, Decidable (CMulX i j) := fun i j => by unfold CMulX; infer_instance
theorem op_mulX {X : Cx} : OpR X (binaryOp .Mult) (rI CMulX fun i j => .int (i * j)) := opI fun _ _ _ _ _ _ _ hc q => mul_int q (hc.elim (fun h => h.ok) (fun h => h.ok))
abbrev gSub := gInt0 fun i j => .int (i - j)
abbrev gFdiv := gInt CDivW fun i j => .int (i / j)
abbrev gMod := gInt (fun _ j => 0 < j) fun i j => .int (i % j)
abbrev gPow := gInt CPow fun i j => .int (i ^ j.toNat)
abbrev gLt := gInt0 fun i j => .bl (decide (i < j))
abbrev gLe := gInt0 fun i j => .bl (decide (i ≤ j))
abbrev gGt := gInt0 fun i j => .bl (decide (j < i))
abbrev gGe := gInt0 fun i j => .bl (decide (j ≤ i))
def tupOfT : Ar → Option (List Dv)
  | .v (.tup ds) => some ds
  | _ => none
theorem tupOfT_tup {x : Ar} {ds : List Dv} (h : tupOfT x = some ds) : tupOf x = some ds := by
  unfold tupOfT at h
  split at h
  · exact h
  · cases h
def gAdd : Sl → Mm → Ar → Ar → Rs Ar := fun ρ m x y => match x, y with
  | .v (.int i), .v (.int j) => .ok (.v (.int (i + j))) m
  | .v (.str i), .v (.str j) => if i.length + j.length ≤ sizeLine then .ok (.v (.str (i ++ j))) m else .no
  | x, y => match lstOf ρ m x, lstOf ρ m y with
    | some xs, some ys => if xs.length + ys.length ≤ sizeLine then .ok (.v (.lst (xs ++ ys))) m else .no
    | _, _ => match tupOfT x, tupOf y with
      | some xs, some ys => if xs.isEmpty = false ∧ xs.length + ys.length ≤ sizeLine then .ok (.v (.tup (xs ++ ys))) m else .no
      | _, _ => .no
def rAddU (K : PySem.W.Frag) : R2 := fun x y H Q => (rI0 fun i j => .int (i + j)) x y H Q ∨ (fun x y H Q => ∃ i j, x = .str i ∧ y = .str j ∧ i.length + j.length ≤ sizeLine ∧ Q (.str (i ++ j)) H) x y H Q ∨ rCat x y H Q ∨ rCatT K x y H Q
theorem op_addU {X : Cx} : OpR X (binaryOp .Add) (rAddU X.K) := OpR.or op_add (OpR.or op_add_str (OpR.or op_cat op_catT))
theorem opS_add : OpS K mg E (rAddU K) gAdd := fun b ρ m σ H T G μ v u x y Q s r1 r2 w => by
  unfold gAdd at w
  split at w
  · exact .inl ⟨_, _, vOf_rep rfl r1, vOf_rep rfl r2, Want.s w s rfl⟩
  · split at w
    · rename_i z
      exact .inr (.inl ⟨_, _, vOf_rep rfl r1, vOf_rep rfl r2, z, Want.s w s rfl⟩)
    · exact w.elim
  · split at w
    · rename_i xs ys hx hy
      split at w
      · rename_i z
        obtain ⟨a, vs, rfl, ha, ra⟩ := lst_at s r1 hx
        obtain ⟨b', ws, rfl, hb, rb⟩ := lst_at s r2 hy
        have z' : vs.length + ws.length ≤ sizeLine := by rw [← ra.length, ← rb.length]; exact z
        exact .inr (.inr (.inl ⟨a, b', vs, ws, rfl, rfl, ha, hb, z', fun p hp => w.v (s.newL (rb.app ra) (by rw [List.length_append]; exact z) hp)⟩))
      · exact w.elim
    · split at w
      · rename_i xs ys hx hy
        split at w
        · rename_i z
          obtain ⟨a, vs, rfl, ha, ra⟩ := tup_at s r1 (tupOfT_tup hx)
          obtain ⟨b', ws, rfl, hb, rb⟩ := tup_at s r2 hy
          have z' : vs.length + ws.length ≤ sizeLine := by rw [← ra.length, ← rb.length]; exact z.2
          refine .inr (.inr (.inr ⟨a, b', vs, ws, rfl, rfl, ha, hb, ?_, z', fun e => ?_, fun e p hp => w.v (s.newT (rb.app ra) (by rw [List.length_append]; exact z.2) hp)⟩))
          · intro e; subst e
            have := ra.length
            have z1 := z.1
            cases xs with
            | nil => simp at z1
            | cons _ _ => simp at this
          · subst e
            have := rb.length
            cases ys with
            | cons _ _ => simp at this
            | nil =>
              rw [List.append_nil] at w
              cases x with
              | b i => unfold tupOfT at hx; simp at hx
              | v d =>
                cases d <;> simp [tupOfT] at hx
                subst hx
                exact w.v ⟨G, μ, s.push r1⟩
        · exact w.elim
      · exact w.elim
def gMul : Sl → Mm → Ar → Ar → Rs Ar := fun ρ m x y => match x, y with
  | .v (.int i), .v (.int j) => if CMulX i j then .ok (.v (.int (i * j))) m else .no
  | x, .v (.int k) => match lstOf ρ m x with
    | some xs => if -(2 ^ 63) ≤ k ∧ k < 2 ^ 63 ∧ xs.length * k.toNat ≤ sizeLine then .ok (.v (.lst (List.replicate k.toNat xs).flatten)) m else .no
    | none => .no
  | _, _ => .no
theorem repL_rep {xs : List Dv} {vs : List V} (r : RepL K mg μ G xs vs) : ∀ n : Nat, RepL K mg μ G (List.replicate n xs).flatten (List.replicate n vs).flatten
  | 0 => .nil
  | n + 1 => by rw [List.replicate_succ, List.replicate_succ, List.flatten_cons, List.flatten_cons]; exact (repL_rep r n).app r
theorem flat_len {α : Type} (xs : List α) : ∀ n : Nat, (List.replicate n xs).flatten.length = xs.length * n
  | 0 => rfl
  | n + 1 => by rw [List.replicate_succ, List.flatten_cons, List.length_append, flat_len xs n, Nat.mul_succ, Nat.add_comm]
theorem opS_mul : OpS K mg E (fun x y H Q => (rI CMulX fun i j => .int (i * j)) x y H Q ∨ rRep x y H Q) gMul := fun b ρ m σ H T G μ v u x y Q s r1 r2 w => by
  unfold gMul at w
  split at w
  · split at w
    · rename_i z
      exact .inl ⟨_, _, vOf_rep rfl r1, vOf_rep rfl r2, z, Want.s w s rfl⟩
    · exact w.elim
  · split at w
    · rename_i xs hx
      split at w
      · rename_i z
        obtain ⟨a, vs, rfl, ha, ra⟩ := lst_at s r1 hx
        refine .inr ⟨a, _, vs, rfl, vOf_rep rfl r2, ha, z.1, z.2.1, by rw [← ra.length]; exact z.2.2, fun p hp => w.v (s.newL (repL_rep ra _) (by rw [flat_len]; exact z.2.2) hp)⟩
      · exact w.elim
    · exact w.elim
  · exact w.elim
mutual
def toPy : Dv → Option PyData
  | .non => some .none
  | .bl b => some (.bool b)
  | .int i => some (.int i)
  | .str x => some (.str x)
  | .lst ds => (toPys ds).map .list
  | .tup ds => (toPys ds).map .tuple
  | .ktp ds => (toPys ds).map .tuple
  | _ => none
def toPys : List Dv → Option (List PyData)
  | [] => some []
  | d :: ds => match toPy d, toPys ds with
    | some p, some ps => some (p :: ps)
    | _, _ => none
end
mutual
theorem Rep.dp (st : Stands G H) : ∀ {d : Dv} {v : V} {p : PyData}, Rep K mg μ G d v → toPy d = some p → Dp K H v p
  | _, _, _, .non, e => by simp [toPy] at e; subst e; exact .non
  | _, _, _, .bl b, e => by simp [toPy] at e; subst e; exact .bl b
  | _, _, _, .int b, e => by simp [toPy] at e; subst e; exact .int b
  | _, _, _, .str b, e => by simp [toPy] at e; subst e; exact .str b
  | _, _, _, .ty b, e => by simp [toPy] at e
  | _, _, _, .lst h z r, e => by
    simp only [toPy, Option.map_eq_some_iff] at e
    obtain ⟨ps, e1, rfl⟩ := e
    exact .lst (SqL.of (st.l h)) (RepL.dp st r e1)
  | _, _, _, .scr h, e => by simp [toPy] at e
  | _, _, _, .tup h z r, e => by
    simp only [toPy, Option.map_eq_some_iff] at e
    obtain ⟨ps, e1, rfl⟩ := e
    exact .tup (SqT.of (st.t h)) (RepL.dp st r e1)
  | _, _, _, .ktp h r, e => by
    simp only [toPy, Option.map_eq_some_iff] at e
    obtain ⟨ps, e1, rfl⟩ := e
    exact .tup (st.tup h) (RepL.dp st r e1)
  | _, _, _, .dct h z r, e => by simp [toPy] at e
  | _, _, _, .dcT h z r, e => by simp [toPy] at e
  | _, _, _, .lck h r, e => by simp [toPy] at e
  | _, _, _, .lckT h r, e => by simp [toPy] at e
  | _, _, _, .ins a h r, e => by simp [toPy] at e
  | _, _, _, .loc a, e => by simp [toPy] at e
  | _, _, _, .glb a h, e => by simp [toPy] at e
theorem RepL.dp (st : Stands G H) : ∀ {d : List Dv} {v : List V} {p : List PyData}, RepL K mg μ G d v → toPys d = some p → DpAll K H v p
  | _, _, _, .nil, e => by simp [toPys] at e; subst e; exact .nil
  | _, _, _, .cons a b, e => by
    simp only [toPys] at e
    split at e
    · rename_i h1 h2
      cases e
      exact .cons (Rep.dp st a h1) (RepL.dp st b h2)
    · cases e
end
def pyOf (ρ : Sl) (m : Mm) (x : Ar) : Option PyData := match x with
  | .v (.loc n) => match lstOf ρ m (.v (.loc n)) with
    | some ds => (toPys ds).map .list
    | none => none
  | .v d => toPy d
  | .b i => match lstOf ρ m (.b i) with
    | some ds => (toPys ds).map .list
    | none => none
theorem py_at (s : St3 c ρ m σ H T G μ) {x : Ar} {v : V} {p : PyData} (r : ArAt c.K c.mg μ G σ v x) (e : pyOf ρ m x = some p) : Dp c.K H v p := by
  unfold pyOf at e
  split at e
  · split at e
    · rename_i h
      simp only [Option.map_eq_some_iff] at e
      obtain ⟨ps, e1, rfl⟩ := e
      obtain ⟨a, vs, rfl, ha, ra⟩ := lst_at s r h
      exact .lst (SqL.of ha) (ra.dp s.mem.st e1)
    · cases e
  · exact Rep.dp s.mem.st r e
  · split at e
    · rename_i h
      simp only [Option.map_eq_some_iff] at e
      obtain ⟨ps, e1, rfl⟩ := e
      obtain ⟨a, vs, rfl, ha, ra⟩ := lst_at s r h
      exact .lst (SqL.of ha) (ra.dp s.mem.st e1)
    · cases e
def aV : Ar → Option V
  | .v d => vOf d
  | .b _ => none
theorem aV_at {x : Ar} {v w : V} (r : ArAt K mg μ G σ v x) (e : aV x = some w) : v = w := by
  cases x with
  | v d => exact vOf_rep e r
  | b i => cases e
def eqOf (ρ : Sl) (m : Mm) (x y : Ar) : Option Bool := match aV x, aV y with
  | some v, some w => if scal v w = true then some (decide (v = w)) else match pyOf ρ m x, pyOf ρ m y with
    | some p, some q => if SeqAt.shaped p = true ∧ SeqAt.shaped q = true then some (PyData.eqv p q) else none
    | _, _ => none
  | _, _ => match pyOf ρ m x, pyOf ρ m y with
    | some p, some q => if SeqAt.shaped p = true ∧ SeqAt.shaped q = true then some (PyData.eqv p q) else none
    | _, _ => none
def gEq : Sl → Mm → Ar → Ar → Rs Ar := fun ρ m x y => match eqOf ρ m x y with
  | some k => .ok (.v (.bl k)) m
  | none => .no
def gNe : Sl → Mm → Ar → Ar → Rs Ar := fun ρ m x y => match eqOf ρ m x y with
  | some k => .ok (.v (.bl (!k))) m
  | none => .no
theorem eq_at (s : St3 c ρ m σ H T G μ) {x y : Ar} {v u : V} {k : Bool} (r1 : ArAt c.K c.mg μ G σ v x) (r2 : ArAt c.K c.mg μ G σ u y) (e : eqOf ρ m x y = some k) :
    (scal v u = true ∧ k = decide (v = u)) ∨ ∃ p q, Dp c.K H v p ∧ Dp c.K H u q ∧ SeqAt.shaped p = true ∧ SeqAt.shaped q = true ∧ k = PyData.eqv p q := by
  have key : ∀ {k : Bool}, (match pyOf ρ m x, pyOf ρ m y with
    | some p, some q => if SeqAt.shaped p = true ∧ SeqAt.shaped q = true then some (PyData.eqv p q) else none
    | _, _ => none) = some k → ∃ p q, Dp c.K H v p ∧ Dp c.K H u q ∧ SeqAt.shaped p = true ∧ SeqAt.shaped q = true ∧ k = PyData.eqv p q := by
    intro k e
    split at e
    · rename_i h1 h2
      split at e
      · rename_i z
        cases e
        exact ⟨_, _, py_at s r1 h1, py_at s r2 h2, z.1, z.2, rfl⟩
      · cases e
    · cases e
  unfold eqOf at e
  split at e
  · rename_i h1 h2
    split at e
    · rename_i z
      cases e
      rw [aV_at r1 h1, aV_at r2 h2]
      exact .inl ⟨z, rfl⟩
    · exact .inr (key e)
  · exact .inr (key e)
theorem opS_eq : OpS K mg E (fun x y H Q => rEq x y H Q ∨ rEqD K x y H Q) gEq := fun b ρ m σ H T G μ v u x y Q s r1 r2 w => by
  unfold gEq at w
  split at w
  · rename_i k e
    rcases eq_at s r1 r2 e with ⟨z, rfl⟩ | ⟨p, q, h1, h2, h3, h4, rfl⟩
    · exact .inl ⟨z, Want.s w s rfl⟩
    · exact .inr ⟨p, q, h1, h2, h3, h4, Want.s w s rfl⟩
  · exact w.elim
theorem opS_ne : OpS K mg E (fun x y H Q => rNe x y H Q ∨ rNeD K x y H Q) gNe := fun b ρ m σ H T G μ v u x y Q s r1 r2 w => by
  unfold gNe at w
  split at w
  · rename_i k e
    rcases eq_at s r1 r2 e with ⟨z, rfl⟩ | ⟨p, q, h1, h2, h3, h4, rfl⟩
    · exact .inl ⟨z, Want.s w s rfl⟩
    · exact .inr ⟨p, q, h1, h2, h3, h4, Want.s w s rfl⟩
  · exact w.elim
def isN : Ar → Option Bool
  | .v .non => some true
  | .v (.glb _) => none
  | .v _ => some false
  | .b _ => none
theorem isN_at {x : Ar} {v : V} {k : Bool} (r : ArAt K mg μ G σ v x) (e : isN x = some k) : decide (v = .non) = k := by
  cases x with
  | b i => cases e
  | v d =>
    have r : Rep K mg μ G d v := r
    cases r <;> first | (cases e; rfl) | cases e
def gIsN (neg : Bool) : Sl → Mm → Ar → Ar → Rs Ar := fun _ m x y => match y, isN x with
  | .v .non, some k => .ok (.v (.bl (if neg = true then !k else k))) m
  | _, _ => .no
theorem opS_isN : OpS K mg E (fun x y H Q => y = .non ∧ Q (.bl (decide (x = .non))) H) (gIsN false) := fun b ρ m σ H T G μ v u x y Q s r1 r2 w => by
  unfold gIsN at w
  split at w
  · rename_i k e
    exact ⟨vOf_rep rfl r2, Want.s w s (by rw [isN_at r1 e]; rfl)⟩
  · exact w.elim
def dget {κ : Type} [DecidableEq κ] (kvs : List (κ × Dv)) (k : κ) : Option Dv := (kvs.find? fun kv => decide (kv.1 = k)).map (·.2)
theorem dget_cons {κ : Type} [DecidableEq κ] (p : κ × Dv) (r : List (κ × Dv)) (k : κ) : dget (p :: r) k = if p.1 = k then some p.2 else dget r k := by
  by_cases h : p.1 = k <;> simp [dget, List.find?_cons, h]
theorem repK_get {κ : Type} [DecidableEq κ] {kvs : List (κ × Dv)} : ∀ {ws : List (κ × V)} (k : κ), RepK K mg μ G kvs ws → (∀ d, dget kvs k = some d → ∃ v, valV ws k = some v ∧ Rep K mg μ G d v) ∧ (dget kvs k = none → valV ws k = none) := by
  induction kvs with
  | nil => intro ws k h; cases h; exact ⟨fun d e => by simp [dget] at e, fun _ => rfl⟩
  | cons p r ih =>
    intro ws k h
    cases h with
    | @cons _ k' d v _ vs a b =>
      rw [dget_cons]
      by_cases e : k' = k
      · rw [valV_pos (p := (k', v)) e]
        simp only [e, if_true]
        exact ⟨fun d' z => by cases z; exact ⟨v, rfl, a⟩, fun z => by cases z⟩
      · rw [valV_neg (p := (k', v)) e]
        simp only [e, if_false]
        exact ih k b
def keyD : Dv → Option Key
  | .int i => some (.inl i)
  | .str x => some (.inr x)
  | _ => none
def keyOf : Ar → Option Key
  | .v d => keyD d
  | .b _ => none
def keyDs : List Dv → Option (List Key)
  | [] => some []
  | d :: ds => match keyD d, keyDs ds with
    | some k, some ks => some (k :: ks)
    | _, _ => none
def tkeyOf : Ar → Option (List Key)
  | .v (.tup ds) => keyDs ds
  | _ => none
theorem keyD_rep {d : Dv} {v : V} {k : Key} (r : Rep K mg μ G d v) (e : keyD d = some k) : v = kV k := by
  cases r <;> simp [keyD] at e <;> subst e <;> rfl
theorem keyDs_rep {ds : List Dv} : ∀ {vs : List V} {ks : List Key}, RepL K mg μ G ds vs → keyDs ds = some ks → vs = ks.map kV := by
  induction ds with
  | nil => intro vs ks r e; cases r; simp [keyDs] at e; subst e; rfl
  | cons d ds ih =>
    intro vs ks r e
    cases r with
    | cons a b =>
      simp only [keyDs] at e
      split at e
      · rename_i h1 h2
        cases e
        rw [keyD_rep a h1, ih b h2]; rfl
      · cases e
def dctOf (ρ : Sl) (m : Mm) : Ar → Option (List (Key × Dv))
  | .v (.dct kvs) => some kvs
  | .v (.loc n) => match m[n]? with
    | some (some (.dct kvs)) => some kvs
    | _ => none
  | .b i => match ρ[i]? with
    | some (.own (.dct kvs)) => some kvs
    | _ => none
  | _ => none
def dcTOf (ρ : Sl) (m : Mm) : Ar → Option (List (List Key × Dv))
  | .v (.dcT kvs) => some kvs
  | .v (.loc n) => match m[n]? with
    | some (some (.dcT kvs)) => some kvs
    | _ => none
  | .b i => match ρ[i]? with
    | some (.own (.dcT kvs)) => some kvs
    | _ => none
  | _ => none
theorem dct_at (s : St3 c ρ m σ H T G μ) {x : Ar} {v : V} {kvs : List (Key × Dv)} (r : ArAt c.K c.mg μ G σ v x) (e : dctOf ρ m x = some kvs) : ∃ a ws, v = .ref a ∧ Rd H a (.dK ws) ∧ RepK c.K c.mg μ G kvs ws := by
  unfold dctOf at e
  split at e
  · cases e
    cases r with
    | dct h z r => exact ⟨_, _, rfl, s.mem.st.rdD h, r⟩
  · split at e
    · rename_i h
      cases e
      cases r with
      | loc hm =>
        obtain ⟨a, e1, e2, vs, e3, e4⟩ := s.mem.ob _ _ h
        rw [hm] at e1; cases e1
        exact ⟨_, _, rfl, .inl e3, e4⟩
    · cases e
  · split at e
    · rename_i h
      cases e
      obtain ⟨a, q, ⟨vs, e3, e4⟩, _⟩ := s.ownAt h
      have r : σ[_]? = some (some v) := r
      rw [q] at r; cases r
      exact ⟨a, vs, rfl, .inl e3, e4⟩
    · cases e
  · cases e
theorem dcT_at (s : St3 c ρ m σ H T G μ) {x : Ar} {v : V} {kvs : List (List Key × Dv)} (r : ArAt c.K c.mg μ G σ v x) (e : dcTOf ρ m x = some kvs) : ∃ a ws, v = .ref a ∧ Rd H a (.dT ws) ∧ RepK c.K c.mg μ G kvs ws := by
  unfold dcTOf at e
  split at e
  · cases e
    cases r with
    | dcT h z r => exact ⟨_, _, rfl, s.mem.st.rdD h, r⟩
  · split at e
    · rename_i h
      cases e
      cases r with
      | loc hm =>
        obtain ⟨a, e1, e2, vs, e3, e4⟩ := s.mem.ob _ _ h
        rw [hm] at e1; cases e1
        exact ⟨_, _, rfl, .inl e3, e4⟩
    · cases e
  · split at e
    · rename_i h
      cases e
      obtain ⟨a, q, ⟨vs, e3, e4⟩, _⟩ := s.ownAt h
      have r : σ[_]? = some (some v) := r
      rw [q] at r; cases r
      exact ⟨a, vs, rfl, .inl e3, e4⟩
    · cases e
  · cases e
def dlook (ρ : Sl) (m : Mm) (x y : Ar) : Option (Option Dv) := match dctOf ρ m x, keyOf y with
  | some kvs, some k => some (dget kvs k)
  | _, _ => match dcTOf ρ m x, tkeyOf y with
    | some kvs, some k => some (dget kvs k)
    | _, _ => none
theorem dlook_at (s : St3 c ρ m σ H T G μ) {x y : Ar} {v u : V} {o : Option Dv} (r1 : ArAt c.K c.mg μ G σ v x) (r2 : ArAt c.K c.mg μ G σ u y) (e : dlook ρ m x y = some o) :
    ∃ a r, v = .ref a ∧ DGet H a u r ∧ (∀ d, o = some d → ∃ w, r = some w ∧ Rep c.K c.mg μ G d w) ∧ (o = none → r = none) := by
  unfold dlook at e
  split at e
  · rename_i kvs k h1 h2
    cases e
    obtain ⟨a, ws, rfl, ha, ra⟩ := dct_at s r1 h1
    cases y with
    | b i => cases h2
    | v d =>
      have hu := keyD_rep (k := k) r2 h2
      exact ⟨a, valV ws k, rfl, .inl ⟨ws, k, ha, hu, rfl⟩, (repK_get k ra).1, (repK_get k ra).2⟩
  · split at e
    · rename_i kvs k h1 h2
      cases e
      obtain ⟨a, ws, rfl, ha, ra⟩ := dcT_at s r1 h1
      cases y with
      | b i => cases h2
      | v d =>
        have r2 : Rep c.K c.mg μ G d u := r2
        cases r2 with
        | tup h z rr =>
          have hk := keyDs_rep rr h2
          subst hk
          exact ⟨a, valV ws k, rfl, .inr ⟨ws, k, _, ha, rfl, s.mem.st.t h, rfl⟩, (repK_get k ra).1, (repK_get k ra).2⟩
        | _ => cases h2
    · cases e
def vOfs : List Dv → Option (List V)
  | [] => some []
  | d :: ds => match vOf d, vOfs ds with
    | some v, some vs => some (v :: vs)
    | _, _ => none
def inOf (ρ : Sl) (m : Mm) (x y : Ar) : Option Bool := match dlook ρ m y x with
  | some o => some o.isSome
  | none => match aV x, (seqOf ρ m y).bind vOfs with
    | some v, some vs => if flatV v = true ∧ vs.all flatV = true then some (inV v vs) else none
    | _, _ => match pyOf ρ m x, (lstOf ρ m y).bind toPys with
      | some p, some ps => if SeqAt.shaped p = true ∧ SeqAt.shaped (.list ps) = true then some (ps.any fun z => PyData.eqv z p) else none
      | _, _ => none
def gIn (neg : Bool) : Sl → Mm → Ar → Ar → Rs Ar := fun ρ m x y => match inOf ρ m x y with
  | some k => .ok (.v (.bl (if neg = true then !k else k))) m
  | none => .no
def gIx : Sl → Mm → Ar → Ar → Rs Ar := fun ρ m x y => match dlook ρ m x y with
  | some (some d) => .ok (.v d) m
  | some none => .no
  | none => match y with
    | .v (.int i) => match seqOf ρ m x with
      | some ds => match atI ds i with
        | some d => .ok (.v d) m
        | none => .no
      | none => match x with
        | .v (.str z) => if z.length ≤ sizeLine then match atI z.cps.toList i with
          | some k => .ok (.v (.str ⟨#[k]⟩)) m
          | none => .no
          else .no
        | _ => .no
    | _ => .no
theorem ix_dct {X : Cx} (hu : X.A.units + 1 < cLine) : IxR X (fun x y H Q => ∃ a v, x = .ref a ∧ DGet H a y (some v) ∧ Q v H) := by
  intro value slice pins s σ H x y v u Q I rx ry h hs
  obtain ⟨a, z, rfl, g, q⟩ := h
  obtain rfl : v = Value.ref a := rx
  have hT := dict_typeIs I g
  unfold subscriptTail
  refine wpAny_bind ?_
  rw [getitemInPython_of_ne hT.not_modules]
  refine wpAny_bind (wpAny_specialOf hT PySem.F.slot_dict_getitem.lookup ?_)
  have fin : wpAny (model X.prog X.w) X.A (subscripted slice false (.ref a) u) (fun r s₃ => wpAny (model X.prog X.w) X.A (letTemporaryGo value (.ref a) r >>= fun _ => pure r) (EP X pins σ Q) X.xe s₃) X.xe s := by
    rw [hs]
    exact wpAny_operating (wpAny_mono (d_getItem hu I g ry (Q := fun r s' => EP X pins σ Q r s') fun w' s' I' r' => ⟨z, H, I', r', q⟩) (fun r s₃ h₃ => wpAny_bind (wpAny_letTemporaryGo (wpAny_pure h₃))) fun _ _ x => x)
  first
    | exact wpAny_pure (wpAny_bind fin)
    | exact wpAny_bind (wpAny_pure (wpAny_bind fin))
    | exact wpAny_bind fin
def rIxU (K : PySem.W.Frag) : R2 := fun x y H Q => (∃ a v, x = .ref a ∧ DGet H a y (some v) ∧ Q v H) ∨ rIx K x y H Q
theorem ix_U {X : Cx} (hu : X.A.units + 1 < cLine) : IxR X (rIxU X.K) := (ix_dct hu).or ix_seq
theorem repL_atI {ds : List Dv} {vs : List V} {i : Int} {d : Dv} (r : RepL K mg μ G ds vs) (e : atI ds i = some d) : ∃ v, atI vs i = some v ∧ Rep K mg μ G d v := by
  unfold atI at e ⊢
  rw [← r.length]
  obtain ⟨j, h1, h2⟩ := Option.bind_eq_some_iff.mp e
  rw [h1]
  exact r.get h2
theorem opS_ix : OpS K mg E (rIxU K) gIx := fun b ρ m σ H T G μ v u x y Q s r1 r2 w => by
  unfold gIx at w
  split at w
  · rename_i d h
    obtain ⟨a, r, rfl, g, h1, h2⟩ := dlook_at s r1 r2 h
    obtain ⟨z, rfl, rz⟩ := h1 _ rfl
    exact .inl ⟨a, z, rfl, g, w.v ⟨G, μ, s.push rz⟩⟩
  · exact w.elim
  · split at w
    · rename_i i _
      have hu : u = .int i := vOf_rep rfl r2
      split at w
      · rename_i ds h
        split at w
        · rename_i d e
          obtain ⟨a, vs, rfl, ha, ra⟩ := seq_at s r1 h
          obtain ⟨z, ez, rz⟩ := repL_atI ra e
          rcases ha with ha | ha
          · exact .inr (.inl ⟨a, vs, i, z, rfl, hu, ha, ez, w.v ⟨G, μ, s.push rz⟩⟩)
          · exact .inr (.inr (.inl ⟨a, vs, i, z, rfl, hu, ha, ez, w.v ⟨G, μ, s.push rz⟩⟩))
        · exact w.elim
      · split at w
        · rename_i z _ _
          split at w
          · rename_i hz
            split at w
            · rename_i k e
              exact .inr (.inr (.inr ⟨z, i, k, vOf_rep rfl r1, hu, hz, e, Want.s w s rfl⟩))
            · exact w.elim
          · exact w.elim
        · exact w.elim
    · exact w.elim
end
end M3
set_option Elab.async false
set_option linter.all false
set_option autoImplicit false
set_option maxRecDepth 100000
set_option maxHeartbeats 2000000
namespace M3
open PySem L2 PySem.Spec PyProof.Rows
section
variable {K : PySem.W.Frag} {mg : Str → Option Value} {E : WX} {c : Cf} {ρ : Sl} {m : Mm} {σ : L2.St} {H : Hp} {T : Tm} {G : Hp} {μ : List Addr}
def truOf (ρ : Sl) (m : Mm) (x : Ar) : Option Bool := match x with
  | .v .non => some false
  | .v (.bl b) => some b
  | .v (.int i) => some (i != 0)
  | .v (.str s) => if s.length ≤ sizeLine then some ((s.length : Int) != 0) else none
  | x => match seqOf ρ m x with
    | some ds => some (!ds.isEmpty)
    | none => none
theorem isEmpty_of {ds : List Dv} {vs : List V} (r : RepL K mg μ G ds vs) : ds.isEmpty = vs.isEmpty := by cases r <;> rfl
theorem tru_at (s : St3 c ρ m σ H T G μ) {x : Ar} {v : V} {k : Bool} (r : ArAt c.K c.mg μ G σ v x) (e : truOf ρ m x = some k) : TruV c.K v H k := by
  unfold truOf at e
  split at e
  · cases e; cases r; rfl
  · cases e; cases r; rfl
  · cases e; cases r; rfl
  · split at e
    · cases e; cases r; exact ⟨by assumption, rfl⟩
    · cases e
  · split at e
    · rename_i h
      cases e
      obtain ⟨a, vs, rfl, ha, ra⟩ := seq_at s r h
      rw [isEmpty_of ra]
      rcases ha with ha | ha
      · exact .inl ⟨vs, ha, rfl⟩
      · exact .inr (.inl ⟨vs, ha, rfl⟩)
    · cases e
def mTru (f : ME) : MB := fun ρ m => (f ρ m).bind fun x m1 => match truOf ρ m1 x with
  | some k => .ok k m1
  | none => .no
def mIsB (f : ME) : MB := fun ρ m => (f ρ m).bind fun x m1 => match x with
  | .v (.bl k) => .ok k m1
  | _ => .no
def mNot (f : MB) : MB := fun ρ m => (f ρ m).bind fun k m1 => .ok (!k) m1
def mAndB (f g : MB) : MB := fun ρ m => (f ρ m).bind fun k m1 => if k = true then g ρ m1 else .ok false m1
def mOrB (f g : MB) : MB := fun ρ m => (f ρ m).bind fun k m1 => if k = true then .ok true m1 else g ρ m1
def mAndV (f g : ME) : ME := fun ρ m => (f ρ m).bind fun x m1 => match truOf ρ m1 x with
  | some k => if k = true then g ρ m1 else .ok x m1
  | none => .no
def mOrV (f g : ME) : ME := fun ρ m => (f ρ m).bind fun x m1 => match truOf ρ m1 x with
  | some k => if k = true then .ok x m1 else g ρ m1
  | none => .no
def mNotV (f : ME) : ME := fun ρ m => (f ρ m).bind fun x m1 => match truOf ρ m1 x with
  | some k => .ok (.v (.bl (!k))) m1
  | none => .no
def mIf (t : MB) (f g : ME) : ME := fun ρ m => (t ρ m).bind fun k m1 => if k = true then f ρ m1 else g ρ m1
def mChain (g g' : Sl → Mm → Ar → Ar → Rs Ar) (fa fb fc : ME) : ME := fun ρ m => (fa ρ m).bind fun x m1 => (fb ρ m1).bind fun y m2 => (g ρ m2 x y).bind fun z m3 => match z with
  | .v (.bl k) => if k = true then (fc ρ m3).bind fun w m4 => g' ρ m4 y w else .ok (.v (.bl false)) m3
  | _ => .no
end
section
variable {X : Cx} {E : WX} {a b e : Expr} {fa fb fc : ME} {ta tb : MB} {pos : Pos} {rest : List Expr}
theorem b_tru (ha : PX X E a fa) (he : ∀ whole, isTrue a X.env whole = (do let v ← whole; standAt a.pos; holding [v] (truthy v))) : PB X E a (mTru fa) :=
  PTi (pt_truth ha he) fun σ H Q ⟨b, ρ, m, T, S, w⟩ => by
    refine ⟨b, ρ, m, T, S, ?_⟩
    unfold mTru at w
    revert w
    cases fa ρ m with
    | no => exact id
    | ex x m1 => exact id
    | ok x m1 =>
      intro w v H1 ⟨G, μ, s⟩ hb
      have w : WantB E (b.cf X.K X.mg) ρ σ T Q (match truOf ρ m1 x with | some k => .ok k m1 | none => .no) := w
      split at w
      · rename_i k e
        exact ⟨k, tru_at s (s.ar (S := T) hb) e, w H1 ⟨G, μ, s.pops⟩⟩
      · exact w.elim
theorem b_not (ha : PB X E a ta) : PB X E (.UnaryOp .Not a pos) (mNot ta) :=
  PTi (pt_not ha) fun σ H Q ⟨b, ρ, m, T, S, w⟩ => by
    refine ⟨b, ρ, m, T, S, ?_⟩
    unfold mNot at w
    revert w
    cases ta ρ m with
    | no => exact id
    | ex x m1 => exact id
    | ok x m1 => exact id
theorem bw_one (ha : PB X E a ta) {op : BoolOp} : PBW X E (.BoolOp op [a] pos) ta := by
  cases op with
  | And => exact pw_and1 ha
  | Or => exact pw_or1 ha
theorem bw_and (ha : PB X E a ta) (hb : PBW X E (.BoolOp .And (b :: rest) pos) tb) : PBW X E (.BoolOp .And (a :: b :: rest) pos) (mAndB ta tb) :=
  PWi (pw_and ha hb) fun σ H Q ⟨b, ρ, m, T, S, w⟩ => by
    refine ⟨b, ρ, m, T, S, ?_⟩
    unfold mAndB at w
    revert w
    cases ta ρ m with
    | no => exact id
    | ex x m1 => exact id
    | ok k m1 =>
      intro w H1 S1
      have w : WantB E (b.cf X.K X.mg) ρ σ T Q (if k = true then tb ρ m1 else .ok false m1) := w
      by_cases hk : k = true
      · rw [if_pos hk] at w ⊢; exact ⟨b, ρ, m1, T, S1, w⟩
      · rw [if_neg hk] at w ⊢; exact w H1 S1
theorem bw_or (ha : PB X E a ta) (hb : PBW X E (.BoolOp .Or (b :: rest) pos) tb) : PBW X E (.BoolOp .Or (a :: b :: rest) pos) (mOrB ta tb) :=
  PWi (pw_or ha hb) fun σ H Q ⟨b, ρ, m, T, S, w⟩ => by
    refine ⟨b, ρ, m, T, S, ?_⟩
    unfold mOrB at w
    revert w
    cases ta ρ m with
    | no => exact id
    | ex x m1 => exact id
    | ok k m1 =>
      intro w H1 S1
      have w : WantB E (b.cf X.K X.mg) ρ σ T Q (if k = true then .ok true m1 else tb ρ m1) := w
      by_cases hk : k = true
      · rw [if_pos hk] at w ⊢; exact w H1 S1
      · rw [if_neg hk] at w ⊢; exact ⟨b, ρ, m1, T, S1, w⟩
theorem b_w (h : PBW X E e ta) : PB X E e ta := PW.pt h
theorem isB_want {K : PySem.W.Frag} {mg : Str → Option Value} {σ : L2.St} {H : Hp} {Q : Bool → Hp → Prop} (h : tbOf K mg E (mIsB fa) σ H Q) : tTest (tOf K mg E fa) σ H Q := by
  obtain ⟨b, ρ, m, T, S, w⟩ := h
  refine ⟨b, ρ, m, T, S, ?_⟩
  unfold mIsB at w
  revert w
  cases fa ρ m with
  | no => exact id
  | ex x m1 => exact id
  | ok x m1 =>
    intro w v H1 ⟨G, μ, s⟩ hb
    rw [Rs.bind_ok] at w
    split at w
    · rename_i k
      exact ⟨k, vOf_rep rfl s.top, w H1 ⟨G, μ, s.pops⟩⟩
    · exact w.elim
theorem b_cmp {op : CmpOp} {r : R2} {g : Sl → Mm → Ar → Ar → Rs Ar} (ho : OpR X (compareOp op) r) (hs : OpS X.K X.mg E r g) (ha : PX X E a fa) (hb : PX X E b fb) (hm : behindInMarks op b = false) : PB X E (.Compare a [op] [b] pos) (mIsB (mBin g fa fb)) :=
  PTi (pt_cmpR ho ha hb hm) fun σ H Q h => by
    have h' := isB_want h
    exact bin_want hs h'
theorem chain_want {K : PySem.W.Frag} {mg : Str → Option Value} {r r' : R2} {g g' : Sl → Mm → Ar → Ar → Rs Ar} (hs : OpS K mg E r g) (hs' : OpS K mg E r' g') {σ : L2.St} {H : Hp} {Q : VK} (h : tOf K mg E (mChain g g' fa fb fc) σ H Q) : tChain r r' (tOf K mg E fa) (tOf K mg E fb) (tOf K mg E fc) σ H Q := by
  obtain ⟨b, ρ, m, T, S, w⟩ := h
  refine ⟨b, ρ, m, T, S, ?_⟩
  unfold mChain at w
  revert w
  cases fa ρ m with
  | no => exact id
  | ex x m1 => exact id
  | ok x m1 =>
    intro w v H1 S1 hb1
    refine ⟨b, ρ, m1, tva v x ++ T, S1, ?_⟩
    have w : Want E (b.cf K mg) ρ σ T Q ((fb ρ m1).bind fun y m2 => (g ρ m2 x y).bind fun z m3 => match z with
      | .v (.bl k) => if k = true then (fc ρ m3).bind fun w m4 => g' ρ m4 y w else .ok (.v (.bl false)) m3
      | _ => .no) := w
    revert w
    cases fb ρ m1 with
    | no => exact id
    | ex x m2 => exact fun w => WantX.weak w
    | ok y m2 =>
      intro w u H2 ⟨G, μ, s⟩ hb2
      have r2 := s.ar (S := tva v x ++ T) hb2
      have r1 := s.pops.ar (S := T) hb1
      -- the state that keeps y
      refine hs b ρ m2 σ H2 (tva u y ++ T) G μ v u x y _ ?_ r1 r2 ?_
      · refine s.weak (fun p hp => ?_) ?_
        · rcases List.mem_append.mp hp with q | q
          · exact List.mem_append_left _ q
          · exact List.mem_append_right _ (List.mem_append_right _ q)
        · rw [List.filterMap_append, List.filterMap_append, List.filterMap_append]
          exact List.Sublist.append (List.Sublist.refl _) (List.sublist_append_right _ _)
      · have w : Want E (b.cf K mg) ρ σ T Q ((g ρ m2 x y).bind fun z m3 => match z with
          | .v (.bl k) => if k = true then (fc ρ m3).bind fun w m4 => g' ρ m4 y w else .ok (.v (.bl false)) m3
          | _ => .no) := w
        revert w
        cases g ρ m2 x y with
        | no => exact id
        | ex x m3 => exact fun w => WantX.weak w
        | ok z m3 =>
          intro w zv H3 ⟨G3, μ3, s3⟩ hb3
          rw [Rs.bind_ok] at w
          split at w
          · rename_i k
            refine ⟨k, vOf_rep rfl s3.top, ?_⟩
            by_cases hk : k = true
            · rw [if_pos hk] at w ⊢
              refine ⟨b, ρ, m3, tva u y ++ T, ⟨G3, μ3, s3.pops⟩, ?_⟩
              revert w
              cases fc ρ m3 with
              | no => exact id
              | ex x m4 => exact fun w => WantX.weak w
              | ok q m4 =>
                intro w wv H4 ⟨G4, μ4, s4⟩ hb4
                exact hs' b ρ m4 σ H4 T G4 μ4 u wv y q Q s4.pops.pops (s4.pops.ar (S := T) hb2) (s4.ar (S := tva u y ++ T) hb4) w
            · rw [if_neg hk] at w ⊢
              exact Want.s w s3.pops.pops rfl
          · exact w.elim
theorem b_chain {op op' : CmpOp} {d : Expr} {r r' : R2} {g g' : Sl → Mm → Ar → Ar → Rs Ar} (ho : OpR X (compareOp op) r) (ho' : OpR X (compareOp op') r') (hs : OpS X.K X.mg E r g) (hs' : OpS X.K X.mg E r' g') (ha : PX X E a fa) (hb : PX X E b fb) (hc : PX X E d fc)
    (hm : lastMarks [op, op'] [b, d] = false) : PB X E (.Compare a [op, op'] [b, d] pos) (mIsB (mChain g g' fa fb fc)) :=
  PTi (pt_chain ho ho' ha hb hc hm) fun σ H Q h => by
    have h' := isB_want h
    exact chain_want hs hs' h'
theorem x_one {op : BoolOp} (ha : PX X E a fa) : PX X E (.BoolOp op [a] pos) fa := pe_one ha
theorem x_and (ha : PX X E a fa) (hb : PX X E (.BoolOp .And (b :: rest) pos) fb) : PX X E (.BoolOp .And (a :: b :: rest) pos) (mAndV fa fb) :=
  PEi (pe_andT ha hb) fun σ H Q ⟨b, ρ, m, T, S, w⟩ => by
    refine ⟨b, ρ, m, T, S, ?_⟩
    unfold mAndV at w
    revert w
    cases fa ρ m with
    | no => exact id
    | ex x m1 => exact id
    | ok x m1 =>
      intro w v H1 ⟨G, μ, s⟩ hb
      have w : Want E (b.cf X.K X.mg) ρ σ T Q (match truOf ρ m1 x with | some k => if k = true then fb ρ m1 else .ok x m1 | none => .no) := w
      split at w
      · rename_i k e
        refine ⟨k, tru_at s (s.ar (S := T) hb) e, ?_⟩
        by_cases hk : k = true
        · rw [if_pos hk] at w ⊢; exact ⟨b, ρ, m1, T, ⟨G, μ, s.pops⟩, w⟩
        · rw [if_neg hk] at w ⊢; exact w v H1 ⟨G, μ, s⟩ hb
      · exact w.elim
def insOf (ρ : Sl) (m : Mm) : Ar → Option (Str × List (Str × Dv))
  | .v (.ins c fs) => some (c, fs)
  | .v (.loc n) => match m[n]? with
    | some (some (.ins c fs)) => some (c, fs)
    | _ => none
  | .b i => match ρ[i]? with
    | some (.own (.ins c fs)) => some (c, fs)
    | _ => none
  | _ => none
theorem ins_at {c : Cf} {ρ : Sl} {m : Mm} {σ : L2.St} {H : Hp} {T : Tm} {G : Hp} {μ : List Addr} (s : St3 c ρ m σ H T G μ) {x : Ar} {v : V} {cn : Str} {fs : List (Str × Dv)} (r : ArAt c.K c.mg μ G σ v x) (e : insOf ρ m x = some (cn, fs)) : ∃ a C dx ws, v = .ref a ∧ c.mg cn = some (.ref C) ∧ H a = some (.ins C dx ws) ∧ RepK c.K c.mg μ G fs ws := by
  unfold insOf at e
  split at e
  · cases e
    cases r with
    | ins h1 h2 r => exact ⟨_, _, _, _, rfl, h1, s.mem.st.ins h2, r⟩
  · split at e
    · rename_i h
      cases e
      cases r with
      | loc hm =>
        obtain ⟨a, e1, e2, C, dx, ws, e3, e4, e5⟩ := s.mem.ob _ _ h
        rw [hm] at e1; cases e1
        exact ⟨_, _, _, _, rfl, e3, e4, e5⟩
    · cases e
  · split at e
    · rename_i h
      cases e
      obtain ⟨a, q, ⟨C, dx, ws, e3, e4, e5⟩, _⟩ := s.ownAt h
      have r : σ[_]? = some (some v) := r
      rw [q] at r; cases r
      exact ⟨_, _, _, _, rfl, e3, e4, e5⟩
    · cases e
  · cases e
theorem repK_look {K : PySem.W.Frag} {mg : Str → Option Value} {μ : List Addr} {G : Hp} {fs : List (Str × Dv)} : ∀ {ws : List (Str × V)} (k : Str), RepK K mg μ G fs ws → (∀ d, fs.lookup k = some d → ∃ v, ws.lookup k = some v ∧ Rep K mg μ G d v) ∧ (fs.lookup k = none → ws.lookup k = none) := by
  induction fs with
  | nil => intro ws k h; cases h; exact ⟨fun d e => by simp at e, fun _ => rfl⟩
  | cons p r ih =>
    intro ws k h
    cases h with
    | @cons _ k' d v _ vs a b =>
      rw [List.lookup_cons, List.lookup_cons]
      cases e : k == k' with
      | true => exact ⟨fun d' z => by cases z; exact ⟨v, rfl, a⟩, fun z => by cases z⟩
      | false => exact ih k b
def mFld (cn f : Str) (fa : ME) : ME := fun ρ m => (fa ρ m).bind fun x m1 => match insOf ρ m1 x with
  | some (c', fs) => if c' = cn then match fs.lookup f with
    | some d => .ok (.v d) m1
    | none => .no
    else .no
  | none => .no
theorem x_fld {cn f : Str} {C : Addr} (hC : X.mg cn = some (.ref C)) (c : Cls X.K C) (n : NoAttr X.K C f) (ha : PX X E a fa) (hb : attributeBase a f X.env (eval a X.env) = eval a X.env) : PX X E (.Attribute a f pos) (mFld cn f fa) :=
  PEi (pe_fld ha hb) fun σ H Q ⟨b, ρ, m, T, S, w⟩ => by
    refine ⟨b, ρ, m, T, S, ?_⟩
    unfold mFld at w
    revert w
    cases fa ρ m with
    | no => exact id
    | ex x m1 => exact id
    | ok x m1 =>
      intro w v H1 ⟨G, μ, s⟩ hb
      rw [Rs.bind_ok] at w
      split at w
      · rename_i c' fs e
        obtain ⟨p, C', dx, ws, rfl, hC', hp, rk⟩ := ins_at s (s.ar (S := T) hb) e
        split at w
        · rename_i hc
          subst hc
          have hC' : X.mg c' = some (.ref C') := hC'
          rw [hC] at hC'; cases hC'
          split at w
          · rename_i d hd
            obtain ⟨z, hz, rz⟩ := (repK_look f rk).1 d hd
            exact ⟨p, C, dx, ws, z, rfl, hp, c, n, hz, w.v ⟨G, μ, s.pops.push rz⟩⟩
          · exact w.elim
        · exact w.elim
      · exact w.elim
def mNil : MA := fun _ m => .ok [] m
def mCons (f : ME) (g : MA) : MA := fun ρ m => (f ρ m).bind fun x m1 => match x with
  | .v d => (g ρ m1).bind fun ds m2 => .ok (d :: ds) m2
  | .b _ => .no
theorem xs_nil : PXs X E [] mNil := PAi pa_nil fun σ H Q ⟨b, ρ, m, T, S, w⟩ => w [] H rfl S
theorem xs_cons {es : List Expr} {g : MA} (ha : PX X E e fa) (hr : PXs X E es g) (hs : starEach (e :: es) X.env = (false, eval e X.env) :: starEach es X.env) : PXs X E (e :: es) (mCons fa g) :=
  PAi (pa_cons ha hr hs) fun σ H Q ⟨b, ρ, m, T, S, w⟩ => by
    refine ⟨b, ρ, m, T, S, ?_⟩
    unfold mCons at w
    revert w
    cases fa ρ m with
    | no => exact id
    | ex x m1 => exact id
    | ok x m1 =>
      intro w v H1 S1 hb
      cases x with
      | b i => exact w.elim
      | v d =>
        have w : WantA E (b.cf X.K X.mg) ρ σ T Q ((g ρ m1).bind fun ds m2 => .ok (d :: ds) m2) := w
        refine ⟨b, ρ, m1, tv v d :: T, S1, ?_⟩
        revert w
        cases g ρ m1 with
        | no => exact id
        | ex x m2 => exact fun w => WantX.weak (S := [tv v d]) w
        | ok ds m2 =>
          intro w vs H2 hl ⟨G, μ, s⟩
          refine w (v :: vs) H2 (by simp [hl]) ⟨G, μ, ?_⟩
          show St3 _ ρ m2 σ H2 (tv v d :: (tvs vs ds ++ T)) G μ
          refine s.weak (fun p hp => ?_) ?_
          · rcases List.mem_cons.mp hp with rfl | q
            · simp
            · rcases List.mem_append.mp q with q | q
              · exact List.mem_append_left _ q
              · exact List.mem_append_right _ (List.mem_cons_of_mem _ q)
          · rw [List.filterMap_cons, ownA_val, List.filterMap_append, List.filterMap_append, List.filterMap_cons, ownA_val]
            exact List.Sublist.refl _
theorem tvs_rep {c : Cf} {ρ : Sl} {m : Mm} {σ : L2.St} {H : Hp} {T : Tm} {G : Hp} {μ : List Addr} : ∀ {vs : List V} {ds : List Dv}, vs.length = ds.length → St3 c ρ m σ H (tvs vs ds ++ T) G μ → RepL c.K c.mg μ G ds vs
  | [], [], _, _ => .nil
  | v :: vs, d :: ds, h, s => .cons (St3.top (T := tvs vs ds ++ T) s) (tvs_rep (by simpa using h) (St3.pop (p := tv v d) s))
def mTup (f : MA) : ME := fun ρ m => (f ρ m).bind fun ds m1 => if ds.length ≤ sizeLine then .ok (.v (.tup ds)) m1 else .no
def mLst (f : MA) : MN := fun ρ m => (f ρ m).bind fun ds m1 => if ds.length ≤ sizeLine then .ok (.lst ds) m1 else .no
theorem x_tup {es : List Expr} {g : MA} {k : Nat} (h : PXs X E es g) : PX X E (.Tuple es k pos) (mTup g) :=
  PEi (pe_tup h) fun σ H Q ⟨b, ρ, m, T, S, w⟩ => by
    refine ⟨b, ρ, m, T, S, ?_⟩
    unfold mTup at w
    revert w
    cases g ρ m with
    | no => exact id
    | ex x m1 => exact id
    | ok ds m1 =>
      intro w vs H1 hl ⟨G, μ, s⟩
      have w : Want E (b.cf X.K X.mg) ρ σ T Q (if ds.length ≤ sizeLine then .ok (.v (.tup ds)) m1 else .no) := w
      split at w
      · rename_i z
        exact ⟨by rw [hl]; exact z, fun p hp => w.v (s.pops.newT (tvs_rep hl s) z hp)⟩
      · exact w.elim
theorem n_lst {es : List Expr} {g : MA} (h : PXs X E es g) : PN X E (.List es pos) (mLst g) :=
  PEi (pe_lst h) fun σ H Q ⟨b, ρ, m, T, S, w⟩ => by
    refine ⟨b, ρ, m, T, S, ?_⟩
    unfold mLst at w
    revert w
    cases g ρ m with
    | no => exact id
    | ex x m1 => exact id
    | ok ds m1 =>
      intro w vs H1 hl ⟨G, μ, s⟩
      have w : WantN E (b.cf X.K X.mg) ρ σ T Q (if ds.length ≤ sizeLine then .ok (.lst ds) m1 else .no) := w
      split at w
      · rename_i z
        exact ⟨by rw [hl]; exact z, fun p hp => w p _ (s.pops.newOL (tvs_rep hl s) hp)⟩
      · exact w.elim
def mFrz (f : MN) : ME := fun ρ m => (f ρ m).bind fun o m1 => if obZ o = true then .ok (.v (obD o)) m1 else .no
theorem x_frz {f : MN} (h : PN X E e f) : PX X E e (mFrz f) :=
  PEi h fun σ H Q ⟨b, ρ, m, T, S, w⟩ => by
    refine ⟨b, ρ, m, T, S, ?_⟩
    unfold mFrz at w
    revert w
    cases f ρ m with
    | no => exact id
    | ex x m1 => exact id
    | ok o m1 =>
      intro w p H1 S1
      have w : Want E (b.cf X.K X.mg) ρ σ T Q (if obZ o = true then .ok (.v (obD o)) m1 else .no) := w
      split at w
      · rename_i z
        exact w.v (S1.frzTop z)
      · exact w.elim
def CallS (K : PySem.W.Frag) (mg : Str → Option Value) (E : WX) (r : List V → Hp → VK → Prop) (g : Sl → Mm → List Dv → Rs Ar) : Prop :=
  ∀ (b : Bs) (ρ : Sl) (m : Mm) (σ : L2.St) (H : Hp) (T : Tm) (G : Hp) (μ : List Addr) (vs : List V) (ds : List Dv) (Q : VK), St3 (b.cf K mg) ρ m σ H T G μ → RepL K mg μ G ds vs → Want E (b.cf K mg) ρ σ T Q (g ρ m ds) → r vs H Q
def mCB (g : Sl → Mm → List Dv → Rs Ar) (f : MA) : ME := fun ρ m => (f ρ m).bind fun ds m1 => g ρ m1 ds
theorem cb_want {K : PySem.W.Frag} {mg : Str → Option Value} {r : List V → Hp → VK → Prop} {g : Sl → Mm → List Dv → Rs Ar} {f : MA} (hs : CallS K mg E r g) {σ : L2.St} {H : Hp} {Q : VK} (h : tOf K mg E (mCB g f) σ H Q) : tCB r (taOf K mg E f) σ H Q := by
  obtain ⟨b, ρ, m, T, S, w⟩ := h
  refine ⟨b, ρ, m, T, S, ?_⟩
  unfold mCB at w
  revert w
  cases f ρ m with
  | no => exact id
  | ex x m1 => exact id
  | ok ds m1 =>
    intro w vs H1 hl ⟨G, μ, s⟩
    exact hs b ρ m1 σ H1 T G μ vs ds Q s.pops (tvs_rep hl s) w
section
variable {x : Str} {p : Pos} {es : List Expr} {f : MA} {r : List V → Hp → VK → Prop}
theorem x_callB {id : String} {g : Sl → Mm → List Dv → Rs Ar} (hc : CallR X (.builtin id) r) (hs : CallS X.K X.mg E r g) (hg : Gl X x) (hm : X.mg x = none) (hv : bootBuiltins x = some (.builtin id)) (ha : PXs X E (e :: es) f) (hn : x ≠ "__name__" := by decide) (hdb : (x == ("__debug__" : Str)) = false := by decide) (he : starEach (e :: es) X.env = (false, eval e X.env) :: starEach es X.env := by rfl) (hpl : (backTo pos (starEach es X.env)).any (·.1) = false := by rfl) : PX X E (.Call (.Name x p) (e :: es) [] pos) (mCB g f) :=
  PEi (pe_callB hc hg hm hv ha hn hdb he hpl) fun _ _ _ h => cb_want hs h
end
end
end M3
set_option Elab.async false
set_option linter.all false
set_option autoImplicit false
set_option maxRecDepth 100000
set_option maxHeartbeats 2000000
namespace M3
open PySem L2 PySem.Spec PyProof.Rows
inductive RS where
  | nx (ρ : Sl) (m : Mm) | rt (d : Dv) (m : Mm) | bk (ρ : Sl) (m : Mm) | ct (ρ : Sl) (m : Mm) | ex (x : Dv) (ρ : Sl) (m : Mm) | no
abbrev MS := Sl → Mm → RS
def FinV (c : Cf) (m : Mm) (H : Hp) (d : Dv) (v : V) : Prop := ∃ G μ, MemOk c.K c.mg G μ H m ∧ Le c.G0 c.μ0 c.H0 G μ H ∧ Rep c.K c.mg μ G d v
def WantS (E : WX) (c : Cf) (T : Tm) (D : Ends) : RS → Prop
  | .nx ρ m => ∀ σ H, S3 c ρ m σ H T → D.nx σ H
  | .rt d m => ∀ v H, FinV c m H d v → D.rt v H
  | .bk ρ m => ∀ σ H, S3 c ρ m σ H T → D.bk σ H
  | .ct ρ m => ∀ σ H, S3 c ρ m σ H T → D.ct σ H
  | .ex x ρ m => ∀ σ, WantX E c ρ σ T x m
  | .no => False
def tsOf (K : PySem.W.Frag) (mg : Str → Option Value) (E : WX) (f : MS) : TS := fun D σ H => ∃ (b : Bs) (ρ : Sl) (m : Mm) (T : Tm), S3 (b.cf K mg) ρ m σ H T ∧ WantS E (b.cf K mg) T D (f ρ m)
abbrev PSx (X : Cx) (E : WX) (st : Stmt) (f : MS) : Prop := PS X st (tsOf X.K X.mg E f)
abbrev PSsx (X : Cx) (E : WX) (st : List Stmt) (f : MS) : Prop := PSs X st (tsOf X.K X.mg E f)
theorem PSi {X : Cx} {st : Stmt} {t t' : TS} (h : PS X st t) (i : ∀ D σ H, t' D σ H → t D σ H) : PS X st t' := ⟨fun pins s σ H D I q => h.run pins s σ H D I (i D σ H q)⟩
theorem PSsi {X : Cx} {st : List Stmt} {t t' : TS} (h : PSs X st t) (i : ∀ D σ H, t' D σ H → t D σ H) : PSs X st t' := ⟨fun pins s σ H D I q => h.run pins s σ H D I (i D σ H q)⟩
def Rs.st {α : Type} (r : Rs α) (ρ : Sl) (k : α → Mm → RS) : RS := match r with
  | .ok a m => k a m
  | .ex x m => .ex x ρ m
  | .no => .no
@[simp] theorem Rs.st_ok {α : Type} (a : α) (m : Mm) (ρ : Sl) (k : α → Mm → RS) : (Rs.ok a m).st ρ k = k a m := rfl
@[simp] theorem Rs.st_ex {α : Type} (x : Dv) (m : Mm) (ρ : Sl) (k : α → Mm → RS) : (Rs.ex x m).st ρ k = .ex x ρ m := rfl
@[simp] theorem Rs.st_no {α : Type} (ρ : Sl) (k : α → Mm → RS) : (Rs.no : Rs α).st ρ k = .no := rfl
section
variable {K : PySem.W.Frag} {mg : Str → Option Value} {E : WX} {c : Cf} {ρ : Sl} {m : Mm} {σ : L2.St} {H : Hp} {T : Tm} {G : Hp} {μ : List Addr}
theorem ownA_zip_set_val {σ : L2.St} : ∀ {ρ : Sl} {i : Nat} {x : Option V} {y : Cell}, ownA (x, y) = none → (((σ.set i x).zip (ρ.set i y)).filterMap ownA).Sublist ((σ.zip ρ).filterMap ownA) := by
  induction σ with
  | nil => intro ρ i x y h; simp
  | cons s σ ih =>
    intro ρ i x y h
    cases ρ with
    | nil => simp
    | cons r ρ =>
      cases i with
      | zero =>
        simp only [List.set_cons_zero, List.zip_cons_cons, List.filterMap_cons, h]
        split
        · exact List.Sublist.refl _
        · exact List.sublist_cons_self _ _
      | succ i =>
        simp only [List.set_cons_succ, List.zip_cons_cons, List.filterMap_cons]
        split
        · exact ih h
        · exact List.Sublist.cons₂ _ (ih h)
theorem mem_zip_set {σ : L2.St} : ∀ {ρ : Sl} {i : Nat} {x : Option V} {y : Cell} {p : Option V × Cell}, p ∈ (σ.set i x).zip (ρ.set i y) → p = (x, y) ∨ p ∈ σ.zip ρ := by
  induction σ with
  | nil => intro ρ i x y p h; simp at h
  | cons s σ ih =>
    intro ρ i x y p h
    cases ρ with
    | nil => simp at h
    | cons r ρ =>
      cases i with
      | zero =>
        simp only [List.set_cons_zero, List.zip_cons_cons, List.mem_cons] at h ⊢
        rcases h with h | h
        · exact .inl h
        · exact .inr (.inr h)
      | succ i =>
        simp only [List.set_cons_succ, List.zip_cons_cons, List.mem_cons] at h ⊢
        rcases h with h | h
        · exact .inr (.inl h)
        · rcases ih h with h | h
          · exact .inl h
          · exact .inr (.inr h)
theorem St3.setV {i : Nat} {v : V} {d : Dv} (h : St3 c ρ m σ H (tv v d :: T) G μ) : St3 c (ρ.set i (.val d)) m (σ.set i (some v)) H T G μ where
  len := by rw [List.length_set, List.length_set]; exact h.len
  mem := h.mem
  le := h.le
  cells := fun p hp => by
    rcases List.mem_append.mp hp with q | q
    · exact h.cells p (by simp [q])
    · rcases mem_zip_set q with rfl | q
      · exact h.cells (some v, .val d) (by simp)
      · exact h.cells p (by simp [q])
  nd := by
    have := h.pop.nd
    rw [List.filterMap_append] at this ⊢
    exact this.sublist (List.Sublist.append (List.Sublist.refl _) (ownA_zip_set_val ownA_val))
theorem S3.setV {i : Nat} {v : V} {d : Dv} (h : S3 c ρ m σ H (tv v d :: T)) : S3 c (ρ.set i (.val d)) m (σ.set i (some v)) H T := let ⟨G, μ, s⟩ := h; ⟨G, μ, s.setV⟩
theorem fm_cons {α β : Type} (f : α → Option β) (x : α) (l : List α) : (x :: l).filterMap f = (f x).toList ++ l.filterMap f := by
  rw [List.filterMap_cons]; cases f x <;> rfl
theorem zip_set_own {σ : L2.St} : ∀ {ρ : Sl} {i : Nat} {p : Addr} {o : Ob}, p ∉ (σ.zip ρ).filterMap ownA → ((σ.zip ρ).filterMap ownA).Nodup →
    (((σ.set i (some (.ref p))).zip (ρ.set i (.own o))).filterMap ownA).Nodup ∧ ∀ a, a ∈ ((σ.set i (some (.ref p))).zip (ρ.set i (.own o))).filterMap ownA → a = p ∨ a ∈ (σ.zip ρ).filterMap ownA := by
  induction σ with
  | nil => intro ρ i p o h1 h2; simp
  | cons s σ ih =>
    intro ρ i p o h1 h2
    cases ρ with
    | nil => simp
    | cons r ρ =>
      rw [List.zip_cons_cons, fm_cons] at h1 h2
      cases i with
      | zero =>
        rw [List.set_cons_zero, List.set_cons_zero, List.zip_cons_cons, fm_cons, List.zip_cons_cons, fm_cons]
        have e1 : (ownA (some (V.ref p), Cell.own o)).toList = [p] := rfl
        rw [e1]
        refine ⟨List.nodup_cons.mpr ⟨fun q => h1 (List.mem_append_right _ q), (List.nodup_append.mp h2).2.1⟩, fun a ha => ?_⟩
        rcases List.mem_cons.mp ha with e | q
        · exact .inl e
        · exact .inr (List.mem_append_right _ q)
      | succ i =>
        rw [List.set_cons_succ, List.set_cons_succ, List.zip_cons_cons, fm_cons, List.zip_cons_cons, fm_cons]
        obtain ⟨m1, m2, m3⟩ := List.nodup_append.mp h2
        obtain ⟨q1, q2⟩ := ih (i := i) (o := o) (fun q => h1 (List.mem_append_right _ q)) m2
        refine ⟨List.nodup_append.mpr ⟨m1, q1, fun a ha b hb e => ?_⟩, fun a ha => ?_⟩
        · rcases q2 b hb with z | z
          · exact h1 (List.mem_append_left _ (by rw [← z, ← e]; exact ha))
          · exact m3 a ha b z e
        · rcases List.mem_append.mp ha with q | q
          · exact .inr (List.mem_append_left _ q)
          · rcases q2 a q with e | q
            · exact .inl e
            · exact .inr (List.mem_append_right _ q)
theorem St3.setO {i : Nat} {p : Addr} {o : Ob} (h : St3 c ρ m σ H ((some (.ref p), .own o) :: T) G μ) : St3 c (ρ.set i (.own o)) m (σ.set i (some (.ref p))) H T G μ where
  len := by rw [List.length_set, List.length_set]; exact h.len
  mem := h.mem
  le := h.le
  cells := fun q hq => by
    rcases List.mem_append.mp hq with q' | q'
    · exact h.cells q (by simp [q'])
    · rcases mem_zip_set q' with rfl | q'
      · exact h.cells (some (.ref p), .own o) (by simp)
      · exact h.cells q (by simp [q'])
  nd := by
    have nd := h.nd
    rw [List.cons_append, List.filterMap_cons] at nd
    have nd : (p :: (T ++ σ.zip ρ).filterMap ownA).Nodup := nd
    obtain ⟨n1, n2⟩ := List.nodup_cons.mp nd
    rw [List.filterMap_append] at n1 n2 ⊢
    obtain ⟨m1, m2, m3⟩ := List.nodup_append.mp n2
    obtain ⟨k1, k2⟩ := zip_set_own (i := i) (o := o) (fun q => n1 (List.mem_append_right _ q)) m2
    refine List.nodup_append.mpr ⟨m1, k1, fun a ha b hb e => ?_⟩
    rcases k2 b hb with z | z
    · exact n1 (List.mem_append_left _ (by rw [← z, ← e]; exact ha))
    · exact m3 a ha b z e
theorem S3.setO {i : Nat} {p : Addr} {o : Ob} (h : S3 c ρ m σ H ((some (.ref p), .own o) :: T)) : S3 c (ρ.set i (.own o)) m (σ.set i (some (.ref p))) H T := let ⟨G, μ, s⟩ := h; ⟨G, μ, s.setO⟩
end
section
variable {X : Cx} {E : WX} {a b e : Expr} {fa fb fc : ME} {ta tb : MB} {pos : Pos} {rest : List Expr} {st : Stmt} {sts : List Stmt} {f g : MS}
def mNext : MS := fun ρ m => .nx ρ m
def mSeq (f g : MS) : MS := fun ρ m => match f ρ m with
  | .nx ρ' m' => g ρ' m'
  | r => r
theorem s_nil : PSsx X E [] mNext := PSsi pss_nil fun D σ H ⟨b, ρ, m, T, S, w⟩ => w σ H S
theorem s_cons (h : PSx X E st f) (hr : PSsx X E sts g) : PSsx X E (st :: sts) (mSeq f g) :=
  PSsi (pss_cons h hr) fun D σ H ⟨b, ρ, m, T, S, w⟩ => by
    refine ⟨b, ρ, m, T, S, ?_⟩
    unfold mSeq at w
    revert w
    cases f ρ m with
    | nx ρ' m' => exact fun w σ' H' S' => ⟨b, ρ', m', T, S', w⟩
    | rt d m' => exact id
    | bk ρ' m' => exact id
    | ct ρ' m' => exact id
    | ex x ρ' m' => exact id
    | no => exact id
theorem s_one (h : PSx X E st f) : PSsx X E [st] f := pss_one h
def mBreak : MS := fun ρ m => .bk ρ m
def mCont : MS := fun ρ m => .ct ρ m
def mIfS (t : MB) (f g : MS) : MS := fun ρ m => (t ρ m).st ρ fun k m1 => if k = true then f ρ m1 else g ρ m1
theorem s_if {c : Expr} {sa sb : List Stmt} (hc : PB X E c ta) (ha : PSsx X E sa f) (hb : PSsx X E sb g) : PSx X E (.If c sa sb pos) (mIfS ta f g) :=
  PSi (ps_if hc ha hb) fun D σ H ⟨b, ρ, m, T, S, w⟩ => by
    refine ⟨b, ρ, m, T, S, ?_⟩
    unfold mIfS at w
    revert w
    cases ta ρ m with
    | no => exact id
    | ex x m1 => exact fun w => w σ
    | ok k m1 =>
      intro w H1 S1
      rw [Rs.st_ok] at w
      by_cases hk : k = true
      · rw [if_pos hk] at w ⊢; exact ⟨b, ρ, m1, T, S1, w⟩
      · rw [if_neg hk] at w ⊢; exact ⟨b, ρ, m1, T, S1, w⟩
abbrev MG := Dv → Sl → Option Sl
def OnlyS (is : List Nat) (σ σ' : L2.St) : Prop := ∀ vs : List Nat, (∀ i ∈ is, i ∈ vs) → wipe σ' vs = wipe σ vs
def wipeR (ρ : Sl) : List Nat → Sl
  | [] => ρ
  | v :: vs => (wipeR ρ vs).set v .un
def OnlyR (is : List Nat) (ρ ρ' : Sl) : Prop := ∀ vs : List Nat, (∀ i ∈ is, i ∈ vs) → wipeR ρ' vs = wipeR ρ vs
theorem wipe_set {σ : L2.St} {i : Nat} {x : Option V} : ∀ {vs : List Nat}, i ∈ vs → wipe (σ.set i x) vs = wipe σ vs
  | v :: vs, h => by
    unfold wipe
    by_cases hi : i ∈ vs
    · rw [wipe_set hi]
    · have : i = v := by simpa [hi] using h
      subst this
      have key : ∀ {vs : List Nat}, i ∉ vs → wipe (σ.set i x) vs = (wipe σ vs).set i x := fun {vs} => by
        induction vs with
        | nil => intro _; rfl
        | cons w ws ih =>
          intro h
          simp only [List.mem_cons, not_or] at h
          unfold wipe
          rw [ih h.2, List.set_comm _ _ h.1]
      rw [key hi, List.set_set]
theorem wipeR_set {σ : Sl} {i : Nat} {x : Cell} : ∀ {vs : List Nat}, i ∈ vs → wipeR (σ.set i x) vs = wipeR σ vs
  | v :: vs, h => by
    unfold wipeR
    by_cases hi : i ∈ vs
    · rw [wipeR_set hi]
    · have : i = v := by simpa [hi] using h
      subst this
      have key : ∀ {vs : List Nat}, i ∉ vs → wipeR (σ.set i x) vs = (wipeR σ vs).set i x := fun {vs} => by
        induction vs with
        | nil => intro _; rfl
        | cons w ws ih =>
          intro h
          simp only [List.mem_cons, not_or] at h
          unfold wipeR
          rw [ih h.2, List.set_comm _ _ h.1]
      rw [key hi, List.set_set]
theorem OnlyS.refl (is : List Nat) (σ : L2.St) : OnlyS is σ σ := fun _ _ => rfl
theorem OnlyS.app {is js : List Nat} {σ σ1 σ2 : L2.St} (a : OnlyS is σ σ1) (b : OnlyS js σ1 σ2) : OnlyS (is ++ js) σ σ2 := fun vs h => (b vs fun i q => h i (List.mem_append_right _ q)).trans (a vs fun i q => h i (List.mem_append_left _ q))
theorem OnlyR.app {is js : List Nat} {σ σ1 σ2 : Sl} (a : OnlyR is σ σ1) (b : OnlyR js σ1 σ2) : OnlyR (is ++ js) σ σ2 := fun vs h => (b vs fun i q => h i (List.mem_append_right _ q)).trans (a vs fun i q => h i (List.mem_append_left _ q))
def tgOf (K : PySem.W.Frag) (mg : Str → Option Value) (is : List Nat) (g : MG) : TG := fun v σ H Q => ∃ (b : Bs) (ρ : Sl) (m : Mm) (T : Tm) (d : Dv), S3 (b.cf K mg) ρ m σ H (tv v d :: T) ∧ ∃ ρ', g d ρ = some ρ' ∧ ∀ σ' H', OnlyS is σ σ' → S3 (b.cf K mg) ρ' m σ' H' T → Q σ' H'
structure PGx (X : Cx) (is : List Nat) (tg : Expr) (g : MG) : Prop where
  pg : PG X tg (tgOf X.K X.mg is g)
  on : ∀ d ρ ρ', g d ρ = some ρ' → OnlyR is ρ ρ'
theorem PGi {X : Cx} {tg : Expr} {t t' : TG} (h : PG X tg t) (i : ∀ v σ H Q, t' v σ H Q → t v σ H Q) : PG X tg t' := ⟨fun pins s σ H x v Q I r q => h.run pins s σ H x v Q I r (i _ σ H Q q)⟩
def mGn (i : Nat) : MG := fun d ρ => some (ρ.set i (.val d))
theorem g_name {i : Nat} {x : Str} (hN : X.N.Nodup) (hi : X.N[i]? = some x) (hx : Loc X.env.scope x) (hf : X.fn x = true ∨ X.env.scope.names.lookup x = some .local) : PGx X [i] (.Name x pos) (mGn i) := ⟨
  PGi (pg_name hN hi hx hf) fun v σ H Q ⟨b, ρ, m, T, d, S, ρ', e, q⟩ => by
    cases e
    exact q _ _ (fun vs h => wipe_set (h i (by simp))) S.setV, fun d ρ ρ' e vs h => by cases e; exact wipeR_set (h i (by simp))⟩
abbrev MGs := List Dv → Sl → Option Sl
def tgsOf (K : PySem.W.Frag) (mg : Str → Option Value) (is : List Nat) (g : MGs) : TGs := fun vs σ H Q => ∃ (b : Bs) (ρ : Sl) (m : Mm) (T : Tm) (ds : List Dv), vs.length = ds.length ∧ S3 (b.cf K mg) ρ m σ H (tvs vs ds ++ T) ∧ ∃ ρ', g ds ρ = some ρ' ∧ ∀ σ' H', OnlyS is σ σ' → S3 (b.cf K mg) ρ' m σ' H' T → Q σ' H'
structure PGsx (X : Cx) (is : List Nat) (tg : List Expr) (g : MGs) : Prop where
  pg : PGs X tg (tgsOf X.K X.mg is g)
  on : ∀ d ρ ρ', g d ρ = some ρ' → OnlyR is ρ ρ'
theorem PGsi {X : Cx} {tg : List Expr} {t t' : TGs} (h : PGs X tg t) (i : ∀ v σ H Q, t' v σ H Q → t v σ H Q) : PGs X tg t' := ⟨fun pins s σ H vs us Q I r q => h.run pins s σ H vs us Q I r (i _ σ H Q q)⟩
def mGnil : MGs := fun ds ρ => match ds with
  | [] => some ρ
  | _ => none
def mGcons (g : MG) (h : MGs) : MGs := fun ds ρ => match ds with
  | d :: r => match g d ρ with
    | some ρ' => h r ρ'
    | none => none
  | [] => none
theorem gs_nil : PGsx X [] [] mGnil := ⟨PGsi pgs_nil fun vs σ H Q ⟨b, ρ, m, T, ds, hl, S, ρ', e, q⟩ => by
  cases ds with
  | cons d r => cases e
  | nil =>
    cases e
    cases vs with
    | cons v r => cases hl
    | nil => exact ⟨rfl, q _ _ (OnlyS.refl _ _) S⟩, fun d ρ ρ' e vs h => by
  cases d with
  | nil => cases e; rfl
  | cons _ _ => cases e⟩
theorem gs_cons {es : List Expr} {is js : List Nat} {g : MG} {h : MGs} (h1 : PGx X is e g) (h2 : PGsx X js es h)
    (hs : (assignEach (e :: es) X.env).map (·.2) = assign e X.env :: (assignEach es X.env).map (·.2) := by rfl) : PGsx X (is ++ js) (e :: es) (mGcons g h) := ⟨
  PGsi (pgs_cons h1.pg h2.pg hs) fun vs σ H Q ⟨b, ρ, m, T, ds, hl, S, ρ', e, q⟩ => by
    cases ds with
    | nil => cases e
    | cons d r =>
      cases vs with
      | nil => cases hl
      | cons v vr =>
        have e : (match g d ρ with | some ρ' => h r ρ' | none => none) = some ρ' := e
        cases hg : g d ρ with
        | none => rw [hg] at e; cases e
        | some ρ1 =>
          rw [hg] at e
          exact ⟨v, vr, rfl, b, ρ, m, tvs vr r ++ T, d, S, ρ1, hg, fun σ1 H1 O1 S1 => ⟨b, ρ1, m, T, r, by simpa using hl, S1, ρ', e, fun σ2 H2 O2 S2 => q σ2 H2 (O1.app O2) S2⟩⟩, fun d ρ ρ' e => by
    cases d with
    | nil => cases e
    | cons d r =>
      have e : (match g d ρ with | some ρ' => h r ρ' | none => none) = some ρ' := e
      cases hg : g d ρ with
      | none => rw [hg] at e; cases e
      | some ρ1 => rw [hg] at e; exact (h1.on _ _ _ hg).app (h2.on _ _ _ e)⟩
def mGt (n : Nat) (g : MGs) : MG := fun d ρ => match tupOf (.v d) with
  | some ds => if ds.length = n then g ds ρ else none
  | none => none
theorem s3_tvs {c : Cf} {ρ : Sl} {m : Mm} {σ : L2.St} {H : Hp} {T : Tm} {G : Hp} {μ : List Addr} : ∀ {vs : List V} {ds : List Dv}, RepL c.K c.mg μ G ds vs → St3 c ρ m σ H T G μ → St3 c ρ m σ H (tvs vs ds ++ T) G μ
  | _, _, .nil, s => s
  | _, _, .cons a b, s => St3.push (s3_tvs b s) a
theorem g_tup {es : List Expr} {is : List Nat} {k : Nat} {g : MGs} {n : Nat} (hc : X.calm = true) (h : PGsx X is es g)
    (hn : (assignEach es X.env).length = n := by rfl) (hst : (assignEach es X.env).findIdx? (·.1) = none := by rfl) : PGx X is (.Tuple es k pos) (mGt n g) := ⟨
  PGi (pg_tup hc h.pg hn hst) fun v σ H Q ⟨b, ρ, m, T, d, ⟨G, μ, s⟩, ρ', e, q⟩ => by
    unfold mGt at e
    split at e
    · rename_i ds hd
      split at e
      · rename_i hl
        obtain ⟨a, vs, rfl, ha, ra⟩ := tup_at s (x := .v d) s.top hd
        exact ⟨a, vs, rfl, ha, by rw [← ra.length]; exact hl, b, ρ, m, T, ds, ra.length.symm, ⟨G, μ, s3_tvs ra s.pop⟩, ρ', e, q⟩
      · cases e
    · (cases e), fun d ρ ρ' e => by
    unfold mGt at e
    split at e
    · split at e
      · exact h.on _ _ _ e
      · cases e
    · (cases e)⟩
def mAsg (f : ME) (g : MG) : MS := fun ρ m => (f ρ m).st ρ fun x m1 => match x with
  | .v d => match g d ρ with
    | some ρ' => .nx ρ' m1
    | none => .no
  | .b _ => .no
theorem s_set {i : Nat} {x : Str} {pos' : Pos} (hN : X.N.Nodup) (hi : X.N[i]? = some x) (hx : Loc X.env.scope x) (hf : X.fn x = true ∨ X.env.scope.names.lookup x = some .local) (he : PX X E e fa) (hs : swapsWith e (some (.Name x pos')) pos.line X.env = pure false := by rfl) : PSx X E (.Assign [.Name x pos'] e pos) (mAsg fa (mGn i)) :=
  PSi (ps_set hN hi hx he hs hf) fun D σ H ⟨b, ρ, m, T, S, w⟩ => by
    refine ⟨b, ρ, m, T, S, ?_⟩
    unfold mAsg at w
    revert w
    cases fa ρ m with
    | no => exact id
    | ex x m1 => exact fun w => w σ
    | ok x m1 =>
      intro w v H1 S1 hb
      rw [Rs.st_ok] at w
      cases x with
      | b i => exact w.elim
      | v d => exact w _ _ S1.setV
def mAsgO (i : Nat) (f : MN) : MS := fun ρ m => (f ρ m).st ρ fun o m1 => .nx (ρ.set i (.own o)) m1
theorem s_setO {i : Nat} {x : Str} {pos' : Pos} {f : MN} (hN : X.N.Nodup) (hi : X.N[i]? = some x) (hx : Loc X.env.scope x) (hf : X.fn x = true ∨ X.env.scope.names.lookup x = some .local) (he : PN X E e f) (hs : swapsWith e (some (.Name x pos')) pos.line X.env = pure false := by rfl) : PSx X E (.Assign [.Name x pos'] e pos) (mAsgO i f) :=
  PSi (ps_set hN hi hx he hs hf) fun D σ H ⟨b, ρ, m, T, S, w⟩ => by
    refine ⟨b, ρ, m, T, S, ?_⟩
    unfold mAsgO at w
    revert w
    cases f ρ m with
    | no => exact id
    | ex x m1 => exact fun w => w σ
    | ok o m1 =>
      intro w p H1 S1
      rw [Rs.st_ok] at w
      exact w _ _ S1.setO
def mExpr (f : ME) : MS := fun ρ m => (f ρ m).st ρ fun _ m1 => .nx ρ m1
theorem s_expr (he : PX X E e fa) (hs : swapsWith e none pos.line X.env = pure false := by rfl) : PSx X E (.Expr e pos) (mExpr fa) :=
  PSi (ps_expr he hs) fun D σ H ⟨b, ρ, m, T, S, w⟩ => by
    refine ⟨b, ρ, m, T, S, ?_⟩
    unfold mExpr at w
    revert w
    cases fa ρ m with
    | no => exact id
    | ex x m1 => exact fun w => w σ
    | ok x m1 =>
      intro w v H1 S1 hb
      exact w _ _ S1.pops
theorem S3.fin {c : Cf} {ρ : Sl} {m : Mm} {σ : L2.St} {H : Hp} {T : Tm} {v : V} {d : Dv} (h : S3 c ρ m σ H (tv v d :: T)) : FinV c m H d v := let ⟨G, μ, s⟩ := h; ⟨G, μ, s.mem, s.le, s.top⟩
def mRet (f : ME) : MS := fun ρ m => (f ρ m).st ρ fun x m1 => match x with
  | .v d => .rt d m1
  | .b _ => .no
theorem s_ret (he : PX X E e fa) : PSx X E (.Return (some e) pos) (mRet fa) :=
  PSi (ps_ret he) fun D σ H ⟨b, ρ, m, T, S, w⟩ => by
    refine ⟨b, ρ, m, T, S, ?_⟩
    unfold mRet at w
    revert w
    cases fa ρ m with
    | no => exact id
    | ex x m1 => exact fun w => w σ
    | ok x m1 =>
      intro w v H1 S1 hb
      rw [Rs.st_ok] at w
      cases x with
      | b i => exact w.elim
      | v d => exact w v H1 (S3.fin S1)
def mRetN : MS := fun _ m => .rt .non m
def mFz (i : Nat) (f : MS) : MS := fun ρ m => match ρ[i]? with
  | some (.own o) => if obZ o = true then f (ρ.set i (.val (obD o))) m else .no
  | _ => f ρ m
theorem ownA_zip_set_un {σ : L2.St} : ∀ {ρ : Sl} {i : Nat} {y : Cell}, (∀ x, ownA (x, y) = none) → ((σ.zip (ρ.set i y)).filterMap ownA).Sublist ((σ.zip ρ).filterMap ownA) := by
  induction σ with
  | nil => intro ρ i y h; simp
  | cons s σ ih =>
    intro ρ i y h
    cases ρ with
    | nil => simp
    | cons r ρ =>
      cases i with
      | zero =>
        rw [List.set_cons_zero, List.zip_cons_cons, List.zip_cons_cons, fm_cons, fm_cons, h]
        exact List.sublist_append_right _ _
      | succ i =>
        rw [List.set_cons_succ, List.zip_cons_cons, List.zip_cons_cons, fm_cons, fm_cons]
        exact List.Sublist.append (List.Sublist.refl _) (ih h)
theorem zip_own_inj {σ : L2.St} {c : Cf} : ∀ {ρ : Sl} {i j : Nat} {a : Addr} {o o' : Ob}, ((σ.zip ρ).filterMap ownA).Nodup → σ[i]? = some (some (.ref a)) → ρ[i]? = some (.own o) → σ[j]? = some (some (.ref a)) → ρ[j]? = some (.own o') → i = j := by
  induction σ with
  | nil => intro ρ i j a o o' h h1; simp at h1
  | cons s σ ih =>
    intro ρ i j a o o' h h1 h2 h3 h4
    cases ρ with
    | nil => simp at h2
    | cons r ρ =>
      rw [List.zip_cons_cons, fm_cons] at h
      obtain ⟨m1, m2, m3⟩ := List.nodup_append.mp h
      cases i with
      | zero =>
        cases j with
        | zero => rfl
        | succ j =>
          simp at h1 h2 h3 h4
          subst h1; subst h2
          exact (m3 a (by show a ∈ [a]; simp) a (List.mem_filterMap.mpr ⟨(some (.ref a), .own o'), zip_get h3 h4, rfl⟩) rfl).elim
      | succ i =>
        cases j with
        | zero =>
          simp at h1 h2 h3 h4
          subst h3; subst h4
          exact (m3 a (by show a ∈ [a]; simp) a (List.mem_filterMap.mpr ⟨(some (.ref a), .own o), zip_get h1 h2, rfl⟩) rfl).elim
        | succ j =>
          exact congrArg (· + 1) (ih m2 (by simpa using h1) (by simpa using h2) (by simpa using h3) (by simpa using h4))
theorem St3.fz {c : Cf} {ρ : Sl} {m : Mm} {σ : L2.St} {H : Hp} {T : Tm} {G : Hp} {μ : List Addr} (s : St3 c ρ m σ H T G μ) {i : Nat} {o : Ob} (e : ρ[i]? = some (.own o)) (z : obZ o = true) : S3 c (ρ.set i (.val (obD o))) m σ H T := by
  obtain ⟨p, hp, ob, g, n, h0⟩ := s.ownAt e
  obtain ⟨u, hu⟩ := ob.some
  have nd := s.nd
  rw [List.filterMap_append] at nd
  obtain ⟨m1, m2, m3⟩ := List.nodup_append.mp nd
  have hin : p ∈ (σ.zip ρ).filterMap ownA := List.mem_filterMap.mpr ⟨(some (.ref p), .own o), zip_get hp e, rfl⟩
  refine ⟨upd G p u, μ, by rw [List.length_set]; exact s.len, s.mem.frz hu g n, ⟨s.le.ex.trans (Ex.new g), s.le.pre, fun a w h1 h2 h3 => ?_, s.le.th⟩, fun q hq => ?_, ?_⟩
  · obtain ⟨k1, k2, k3⟩ := s.le.prv a w h1 h2 h3
    have ha : a ≠ p := fun z => by subst z; rw [h0] at h1; cases h1
    exact ⟨k1, by rw [upd_ne ha]; exact k2, k3⟩
  · have old : ∀ {x : Option V} {y : Cell}, CellOk c μ G H x y → (∀ o', y = .own o' → x ≠ some (.ref p)) → CellOk c μ (upd G p u) H x y := by
      intro x y k hne
      cases y with
      | un => trivial
      | val d => obtain ⟨v, e, r⟩ := k; exact ⟨v, e, r.mono (Ex.new g) (.refl _)⟩
      | own o' =>
        obtain ⟨a, e, r, g', n', z'⟩ := k
        subst e
        have ha : a ≠ p := fun z => hne o' rfl (by rw [z])
        exact ⟨a, rfl, r.mono (Ex.new g) (.refl _) (fun _ q => q), by rw [upd_ne ha]; exact g', n', z'⟩
    rcases List.mem_append.mp hq with q' | q'
    · refine old (s.cells q (List.mem_append_left _ q')) fun o' e1 e2 => ?_
      have : q = (some (.ref p), .own o') := by cases q; simp at e1 e2; rw [e1, e2]
      exact m3 p (List.mem_filterMap.mpr ⟨q, q', by rw [this]; rfl⟩) p hin rfl
    · by_cases hz : q = (some (.ref p), .val (obD o))
      · subst hz
        exact ⟨.ref p, rfl, obAt_rep ob hu z g⟩
      · -- another slot
        obtain ⟨j, hj, e1⟩ := List.mem_iff_getElem.mp q'
        have hj' : j < σ.length ∧ j < ρ.length := by rw [List.length_zip, List.length_set] at hj; omega
        have e2 : σ[j]? = some q.1 := by rw [← e1, List.getElem_zip]; exact List.getElem?_eq_getElem hj'.1
        have e3 : (ρ.set i (.val (obD o)))[j]? = some q.2 := by rw [← e1, List.getElem_zip]; exact List.getElem?_eq_getElem _
        by_cases hij : i = j
        · subst hij
          rw [List.getElem?_set_self (List.getElem?_eq_some_iff.mp e).1] at e3
          rw [hp] at e2
          exact absurd (by cases q; simp at e2 e3; rw [e2, e3]) hz
        · rw [List.getElem?_set_ne hij] at e3
          refine old (s.cells q (List.mem_append_right _ (zip_get e2 e3))) fun o' z1 z2 => ?_
          exact hij (zip_own_inj (c := c) m2 hp e (by rw [e2, z2]) (by rw [e3, z1]))
  · rw [List.filterMap_append]
    exact nd.sublist (List.Sublist.append (List.Sublist.refl _) (ownA_zip_set_un fun x => ownA_val))
theorem fz_want {K : PySem.W.Frag} {mg : Str → Option Value} {i : Nat} {f : MS} {D : Ends} {σ : L2.St} {H : Hp} (h : tsOf K mg E (mFz i f) D σ H) : tsOf K mg E f D σ H := by
  obtain ⟨b, ρ, m, T, ⟨G, μ, s⟩, w⟩ := h
  unfold mFz at w
  split at w
  · rename_i o e
    split at w
    · rename_i z
      exact ⟨b, _, m, T, s.fz e z, w⟩
    · exact w.elim
  · exact ⟨b, ρ, m, T, ⟨G, μ, s⟩, w⟩
theorem s_fz {i : Nat} (h : PSx X E st f) : PSx X E st (mFz i f) := PSi h fun _ _ _ q => fz_want q
end
end M3
set_option Elab.async false
set_option linter.all false
set_option autoImplicit false
set_option maxRecDepth 100000
set_option maxHeartbeats 2000000
namespace M3
open PySem L2 PySem.Spec PyProof.Rows
section
variable {K : PySem.W.Frag} {mg : Str → Option Value} {E : WX} {c : Cf} {ρ : Sl} {m : Mm} {σ : L2.St} {H : Hp} {T : Tm} {G : Hp} {μ : List Addr}
theorem St3.updC (s : St3 c ρ m σ H T G μ) {p : Addr} {u : HO} (hu : ∃ w, H p = some w) (hp : G p = none) (hn : p ∉ μ) (h0 : c.H0 p = none) :
    MemOk c.K c.mg G μ (upd H p u) m ∧ Le c.G0 c.μ0 c.H0 G μ (upd H p u) ∧ ∀ (x : Option V) (y : Cell), CellOk c μ G H x y → (∀ o, y = .own o → x ≠ some (.ref p)) → CellOk c μ G (upd H p u) x y := by
  refine ⟨⟨fun a w e => ?_, s.mem.len, s.mem.nd, fun n o e => ?_, fun a ha => ?_⟩, ⟨s.le.ex, s.le.pre, fun a o h1 h2 h3 => ?_, fun a o h1 => ?_⟩, fun x y k hne => ?_⟩
  · have ha : a ≠ p := fun z => by subst z; rw [hp] at e; cases e
    rw [upd_ne ha]; exact s.mem.st a w e
  · obtain ⟨a, e1, e2, e3⟩ := s.mem.ob n o e
    have ha : a ≠ p := fun z => hn (by rw [← z]; exact List.mem_of_getElem? e1)
    exact ⟨a, e1, e2, e3.mono (.refl _) (.refl _) fun w q => by rw [upd_ne ha]; exact q⟩
  · by_cases hz : a = p
    · subst hz; exact ⟨u, upd_same⟩
    · rw [upd_ne hz]; exact s.mem.th a ha
  · obtain ⟨k1, k2, k3⟩ := s.le.prv a o h1 h2 h3
    have ha : a ≠ p := fun z => by subst z; rw [h0] at h1; cases h1
    exact ⟨by rw [upd_ne ha]; exact k1, k2, k3⟩
  · have ha : a ≠ p := fun z => by subst z; rw [h0] at h1; cases h1
    rw [upd_ne ha]; exact s.le.th a o h1
  · cases y with
    | un => trivial
    | val d => exact k
    | own o =>
      obtain ⟨a, e, r, g, n, z⟩ := k
      subst e
      have ha : a ≠ p := fun q => hne o rfl (by rw [q])
      exact ⟨a, rfl, r.mono (.refl _) (.refl _) (fun w q => by rw [upd_ne ha]; exact q), g, n, z⟩
theorem St3.putTop {p : Addr} {o o' : Ob} {u : HO} (s : St3 c ρ m σ H ((some (.ref p), .own o) :: T) G μ) (r : ObAt c.K c.mg μ G (upd H p u) p o') : St3 c ρ m σ (upd H p u) ((some (.ref p), .own o') :: T) G μ := by
  obtain ⟨a, ea, ob, g, n, h0⟩ := s.cells (some (.ref p), .own o) (by simp)
  cases ea
  obtain ⟨k1, k2, k3⟩ := s.updC (u := u) ob.some g n h0
  have nd := s.nd
  rw [List.cons_append, fm_cons] at nd
  have hnot : p ∉ (T ++ σ.zip ρ).filterMap ownA := (List.nodup_cons.mp (show (p :: (T ++ σ.zip ρ).filterMap ownA).Nodup from nd)).1
  refine ⟨s.len, k1, k2, fun q hq => ?_, nd⟩
  rcases List.mem_cons.mp hq with rfl | q'
  · exact ⟨p, rfl, r, g, n, h0⟩
  · refine k3 q.1 q.2 (s.cells q (List.mem_cons_of_mem _ q')) fun o2 e1 e2 => ?_
    have : q = (some (.ref p), .own o2) := by cases q; simp at e1 e2; rw [e1, e2]
    exact hnot (List.mem_filterMap.mpr ⟨q, q', by rw [this]; rfl⟩)
theorem St3.putSlot {i : Nat} {p : Addr} {o o' : Ob} {u : HO} (s : St3 c ρ m σ H T G μ) (e : ρ[i]? = some (.own o)) (hs : σ[i]? = some (some (.ref p))) (r : ObAt c.K c.mg μ G (upd H p u) p o') : St3 c (ρ.set i (.own o')) m σ (upd H p u) T G μ := by
  obtain ⟨a, ea, ob, g, n, h0⟩ := s.ownAt e
  rw [hs] at ea; cases ea
  obtain ⟨k1, k2, k3⟩ := s.updC (u := u) ob.some g n h0
  have nd := s.nd
  rw [List.filterMap_append] at nd
  obtain ⟨m1, m2, m3⟩ := List.nodup_append.mp nd
  have hin : p ∈ (σ.zip ρ).filterMap ownA := List.mem_filterMap.mpr ⟨(some (.ref p), .own o), zip_get hs e, rfl⟩
  have hil : i < ρ.length := (List.getElem?_eq_some_iff.mp e).1
  have ez : (σ.zip (ρ.set i (.own o'))).filterMap ownA = (σ.zip ρ).filterMap ownA := by
    have key : ∀ {σ : L2.St} {ρ : Sl} {i : Nat}, ρ[i]? = some (.own o) → (σ.zip (ρ.set i (.own o'))).filterMap ownA = (σ.zip ρ).filterMap ownA := by
      intro σ
      induction σ with
      | nil => intro ρ i e; simp
      | cons x σ ih =>
        intro ρ i e
        cases ρ with
        | nil => simp at e
        | cons y ρ =>
          cases i with
          | zero =>
            simp at e; subst e
            rw [List.set_cons_zero, List.zip_cons_cons, List.zip_cons_cons, fm_cons, fm_cons]
            have : ownA (x, Cell.own o') = ownA (x, Cell.own o) := by
              cases x with
              | none => rfl
              | some v => cases v <;> rfl
            rw [this]
          | succ i => rw [List.set_cons_succ, List.zip_cons_cons, List.zip_cons_cons, fm_cons, fm_cons, ih (by simpa using e)]
    exact key e
  refine ⟨by rw [List.length_set]; exact s.len, k1, k2, fun q hq => ?_, by rw [List.filterMap_append, ez]; exact nd⟩
  rcases List.mem_append.mp hq with q' | q'
  · refine k3 q.1 q.2 (s.cells q (List.mem_append_left _ q')) fun o2 e1 e2 => ?_
    have : q = (some (.ref p), .own o2) := by cases q; simp at e1 e2; rw [e1, e2]
    exact m3 p (List.mem_filterMap.mpr ⟨q, q', by rw [this]; rfl⟩) p hin rfl
  · obtain ⟨j, hj, e1⟩ := List.mem_iff_getElem.mp q'
    have hj' : j < σ.length ∧ j < ρ.length := by rw [List.length_zip, List.length_set] at hj; omega
    have e2 : σ[j]? = some q.1 := by rw [← e1, List.getElem_zip]; exact List.getElem?_eq_getElem hj'.1
    have e3 : (ρ.set i (.own o'))[j]? = some q.2 := by rw [← e1, List.getElem_zip]; exact List.getElem?_eq_getElem _
    by_cases hij : i = j
    · subst hij
      rw [List.getElem?_set_self hil] at e3
      rw [hs] at e2
      cases q with
      | mk q1 q2 =>
        simp at e2 e3
        subst e2; subst e3
        exact ⟨p, rfl, r, g, n, h0⟩
    · rw [List.getElem?_set_ne hij] at e3
      refine k3 q.1 q.2 (s.cells q (List.mem_append_right _ (zip_get e2 e3))) fun o2 z1 z2 => ?_
      exact hij (zip_own_inj (c := c) m2 hs e (by rw [e2, z2]) (by rw [e3, z1]))
theorem St3.putM {n : Nat} {p : Addr} {o o' : Ob} {u : HO} (s : St3 c ρ m σ H T G μ) (e : m[n]? = some (some o)) (hp : μ[n]? = some p) (r : ObAt c.K c.mg μ G (upd H p u) p o') : St3 c ρ (m.set n (some o')) σ (upd H p u) T G μ := by
  obtain ⟨a, e1, g, ob⟩ := s.mem.ob n o e
  rw [hp] at e1; cases e1
  have hm : p ∈ μ := List.mem_of_getElem? hp
  have hnl : n < m.length := (List.getElem?_eq_some_iff.mp e).1
  refine s.next ⟨fun a w q => ?_, by rw [List.length_set]; exact s.mem.len, s.mem.nd, fun k o2 q => ?_, fun a ha => ?_⟩ ⟨.refl _, .refl _, fun a w h1 h2 h3 => ?_, fun a w h1 => ?_⟩
  · have ha : a ≠ p := fun z => by subst z; rw [g] at q; cases q
    rw [upd_ne ha]; exact s.mem.st a w q
  · by_cases hk : n = k
    · subst hk
      rw [List.getElem?_set_self hnl] at q
      cases q
      exact ⟨p, hp, g, r⟩
    · rw [List.getElem?_set_ne hk] at q
      obtain ⟨a, e1, e2, e3⟩ := s.mem.ob k o2 q
      have ha : a ≠ p := fun z => hk (s.mem.nd n k p hp (by rw [← z]; exact e1))
      exact ⟨a, e1, e2, e3.mono (.refl _) (.refl _) fun w q => by rw [upd_ne ha]; exact q⟩
  · by_cases hz : a = p
    · subst hz; exact ⟨u, upd_same⟩
    · rw [upd_ne hz]; exact s.mem.th a ha
  · have ha : a ≠ p := fun z => h3 (by rw [z]; exact hm)
    exact ⟨by rw [upd_ne ha]; exact h1, h2, h3⟩
  · by_cases hz : a = p
    · subst hz; exact ⟨u, upd_same⟩
    · exact ⟨w, by rw [upd_ne hz]; exact h1⟩
def JOk (c : Cf) (J : It) (T' : Tm) (ds : List Dv) : Prop := ∀ (ρ : Sl) (m : Mm) (σ : L2.St) (H : Hp) (T : Tm) (i : Nat), (∀ p ∈ T', p ∈ T) → S3 c ρ m σ H T →
  (i < ds.length → J.go i H) ∧ (∀ d, ds[i]? = some d → ∀ x H', J.yld i H x H' → S3 c ρ m σ H' (tv x d :: T)) ∧ (ds.length ≤ i → J.stop i H)
abbrev MI := Sl → Mm → Rs (List Dv)
def WantI (E : WX) (c : Cf) (ρ : Sl) (σ : L2.St) (T : Tm) (R : It → Hp → Prop) : Rs (List Dv) → Prop
  | .ok ds m => ∀ J H' T', (∀ p ∈ T', ownA p = none) → ds.length ≤ sizeLine → S3 c ρ m σ H' (T' ++ T) → JOk c J T' ds → R J H'
  | .ex x m => WantX E c ρ σ T x m
  | .no => False
def tiOf (K : PySem.W.Frag) (mg : Str → Option Value) (E : WX) (f : MI) : TI := fun σ H R => ∃ (b : Bs) (ρ : Sl) (m : Mm) (T : Tm), S3 (b.cf K mg) ρ m σ H T ∧ WantI E (b.cf K mg) ρ σ T R (f ρ m)
end
section
variable {X : Cx} {E : WX} {tg iter : Expr} {fa : ME} {pos : Pos} {g : MG} {body : List Stmt} {fb : MS} {it : MI} {is : List Nat}
abbrev PIx (X : Cx) (E : WX) (tg iter : Expr) (f : MI) : Prop := PI X tg iter (tiOf X.K X.mg E f)
theorem PIi {t t' : TI} (h : PI X tg iter t) (i : ∀ σ H R, t' σ H R → t σ H R) : PI X tg iter t' := ⟨fun pins s σ H R I q => h.run pins s σ H R I (i σ H R q)⟩
def stOf : Ar → Option (List Dv)
  | .v (.lst ds) => some ds
  | .v (.tup ds) => some ds
  | .v (.ktp ds) => if ds.length ≤ sizeLine then some ds else none
  | .v (.scr ns) => if ns.length ≤ sizeLine then some (ns.map .int) else none
  | _ => none
theorem st_rep {K : PySem.W.Frag} {mg : Str → Option Value} {μ : List Addr} {G H : Hp} {d : Dv} {v : V} {ds : List Dv} (st : Stands G H) (r : Rep K mg μ G d v) (e : stOf (.v d) = some ds) : ∃ a vs, v = .ref a ∧ (SqL K H a vs ∨ SqT K H a vs) ∧ RepL K mg μ G ds vs ∧ ds.length ≤ sizeLine := by
  cases r <;> simp [stOf] at e
  · subst e; rename_i h z r; exact ⟨_, _, rfl, .inl (SqL.of (st.l h)), r, z⟩
  · obtain ⟨z, e⟩ := e
    subst e
    rename_i ns a h
    refine ⟨_, _, rfl, .inl (st.lst h), ?_, by simpa using z⟩
    have key : ∀ ns : List Int, RepL K mg μ G (ns.map .int) (ns.map V.int) := fun ns => by
      induction ns with
      | nil => exact .nil
      | cons n ns ih => exact .cons (.int n) ih
    exact key ns
  · obtain ⟨z, e⟩ := e
    subst e; rename_i h r; exact ⟨_, _, rfl, .inr (st.tup h), r, z⟩
  · subst e; rename_i h z r; exact ⟨_, _, rfl, .inr (SqT.of (st.t h)), r, z⟩
theorem tva_own {v : V} {x : Ar} : ∀ p ∈ tva v x, ownA p = none := fun p hp => by
  cases x with
  | v d => simp [tva] at hp; subst hp; exact ownA_val
  | b i => simp [tva] at hp
theorem jok_list {c : Cf} {a : Addr} {d : Dv} {ds : List Dv} (e : stOf (.v d) = some ds) (hl : ∀ (μ : List Addr) (G H : Hp), Stands G H → Rep c.K c.mg μ G d (.ref a) → ∃ vs, SqL c.K H a vs ∧ RepL c.K c.mg μ G ds vs) : JOk c (Itl c.K a) [tv (.ref a) d] ds := by
  intro ρ m σ H T i hT ⟨G, μ, s⟩
  have r := s.at (hT (tv (.ref a) d) (by simp))
  obtain ⟨vs, h1, h2⟩ := hl μ G H s.mem.st r
  have hlen := h2.length
  refine ⟨fun hi => ⟨vs, vs[i]'(by omega), h1, List.getElem?_eq_getElem _⟩, fun d' hd x H' y => ?_, fun hi => ⟨vs, h1, by omega⟩⟩
  obtain ⟨e1, e2⟩ := y
  subst e1
  obtain ⟨v, hv, rv⟩ := h2.get hd
  have := e2 vs h1
  rw [hv] at this; cases this
  exact ⟨G, μ, s.push rv⟩
theorem jok_tup {c : Cf} {a : Addr} {d : Dv} {ds : List Dv} (e : stOf (.v d) = some ds) (hl : ∀ (μ : List Addr) (G H : Hp), Stands G H → Rep c.K c.mg μ G d (.ref a) → ∃ vs, SqT c.K H a vs ∧ RepL c.K c.mg μ G ds vs) : JOk c (Itt c.K a) [tv (.ref a) d] ds := by
  intro ρ m σ H T i hT ⟨G, μ, s⟩
  have r := s.at (hT (tv (.ref a) d) (by simp))
  obtain ⟨vs, h1, h2⟩ := hl μ G H s.mem.st r
  have hlen := h2.length
  refine ⟨fun hi => ⟨vs, vs[i]'(by omega), h1, List.getElem?_eq_getElem _⟩, fun d' hd x H' y => ?_, fun hi => ⟨vs, h1, by omega⟩⟩
  obtain ⟨e1, e2⟩ := y
  subst e1
  obtain ⟨v, hv, rv⟩ := h2.get hd
  have := e2 vs h1
  rw [hv] at this; cases this
  exact ⟨G, μ, s.push rv⟩
def rngD (lo : Int) (n : Nat) : List Dv := (List.range n).map fun i => Dv.int (lo + ((i : Nat) : Int))
theorem jok_rng {c : Cf} {lo : Int} {n : Nat} : JOk c (Itr lo n) [] (rngD lo n) := by
  intro ρ m σ H T i hT S
  have hl : (rngD lo n).length = n := by simp [rngD]
  rw [hl]
  refine ⟨fun hi => hi, fun d hd x H' y => ?_, fun hi => hi⟩
  obtain ⟨e1, e2⟩ := y
  subst e1; subst e2
  have hi : i < n := by have := (List.getElem?_eq_some_iff.mp hd).1; omega
  simp only [rngD, List.getElem?_map, List.getElem?_range hi, Option.map_some, Option.some.injEq] at hd
  subst hd
  obtain ⟨G, μ, s⟩ := S
  exact ⟨G, μ, s.push (.int _)⟩
def mRng1 (f : MA) : MI := fun ρ m => (f ρ m).bind fun ds m1 => match ds with
  | [.int j] => if -(2 ^ 62) ≤ j ∧ j < 2 ^ 62 ∧ j.toNat ≤ sizeLine then .ok (rngD 0 j.toNat) m1 else .no
  | _ => .no
def mRng2 (f : MA) : MI := fun ρ m => (f ρ m).bind fun ds m1 => match ds with
  | [.int i, .int j] => if (-(2 ^ 62) ≤ i ∧ i < 2 ^ 62 ∧ -(2 ^ 62) ≤ j ∧ j < 2 ^ 62) ∧ (j - i).toNat ≤ sizeLine then .ok (rngD i (j - i).toNat) m1 else .no
  | _ => .no
theorem i_range1 {a : Expr} {f : MA} {p : Pos} (hg : Gl X "range") (hm : X.mg "range" = none) (ha : PXs X E [a] f) (hs : starEach [a] X.env = [(false, eval a X.env)] := by rfl) : PIx X E tg (.Call (.Name "range" p) [a] [] pos) (mRng1 f) :=
  PIi (pi_range1 hg hm ha hs) fun σ H R ⟨b, ρ, m, T, S, w⟩ => by
    refine ⟨b, ρ, m, T, S, ?_⟩
    unfold mRng1 at w
    revert w
    cases f ρ m with
    | no => exact id
    | ex x m1 => exact id
    | ok ds m1 =>
      intro w vs H1 hl ⟨G, μ, s⟩
      rw [Rs.bind_ok] at w
      have r := tvs_rep hl s
      split at w
      · rename_i j
        split at w
        · rename_i z
          cases r with
          | cons a b =>
            cases a; cases b
            exact ⟨j, rfl, z.1, z.2.1, w _ H1 [] (by simp) (by simpa [rngD] using z.2.2) ⟨G, μ, s.pops⟩ jok_rng⟩
        · exact w.elim
      · exact w.elim
def forL (g : MG) (f : MS) : List Dv → Sl → Mm → RS
  | [], ρ, m => .nx ρ m
  | d :: ds, ρ, m => match g d ρ with
    | none => .no
    | some ρ1 => match f ρ1 m with
      | .nx ρ2 m2 => forL g f ds ρ2 m2
      | .ct ρ2 m2 => forL g f ds ρ2 m2
      | .bk ρ2 m2 => .nx ρ2 m2
      | r => r
def mFor (it : MI) (g : MG) (f : MS) : MS := fun ρ m => (it ρ m).st ρ fun ds m1 => forL g f ds ρ m1
theorem s_for (hp : PassesOwn (model X.prog X.w) X.A X.env X.xe) (hc : X.calm = true) (hi : PIx X E tg iter it) (hg : PGx X is tg g) (hb : PSsx X E body fb)
    (hs : ∀ x, foldedSetIterable iter X.env x = pure x := by intro _; rfl) : PSx X E (.For tg iter body [] pos) (mFor it g fb) :=
  PSi (ps_for hp hc hi hg.pg hb hs) fun D σ H ⟨b, ρ, m, T, S, w⟩ => by
    refine ⟨b, ρ, m, T, S, ?_⟩
    unfold mFor at w
    revert w
    cases it ρ m with
    | no => exact id
    | ex x m1 => exact fun w => w σ
    | ok ds m1 =>
      intro w J H1 T' hT' hz S1 hJ
      rw [Rs.st_ok] at w
      refine ⟨fun i k σ H => k = ds.length - i ∧ i ≤ ds.length ∧ ∃ ρ m, S3 (b.cf X.K X.mg) ρ m σ H (T' ++ T) ∧ WantS E (b.cf X.K X.mg) T D (forL g fb (ds.drop i) ρ m), ⟨ds.length, by simp, Nat.zero_le _, ρ, m1, S1, by simpa using w⟩, ?_⟩
      rintro i k σ H ⟨rfl, hi, ρ, m, S, w⟩
      obtain ⟨j1, j2, j3⟩ := hJ ρ m σ H (T' ++ T) i (fun p hp => List.mem_append_left _ hp) S
      by_cases hlt : i < ds.length
      · have hd : ds.drop i = ds[i] :: ds.drop (i + 1) := List.drop_eq_getElem_cons hlt
        rw [hd] at w
        refine .inr ⟨j1 hlt, fun σ' H' => ∃ ρ' m', S3 (b.cf X.K X.mg) ρ' m' σ' H' (T' ++ T) ∧ WantS E (b.cf X.K X.mg) T D (forL g fb (ds.drop (i + 1)) ρ' m'), fun σ' H' q => ⟨ds.length - (i + 1), by omega, rfl, hlt, q⟩, fun x H' y => ?_⟩
        have S2 := j2 ds[i] (List.getElem?_eq_getElem hlt) x H' y
        unfold forL at w
        cases hg' : g ds[i] ρ with
        | none => rw [hg'] at w; exact w.elim
        | some ρ1 =>
          rw [hg'] at w
          refine ⟨b, ρ, m, T' ++ T, ds[i], S2, ρ1, hg', fun σ2 H2 _ S3' => ⟨b, ρ1, m, T' ++ T, S3', ?_⟩⟩
          have w : WantS E (b.cf X.K X.mg) T D (match fb ρ1 m with
            | .nx ρ2 m2 => forL g fb (ds.drop (i + 1)) ρ2 m2
            | .ct ρ2 m2 => forL g fb (ds.drop (i + 1)) ρ2 m2
            | .bk ρ2 m2 => .nx ρ2 m2
            | r => r) := w
          revert w
          cases fb ρ1 m with
          | nx ρ2 m2 => exact fun w σ H S => ⟨ρ2, m2, S, w⟩
          | ct ρ2 m2 => exact fun w σ H S => ⟨ρ2, m2, S, w⟩
          | bk ρ2 m2 => exact fun w σ H S => w σ H S.pops
          | rt d m2 => exact id
          | ex x ρ2 m2 => exact fun w σ => WantX.weak (w σ)
          | no => exact id
      · have e : i = ds.length := by omega
        subst e
        rw [List.drop_length] at w
        exact .inl ⟨j3 (Nat.le_refl _), w σ H S.pops⟩
def whileN (t : MB) (f : MS) : Nat → Sl → Mm → RS
  | 0, _, _ => .no
  | n + 1, ρ, m => (t ρ m).st ρ fun k m1 => if k = true then match f ρ m1 with
      | .nx ρ2 m2 => whileN t f n ρ2 m2
      | .ct ρ2 m2 => whileN t f n ρ2 m2
      | .bk ρ2 m2 => .nx ρ2 m2
      | r => r
    else .nx ρ m1
open Classical in
end
end M3
set_option Elab.async false
set_option linter.all false
set_option autoImplicit false
set_option maxRecDepth 100000
set_option maxHeartbeats 2000000
namespace M3
open PySem L2 PySem.Spec PyProof.Rows
section
variable {c : Cf} {ρ : Sl} {m : Mm} {σ : L2.St} {H : Hp} {T T' : Tm} {G : Hp} {μ : List Addr}
theorem St3.perm (h : St3 c ρ m σ H T G μ) (p : T'.Perm T) : St3 c ρ m σ H T' G μ where
  len := h.len
  mem := h.mem
  le := h.le
  cells := fun q hq => by
    rcases List.mem_append.mp hq with k | k
    · exact h.cells q (List.mem_append_left _ (p.mem_iff.mp k))
    · exact h.cells q (List.mem_append_right _ k)
  nd := by
    have := h.nd
    rw [List.filterMap_append] at this ⊢
    exact ((p.filterMap ownA).append_right _).nodup_iff.mpr this
theorem S3.perm (h : S3 c ρ m σ H T) (p : T'.Perm T) : S3 c ρ m σ H T' := let ⟨G, μ, s⟩ := h; ⟨G, μ, s.perm p⟩
def cellAt (σ : L2.St) (ρ : Sl) (v : Nat) : Option V × Cell := match σ[v]?, ρ[v]? with
  | some x, some y => (x, y)
  | _, _ => (none, .un)
theorem zip_un {σ : L2.St} : ∀ {ρ : Sl} {v : Nat}, ((cellAt σ ρ v :: (σ.set v none).zip (ρ.set v .un)).filterMap ownA).Perm ((σ.zip ρ).filterMap ownA) ∧
    (∀ p, p ∈ (σ.set v none).zip (ρ.set v .un) → p ∈ σ.zip ρ ∨ p = (none, .un)) ∧ (∀ p, p ∈ σ.zip ρ → p ∈ (σ.set v none).zip (ρ.set v .un) ∨ p = cellAt σ ρ v) ∧ (cellAt σ ρ v ∈ σ.zip ρ ∨ cellAt σ ρ v = (none, .un)) := by
  induction σ with
  | nil => intro ρ v; simp [cellAt, ownA]
  | cons x σ ih =>
    intro ρ v
    cases ρ with
    | nil =>
      have : cellAt (x :: σ) [] v = (none, .un) := by unfold cellAt; cases (x :: σ)[v]? <;> simp
      simp [this, ownA]
    | cons y ρ =>
      cases v with
      | zero =>
        have e : cellAt (x :: σ) (y :: ρ) 0 = (x, y) := rfl
        rw [e]
        simp only [List.set_cons_zero, List.zip_cons_cons]
        refine ⟨?_, fun p hp => ?_, fun p hp => ?_, .inl List.mem_cons_self⟩
        · rw [fm_cons, fm_cons, fm_cons]
          exact List.Perm.refl _
        · rcases List.mem_cons.mp hp with h | h
          · exact .inr h
          · exact .inl (List.mem_cons_of_mem _ h)
        · rcases List.mem_cons.mp hp with h | h
          · exact .inr h
          · exact .inl (List.mem_cons_of_mem _ h)
      | succ v =>
        have e : cellAt (x :: σ) (y :: ρ) (v + 1) = cellAt σ ρ v := rfl
        rw [e]
        obtain ⟨h1, h2, h3, h4⟩ := ih (ρ := ρ) (v := v)
        simp only [List.set_cons_succ, List.zip_cons_cons]
        refine ⟨?_, fun p hp => ?_, fun p hp => ?_, ?_⟩
        · rw [fm_cons] at h1
          rw [fm_cons, fm_cons, fm_cons, ← List.append_assoc]
          refine (List.Perm.append_right _ List.perm_append_comm).trans ?_
          rw [List.append_assoc]
          exact h1.append_left _
        · rcases List.mem_cons.mp hp with h | h
          · exact .inl (by rw [h]; exact List.mem_cons_self)
          · exact (h2 p h).imp (List.mem_cons_of_mem _) id
        · rcases List.mem_cons.mp hp with h | h
          · exact .inl (by rw [h]; exact List.mem_cons_self)
          · exact (h3 p h).imp (List.mem_cons_of_mem _) id
        · exact h4.imp (List.mem_cons_of_mem _) id
theorem St3.un1 {v : Nat} (h : St3 c ρ m σ H T G μ) : St3 c (ρ.set v .un) m (σ.set v none) H (cellAt σ ρ v :: T) G μ := by
  obtain ⟨h1, h2, h3, h4⟩ := zip_un (σ := σ) (ρ := ρ) (v := v)
  refine ⟨by rw [List.length_set, List.length_set]; exact h.len, h.mem, h.le, fun p hp => ?_, ?_⟩
  · rcases List.mem_append.mp hp with q | q
    · rcases List.mem_cons.mp q with e | q
      · subst e
        rcases h4 with k | k
        · exact h.cells _ (List.mem_append_right _ k)
        · rw [k]; trivial
      · exact h.cells p (List.mem_append_left _ q)
    · rcases h2 p q with k | k
      · exact h.cells p (List.mem_append_right _ k)
      · rw [k]; trivial
  · have nd := h.nd
    rw [List.filterMap_append] at nd
    rw [List.cons_append, fm_cons, List.filterMap_append, ← List.append_assoc]
    rw [fm_cons] at h1
    refine ((List.Perm.append_right _ List.perm_append_comm).trans ?_).nodup_iff.mpr nd
    rw [List.append_assoc]
    exact h1.append_left _
theorem St3.ununl {v : Nat} (h : St3 c (ρ.set v .un) m (σ.set v none) H (cellAt σ ρ v :: T) G μ) (hl : σ.length = ρ.length) : St3 c ρ m σ H T G μ := by
  obtain ⟨h1, h2, h3, h4⟩ := zip_un (σ := σ) (ρ := ρ) (v := v)
  refine ⟨hl, h.mem, h.le, fun p hp => ?_, ?_⟩
  · rcases List.mem_append.mp hp with q | q
    · exact h.cells p (List.mem_append_left _ (List.mem_cons_of_mem _ q))
    · rcases h3 p q with k | k
      · exact h.cells p (List.mem_append_right _ k)
      · rw [k]; exact h.cells _ (List.mem_append_left _ List.mem_cons_self)
  · have nd := h.nd
    rw [List.cons_append, fm_cons, List.filterMap_append, ← List.append_assoc] at nd
    rw [fm_cons] at h1
    rw [List.filterMap_append]
    refine ((List.Perm.append_right _ List.perm_append_comm).trans ?_).nodup_iff.mp nd
    rw [List.append_assoc]
    exact h1.append_left _
def saved (σ : L2.St) (ρ : Sl) : List Nat → Tm
  | [] => []
  | v :: vs => cellAt (wipe σ vs) (wipeR ρ vs) v :: saved σ ρ vs
theorem St3.wipeIn {vs : List Nat} (h : St3 c ρ m σ H T G μ) : St3 c (wipeR ρ vs) m (wipe σ vs) H (saved σ ρ vs ++ T) G μ := by
  induction vs with
  | nil => exact h
  | cons v vs ih => exact ih.un1
theorem wipe_len {σ : L2.St} {ρ : Sl} (h : σ.length = ρ.length) : ∀ vs : List Nat, (wipe σ vs).length = (wipeR ρ vs).length
  | [] => h
  | v :: vs => by unfold wipe wipeR; rw [List.length_set, List.length_set]; exact wipe_len h vs
theorem St3.wipeOut {vs : List Nat} (hl : σ.length = ρ.length) (h : St3 c (wipeR ρ vs) m (wipe σ vs) H (saved σ ρ vs ++ T) G μ) : St3 c ρ m σ H T G μ := by
  induction vs with
  | nil => exact h
  | cons v vs ih => exact ih (St3.ununl (v := v) h (wipe_len hl vs))
theorem S3.wipeIn {vs : List Nat} (h : S3 c ρ m σ H T) : S3 c (wipeR ρ vs) m (wipe σ vs) H (saved σ ρ vs ++ T) := let ⟨G, μ, s⟩ := h; ⟨G, μ, s.wipeIn⟩
theorem S3.wipeOut {vs : List Nat} (hl : σ.length = ρ.length) (h : S3 c (wipeR ρ vs) m (wipe σ vs) H (saved σ ρ vs ++ T)) : S3 c ρ m σ H T := let ⟨G, μ, s⟩ := h; ⟨G, μ, St3.wipeOut hl s⟩
theorem S3.len (h : S3 c ρ m σ H T) : σ.length = ρ.length := let ⟨_, _, s⟩ := h; s.len
theorem wipe_idem {σ : L2.St} {vs : List Nat} : wipe (wipe σ vs) vs = wipe σ vs := by
  have key : ∀ ws : List Nat, (∀ i ∈ ws, i ∈ vs) → wipe (wipe σ ws) vs = wipe σ vs := fun ws => by
    induction ws with
    | nil => intro _; rfl
    | cons w ws ih =>
      intro h
      show wipe ((wipe σ ws).set w none) vs = wipe σ vs
      rw [wipe_set (h w List.mem_cons_self)]
      exact ih fun i hi => h i (List.mem_cons_of_mem _ hi)
  exact key vs fun i hi => hi
theorem wipeR_idem {σ : Sl} {vs : List Nat} : wipeR (wipeR σ vs) vs = wipeR σ vs := by
  have key : ∀ ws : List Nat, (∀ i ∈ ws, i ∈ vs) → wipeR (wipeR σ ws) vs = wipeR σ vs := fun ws => by
    induction ws with
    | nil => intro _; rfl
    | cons w ws ih =>
      intro h
      show wipeR ((wipeR σ ws).set w .un) vs = wipeR σ vs
      rw [wipeR_set (h w List.mem_cons_self)]
      exact ih fun i hi => h i (List.mem_cons_of_mem _ hi)
  exact key vs fun i hi => hi
end
abbrev EN : WX := fun _ _ _ _ => False
def mYes : MB := fun _ m => .ok true m
def lcL (g : MG) (t : MB) (f : ME) (ρ : Sl) : List Dv → Mm → Rs (List Dv)
  | [], m => .ok [] m
  | d :: ds, m => match g d ρ with
    | none => .no
    | some ρ1 => match t ρ1 m with
      | .ok k m1 => if k = true then match f ρ1 m1 with
          | .ok (.v y) m2 => match lcL g t f ρ ds m2 with
            | .ok ys m3 => .ok (y :: ys) m3
            | _ => .no
          | _ => .no
        else lcL g t f ρ ds m1
      | _ => .no
def mLc (vs : List Nat) (it : MI) (g : MG) (t : MB) (f : ME) : MN := fun ρ m => (it ρ m).bind fun ds m1 => match lcL g t f (wipeR ρ vs) ds m1 with
  | .ok ys m2 => .ok (.lst ys) m2
  | _ => .no
section
variable {X : Cx} {E : WX} {tg iter elt : Expr} {ifs : List Expr} {scope : Scope} {own : List (Str × Nat)} {fa : ME} {pos : Pos} {g : MG} {it : MI} {t : MB} {is : List Nat}
theorem lc_want {K : PySem.W.Frag} {mg : Str → Option Value} {vs : List Nat} (his : ∀ i ∈ is, i ∈ vs) (hon : ∀ d ρ ρ', g d ρ = some ρ' → OnlyR is ρ ρ') {σ : L2.St} {H : Hp} {Q : VK} (h : tnOf K mg E (mLc vs it g t fa) σ H Q) :
    tLc (tiOf K mg E it) (tgOf K mg is g) (tbOf K mg EN t) (tOf K mg EN fa) vs σ H Q := by
  obtain ⟨b, ρ, m, T, S, w⟩ := h
  refine ⟨b, ρ, m, T, S, ?_⟩
  unfold mLc at w
  revert w
  cases it ρ m with
  | no => exact id
  | ex x m1 => exact id
  | ok ds m1 =>
    intro w J H1 T' hT' hz S1 hJ D hD
    rw [Rs.bind_ok] at w
    let c := b.cf K mg
    let U := saved σ ρ vs ++ (T' ++ T)
    have hl := S.len
    have S2 : S3 c (wipeR ρ vs) m1 (wipe σ vs) (upd H1 D (.lst [])) ((some (.ref D), .own (.lst [])) :: U) := by
      obtain ⟨G, μ, s⟩ := S1
      exact (s.wipeIn (vs := vs)).newOL .nil hD
    -- what is wanted of the rest
    let R := fun (acc : List Dv) (r : Rs (List Dv)) => ∃ ys m2, r = .ok ys m2 ∧ WantN E c ρ σ T Q (.ok (.lst (acc ++ ys)) m2)
    have w0 : R [] (lcL g t fa (wipeR ρ vs) ds m1) := by
      revert w
      cases lcL g t fa (wipeR ρ vs) ds m1 with
      | no => exact fun w => w.elim
      | ex x m2 => exact fun w => w.elim
      | ok ys m2 => exact fun w => ⟨ys, m2, rfl, w⟩
    refine ⟨fun i k H => k = ds.length - i ∧ i ≤ ds.length ∧ ∃ (m : Mm) (acc : List Dv), acc.length ≤ i ∧ S3 c (wipeR ρ vs) m (wipe σ vs) H ((some (.ref D), .own (.lst acc)) :: U) ∧ R acc (lcL g t fa (wipeR ρ vs) (ds.drop i) m), ⟨ds.length, by simp, Nat.zero_le _, m1, [], Nat.le_refl _, S2, by simpa using w0⟩, ?_⟩
    rintro i k H ⟨rfl, hi, m, acc, hacc, S, ys, m2, e, w⟩
    obtain ⟨j1, j2, j3⟩ := hJ (wipeR ρ vs) m (wipe σ vs) H ((some (.ref D), .own (.lst acc)) :: U) i (fun p hp => List.mem_cons_of_mem _ (List.mem_append_right _ (List.mem_append_left _ hp))) S
    by_cases hlt : i < ds.length
    · have hd : ds.drop i = ds[i] :: ds.drop (i + 1) := List.drop_eq_getElem_cons hlt
      rw [hd] at e
      unfold lcL at e
      refine .inr ⟨j1 hlt, fun H' => ∃ (m : Mm) (acc : List Dv), acc.length ≤ i + 1 ∧ S3 c (wipeR ρ vs) m (wipe σ vs) H' ((some (.ref D), .own (.lst acc)) :: U) ∧ R acc (lcL g t fa (wipeR ρ vs) (ds.drop (i + 1)) m), fun H' q => ⟨ds.length - (i + 1), by omega, rfl, hlt, q⟩, fun x H' y => ?_⟩
      have S2 := j2 ds[i] (List.getElem?_eq_getElem hlt) x H' y
      cases hg' : g ds[i] (wipeR ρ vs) with
      | none => rw [hg'] at e; cases e
      | some ρ1 =>
        rw [hg'] at e
        have e : (match t ρ1 m with
          | .ok k m1 => if k = true then match fa ρ1 m1 with
              | .ok (.v y) m2 => match lcL g t fa (wipeR ρ vs) (ds.drop (i + 1)) m2 with
                | .ok ys m3 => .ok (y :: ys) m3
                | _ => .no
              | _ => .no
            else lcL g t fa (wipeR ρ vs) (ds.drop (i + 1)) m1
          | _ => .no) = Rs.ok ys m2 := e
        refine ⟨b, wipeR ρ vs, m, (some (.ref D), .own (.lst acc)) :: U, ds[i], S2, ρ1, hg', fun σ2 H2 on S3' => ⟨?_, b, ρ1, m, (some (.ref D), .own (.lst acc)) :: U, S3', ?_⟩⟩
        · rw [on vs his, wipe_idem]
        have back : ∀ {m' : Mm} {H' : Hp} {V : Tm}, S3 c ρ1 m' σ2 H' V → S3 c (wipeR ρ vs) m' (wipe σ vs) H' V := fun {m' H' V} s => by
          have q := s.wipeIn (vs := vs)
          rw [on vs his, wipe_idem, hon _ _ _ hg' vs his, wipeR_idem] at q
          exact q.pops
        cases ht : t ρ1 m with
        | no => rw [ht] at e; cases e
        | ex x m1 => rw [ht] at e; cases e
        | ok k m1 =>
          rw [ht] at e
          intro H3 S4
          have e : (if k = true then match fa ρ1 m1 with
              | .ok (.v y) m2 => match lcL g t fa (wipeR ρ vs) (ds.drop (i + 1)) m2 with
                | .ok ys m3 => .ok (y :: ys) m3
                | _ => .no
              | _ => .no
            else lcL g t fa (wipeR ρ vs) (ds.drop (i + 1)) m1) = Rs.ok ys m2 := e
          by_cases hk : k = true
          · rw [if_pos hk] at e ⊢
            refine ⟨b, ρ1, m1, (some (.ref D), .own (.lst acc)) :: U, S4, ?_⟩
            cases hf : fa ρ1 m1 with
            | no => rw [hf] at e; cases e
            | ex x m3 => rw [hf] at e; cases e
            | ok x m3 =>
              rw [hf] at e
              intro yv H4 S5 hb5
              cases x with
              | b j => cases e
              | v yd =>
                have e : (match lcL g t fa (wipeR ρ vs) (ds.drop (i + 1)) m3 with
                  | .ok ys m3 => .ok (yd :: ys) m3
                  | _ => .no) = Rs.ok ys m2 := e
                obtain ⟨G, μ, s⟩ := back S5
                have s : St3 c (wipeR ρ vs) m3 (wipe σ vs) H4 (tv yv yd :: (some (.ref D), .own (.lst acc)) :: U) G μ := s
                obtain ⟨a, ea, ⟨vsD, hvs, rD⟩, _⟩ := s.cells (some (.ref D), .own (.lst acc)) (by simp)
                cases ea
                have hlen := rD.length
                have s2 := s.pop.putTop (o' := .lst (acc ++ [yd])) (u := .lst (vsD ++ [yv])) ⟨_, upd_same, (RepL.one s.top).app rD⟩
                cases hr : lcL g t fa (wipeR ρ vs) (ds.drop (i + 1)) m3 with
                | no => rw [hr] at e; cases e
                | ex x m4 => rw [hr] at e; cases e
                | ok zs m4 =>
                  rw [hr] at e
                  cases e
                  refine ⟨vsD, hvs, by omega, m3, acc ++ [yd], by simp; omega, ⟨G, μ, s2⟩, zs, m2, hr, ?_⟩
                  rw [List.append_assoc]; exact w
          · rw [if_neg hk] at e ⊢
            exact ⟨m1, acc, by omega, back S4, ys, m2, e, w⟩
    · have ei : i = ds.length := by omega
      subst ei
      rw [List.drop_length] at e
      unfold lcL at e
      cases e
      rw [List.append_nil] at w
      refine .inl ⟨j3 (Nat.le_refl _), w D H ?_⟩
      have q : S3 c (wipeR ρ vs) m (wipe σ vs) H (saved σ ρ vs ++ ((some (.ref D), .own (.lst acc)) :: (T' ++ T))) := S.perm (List.perm_middle)
      obtain ⟨G, μ, s⟩ := S3.wipeOut hl q
      refine ⟨G, μ, s.weak (fun p hp => ?_) ?_⟩
      · rcases List.mem_cons.mp hp with h | h
        · rw [h]; exact List.mem_cons_self
        · exact List.mem_cons_of_mem _ (List.mem_append_right _ h)
      · rw [fm_cons, fm_cons, List.filterMap_append]
        exact List.Sublist.append (List.Sublist.refl _) (List.sublist_append_right _ _)
abbrev PBs (X : Cx) (E : WX) (ifs : List Expr) (f : MB) : Prop := PTs X ifs (tbOf X.K X.mg E f)
theorem bs_nil : PBs X E [] mYes := ⟨fun pins s σ H Q I ⟨b, ρ, m, T, S, w⟩ => pts_nil.run pins s σ H Q I (w H S)⟩
theorem bs_one {e : Expr} {f : MB} (h : PB X E e f) : PBs X E [e] f := pts_one h
theorem n_lc (hc : X.calm = true) (hN : X.N.Nodup) (hi : PIx X E tg iter it) (ok : BlkOk X.N X.env.scope scope own) (his : ∀ i ∈ is, i ∈ own.map (·.2))
    (hg : ∀ (s : Shared) (H : Hp) (C : Addr) (cl : List (Str × Addr)) (fp : List Addr), PGx (X.blk s H scope (compEnvC scope cl C X.env) fp) is tg g) (ht : ∀ (s : Shared) (H : Hp) (C : Addr) (cl : List (Str × Addr)) (fp : List Addr), PBs (X.blk s H scope (compEnvC scope cl C X.env) fp) EN ifs t)
    (he : ∀ (s : Shared) (H : Hp) (C : Addr) (cl : List (Str × Addr)) (fp : List Addr), PX (X.blk s H scope (compEnvC scope cl C X.env) fp) EN elt fa) (hs : ∀ x, foldedSetIterable iter X.env x = pure x := by intro _; rfl) :
    PN X E (.ListComp elt [⟨tg, iter, ifs, 0⟩] scope pos) (mLc (own.map (·.2)) it g t fa) :=
  ⟨fun pins s σ H Q I h => (pe_lc hc hN hi ok (fun s H C cl fp => (hg s H C cl fp).pg) ht he hs).run pins s σ H Q I (lc_want his (hg s H 0 [] []).on h)⟩
theorem asgF_want {K : PySem.W.Frag} {mg : Str → Option Value} {i : Nat} {f : MN} {D : Ends} {σ : L2.St} {H : Hp} (h : tsOf K mg E (mAsg (mFrz f) (mGn i)) D σ H) : tnOf K mg E f σ H (fun x H1 => gName i x σ H1 D.nx) := by
  obtain ⟨b, ρ, m, T, S, w⟩ := h
  refine ⟨b, ρ, m, T, S, ?_⟩
  unfold mAsg mFrz at w
  revert w
  cases f ρ m with
  | no => exact id
  | ex x m1 => exact fun w => w σ
  | ok o m1 =>
    intro w p H1 S1
    rw [Rs.bind_ok] at w
    by_cases z : obZ o = true
    · rw [if_pos z, Rs.st_ok] at w
      exact w _ _ (S1.frzTop z).setV
    · rw [if_neg z] at w; exact w.elim
section
variable {i : Nat} {y : Str} {py spos : Pos}
theorem s_setLc (hc : X.calm = true) (hN : X.N.Nodup) (hy : X.N[i]? = some y) (hyl : X.env.scope.names.lookup y = some .local) (hsw : swapsWith (.ListComp elt [⟨tg, iter, ifs, 0⟩] scope pos) (some (.Name y py)) spos.line X.env = pure true)
    (hi : PIx X E tg iter it) (ok : BlkOk X.N X.env.scope scope own) (his : ∀ i ∈ is, i ∈ own.map (·.2))
    (hg : ∀ (s : Shared) (H : Hp) (C : Addr) (cl : List (Str × Addr)) (fp : List Addr), PGx (X.blk s H scope (compEnvC scope cl C X.env) fp) is tg g) (ht : ∀ (s : Shared) (H : Hp) (C : Addr) (cl : List (Str × Addr)) (fp : List Addr), PBs (X.blk s H scope (compEnvC scope cl C X.env) fp) EN ifs t)
    (he : ∀ (s : Shared) (H : Hp) (C : Addr) (cl : List (Str × Addr)) (fp : List Addr), PX (X.blk s H scope (compEnvC scope cl C X.env) fp) EN elt fa) (hs : ∀ x, foldedSetIterable iter X.env x = pure x := by intro _; rfl) :
    PSx X E (.Assign [.Name y py] (.ListComp elt [⟨tg, iter, ifs, 0⟩] scope pos) spos) (mAsg (mFrz (mLc (own.map (·.2)) it g t fa)) (mGn i)) :=
  ⟨fun pins s σ H D I h => (ps_setLc hc hN hy hyl hsw hi ok (fun s H C cl fp => (hg s H C cl fp).pg) ht he hs).run pins s σ H D I (lc_want his (hg s H 0 [] []).on (asgF_want h))⟩
end
end
end M3
set_option Elab.async false
set_option linter.all false
set_option autoImplicit false
set_option maxRecDepth 100000
set_option maxHeartbeats 2000000
namespace M3
open PySem L2 PySem.Spec PyProof.Rows
section
variable {K : PySem.W.Frag} {mg : Str → Option Value} {E : WX} {c : Cf} {ρ : Sl} {m : Mm} {σ : L2.St} {H : Hp} {T : Tm} {G : Hp} {μ : List Addr}
def mobOf (ρ : Sl) (m : Mm) : Ar → Option Ob
  | .v (.loc n) => match m[n]? with
    | some (some o) => some o
    | _ => none
  | .b i => match ρ[i]? with
    | some (.own o) => some o
    | _ => none
  | _ => none
def mobPut (ρ : Sl) (m : Mm) (x : Ar) (o : Ob) : Option (Sl × Mm) := match x with
  | .v (.loc n) => some (ρ, m.set n (some o))
  | .b i => some (ρ.set i (.own o), m)
  | _ => none
theorem mob_at (s : St3 c ρ m σ H T G μ) {x : Ar} {v : V} {o : Ob} (r : ArAt c.K c.mg μ G σ v x) (e : mobOf ρ m x = some o) :
    ∃ p, v = .ref p ∧ ObAt c.K c.mg μ G H p o ∧ ∀ (u : HO) (o' : Ob) ρ' m', mobPut ρ m x o' = some (ρ', m') → ObAt c.K c.mg μ G (upd H p u) p o' → St3 c ρ' m' σ (upd H p u) T G μ := by
  unfold mobOf at e
  split at e
  · split at e
    · rename_i h
      cases e
      cases r with
      | loc hm =>
        obtain ⟨a, e1, e2, ob⟩ := s.mem.ob _ _ h
        rw [hm] at e1; cases e1
        refine ⟨_, rfl, ob, fun u o' ρ' m' e q => ?_⟩
        cases e
        exact s.putM h hm q
    · cases e
  · split at e
    · rename_i h
      cases e
      obtain ⟨p, q, ob, _⟩ := s.ownAt h
      have r : σ[_]? = some (some v) := r
      rw [q] at r; cases r
      refine ⟨p, rfl, ob, fun u o' ρ' m' e r' => ?_⟩
      cases e
      exact s.putSlot h q r'
    · cases e
  · cases e
def tyOb (t : String) : Ob → Bool
  | .lst _ => t == "list"
  | .dct _ => t == "dict"
  | .dcT _ => t == "dict"
  | .ins _ _ => false
  | .raw _ => false
theorem ty_at {t : String} {p : Addr} {o : Ob} (ob : ObAt K mg μ G H p o) (h : tyOb t o = true) : tyV K t (.ref p) H := by
  cases o with
  | lst ds => obtain ⟨vs, x, r⟩ := ob; exact .inl ⟨by simpa [tyOb] using h, vs, SqL.of x⟩
  | dct ds => obtain ⟨vs, x, r⟩ := ob; exact .inr (.inr (.inl ⟨by simpa [tyOb] using h, .inl ⟨vs, x⟩⟩))
  | dcT ds => obtain ⟨vs, x, r⟩ := ob; exact .inr (.inr (.inl ⟨by simpa [tyOb] using h, .inr ⟨vs, x⟩⟩))
  | ins _ _ => cases h
  | raw _ => cases h
def MutR (r : V → List V → Hp → VK → Prop) (g : Ob → List Dv → Option (Ob × Dv)) : Prop :=
  ∀ (K : PySem.W.Frag) (mg : Str → Option Value) (μ : List Addr) (G H : Hp) (p : Addr) (o o' : Ob) (vs : List V) (ds : List Dv) (d : Dv) (Q : VK), ObAt K mg μ G H p o → RepL K mg μ G ds vs → g o ds = some (o', d) →
    (∀ u w, ObAt K mg μ G (upd H p u) p o' → Rep K mg μ G d w → Q w (upd H p u)) → r (.ref p) vs H Q
def mMutK (t : String) (g : Ob → List Dv → Option (Ob × Dv)) (fo : ME) (fa : MA) (k : Dv → Sl → Mm → RS) : MS := fun ρ m => (fo ρ m).st ρ fun x m1 => match mobOf ρ m1 x with
  | some o => if tyOb t o = true then (fa ρ m1).st ρ fun ds m2 => match mobOf ρ m2 x with
      | some o2 => match g o2 ds with
        | some (o', d) => match mobPut ρ m2 x o' with
          | some (ρ', m') => k d ρ' m'
          | none => .no
        | none => .no
      | none => .no
    else .no
  | none => .no
def mMut (t : String) (g : Ob → List Dv → Option (Ob × Dv)) (fo : ME) (fa : MA) : MS := mMutK t g fo fa fun _ ρ m => .nx ρ m
def mMutA (t : String) (g : Ob → List Dv → Option (Ob × Dv)) (fo : ME) (fa : MA) (i : Nat) : MS := mMutK t g fo fa fun d ρ m => .nx (ρ.set i (.val d)) m
theorem mut_core {t : String} {g : Ob → List Dv → Option (Ob × Dv)} {r : V → List V → Hp → VK → Prop} (hr : MutR r g) {fo : ME} {fa : MA} {k : Dv → Sl → Mm → RS} {D : Ends} {σ : L2.St} {H : Hp} {Q : VK}
    (h : tsOf K mg E (mMutK t g fo fa k) D σ H) (hk : ∀ (b : Bs) d ρ' m' T v H', S3 (b.cf K mg) ρ' m' σ H' (tv v d :: T) → WantS E (b.cf K mg) T D (k d ρ' m') → Q v H') :
    tOf K mg E fo σ H fun x H1 => tyV K t x H1 ∧ taOf K mg E fa σ H1 fun vs H2 => r x vs H2 Q := by
  obtain ⟨b, ρ, m, T, S, w⟩ := h
  refine ⟨b, ρ, m, T, S, ?_⟩
  unfold mMutK at w
  revert w
  cases fo ρ m with
  | no => exact id
  | ex x m1 => exact fun w => w σ
  | ok x m1 =>
    intro w v H1 ⟨G, μ, s⟩ hb
    rw [Rs.st_ok] at w
    cases e : mobOf ρ m1 x with
    | none => rw [e] at w; exact w.elim
    | some o =>
      rw [e] at w
      have rv := s.ar (S := T) hb
      obtain ⟨p, rfl, ob, _⟩ := mob_at s.pops rv e
      by_cases ht : tyOb t o = true
      · have w : WantS E (b.cf K mg) T D (if tyOb t o = true then (fa ρ m1).st ρ fun ds m2 => match mobOf ρ m2 x with
            | some o2 => match g o2 ds with
              | some (o', d) => match mobPut ρ m2 x o' with
                | some (ρ', m') => k d ρ' m'
                | none => .no
              | none => .no
            | none => .no
          else .no) := w
        rw [if_pos ht] at w
        refine ⟨ty_at ob ht, b, ρ, m1, tva (.ref p) x ++ T, ⟨G, μ, s⟩, ?_⟩
        revert w
        cases fa ρ m1 with
        | no => exact id
        | ex x m2 => exact fun w => WantX.weak (w σ)
        | ok ds m2 =>
          intro w vs H2 hl ⟨G2, μ2, s2⟩
          rw [Rs.st_ok] at w
          have ra := tvs_rep hl s2
          have s3 := s2.pops
          have rv := s3.ar (S := T) hb
          cases e2 : mobOf ρ m2 x with
          | none => rw [e2] at w; exact w.elim
          | some o2 =>
            rw [e2] at w
            obtain ⟨p', hp', ob2, put⟩ := mob_at s3.pops rv e2
            cases hp'
            cases e3 : g o2 ds with
            | none => simp only [e3] at w; exact w.elim
            | some od =>
              obtain ⟨o', d⟩ := od
              simp only [e3] at w
              cases e4 : mobPut ρ m2 x o' with
              | none => simp only [e4] at w; exact w.elim
              | some rm =>
                obtain ⟨ρ', m'⟩ := rm
                simp only [e4] at w
                exact hr _ _ _ _ _ _ _ _ _ _ _ _ ob2 ra e3 fun u z q1 q2 => hk b d ρ' m' T z _ ⟨G2, μ2, (put u o' ρ' m' e4 q1).push q2⟩ w
      · have w : WantS E (b.cf K mg) T D (if tyOb t o = true then _ else .no) := w
        rw [if_neg ht] at w; exact w.elim
def gApp : Ob → List Dv → Option (Ob × Dv) := fun o ds => match o, ds with
  | .lst xs, [d] => if xs.length < sizeLine then some (.lst (xs ++ [d]), .non) else none
  | _, _ => none
theorem mut_app : MutR rAppend gApp := fun K mg μ G H p o o' vs ds d Q ob ra e q => by
  unfold gApp at e
  split at e
  · split at e
    · rename_i xs y z
      cases e
      obtain ⟨ws, hx, rx⟩ := ob
      cases ra with
      | cons a b =>
        cases b
        exact ⟨p, ws, _, rfl, rfl, hx, by rw [← rx.length]; exact z, q _ _ ⟨_, upd_same, (RepL.one a).app rx⟩ .non⟩
    · cases e
  · cases e
def gIns : Ob → List Dv → Option (Ob × Dv) := fun o ds => match o, ds with
  | .lst xs, [.int i, d] => if xs.length < sizeLine ∧ 0 ≤ i ∧ i < 2 ^ 63 then some (.lst (xs.take i.toNat ++ [d] ++ xs.drop i.toNat), .non) else none
  | _, _ => none
theorem mut_ins : MutR (fun x vs H Q => ∃ (l : Addr) (xs : List V) (i : Int) (y : V), x = .ref l ∧ vs = [.int i, y] ∧ H l = some (.lst xs) ∧ xs.length < sizeLine ∧ 0 ≤ i ∧ i < 2 ^ 63 ∧
    Q .non (upd H l (.lst (xs.take i.toNat ++ [y] ++ xs.drop i.toNat)))) gIns := fun K mg μ G H p o o' vs ds d Q ob ra e q => by
  unfold gIns at e
  split at e
  · split at e
    · rename_i xs i y z
      cases e
      obtain ⟨ws, hx, rx⟩ := ob
      cases ra with
      | cons a b =>
        cases a
        cases b with
        | cons a' b' =>
          cases b'
          exact ⟨p, ws, i, _, rfl, rfl, hx, by rw [← rx.length]; exact z.1, z.2.1, z.2.2, q _ _ ⟨_, upd_same, (rx.drop _).app ((RepL.one a').app (rx.take _))⟩ .non⟩
    · cases e
  · cases e
def gClear : Ob → List Dv → Option (Ob × Dv) := fun o ds => match o, ds with
  | .lst _, [] => some (.lst [], .non)
  | _, _ => none
theorem mut_clear : MutR rClear gClear := fun K mg μ G H p o o' vs ds d Q ob ra e q => by
  unfold gClear at e
  split at e
  · cases e
    obtain ⟨ws, hx, rx⟩ := ob
    cases ra
    exact ⟨p, ws, rfl, rfl, hx, q _ _ ⟨_, upd_same, .nil⟩ .non⟩
  · cases e
end
section
variable {X : Cx} {E : WX} {o e : Expr} {fo : ME} {fa : MA} {pos apos cpos : Pos} {name : Str} {t mid : String} {r : V → List V → Hp → VK → Prop} {g : Ob → List Dv → Option (Ob × Dv)} {es : List Expr}
theorem s_mut (pa : PlainAttrs t) (slot : Slot t name mid) (hty : typeOf (.builtin mid) = pure (.type "method_descriptor")) (hm : MtR X mid r) (hr : MutR r g) (ho : PX X E o fo) (ha : PXs X E (e :: es) fa)
    (hbase : attributeBase o name X.env (eval o X.env) = eval o X.env := by rfl)
    (hfew : ((backTo cpos (starEach (e :: es) X.env)).all (fun x => !x.1) && (backToKw cpos (keywordEach [] X.env)).all (fun x => x.1.isSome)
      && decide ((e :: es).length + ([] : List Keyword).length + (if ([] : List Keyword).isEmpty then 0 else 1) < 30)) = true := by rfl)
    (hline : (apos.endLine == cpos.line) = true := by rfl) (hs : starEach (e :: es) X.env = (false, eval e X.env) :: starEach es X.env := by rfl) (hplain : (backTo cpos (starEach es X.env)).any (·.1) = false := by rfl)
    (hsw : swapsWith (.Call (.Attribute o name apos) (e :: es) [] cpos) none pos.line X.env = pure false := by rfl) :
    PSx X E (.Expr (.Call (.Attribute o name apos) (e :: es) [] cpos) pos) (mMut t g fo fa) :=
  PSi (ps_expr (pe_bm pa slot hty hm ho ha hbase hfew hline hs hplain) hsw) fun D σ H h => mut_core hr h fun b d ρ' m' T v H' S w => w σ H' S.pop
def dput {κ : Type} [DecidableEq κ] (kvs : List (κ × Dv)) (k : κ) (d : Dv) : List (κ × Dv) := if kvs.any (fun kv => decide (kv.1 = k)) = true then kvs.map fun kv => if kv.1 = k then (kv.1, d) else kv else kvs ++ [(k, d)]
def gSetIx (o : Ob) (i d : Dv) : Option Ob := match o with
  | .lst xs => match i with
    | .int k => match ixN xs.length k with
      | some j => some (.lst (xs.set j d))
      | none => none
    | _ => none
  | .dct kvs => match keyD i with
    | some k => if kvs.length < sizeLine then some (.dct (dput kvs k d)) else none
    | none => none
  | .dcT kvs => match tkeyOf (.v i) with
    | some k => if kvs.length < sizeLine then some (.dcT (dput kvs k d)) else none
    | none => none
  | .ins _ _ => none
  | .raw _ => none
def rSetU (o i v : V) (H : Hp) (Q : Hp → Prop) : Prop := rSetL o i v H Q ∨ ∃ a H4, o = .ref a ∧ DPut H a i v H4 ∧ Q H4
theorem set_U (hu : X.A.units + 1 < cLine) : PSet X rSetU := by
  intro pins s σ H o i v ov iv u Q I ro ri rv h
  rcases h with h | ⟨a, H4, rfl, g, q⟩
  · exact set_list pins s σ H o i v ov iv u Q I ro ri rv h
  · obtain rfl : ov = Value.ref a := ro
    exact d_setItem hu I g ri rv fun s' I' => ⟨H4, I', q⟩
theorem repK_any {K : PySem.W.Frag} {mg : Str → Option Value} {μ : List Addr} {G : Hp} {κ : Type} [DecidableEq κ] (k : κ) {kvs : List (κ × Dv)} : ∀ {ws : List (κ × V)}, RepK K mg μ G kvs ws → kvs.any (fun kv => decide (kv.1 = k)) = ws.any (fun kv => decide (kv.1 = k)) := by
  induction kvs with
  | nil => intro ws h; cases h; rfl
  | cons p r ih => intro ws h; cases h with | cons a b => simp [List.any_cons, ih b]
theorem repK_app {K : PySem.W.Frag} {mg : Str → Option Value} {μ : List Addr} {G : Hp} {κ : Type} {es : List (κ × Dv)} {xs : List (κ × V)} (r : RepK K mg μ G es xs) {kvs : List (κ × Dv)} : ∀ {ws : List (κ × V)}, RepK K mg μ G kvs ws → RepK K mg μ G (kvs ++ es) (ws ++ xs) := by
  induction kvs with
  | nil => intro ws h; cases h; exact r
  | cons p t ih => intro ws h; cases h with | cons a b => exact .cons a (ih b)
theorem repK_map {K : PySem.W.Frag} {mg : Str → Option Value} {μ : List Addr} {G : Hp} {κ : Type} [DecidableEq κ] {k : κ} {d : Dv} {v : V} (rv : Rep K mg μ G d v) {kvs : List (κ × Dv)} : ∀ {ws : List (κ × V)}, RepK K mg μ G kvs ws → RepK K mg μ G (kvs.map fun kv => if kv.1 = k then (kv.1, d) else kv) (ws.map fun kv => if kv.1 = k then (kv.1, v) else kv) := by
  induction kvs with
  | nil => intro ws h; cases h; exact .nil
  | cons p r ih =>
    intro ws h
    cases h with
    | @cons _ k' d' v' _ vs a b =>
      rw [List.map_cons, List.map_cons]
      by_cases e : k' = k
      · simp only [e, if_true]; exact .cons rv (ih b)
      · simp only [e, if_false]; exact .cons a (ih b)
theorem repK_put {K : PySem.W.Frag} {mg : Str → Option Value} {μ : List Addr} {G : Hp} {κ : Type} [DecidableEq κ] {k : κ} {d : Dv} {v : V} (rv : Rep K mg μ G d v) {kvs : List (κ × Dv)} {ws : List (κ × V)} (h : RepK K mg μ G kvs ws) : RepK K mg μ G (dput kvs k d) (putK ws k v) := by
  unfold dput putK
  rw [repK_any k h]
  split
  · exact repK_map rv h
  · exact repK_app (.cons rv .nil) h
theorem setIx_at {K : PySem.W.Frag} {mg : Str → Option Value} {μ : List Addr} {G H : Hp} {p : Addr} {o o' : Ob} {i d : Dv} {iv v : V} {Q : Hp → Prop} (st : Stands G H) (ob : ObAt K mg μ G H p o) (ri : Rep K mg μ G i iv) (rd : Rep K mg μ G d v) (e : gSetIx o i d = some o') (q : ∀ u, ObAt K mg μ G (upd H p u) p o' → Q (upd H p u)) : rSetU (.ref p) iv v H Q := by
  unfold gSetIx at e
  split at e
  · split at e
    · split at e
      · rename_i k _ j hj
        cases e
        obtain ⟨ws, hx, rx⟩ := ob
        cases ri
        exact .inl ⟨p, ws, k, j, rfl, rfl, hx, by rw [← rx.length]; exact hj, q _ ⟨_, upd_same, rx.set rd j⟩⟩
      · cases e
    · cases e
  · split at e
    · rename_i k hk
      split at e
      · rename_i z
        cases e
        obtain ⟨ws, hx, rx⟩ := ob
        exact .inr ⟨p, _, rfl, .inl ⟨ws, k, hx, keyD_rep ri hk, by rw [← rx.length]; exact z, rfl⟩, q _ ⟨_, upd_same, repK_put rd rx⟩⟩
      · cases e
    · cases e
  · split at e
    · rename_i k hk
      split at e
      · rename_i z
        cases e
        obtain ⟨ws, hx, rx⟩ := ob
        cases ri with
        | tup h z' rr =>
          have hk' := keyDs_rep rr hk
          subst hk'
          exact .inr ⟨p, _, rfl, .inr ⟨ws, k, _, hx, rfl, st.t h, by rw [← rx.length]; exact z, rfl⟩, q _ ⟨_, upd_same, repK_put rd rx⟩⟩
        | _ => cases hk
      · cases e
    · cases e
  · cases e
  · cases e
def mSetIx (fv fo fi : ME) : MS := fun ρ m => (fv ρ m).st ρ fun z m0 => match z with
  | .b _ => .no
  | .v d => (fo ρ m0).st ρ fun x m1 => (fi ρ m1).st ρ fun y m2 => match y with
    | .b _ => .no
    | .v i => match mobOf ρ m2 x with
      | some o => match gSetIx o i d with
        | some o' => match mobPut ρ m2 x o' with
          | some (ρ', m') => .nx ρ' m'
          | none => .no
        | none => .no
      | none => .no
theorem s_setix {i v : Expr} {fi fv : ME} {pos' : Pos} (hu : X.A.units + 1 < cLine) (hv : PX X E v fv) (ho : PX X E o fo) (hi : PX X E i fi)
    (ha : ∀ v, assign (.Subscript o i pos') X.env v = (do
      let ov ← holding [v] (eval o X.env)
      let iv ← holding [v, ov] (eval i X.env)
      standAt pos'
      holding [v, ov, iv] (setItem ov iv v)
      release [v, ov, iv] []) := by intro _; rfl)
    (hs : swapsWithSole [.Subscript o i pos'] v pos.line X.env = pure false := by rfl) (hw : swappedStores [.Subscript o i pos'] v X.env = pure none := by rfl)
    (h1 : (assignEach [.Subscript o i pos'] X.env).map (·.2) = [assign (.Subscript o i pos') X.env] := by rfl) :
    PSx X E (.Assign [.Subscript o i pos'] v pos) (mSetIx fv fo fi) :=
  PSi (ps_asg hv (pg_sub ho hi (set_U hu) ha) hs hw h1) fun D σ H ⟨b, ρ, m, T, S, w⟩ => by
    refine ⟨b, ρ, m, T, S, ?_⟩
    unfold mSetIx at w
    revert w
    cases fv ρ m with
    | no => exact id
    | ex x m1 => exact fun w => w σ
    | ok z m0 =>
      intro w dv H0 S0 hb0
      rw [Rs.st_ok] at w
      cases z with
      | b j => exact w.elim
      | v d =>
        refine ⟨b, ρ, m0, tv dv d :: T, S0, ?_⟩
        have w : WantS E (b.cf X.K X.mg) T D ((fo ρ m0).st ρ fun x m1 => (fi ρ m1).st ρ fun y m2 => match y with
          | .b _ => .no
          | .v i => match mobOf ρ m2 x with
            | some o => match gSetIx o i d with
              | some o' => match mobPut ρ m2 x o' with
                | some (ρ', m') => .nx ρ' m'
                | none => .no
              | none => .no
            | none => .no) := w
        revert w
        cases fo ρ m0 with
        | no => exact id
        | ex x m1 => exact fun w => WantX.weak (S := [tv dv d]) (w σ)
        | ok x m1 =>
          intro w ov H1 S1 hb1
          refine ⟨b, ρ, m1, tva ov x ++ (tv dv d :: T), S1, ?_⟩
          rw [Rs.st_ok] at w
          revert w
          cases fi ρ m1 with
          | no => exact id
          | ex x m1 => exact fun w => WantX.weak (WantX.weak (S := [tv dv d]) (w σ))
          | ok y m2 =>
            intro w iv H2 ⟨G, μ, s⟩ hb2
            rw [Rs.st_ok] at w
            cases y with
            | b j => exact w.elim
            | v i =>
              have ri : Rep X.K X.mg μ G i iv := St3.top (T := tva ov x ++ (tv dv d :: T)) s
              have s1 : St3 (b.cf X.K X.mg) ρ m2 σ H2 (tva ov x ++ (tv dv d :: T)) G μ := St3.pops (S := tva iv (.v i)) s
              have ro := s1.ar (S := tv dv d :: T) hb1
              have s2 := s1.pops
              have rd := s2.top
              have w : WantS E (b.cf X.K X.mg) T D (match mobOf ρ m2 x with
                | some o => match gSetIx o i d with
                  | some o' => match mobPut ρ m2 x o' with
                    | some (ρ', m') => .nx ρ' m'
                    | none => .no
                  | none => .no
                | none => .no) := w
              cases e1 : mobOf ρ m2 x with
              | none => rw [e1] at w; exact w.elim
              | some o =>
                simp only [e1] at w
                obtain ⟨p, rfl, ob, put⟩ := mob_at s2.pop ro e1
                cases e2 : gSetIx o i d with
                | none => simp only [e2] at w; exact w.elim
                | some o' =>
                  simp only [e2] at w
                  cases e3 : mobPut ρ m2 x o' with
                  | none => simp only [e3] at w; exact w.elim
                  | some rm =>
                    obtain ⟨ρ', m'⟩ := rm
                    simp only [e3] at w
                    exact setIx_at s2.mem.st ob ri rd e2 fun u q => w σ _ ⟨G, μ, put u o' ρ' m' e3 q⟩
def fput (f : Str) (d : Dv) : List (Str × Dv) → List (Str × Dv)
  | [] => [(f, d)]
  | (g, x) :: r => if g = f then (g, d) :: r else (g, x) :: fput f d r
theorem repK_fput {K : PySem.W.Frag} {mg : Str → Option Value} {μ : List Addr} {G : Hp} {f : Str} {d : Dv} {v : V} (rv : Rep K mg μ G d v) {fs : List (Str × Dv)} : ∀ {ws : List (Str × V)}, RepK K mg μ G fs ws → RepK K mg μ G (fput f d fs) (putF f v ws) := by
  induction fs with
  | nil => intro ws h; cases h; exact .cons rv .nil
  | cons p r ih =>
    intro ws h
    cases h with
    | @cons _ k' d' v' _ vs a b =>
      unfold fput putF
      by_cases e : k' = f
      · simp only [e, if_true]; exact .cons rv b
      · simp only [e, if_false]; exact .cons a (ih b)
def mStF (cn f : Str) (fv fo : ME) : MS := fun ρ m => (fv ρ m).st ρ fun z m0 => match z with
  | .b _ => .no
  | .v d => (fo ρ m0).st ρ fun x m1 => match mobOf ρ m1 x with
    | some (.ins c' fs) => if c' = cn ∧ fs.length < 1000 then match mobPut ρ m1 x (.ins c' (fput f d fs)) with
        | some (ρ', m') => .nx ρ' m'
        | none => .no
      else .no
    | _ => .no
theorem s_fld {cn f : Str} {C : Addr} {v : Expr} {fv : ME} {pos' : Pos} (hC : X.mg cn = some (.ref C)) (c : Cls X.K C) (n : NoAttr X.K C f) (ho : PX X E o fo) (hv : PX X E v fv) (hs : swapsWith v (some (.Attribute o f pos')) pos.line X.env = pure false := by rfl) : PSx X E (.Assign [.Attribute o f pos'] v pos) (mStF cn f fv fo) :=
  PSi (ps_fld ho hv hs) fun D σ H ⟨b, ρ, m, T, S, w⟩ => by
    refine ⟨b, ρ, m, T, S, ?_⟩
    unfold mStF at w
    revert w
    cases fv ρ m with
    | no => exact id
    | ex x m1 => exact fun w => w σ
    | ok z m0 =>
      intro w dv H0 S0 hb0
      rw [Rs.st_ok] at w
      cases z with
      | b j => exact w.elim
      | v d =>
        refine ⟨b, ρ, m0, tv dv d :: T, S0, ?_⟩
        have w : WantS E (b.cf X.K X.mg) T D ((fo ρ m0).st ρ fun x m1 => match mobOf ρ m1 x with
          | some (.ins c' fs) => if c' = cn ∧ fs.length < 1000 then match mobPut ρ m1 x (.ins c' (fput f d fs)) with
              | some (ρ', m') => .nx ρ' m'
              | none => .no
            else .no
          | _ => .no) := w
        revert w
        cases fo ρ m0 with
        | no => exact id
        | ex x m1 => exact fun w => WantX.weak (S := [tv dv d]) (w σ)
        | ok x m1 =>
          intro w ov H1 ⟨G, μ, s⟩ hb1
          rw [Rs.st_ok] at w
          have ro := s.ar (S := tv dv d :: T) hb1
          have s2 := s.pops
          have rd := s2.top
          cases e1 : mobOf ρ m1 x with
          | none => rw [e1] at w; exact w.elim
          | some oo =>
            rw [e1] at w
            obtain ⟨p, rfl, ob, put⟩ := mob_at s2.pop ro e1
            cases oo with
            | lst _ => exact w.elim
            | dct _ => exact w.elim
            | dcT _ => exact w.elim
            | raw _ => exact w.elim
            | ins c' fs =>
              have w : WantS E (b.cf X.K X.mg) T D (if c' = cn ∧ fs.length < 1000 then match mobPut ρ m1 x (.ins c' (fput f d fs)) with
                  | some (ρ', m') => .nx ρ' m'
                  | none => .no
                else .no) := w
              by_cases z : c' = cn ∧ fs.length < 1000
              · rw [if_pos z] at w
                obtain ⟨hc, hl⟩ := z
                obtain ⟨C', dx, ws, hC', hp, rk⟩ := ob
                have hC' : X.mg c' = some (.ref C') := hC'
                rw [hc, hC] at hC'; cases hC'
                cases e3 : mobPut ρ m1 x (.ins c' (fput f d fs)) with
                | none => rw [e3] at w; exact w.elim
                | some rm =>
                  obtain ⟨ρ', m'⟩ := rm
                  rw [e3] at w
                  exact ⟨p, C, dx, ws, rfl, hp, c, n, by rw [← rk.length]; exact hl, w σ _ ⟨G, μ, put _ _ ρ' m' e3 ⟨C, dx, _, by rw [hc]; exact hC, upd_same, repK_fput rd rk⟩⟩⟩
              · rw [if_neg z] at w; exact w.elim
def mAug (i : Nat) (g : Int → Int → Int) (f : ME) : MS := fun ρ m => match ρ[i]? with
  | some (.val (.int a)) => (f ρ m).st ρ fun x m1 => match x with
    | .v (.int b) => .nx (ρ.set i (.val (.int (g a b)))) m1
    | _ => .no
  | _ => .no
abbrev MC := Sl → Mm → Rs (List Cell)
def tcs : List V → List Cell → Tm
  | v :: vs, y :: ys => (some v, y) :: tcs vs ys
  | _, _ => []
def WantC (E : WX) (c : Cf) (ρ : Sl) (σ : L2.St) (T : Tm) (Q : List V → Hp → Prop) : Rs (List Cell) → Prop
  | .ok ys m => ∀ vs H', vs.length = ys.length → S3 c ρ m σ H' (tcs vs ys ++ T) → Q vs H'
  | .ex x m => WantX E c ρ σ T x m
  | .no => False
def tcOf (K : PySem.W.Frag) (mg : Str → Option Value) (E : WX) (f : MC) : TA := fun σ H Q => ∃ (b : Bs) (ρ : Sl) (m : Mm) (T : Tm), S3 (b.cf K mg) ρ m σ H T ∧ WantC E (b.cf K mg) ρ σ T Q (f ρ m)
abbrev PCs (X : Cx) (E : WX) (es : List Expr) (f : MC) : Prop := PA X es (tcOf X.K X.mg E f)
def mCNil : MC := fun _ m => .ok [] m
def mCV (f : ME) (g : MC) : MC := fun ρ m => (f ρ m).bind fun x m1 => match x with
  | .v d => (g ρ m1).bind fun ys m2 => .ok (.val d :: ys) m2
  | .b _ => .no
def mCO (f : MN) (g : MC) : MC := fun ρ m => (f ρ m).bind fun o m1 => (g ρ m1).bind fun ys m2 => .ok (.own o :: ys) m2
theorem cs_nil : PCs X E [] mCNil := PAi pa_nil fun σ H Q ⟨b, ρ, m, T, S, w⟩ => w [] H rfl S
theorem cs_v {f : ME} {g : MC} (ha : PX X E e f) (hr : PCs X E es g) (hs : starEach (e :: es) X.env = (false, eval e X.env) :: starEach es X.env := by rfl) : PCs X E (e :: es) (mCV f g) :=
  PAi (pa_cons ha hr hs) fun σ H Q ⟨b, ρ, m, T, S, w⟩ => by
    refine ⟨b, ρ, m, T, S, ?_⟩
    unfold mCV at w
    revert w
    cases f ρ m with
    | no => exact fun h => h
    | ex x m1 => exact fun h => h
    | ok x m1 =>
      intro w v H1 S1 hb
      cases x with
      | b i => exact w.elim
      | v d =>
        have w : WantC E (b.cf X.K X.mg) ρ σ T Q ((g ρ m1).bind fun ds m2 => .ok (.val d :: ds) m2) := w
        refine ⟨b, ρ, m1, tv v d :: T, S1, ?_⟩
        revert w
        cases g ρ m1 with
        | no => exact fun h => h
        | ex x m2 => exact fun w => WantX.weak (S := [tv v d]) w
        | ok ds m2 =>
          intro w vs H2 hl S2
          exact w (v :: vs) H2 (by simp [hl]) (S2.perm (List.perm_middle.symm))
theorem S3.setC {c : Cf} {ρ : Sl} {m : Mm} {σ : L2.St} {H : Hp} {T : Tm} {i : Nat} {v : V} {y : Cell} (h : S3 c ρ m σ H ((some v, y) :: T)) (hy : y ≠ .un) : S3 c (ρ.set i y) m (σ.set i (some v)) H T := by
  cases y with
  | un => exact (hy rfl).elim
  | val d => exact S3.setV h
  | own o =>
    obtain ⟨G, μ, s⟩ := h
    obtain ⟨a, ea, _⟩ := s.cells (some v, .own o) (by simp)
    have ea : some v = some (.ref a) := ea
    cases ea
    exact ⟨G, μ, s.setO⟩
def isUn : Cell → Bool
  | .un => true
  | _ => false
def mPar (i j : Nat) (f : MC) : MS := fun ρ m => (f ρ m).st ρ fun ys m1 => match ys with
  | [x, y] => if isUn x = false ∧ isUn y = false then .nx ((ρ.set i x).set j y) m1 else .no
  | _ => .no
theorem s_par {i j : Nat} {x y : Str} {a b : Expr} {f : MC} {px py pt : Pos} {kt k2 pt2} (hc : X.calm = true) (hN : X.N.Nodup) (hi : X.N[i]? = some x) (hj : X.N[j]? = some y) (hij : i ≠ j)
    (hx : X.env.scope.names.lookup x = some .local) (hy : X.env.scope.names.lookup y = some .local) (ha : PCs X E [a, b] f)
    (hw : swappedStores [.Tuple [.Name x px, .Name y py] kt pt] (.Tuple [a, b] k2 pt2) X.env = pure (some [x, y]) := by rfl)
    (hs : swapsWithSole [.Tuple [.Name x px, .Name y py] kt pt] (.Tuple [a, b] k2 pt2) pos.line X.env = pure false := by rfl) :
    PSx X E (.Assign [.Tuple [.Name x px, .Name y py] kt pt] (.Tuple [a, b] k2 pt2) pos) (mPar i j f) :=
  PSi (ps_par hc hN hi hj hij hx hy ha hw hs) fun D σ H ⟨b, ρ, m, T, S, w⟩ => by
    refine ⟨b, ρ, m, T, S, ?_⟩
    unfold mPar at w
    revert w
    cases f ρ m with
    | no => exact fun h => h
    | ex x m1 => exact fun w => w σ
    | ok ys m1 =>
      intro w vs H1 hl S1
      rw [Rs.st_ok] at w
      split at w
      · rename_i x y
        split at w
        · rename_i z
          match vs, hl, S1 with
          | [u, v], _, S1 =>
            have S1 : S3 (b.cf X.K X.mg) ρ m1 σ H1 ((some u, x) :: (some v, y) :: T) := S1
            refine ⟨u, v, rfl, w _ _ ?_⟩
            have := S1.setC (i := i) (fun e => by subst e; simp [isUn] at z)
            exact this.setC (i := j) (fun e => by subst e; simp [isUn] at z)
        · exact w.elim
      · exact w.elim
end
end M3
set_option Elab.async false
set_option linter.all false
set_option autoImplicit false
set_option maxRecDepth 100000
set_option maxHeartbeats 2000000
namespace M3
open PySem L2 PySem.Spec PyProof.Rows
abbrev MF := List Dv → Mm → Rs Dv
def sp3 (n : Nat) (K : PySem.W.Frag) (mg : Str → Option Value) (F : MF) : Sp := fun vs H Q E => ∃ (G : Hp) (μ : List Addr) (m : Mm) (ds : List Dv), ds.length = n ∧ MemOk K mg G μ H m ∧ RepL K mg μ G ds vs ∧
  match F ds m with
  | .ok d m' => ∀ v H' G' μ', MemOk K mg G' μ' H' m' → Le G μ H G' μ' H' → Rep K mg μ' G' d v → Q v H'
  | .ex x m' => ∀ cls dd H' G' μ', MemOk K mg G' μ' H' m' → Le G μ H G' μ' H' → RepX K mg μ' G' x cls dd → E cls dd H'
  | .no => False
def Def3 (P : Program) (w : World) (K : PySem.W.Frag) (mg : Str → Option Value) (base : Heap) (k : Nat) (f : Addr) (F : MF) : Prop :=
  ∃ (fd : FuncData) (ps : List Str), FnOk P w K mg base (L2.CX P w) k f fd ps (sp3 ps.length K mg F) ∧ PySem.W.keepIn K (.ref f) = true ∧ Binds K fd ps []
theorem Def3.mono {P : Program} {w : World} {K : PySem.W.Frag} {mg : Str → Option Value} {base : Heap} {k k' : Nat} {f : Addr} {F : MF} (h : Def3 P w K mg base k f F) (hk : k ≤ k') : Def3 P w K mg base k' f F := let ⟨fd, ps, a, b, c⟩ := h; ⟨fd, ps, a.mono hk, b, c⟩
def RS.fin : RS → Rs Dv
  | .nx _ m => .ok .non m
  | .rt d m => .ok d m
  | .ex x _ m => .ex x m
  | _ => .no
def mDef (n : Nat) (body : MS) : MF := fun ds m => (body (ds.map .val ++ List.replicate (n - ds.length) .un) m).fin
section
variable {P : Program} {w : World} {K : PySem.W.Frag} {mg : Str → Option Value} {base : Heap}
abbrev WF (E : XK) : WX := fun cls d _ H => E cls d H
theorem own_vals {σ : L2.St} : ∀ {ρ : Sl}, (∀ y ∈ ρ, ∀ o, y ≠ .own o) → (σ.zip ρ).filterMap ownA = [] := by
  induction σ with
  | nil => intro ρ h; rfl
  | cons x σ ih =>
    intro ρ h
    cases ρ with
    | nil => rfl
    | cons y ρ =>
      rw [List.zip_cons_cons, fm_cons, ih fun z hz => h z (List.mem_cons_of_mem _ hz)]
      have : ownA (x, y) = none := by
        cases y with
        | un => exact ownA_un
        | val d => exact ownA_val
        | own o => exact (h _ List.mem_cons_self o rfl).elim
      rw [this]; rfl
theorem start_cells {G : Hp} {μ : List Addr} {H : Hp} {c : Cf} {n : Nat} : ∀ {ds : List Dv} {vs : List V}, RepL c.K c.mg μ G ds vs → ∀ p ∈ (vs.map some ++ List.replicate n none).zip (ds.map Cell.val ++ List.replicate n Cell.un), CellOk c μ G H p.1 p.2
  | _, _, .nil, p, hp => by
    rw [List.map_nil, List.map_nil, List.nil_append, List.nil_append] at hp
    have : p.2 = .un := List.eq_of_mem_replicate (List.of_mem_zip hp).2
    rw [this]; trivial
  | _, _, .cons a b, p, hp => by
    rw [List.map_cons, List.map_cons, List.cons_append, List.cons_append, List.zip_cons_cons] at hp
    rcases List.mem_cons.mp hp with h | h
    · subst h; exact ⟨_, rfl, a⟩
    · exact start_cells b p h
end
section
variable {X : Cx} {E : WX} {o e : Expr} {es : List Expr} {fo : ME} {fa : MA} {pos apos p : Pos} {x : Str} {k : Nat} {f C : Addr} {F : MF} {cn mn : Str}
def WantD (E : WX) (c : Cf) (ρ : Sl) (σ : L2.St) (T : Tm) (Q : VK) : Rs Dv → Prop
  | .ok d m' => ∀ v H', S3 c ρ m' σ H' (tv v d :: T) → Q v H'
  | .ex x m' => WantX E c ρ σ T x m'
  | .no => False
theorem sp3_of {K : PySem.W.Frag} {mg : Str → Option Value} {b : Bs} {ρ : Sl} {m : Mm} {σ : L2.St} {H : Hp} {T : Tm} {G : Hp} {μ : List Addr} {n : Nat} {vs : List V} {ds : List Dv} {Q : VK} (s : St3 (b.cf K mg) ρ m σ H T G μ) (r : RepL K mg μ G ds vs) (hl : ds.length = n)
    (w : WantD E (b.cf K mg) ρ σ T Q (F ds m)) : sp3 n K mg F vs H Q (WE E σ) := by
  refine ⟨G, μ, m, ds, hl, s.mem, r, ?_⟩
  revert w
  cases F ds m with
  | no => exact id
  | ok d m' => exact fun w v H' G' μ' mem le rp => w v H' ⟨G', μ', (s.next mem le).push rp⟩
  | ex x m' => exact fun w cls dd H' G' μ' mem le rx => w cls dd H' G' μ' (s.next mem le) rx
def rsA : Rs Dv → Rs Ar
  | .ok d m => .ok (.v d) m
  | .ex x m => .ex x m
  | .no => .no
def mCall (n : Nat) (F : MF) (fa : MA) : ME := fun ρ m => (fa ρ m).bind fun ds m1 => if ds.length = n then rsA (F ds m1) else .no
theorem want_rsA {c : Cf} {ρ : Sl} {σ : L2.St} {T : Tm} {Q : VK} {r : Rs Dv} (w : Want E c ρ σ T Q (rsA r)) : WantD E c ρ σ T Q r := by
  cases r with
  | ok d m => exact fun v H' s => Want.v w s
  | ex x m => exact w
  | no => exact w
def Def3n (P : Program) (w : World) (K : PySem.W.Frag) (mg : Str → Option Value) (base : Heap) (k : Nat) (f : Addr) (n : Nat) (F : MF) : Prop :=
  ∃ (fd : FuncData) (ps : List Str), ps.length = n ∧ FnOk P w K mg base (L2.CX P w) k f fd ps (sp3 ps.length K mg F) ∧ PySem.W.keepIn K (.ref f) = true ∧ Binds K fd ps []
def mMeth (cn mn : Str) (n : Nat) (F : MF) (fo : ME) (fa : MA) : ME := fun ρ m => (fo ρ m).bind fun x m1 => match x with
  | .v d => match insOf ρ m1 (.v d) with
    | some (c', fs) => if c' = cn ∧ fs.lookup mn = none then (fa ρ m1).bind fun ds m2 => if ds.length + 1 = n then rsA (F (d :: ds) m2) else .no
      else .no
    | none => .no
  | .b _ => .no
theorem meth_want {K : PySem.W.Frag} {mg : Str → Option Value} {n : Nat} (hC : mg cn = some (.ref C)) {ta' : TA} (hta : ∀ σ H Q, taOf K mg E fa σ H Q → ta' σ H Q) {σ : L2.St} {H : Hp} {Q : VK} (h : tOf K mg E (mMeth cn mn n F fo fa) σ H Q) :
    tOf K mg E fo σ H fun x H1 => ∃ a dx fs, x = .ref a ∧ H1 a = some (.ins C dx fs) ∧ fs.lookup mn = none ∧ ta' σ H1 fun vs H2 => sp3 n K mg F (x :: vs) H2 Q (WE E σ) := by
  obtain ⟨b, ρ, m, T, S, w⟩ := h
  refine ⟨b, ρ, m, T, S, ?_⟩
  unfold mMeth at w
  revert w
  cases fo ρ m with
  | no => exact id
  | ex x m1 => exact id
  | ok x m1 =>
    intro w v H1 ⟨G, μ, s⟩ hb
    rw [Rs.bind_ok] at w
    cases x with
    | b i => exact w.elim
    | v d =>
      have r := s.ar (S := T) hb
      cases e : insOf ρ m1 (.v d) with
      | none => simp only [e] at w; exact w.elim
      | some q =>
        obtain ⟨c', fs⟩ := q
        simp only [e] at w
        obtain ⟨a, C', dx, ws, rfl, hC', hp, rk⟩ := ins_at s.pops r e
        by_cases z : c' = cn ∧ fs.lookup mn = none
        · rw [if_pos z] at w
          have hC' : mg c' = some (.ref C') := hC'
          rw [z.1, hC] at hC'; cases hC'
          refine ⟨a, dx, ws, rfl, hp, (repK_look mn rk).2 z.2, hta _ _ _ ⟨b, ρ, m1, tv (.ref a) d :: T, ⟨G, μ, s⟩, ?_⟩⟩
          revert w
          cases fa ρ m1 with
          | no => exact id
          | ex x m2 => exact fun w => WantX.weak (S := [tv (.ref a) d]) w
          | ok ds m2 =>
            intro w vs H2 hl ⟨G2, μ2, s2⟩
            rw [Rs.bind_ok] at w
            by_cases zl : ds.length + 1 = n
            · rw [if_pos zl] at w
              exact sp3_of s2.pops.pop (.cons s2.pops.top (tvs_rep hl s2)) (by simpa using zl) (want_rsA w)
            · rw [if_neg zl] at w; exact w.elim
        · rw [if_neg z] at w; exact w.elim
def mProp (cn : Str) (F : MF) (fo : ME) : ME := fun ρ m => (fo ρ m).bind fun x m1 => match x with
  | .v d => match insOf ρ m1 (.v d) with
    | some (c', fs) => if c' = cn then match F [d] m1 with
        | .ok r m2 => .ok (.v r) m2
        | _ => .no
      else .no
    | none => .no
  | .b _ => .no
theorem x_prop {pf : Str} {pr g : Addr} (hC : X.mg cn = some (.ref C)) (c : Cls X.K C) (hp : PropOf X.K C pf pr g) (D : Def3n X.prog X.w X.K X.mg X.base k g 1 F) (hr : Room (k + 1) X.A) (ho : PX X E o fo)
    (hab : attributeBase o pf X.env (eval o X.env) = eval o X.env := by rfl) : PX X E (.Attribute o pf pos) (mProp cn F fo) := by
  obtain ⟨fd, ps, hn, ok, hk, hb⟩ := D
  refine PEi (pe_prop (dvs := []) ho c hp ok hr hb .nil (passL (X := X.nox)) hab) fun σ H Q ⟨b, ρ, m, T, S, w⟩ => ?_
  refine ⟨b, ρ, m, T, S, ?_⟩
  unfold mProp at w
  revert w
  cases fo ρ m with
  | no => exact id
  | ex x m1 => exact id
  | ok x m1 =>
    intro w v H1 ⟨G, μ, s⟩ hb
    rw [Rs.bind_ok] at w
    cases x with
    | b i => exact w.elim
    | v d =>
      have r := s.ar (S := T) hb
      cases e : insOf ρ m1 (.v d) with
      | none => simp only [e] at w; exact w.elim
      | some q =>
        obtain ⟨c', fs⟩ := q
        simp only [e] at w
        obtain ⟨a, C', dx, ws, rfl, hC', hpp, rk⟩ := ins_at s.pops r e
        by_cases z : c' = cn
        · rw [if_pos z] at w
          have hC' : X.mg c' = some (.ref C') := hC'
          rw [z, hC] at hC'; cases hC'
          refine ⟨a, dx, ws, rfl, hpp, G, μ, m1, [d], by rw [hn]; rfl, s.mem, .cons r .nil, ?_⟩
          revert w
          cases F [d] m1 with
          | no => exact id
          | ex x m2 => exact fun w => w.elim
          | ok r m2 => exact fun w v H' G' μ' mem le rp => Want.v w ⟨G', μ', (s.pops.next mem le).push rp⟩
        · rw [if_neg z] at w; exact w.elim
end
end M3
set_option Elab.async false
set_option linter.all false
set_option autoImplicit false
set_option maxRecDepth 100000
set_option maxHeartbeats 2000000
namespace M3
open PySem L2 PySem.Spec PyProof.Rows
theorem CallR.or {X : Cx} {f : Value} {r r' : List V → Hp → VK → Prop} (h : CallR X f r) (h' : CallR X f r') : CallR X f (fun xs H Q => r xs H Q ∨ r' xs H Q) := by
  intro pins s σ H xs us Q I rv q
  rcases q with q | q
  · exact h pins s σ H xs us Q I rv q
  · exact h' pins s σ H xs us Q I rv q
section
variable {X : Cx} {E : WX} {e : Expr} {fa : ME} {pos p : Pos} {x : Str} {r : List V → Hp → VK → Prop}
def UnN (K : PySem.W.Frag) (mg : Str → Option Value) (E : WX) (r : V → Hp → VK → Prop) (g : Sl → Mm → Ar → Rs Ob) : Prop :=
  ∀ (b : Bs) (ρ : Sl) (m : Mm) (σ : L2.St) (H : Hp) (T : Tm) (G : Hp) (μ : List Addr) (v : V) (x : Ar) (Q : VK), St3 (b.cf K mg) ρ m σ H T G μ → ArAt K mg μ G σ v x → WantN E (b.cf K mg) ρ σ T Q (g ρ m x) → r v H Q
def mUnN (g : Sl → Mm → Ar → Rs Ob) (fa : ME) : MN := fun ρ m => (fa ρ m).bind fun x m1 => g ρ m1 x
theorem unN_want {K : PySem.W.Frag} {mg : Str → Option Value} {r : V → Hp → VK → Prop} {g : Sl → Mm → Ar → Rs Ob} (hs : UnN K mg E r g) {σ : L2.St} {H : Hp} {Q : VK} (h : tnOf K mg E (mUnN g fa) σ H Q) : tUn r (tOf K mg E fa) σ H Q := by
  obtain ⟨b, ρ, m, T, S, w⟩ := h
  refine ⟨b, ρ, m, T, S, ?_⟩
  unfold mUnN at w
  revert w
  cases fa ρ m with
  | no => exact id
  | ex x m1 => exact id
  | ok x m1 =>
    intro w v H1 ⟨G, μ, s⟩ hb
    exact hs b ρ m1 σ H1 T G μ v x Q s.pops (s.ar (S := T) hb) w
theorem x_B1 {bid : String} {g : Sl → Mm → Ar → Rs Ar} (hc : CallR X (.builtin bid) r) (hs : UnS X.K X.mg E (fun v => r [v]) g) (hg : Gl X x) (hm : X.mg x = none) (hv : bootBuiltins x = some (.builtin bid)) (ha : PX X E e fa) (hn : x ≠ "__name__" := by decide) (hdb : (x == ("__debug__" : Str)) = false := by decide)
    (he : starEach [e] X.env = (false, eval e X.env) :: starEach [] X.env := by rfl) (hpl : (backTo pos (starEach [] X.env)).any (·.1) = false := by rfl) : PX X E (.Call (.Name x p) [e] [] pos) (mUn g fa) :=
  PEi (pe_callB hc hg hm hv (pa_cons ha pa_nil he) hn hdb he hpl) fun _ _ _ h => un_want hs h
theorem x_T1 {bid : String} {g : Sl → Mm → Ar → Rs Ar} (hc : CallR X (.type bid) r) (hs : UnS X.K X.mg E (fun v => r [v]) g) (hg : Gl X x) (hm : X.mg x = none) (hv : bootBuiltins x = some (.type bid)) (ha : PX X E e fa) (hn : x ≠ "__name__" := by decide) (hdb : (x == ("__debug__" : Str)) = false := by decide)
    (he : starEach [e] X.env = (false, eval e X.env) :: starEach [] X.env := by rfl) (hpl : (backTo pos (starEach [] X.env)).any (·.1) = false := by rfl) : PX X E (.Call (.Name x p) [e] [] pos) (mUn g fa) :=
  PEi (pe_callTy hc hg hm hv (pa_cons ha pa_nil he) hn hdb he hpl) fun _ _ _ h => un_want hs h
theorem n_T1 {bid : String} {g : Sl → Mm → Ar → Rs Ob} (hc : CallR X (.type bid) r) (hs : UnN X.K X.mg E (fun v => r [v]) g) (hg : Gl X x) (hm : X.mg x = none) (hv : bootBuiltins x = some (.type bid)) (ha : PX X E e fa) (hn : x ≠ "__name__" := by decide) (hdb : (x == ("__debug__" : Str)) = false := by decide)
    (he : starEach [e] X.env = (false, eval e X.env) :: starEach [] X.env := by rfl) (hpl : (backTo pos (starEach [] X.env)).any (·.1) = false := by rfl) : PN X E (.Call (.Name x p) [e] [] pos) (mUnN g fa) :=
  PEi (pe_callTy hc hg hm hv (pa_cons ha pa_nil he) hn hdb he hpl) fun _ _ _ h => unN_want hs h
end
section
variable {K : PySem.W.Frag} {mg : Str → Option Value} {E : WX}
def lenOf (ρ : Sl) (m : Mm) (x : Ar) : Option Nat := match x with
  | .v (.str s) => if s.length ≤ sizeLine then some s.length else none
  | .v (.scr ns) => some ns.length
  | x => match seqOf ρ m x with
    | some ds => some ds.length
    | none => none
def gLen : Sl → Mm → Ar → Rs Ar := fun ρ m x => match lenOf ρ m x with
  | some n => .ok (.v (.int (n : Nat))) m
  | none => .no
theorem unS_len : UnS K mg E (fun v => (fun xs H Q => ∃ x n, xs = [x] ∧ LenV K x H n ∧ Q (.int n) H) [v]) gLen := fun b ρ m σ H T G μ v x Q s r w => by
  unfold gLen at w
  split at w
  · rename_i n e
    refine ⟨v, n, rfl, ?_, Want.s w s rfl⟩
    unfold lenOf at e
    split at e
    · split at e
      · rename_i z
        cases e
        cases r
        exact ⟨z, rfl⟩
      · cases e
    · cases e
      cases r with
      | scr h => exact .inl ⟨_, s.mem.st.lst h, by simp⟩
    · split at e
      · rename_i h
        cases e
        obtain ⟨a, vs, rfl, ha, ra⟩ := seq_at s r h
        rcases ha with ha | ha
        · exact .inl ⟨vs, ha, ra.length⟩
        · exact .inr ⟨vs, ha, ra.length⟩
      · cases e
  · exact w.elim
def allOf (ρ : Sl) (m : Mm) (x : Ar) : Option (List Dv) := match x with
  | .v (.scr ns) => some (ns.map .int)
  | x => seqOf ρ m x
theorem ints_rep {μ : List Addr} {G : Hp} : ∀ ns : List Int, RepL K mg μ G (ns.map .int) (ns.map V.int)
  | [] => .nil
  | n :: ns => .cons (.int n) (ints_rep ns)
theorem all_at {c : Cf} {ρ : Sl} {m : Mm} {σ : L2.St} {H : Hp} {T : Tm} {G : Hp} {μ : List Addr} (s : St3 c ρ m σ H T G μ) {x : Ar} {v : V} {ds : List Dv} (r : ArAt c.K c.mg μ G σ v x) (e : allOf ρ m x = some ds) : ∃ a vs, v = .ref a ∧ (SqL c.K H a vs ∨ SqT c.K H a vs) ∧ RepL c.K c.mg μ G ds vs := by
  unfold allOf at e
  split at e
  · cases e
    cases r with
    | scr h => exact ⟨_, _, rfl, .inl (s.mem.st.lst h), ints_rep _⟩
  · exact seq_at s r e
def gList : Sl → Mm → Ar → Rs Ob := fun ρ m x => match allOf ρ m x with
  | some ds => .ok (.lst ds) m
  | none => .no
theorem unN_list : UnN K mg E (fun v => (fun xs H Q => ∃ p ys, xs = [.ref p] ∧ (SqL K H p ys ∨ SqT K H p ys) ∧ ∀ l, H l = none → Q (.ref l) (upd H l (.lst ys))) [v]) gList := fun b ρ m σ H T G μ v x Q s r w => by
  unfold gList at w
  split at w
  · rename_i ds e
    obtain ⟨a, vs, rfl, ha, ra⟩ := all_at s r e
    exact ⟨a, vs, rfl, ha, fun l hl => w l _ (s.newOL ra hl)⟩
  · exact w.elim
def gTuple : Sl → Mm → Ar → Rs Ar := fun ρ m x => match lstOf ρ m x with
  | some ds => if ds.length ≤ sizeLine then .ok (.v (.tup ds)) m else .no
  | none => match x with
    | .v (.tup ds) => .ok (.v (.tup ds)) m
    | .v (.ktp ds) => .ok (.v (.ktp ds)) m
    | _ => .no
theorem unS_tuple : UnS K mg E (fun v => (fun xs H Q => ∃ p ys, xs = [.ref p] ∧ ((SqL K H p ys ∧ ∀ l, H l = none → Q (.ref l) (upd H l (.tup ys))) ∨ (SqT K H p ys ∧ Q (.ref p) H))) [v]) gTuple := fun b ρ m σ H T G μ v x Q s r w => by
  unfold gTuple at w
  split at w
  · rename_i ds e
    split at w
    · rename_i z
      obtain ⟨a, vs, rfl, ha, ra⟩ := lst_at s r e
      exact ⟨a, vs, rfl, .inl ⟨SqL.of ha, fun l hl => w.v (s.newT ra z hl)⟩⟩
    · exact w.elim
  · split at w
    · cases r with
      | tup h z r => exact ⟨_, _, rfl, .inr ⟨SqT.of (s.mem.st.t h), w.v ⟨G, μ, s.push (.tup h z r)⟩⟩⟩
    · cases r with
      | ktp h r => exact ⟨_, _, rfl, .inr ⟨s.mem.st.tup h, w.v ⟨G, μ, s.push (.ktp h r)⟩⟩⟩
    · exact w.elim
def gInt1 : Sl → Mm → Ar → Rs Ar := fun _ m x => match x with
  | .v (.int i) => .ok (.v (.int i)) m
  | .v (.bl k) => .ok (.v (.int (if k then 1 else 0))) m
  | .v (.str a) => match PySem.intText? a with
    | some n => if a.length ≤ 640 then .ok (.v (.int n)) m else .no
    | none => .no
  | _ => .no
def rInt1 : List V → Hp → VK → Prop := fun xs H Q => ((∃ i, xs = [.int i] ∧ Q (.int i) H) ∨ ∃ k, xs = [.bl k] ∧ Q (.int (if k then 1 else 0)) H) ∨ ∃ a n, xs = [.str a] ∧ PySem.intText? a = some n ∧ a.length ≤ 640 ∧ Q (.int n) H
theorem call_int1U {X : Cx} : CallR X (.type "int") rInt1 := CallR.or call_int1 call_int_str
theorem unS_int1 : UnS K mg E (fun v => rInt1 [v]) gInt1 := fun b ρ m σ H T G μ v x Q s r w => by
  unfold gInt1 at w
  split at w
  · cases r; exact .inl (.inl ⟨_, rfl, Want.s w s rfl⟩)
  · cases r; exact .inl (.inr ⟨_, rfl, Want.s w s rfl⟩)
  · split at w
    · rename_i n e
      split at w
      · rename_i z
        cases r; exact .inr ⟨_, n, rfl, e, z, Want.s w s rfl⟩
      · exact w.elim
    · exact w.elim
  · exact w.elim
def gStr1 : Sl → Mm → Ar → Rs Ar := fun _ m x => match x with
  | .v (.int i) => if i.natAbs.log2 < 1920 then .ok (.v (.str (toString i))) m else .no
  | _ => .no
def intsD : List Dv → Option (List Int)
  | [] => some []
  | .int i :: r => (intsD r).map (i :: ·)
  | _ :: _ => none
def blsD : List Dv → Option (List Bool)
  | [] => some []
  | .bl i :: r => (blsD r).map (i :: ·)
  | _ :: _ => none
def strsD : List Dv → Option (List Str)
  | [] => some []
  | .str i :: r => (strsD r).map (i :: ·)
  | _ :: _ => none
theorem intsD_rep {μ : List Addr} {G : Hp} {ds : List Dv} : ∀ {vs : List V} {ns : List Int}, RepL K mg μ G ds vs → intsD ds = some ns → vs = ns.map V.int := by
  induction ds with
  | nil => intro vs ns r e; cases r; simp [intsD] at e; subst e; rfl
  | cons d ds ih =>
    intro vs ns r e
    cases r with
    | cons a b =>
      cases d <;> simp only [intsD, reduceCtorEq] at e
      simp only [Option.map_eq_some_iff] at e
      obtain ⟨ms, e1, rfl⟩ := e
      cases a
      rw [ih b e1]; rfl
theorem blsD_rep {μ : List Addr} {G : Hp} {ds : List Dv} : ∀ {vs : List V} {ns : List Bool}, RepL K mg μ G ds vs → blsD ds = some ns → vs = ns.map V.bl := by
  induction ds with
  | nil => intro vs ns r e; cases r; simp [blsD] at e; subst e; rfl
  | cons d ds ih =>
    intro vs ns r e
    cases r with
    | cons a b =>
      cases d <;> simp only [blsD, reduceCtorEq] at e
      simp only [Option.map_eq_some_iff] at e
      obtain ⟨ms, e1, rfl⟩ := e
      cases a
      rw [ih b e1]; rfl
theorem strsD_rep {μ : List Addr} {G : Hp} {ds : List Dv} : ∀ {vs : List V} {ns : List Str}, RepL K mg μ G ds vs → strsD ds = some ns → vs = ns.map V.str := by
  induction ds with
  | nil => intro vs ns r e; cases r; simp [strsD] at e; subst e; rfl
  | cons d ds ih =>
    intro vs ns r e
    cases r with
    | cons a b =>
      cases d <;> simp only [strsD, reduceCtorEq] at e
      simp only [Option.map_eq_some_iff] at e
      obtain ⟨ms, e1, rfl⟩ := e
      cases a
      rw [ih b e1]; rfl
def gOnL {α : Type} (q : List Dv → Option α) (f : α → Option Dv) : Sl → Mm → Ar → Rs Ar := fun ρ m x => match (lstOf ρ m x).bind q with
  | some a => match f a with
    | some d => .ok (.v d) m
    | none => .no
  | none => .no
abbrev gSum := gOnL intsD fun ns => some (.int ns.sum)
abbrev gAll := gOnL blsD fun bs => some (.bl (bs.all id))
abbrev gAny := gOnL blsD fun bs => some (.bl (bs.any id))
def maxI : List Int → Option Int
  | [] => none
  | i :: r => some (r.foldl (fun a b => if b > a then b else a) i)
abbrev gMax := gOnL intsD fun ns => (maxI ns).map .int
theorem unS_all : UnS K mg E (fun v => rAll K [v]) gAll := fun b ρ m σ H T G μ v x Q s r w => by
  unfold gAll gOnL at w
  split at w
  · rename_i ns e
    obtain ⟨ds, h1, h2⟩ := Option.bind_eq_some_iff.mp e
    obtain ⟨a, vs, rfl, ha, ra⟩ := lst_at s r h1
    rw [blsD_rep ra h2] at ha
    exact ⟨a, ns, rfl, SqL.of ha, Want.s w s rfl⟩
  · exact w.elim
theorem foldMax : ∀ (r : List Int) (i : Int), (r.foldl (fun a b => if b > a then b else a) i ∈ i :: r) ∧ ∀ y ∈ i :: r, y ≤ r.foldl (fun a b => if b > a then b else a) i
  | [], i => by simp
  | j :: r, i => by
    rw [List.foldl_cons]
    obtain ⟨h1, h2⟩ := foldMax r (if j > i then j else i)
    refine ⟨?_, fun y hy => ?_⟩
    · rcases List.mem_cons.mp h1 with h | h
      · rw [h]; split <;> simp
      · exact List.mem_cons_of_mem _ (List.mem_cons_of_mem _ h)
    · have h3 := h2 _ List.mem_cons_self
      have hi : i ≤ (if j > i then j else i) := by split <;> omega
      have hj : j ≤ (if j > i then j else i) := by split <;> omega
      rcases List.mem_cons.mp hy with h | h
      · rw [h]; exact Int.le_trans hi h3
      · rcases List.mem_cons.mp h with h | h
        · rw [h]; exact Int.le_trans hj h3
        · exact h2 y (List.mem_cons_of_mem _ h)
theorem unS_max : UnS K mg E (fun v => rMax K [v]) gMax := fun b ρ m σ H T G μ v x Q s r w => by
  unfold gMax gOnL at w
  split at w
  · rename_i ns e
    obtain ⟨ds, h1, h2⟩ := Option.bind_eq_some_iff.mp e
    obtain ⟨a, vs, rfl, ha, ra⟩ := lst_at s r h1
    rw [intsD_rep ra h2] at ha
    cases ns with
    | nil => exact w.elim
    | cons i ns =>
      refine ⟨a, _, rfl, SqL.of ha, by simp, fun k hk hle => ?_⟩
      obtain ⟨f1, f2⟩ := foldMax ns i
      have : k = ns.foldl (fun a b => if b > a then b else a) i := Int.le_antisymm (f2 k hk) (hle _ f1)
      subst this
      exact Want.s w s rfl
  · exact w.elim
end
end M3
set_option Elab.async false
set_option linter.all false
set_option autoImplicit false
set_option maxRecDepth 100000
set_option maxHeartbeats 2000000
namespace M3
open PySem L2 PySem.Spec PyProof.Rows
mutual
def pureD : Dv → Bool
  | .lst ds => pureL ds
  | .tup ds => pureL ds
  | .ktp ds => pureL ds
  | .dct ds => pureK1 ds
  | .dcT ds => pureK2 ds
  | .ins _ ds => pureK3 ds
  | .loc _ => false
  | .lck _ _ _ => false
  | .lckT _ _ _ => false
  | .non => true
  | .bl _ => true
  | .int _ => true
  | .str _ => true
  | .ty _ => true
  | .glb _ => true
  | .scr _ => true
  | .ext _ _ => true
def pureL : List Dv → Bool
  | [] => true
  | d :: ds => pureD d && pureL ds
def pureK1 : List (Key × Dv) → Bool
  | [] => true
  | (_, d) :: ds => pureD d && pureK1 ds
def pureK2 : List (List Key × Dv) → Bool
  | [] => true
  | (_, d) :: ds => pureD d && pureK2 ds
def pureK3 : List (Str × Dv) → Bool
  | [] => true
  | (_, d) :: ds => pureD d && pureK3 ds
end
def pureO : Ob → Bool
  | .lst ds => pureL ds
  | .dct kvs => pureK1 kvs
  | .dcT kvs => pureK2 kvs
  | .ins _ fs => pureK3 fs
  | .raw _ => false
section
variable {K : PySem.W.Frag} {mg : Str → Option Value} {μ μ' : List Addr} {G G' : Hp}
mutual
theorem Rep.pure : ∀ {d : Dv} {v : V}, Rep K mg μ G d v → pureD d = true → Rep K mg μ' G d v
  | _, _, .non, _ => .non
  | _, _, .bl b, _ => .bl b
  | _, _, .int b, _ => .int b
  | _, _, .str b, _ => .str b
  | _, _, .ty b, _ => .ty b
  | _, _, .lst s z r, p => .lst s z (RepL.pure r p)
  | _, _, .scr s, _ => .scr s
  | _, _, .tup s z r, p => .tup s z (RepL.pure r p)
  | _, _, .ktp s r, p => .ktp s (RepL.pure r p)
  | _, _, .dct s z r, p => .dct s z (RepK.pure1 r p)
  | _, _, .dcT s z r, p => .dcT s z (RepK.pure2 r p)
  | _, _, .ins c s r, p => .ins c s (RepK.pure3 r p)
  | _, _, .glb h r, _ => .glb h r
  | _, _, .ext h, _ => .ext h
  | _, _, .loc h, p => by simp [pureD] at p
  | _, _, .lck h r, p => by simp [pureD] at p
  | _, _, .lckT h r, p => by simp [pureD] at p
theorem RepL.pure : ∀ {d : List Dv} {v : List V}, RepL K mg μ G d v → pureL d = true → RepL K mg μ' G d v
  | _, _, .nil, _ => .nil
  | _, _, .cons a b, p => .cons (Rep.pure a (Bool.and_eq_true_iff.mp p).1) (RepL.pure b (Bool.and_eq_true_iff.mp p).2)
theorem RepK.pure1 : ∀ {d : List (Key × Dv)} {v : List (Key × V)}, RepK K mg μ G d v → pureK1 d = true → RepK K mg μ' G d v
  | _, _, .nil, _ => .nil
  | _, _, .cons a b, p => .cons (Rep.pure a (Bool.and_eq_true_iff.mp p).1) (RepK.pure1 b (Bool.and_eq_true_iff.mp p).2)
theorem RepK.pure2 : ∀ {d : List (List Key × Dv)} {v : List (List Key × V)}, RepK K mg μ G d v → pureK2 d = true → RepK K mg μ' G d v
  | _, _, .nil, _ => .nil
  | _, _, .cons a b, p => .cons (Rep.pure a (Bool.and_eq_true_iff.mp p).1) (RepK.pure2 b (Bool.and_eq_true_iff.mp p).2)
theorem RepK.pure3 : ∀ {d : List (Str × Dv)} {v : List (Str × V)}, RepK K mg μ G d v → pureK3 d = true → RepK K mg μ' G d v
  | _, _, .nil, _ => .nil
  | _, _, .cons a b, p => .cons (Rep.pure a (Bool.and_eq_true_iff.mp p).1) (RepK.pure3 b (Bool.and_eq_true_iff.mp p).2)
end
theorem obAt_pure {H : Hp} {a : Addr} {o : Ob} (h : ObAt K mg μ G H a o) (p : pureO o = true) : ObAt K mg μ' G H a o := by
  cases o with
  | lst ds => obtain ⟨vs, x, r⟩ := h; exact ⟨vs, x, r.pure p⟩
  | dct ds => obtain ⟨vs, x, r⟩ := h; exact ⟨vs, x, r.pure1 p⟩
  | dcT ds => obtain ⟨vs, x, r⟩ := h; exact ⟨vs, x, r.pure2 p⟩
  | ins c fs => obtain ⟨C, dx, ws, q, x, r⟩ := h; exact ⟨C, dx, ws, q, x, r.pure3 p⟩
  | raw u => cases p
theorem Rep.nil {d : Dv} {v : V} (r : Rep K mg [] G d v) : Rep K mg μ G d v := r.mono (.refl _) fun n a h => by simp at h
end
section
variable {c : Cf} {ρ : Sl} {m : Mm} {σ : L2.St} {H H' : Hp} {T : Tm} {G G' : Hp} {μ μ' : List Addr}
theorem St3.newU {p : Addr} {o : HO} (h : St3 c ρ m σ H T G μ) (hp : H p = none) : St3 c ρ m σ (upd H p o) T G μ := by
  have hg : G p = none := h.mem.st.none hp
  refine h.next ⟨fun a u e => ?_, h.mem.len, h.mem.nd, fun n ob e => ?_, fun a hm => ?_⟩ ⟨.refl _, .refl _, fun a u h1 h2 h3 => ⟨ex_upd_none hp h1, h2, h3⟩, fun a u h1 => ⟨u, ex_upd_none hp h1⟩⟩
  · have ha : a ≠ p := fun z => by subst z; rw [hg] at e; cases e
    rw [upd_ne ha]; exact h.mem.st a u e
  · obtain ⟨a, e1, e2, e3⟩ := h.mem.ob n ob e
    exact ⟨a, e1, e2, e3.mono (.refl _) (.refl _) fun u q => ex_upd_none hp q⟩
  · obtain ⟨u, e⟩ := h.mem.th a hm
    exact ⟨u, ex_upd_none hp e⟩
theorem St3.hid {νs νs' : List Addr} {m1 : Mm} (s : St3 c ρ m σ H T G μ) (mem : MemOk c.K c.mg G' νs' H' m1) (le : Le G νs H G' νs' H') (hd : ∀ a ∈ νs, a ∉ μ ∧ c.H0 a = none ∧ ∀ p ∈ T ++ σ.zip ρ, ownA p ≠ some a) : St3 c ρ m σ H' T G' μ := by
  have kp : ∀ a u, H a = some u → G a = none → a ∉ νs → H' a = some u ∧ G' a = none := fun a u h1 h2 h3 => let ⟨q1, q2, _⟩ := le.prv a u h1 h2 h3; ⟨q1, q2⟩
  refine ⟨s.len, ⟨mem.st, s.mem.len, s.mem.nd, fun n o e => ?_, fun a ha => ?_⟩, ⟨s.le.ex.trans le.ex, s.le.pre, fun a o h1 h2 h3 => ?_, fun a o h => ?_⟩, fun p hp => ?_, s.nd⟩
  · obtain ⟨a, e1, e2, e3⟩ := s.mem.ob n o e
    have hn : a ∉ νs := fun z => (hd a z).1 (List.mem_of_getElem? e1)
    obtain ⟨u, hu⟩ := e3.some
    refine ⟨a, e1, (kp a u hu e2 hn).2, e3.mono le.ex (.refl _) fun u hu => (kp a u hu e2 hn).1⟩
  · obtain ⟨u, e⟩ := s.mem.th a ha
    exact le.th a u e
  · obtain ⟨q1, q2, q3⟩ := s.le.prv a o h1 h2 h3
    have hn : a ∉ νs := fun z => by rw [(hd a z).2.1] at h1; cases h1
    obtain ⟨k1, k2⟩ := kp a o q1 q2 hn
    exact ⟨k1, k2, q3⟩
  · obtain ⟨u, e⟩ := s.le.th a o h
    exact le.th a u e
  · have k := s.cells p hp
    obtain ⟨x, y⟩ := p
    cases y with
    | un => trivial
    | val d => obtain ⟨v, e, r⟩ := k; exact ⟨v, e, r.mono le.ex (.refl _)⟩
    | own o =>
      obtain ⟨a, e, ob, g, n, h0⟩ := k
      have e : x = some (.ref a) := e
      subst e
      have hn : a ∉ νs := fun z => (hd a z).2.2 _ hp rfl
      obtain ⟨u, hu⟩ := ob.some
      exact ⟨a, rfl, ob.mono le.ex (.refl _) fun u hu => (kp a u hu g hn).1, (kp a u hu g hn).2, n, h0⟩
theorem St3.fresh {x : Addr} (s : St3 c ρ m σ H T G μ) (hx : H x = none) : x ∉ μ ∧ c.H0 x = none ∧ ∀ p ∈ T ++ σ.zip ρ, ownA p ≠ some x := by
  refine ⟨s.mem.notIn hx, ?_, fun p hp e => ?_⟩
  · cases e : c.H0 x with
    | none => rfl
    | some u =>
      obtain ⟨w, q⟩ := s.le.th x u e
      rw [hx] at q; cases q
  · obtain ⟨ob', rfl⟩ := ownA_some e
    obtain ⟨a, ea, ra, _⟩ := s.cells _ hp
    cases ea
    obtain ⟨u, eu⟩ := ra.some
    rw [hx] at eu; cases eu
theorem St3.pushO {p : Addr} {o : Ob} (s : St3 c ρ m σ H T G μ) (ob : ObAt c.K c.mg μ G H p o) (g : G p = none) (n : p ∉ μ) (h0 : c.H0 p = none) (hno : ∀ q ∈ T ++ σ.zip ρ, ownA q ≠ some p) : St3 c ρ m σ H ((some (.ref p), .own o) :: T) G μ := by
  refine ⟨s.len, s.mem, s.le, fun q hq => ?_, ?_⟩
  · rcases List.mem_cons.mp hq with rfl | hq
    · exact ⟨p, rfl, ob, g, n, h0⟩
    · exact s.cells q hq
  · rw [List.cons_append, fm_cons]
    refine List.nodup_cons.mpr ⟨fun hm => ?_, s.nd⟩
    obtain ⟨q, hq, e⟩ := List.mem_filterMap.mp hm
    exact hno q hq e
theorem len0 {m' : Mm} {ν : List Addr} (h : ν.length = m'.length) (e : m' = []) : ν = [] := by
  subst e
  exact List.eq_nil_of_length_eq_zero h
theorem RepX.nil {K : PySem.W.Frag} {mg : Str → Option Value} {x : Dv} {cls : Value} {dd : Option Addr} (r : RepX K mg [] G x cls dd) : RepX K mg μ G x cls dd := by
  obtain ⟨cn, fs, C, d, ws, e1, e2, e3, e4, e5, e6⟩ := r
  exact ⟨cn, fs, C, d, ws, e1, e2, e3, e4, e5, e6.mono (.refl _) fun n a h => by simp at h⟩
end
def hidD (m1 : Mm) : Rs Dv → Rs Dv
  | .ok d [] => .ok d m1
  | .ex x [] => .ex x m1
  | _ => .no
def hidF (F : MF) : MF := fun ds m => if pureL ds then hidD m (F ds []) else .no
def mkEnd (m1 : Mm) : Rs Dv → Rs Ob
  | .ok .non [some o] => if pureO o then .ok o m1 else .no
  | .ex x [_] => if pureD x then .ex x m1 else .no
  | _ => .no
def mMake (cn : Str) (n : Nat) (F : MF) (fa : MA) : MN := fun ρ m => (fa ρ m).bind fun ds m1 => if ds.length + 1 = n ∧ pureL ds = true then mkEnd m1 (F (.loc 0 :: ds) [some (.ins cn [])]) else .no
theorem sp3_hid {n : Nat} {K : PySem.W.Frag} {mg : Str → Option Value} {F : MF} {vs : List V} {H : Hp} {Q : VK} {E : XK} (h : sp3 n K mg (hidF F) vs H Q E) : sp3 n K mg F vs H Q E := by
  obtain ⟨G, μ, m, ds, hl, mem, r, w⟩ := h
  unfold hidF at w
  by_cases p : pureL ds = true
  · rw [if_pos p] at w
    refine ⟨G, [], [], ds, hl, ⟨mem.st, rfl, fun i j a e => by simp at e, fun n o e => by simp at e, fun a h => by simp at h⟩, r.pure p, ?_⟩
    have up : ∀ {G' H'}, Le G [] H G' [] H' → MemOk K mg G' [] H' [] → MemOk K mg G' μ H' m ∧ Le G μ H G' μ H' := fun {G' H'} le me => by
      have kp : ∀ a u, H a = some u → G a = none → H' a = some u ∧ G' a = none := fun a u h1 h2 => let ⟨q1, q2, _⟩ := le.prv a u h1 h2 (by simp); ⟨q1, q2⟩
      refine ⟨⟨me.st, mem.len, mem.nd, fun n o e => ?_, fun a ha => ?_⟩, ⟨le.ex, .refl _, fun a o h1 h2 h3 => ⟨(kp a o h1 h2).1, (kp a o h1 h2).2, h3⟩, le.th⟩⟩
      · obtain ⟨a, e1, e2, e3⟩ := mem.ob n o e
        obtain ⟨u, hu⟩ := e3.some
        exact ⟨a, e1, (kp a u hu e2).2, e3.mono le.ex (.refl _) fun u hu => (kp a u hu e2).1⟩
      · obtain ⟨u, e⟩ := mem.th a ha
        exact le.th a u e
    cases e : F ds [] with
    | no => rw [e] at w; exact w.elim
    | ok d m' =>
      rw [e] at w
      cases m' with
      | cons o m' => exact w.elim
      | nil =>
        intro v H' G' μ' me le rd
        have : μ' = [] := len0 me.len rfl
        subst this
        obtain ⟨q1, q2⟩ := up le me
        exact w v H' G' μ q1 q2 rd.nil
    | ex d m' =>
      rw [e] at w
      cases m' with
      | cons o m' => exact w.elim
      | nil =>
        intro cls dd H' G' μ' me le rd
        have : μ' = [] := len0 me.len rfl
        subst this
        obtain ⟨q1, q2⟩ := up le me
        exact w cls dd H' G' μ q1 q2 rd.nil
  · rw [if_neg p] at w; exact w.elim
theorem Def3n.hid {P : Program} {w : World} {K : PySem.W.Frag} {mg : Str → Option Value} {base : Heap} {k n : Nat} {f : Addr} {F : MF} (h : Def3n P w K mg base k f n F) : Def3n P w K mg base k f n (hidF F) := by
  obtain ⟨fd, ps, hn, ok, hk, hb⟩ := h
  exact ⟨fd, ps, hn, ok.imp (fun vs H Q E q => sp3_hid q), hk, hb⟩
section
variable {X : Cx} {E : WX} {e : Expr} {es : List Expr} {fa : MA} {pos p : Pos} {x : Str} {k n : Nat} {f C : Addr} {F : MF} {cn : Str}
theorem make_sp {K : PySem.W.Frag} {mg : Str → Option Value} {b : Bs} {ρ : Sl} {m : Mm} {σ : L2.St} {H : Hp} {T : Tm} {G : Hp} {μ : List Addr} {vs : List V} {ds : List Dv} {Q : VK} (hC : mg cn = some (.ref C)) (s : St3 (b.cf K mg) ρ m σ H T G μ) (r : RepL K mg μ G ds vs) (hl : ds.length + 1 = n) (hp : pureL ds = true)
    (w : WantN E (b.cf K mg) ρ σ T Q (mkEnd m (F (.loc 0 :: ds) [some (.ins cn [])]))) {x dx : Addr} (hx : H x = none) (hd : H dx = none) (hne : dx ≠ x) :
    sp3 n K mg F (.ref x :: vs) (upd (upd H dx (.own x)) x (.ins C dx [])) (fun v H2 => v = .non ∧ Q (.ref x) H2) (WE E σ) := by
  have hx' : (upd H dx (.own x)) x = none := by rw [upd_ne (Ne.symm hne)]; exact hx
  have s1 := s.newU (o := .own x) hd
  obtain ⟨f1, f2, f3⟩ := s1.fresh hx'
  have s2 := s1.newU (o := .ins C dx []) hx'
  have hg : G x = none := s.mem.st.none hx
  have mem0 : MemOk K mg G [x] (upd (upd H dx (.own x)) x (.ins C dx [])) [some (.ins cn [])] := by
    refine ⟨s2.mem.st, rfl, fun i j a e1 e2 => ?_, fun k o e => ?_, fun a ha => ?_⟩
    · cases i with
      | zero => cases j with
        | zero => rfl
        | succ j => simp at e2
      | succ i => simp at e1
    · cases k with
      | zero => simp at e; subst e; exact ⟨x, rfl, hg, C, dx, [], hC, upd_same, .nil⟩
      | succ k => simp at e
    · simp at ha; subst ha; exact ⟨_, upd_same⟩
  refine ⟨G, [x], [some (.ins cn [])], .loc 0 :: ds, by simpa using hl, mem0, .cons (.loc rfl) (r.pure hp), ?_⟩
  have hid : ∀ a ∈ [x], a ∉ μ ∧ (Bs.cf b K mg).H0 a = none ∧ ∀ p ∈ T ++ σ.zip ρ, ownA p ≠ some a := fun a ha => by
    simp at ha; subst ha; exact ⟨f1, f2, f3⟩
  cases e : F (.loc 0 :: ds) [some (.ins cn [])] with
  | no => rw [e] at w; exact w.elim
  | ok d m2 =>
    rw [e] at w
    intro v H' G' μ' mem le rp
    have s3 := s2.hid mem le hid
    unfold mkEnd at w
    split at w
    · rename_i o he
      cases he
      split at w
      · rename_i hp
        cases rp
        obtain ⟨a, e1, e2, e3⟩ := mem.ob 0 o rfl
        have ex : a = x := by
          have := le.pre 0 x rfl
          rw [e1] at this; cases this; rfl
        subst ex
        exact ⟨rfl, w a H' ⟨G', μ, s3.pushO (obAt_pure e3 hp) e2 f1 f2 f3⟩⟩
      · exact w.elim
    · rename_i he; cases he
    · exact w.elim
  | ex xd m2 =>
    rw [e] at w
    intro cls dd H' G' μ' mem le rx
    have s3 := s2.hid mem le hid
    unfold mkEnd at w
    split at w
    · rename_i he; cases he
    · rename_i he
      cases he
      split at w
      · rename_i hp
        obtain ⟨cn', fs, C', dd', ws, e1, e2, e3, e4, e5, e6⟩ := rx
        subst e1
        exact w cls dd H' G' μ s3 ⟨cn', fs, C', dd', ws, rfl, e2, e3, e4, e5, e6.pure3 hp⟩
      · exact w.elim
    · exact w.elim
end
def relS (scope sc : Scope) : Scope := { scope with names := scope.names.map fun (n, k) => if (k == .free && sc.kind == .function && sc.names.lookup n == some .cell) then (n, .cell) else (n, k) }
structure Nm (X : Cx) (N : List Str) (sc fsc : Scope) : Prop where
  hN : X.N = N
  nd : N.Nodup
  hsc : X.env.scope = sc
  calm : X.calm = true
  fn : ∀ x, fsc.names.lookup x = some .cell → X.fn x = true
section
variable {X : Cx} {N : List Str} {sc fsc : Scope} (h : Nm X N sc fsc) {x : Str}
include h
theorem Nm.loc (e : sc.names.lookup x = some .local) : Vis X.env.scope x := by rw [h.hsc]; exact .inl e
theorem Nm.cell (e : sc.names.lookup x = some .cell) : Vis X.env.scope x := by rw [h.hsc]; exact .inr (.inl e)
theorem Nm.free (e : sc.names.lookup x = some .free) : Vis X.env.scope x := by rw [h.hsc]; exact .inr (.inr e)
theorem Nm.gl (e : sc.names.lookup x = some .globalImplicit) : Gl X x := by unfold Gl Env.kindOf; rw [h.hsc]; exact e
theorem Nm.locL (e : sc.names.lookup x = some .local) : Loc X.env.scope x := by rw [h.hsc]; exact .inl e
theorem Nm.locC (e : sc.names.lookup x = some .cell) : Loc X.env.scope x := by rw [h.hsc]; exact .inr e
theorem Nm.fnL (e : sc.names.lookup x = some .local) : X.fn x = true ∨ X.env.scope.names.lookup x = some .local := by rw [h.hsc]; exact .inr e
theorem Nm.fnC (e : fsc.names.lookup x = some .cell) : X.fn x = true ∨ X.env.scope.names.lookup x = some .local := .inl (h.fn x e)
theorem Nm.lk (e : sc.names.lookup x = some .local) : X.env.scope.names.lookup x = some .local := by rw [h.hsc]; exact e
theorem Nm.ix {i : Nat} (e : N[i]? = some x) : X.N[i]? = some x := by rw [h.hN]; exact e
theorem Nm.ndX : X.N.Nodup := by rw [h.hN]; exact h.nd
theorem Nm.blk {scope : Scope} (s : Shared) (H : Hp) (C : Addr) (cl : List (Str × Addr)) (fp : List Addr) : Nm (X.blk s H scope (compEnvC scope cl C X.env) fp) N (relS scope sc) scope :=
  ⟨h.hN, h.nd, by show relabel scope X.env = _; unfold relabel relS Env.kindOf; rw [h.hsc], h.calm, fun x e => by show (scope.names.lookup x == some .cell) = true; rw [e]; rfl⟩
theorem Nm.ok {scope : Scope} {own : List (Str × Nat)} (e : blkC N sc scope own = true) : BlkOk X.N X.env.scope scope own := by rw [h.hN, h.hsc]; exact blkOk_by e
end
theorem nm_def {P : Program} {w : World} {K : PySem.W.Frag} {mg : Str → Option Value} {base : Heap} {N : List Str} {qual : Str} {sc : Scope} {f : Addr} {cdv : Value} {A : Around} {outer : List Env} {s : Shared} {H : Hp} {E : XK} (nd : N.Nodup) (hr : A.handled = none) :
    Nm (cxOf (L2.CX P w) P w K mg base N qual sc f cdv A outer s H E) N sc sc := by
  refine ⟨rfl, nd, rfl, ?_, fun x e => ?_⟩
  · first | rfl | (show (A.handled == none) = true; rw [hr]; rfl) | (simp [cxOf, hr])
  · first | rfl | (show (sc.names.lookup x == some .cell) = true; rw [e]; rfl) | (simp [cxOf, e])
end M3
set_option Elab.async false
set_option linter.all false
set_option autoImplicit false
set_option maxRecDepth 100000
set_option maxHeartbeats 2000000
namespace M3
open PySem L2 PySem.Spec PyProof.Rows
structure CallG (X : Cx) (g : Value) (n : Nat) (ks : List Str) (cond : L2.St → List V → Hp → VK → Prop) : Prop where
  kp : PySem.W.keepIn X.K g = true
  run : ∀ (pins : List (Addr × Obj)) (s : Shared) (σ : L2.St) (H : Hp) (Q : VK) (us ws : List Value) (vs zs : List V), Inv X pins σ H s → Vals vs us → Vals zs ws → vs.length = n → zs.length = ks.length → cond σ (vs ++ zs) H Q →
    wpAny (model X.prog X.w) X.A (call g us (ks.zip ws)) (EP X pins σ Q) X.xe s
abbrev CallV (X : Cx) (E : WX) (g : Value) (n : Nat) (ks : List Str) (F : MF) : Prop := CallG X g n ks fun σ vs H Q => sp3 (n + ks.length) X.K X.mg F vs H Q (WE E σ)
abbrev CallM (X : Cx) (E : WX) (C : Addr) (n : Nat) (ks : List Str) (F : MF) : Prop := CallG X (.ref C) n ks fun σ vs H Q => ∀ x dx, H x = none → H dx = none → dx ≠ x → sp3 (n + ks.length + 1) X.K X.mg F (.ref x :: vs) (upd (upd H dx (.own x)) x (.ins C dx [])) (fun v H2 => v = .non ∧ Q (.ref x) H2) (WE E σ)
def Fn3 (P : Program) (w : World) (K : PySem.W.Frag) (mg : Str → Option Value) (base : Heap) (k : Nat) (f : Addr) (fd : FuncData) (ps : List Str) (F : MF) : Prop := FnOk P w K mg base (L2.CX P w) k f fd ps (sp3 ps.length K mg F)
section
variable {K : PySem.W.Frag} {mg : Str → Option Value}
structure ReArg (K : PySem.W.Frag) (mg : Str → Option Value) (n n' : Nat) (F' F : MF) (gV : List V → List V) : Prop where
  ex : ∃ gD : List Dv → List Dv, (∀ ds m, ds.length = n' → F' ds m = F (gD ds) m) ∧ ∀ μ G ds vs, ds.length = n' → RepL K mg μ G ds vs → (gD ds).length = n ∧ RepL K mg μ G (gD ds) (gV vs)
theorem sp3_re {n n' : Nat} {F F' : MF} {gV : List V → List V} (r : ReArg K mg n n' F' F gV) {vs : List V} {H : Hp} {Q : VK} {E : XK} (h : sp3 n' K mg F' vs H Q E) : sp3 n K mg F (gV vs) H Q E := by
  obtain ⟨gD, h1, h2⟩ := r.ex
  obtain ⟨G, μ, m, ds, hl, mem, rp, w⟩ := h
  obtain ⟨q1, q2⟩ := h2 μ G ds vs hl rp
  rw [h1 ds m hl] at w
  exact ⟨G, μ, m, gD ds, q1, mem, q2, w⟩
end
section
variable {X : Cx} {E : WX} {k n : Nat} {f C : Addr} {fd : FuncData} {ps ks : List Str} {F F' : MF} {g : List Value → List Value → List Value} {gV : List V → List V → List V}
theorem run_fnNS {sp : Sp} {EE : L2.St → XK} {CX : CXT} {pins : List (Addr × Obj)} {σ : L2.St} {H : Hp} {s : Shared} {Q : VK} {us ws : List Value} {vs zs : List V} (F : FnOk X.prog X.w X.K X.mg X.base CX k f fd ps sp) (hr : Room k X.A) (hb : KBn X.K fd ps n ks g gV) (hx : PassesAt CX X σ (EE σ))
    (I : Inv X pins σ H s) (r : Vals vs us) (rz : Vals zs ws) (l1 : vs.length = n) (l2 : zs.length = ks.length) (h : sp (gV vs zs) H Q (EE σ)) : wpAny (model X.prog X.w) X.A (call (.ref f) us (ks.zip ws)) (EP X pins σ Q) X.xe s := by
  have r2 := hb.rel r rz
  refine wpAny_call (codeAny_mono (F.run X.A X.stack s H ⟨us, ks.zip ws⟩ (g us ws) (gV vs zs) Q (EE σ) hr I.env0 (hb.to s us ws I.kIn (r.length.symm.trans l1) (rz.length.symm.trans l2)) r2 h) fun r s' hq => ?_)
  cases r with
  | error e => exact hx pins H s e s' I hq
  | ok fl =>
    cases fl with
    | ret u => exact I.after hq
    | next => exact False.elim hq
    | brk => exact False.elim hq
    | cont => exact False.elim hq
theorem run_makeNS {sp : Sp} {EE : L2.St → XK} {CX : CXT} {pins : List (Addr × Obj)} {σ : L2.St} {H : Hp} {s : Shared} {Q : VK} {us ws : List Value} {vs zs : List V} (M : Mk X.K C f) (F : FnOk X.prog X.w X.K X.mg X.base CX k f fd ps sp) (hr : Room (k + 1) X.A) (hb : KBn X.K fd ps (n + 1) ks g gV) (hx : PassesAt CX X σ (EE σ))
    (I : Inv X pins σ H s) (r : Vals vs us) (rz : Vals zs ws) (l1 : vs.length = n) (l2 : zs.length = ks.length)
    (h : ∀ x dx, H x = none → H dx = none → dx ≠ x → sp (gV (.ref x :: vs) zs) (upd (upd H dx (.own x)) x (.ins C dx [])) (fun v H2 => v = .non ∧ Q (.ref x) H2) (EE σ)) :
    wpAny (model X.prog X.w) X.A (call (.ref C) us (ks.zip ws)) (EP X pins σ Q) X.xe s := by
  have hq := h (s.heap.objs.size + 1) s.heap.objs.size (I.hok.fresh (Nat.le_succ _)) (I.hok.fresh (Nat.le_refl _)) (Nat.ne_of_lt (Nat.lt_succ_self _))
  have I2 := Inv.made (C := C) I
  have r1 : Vals (V.ref (s.heap.objs.size + 1) :: vs) (Value.ref (s.heap.objs.size + 1) :: us) := .cons rfl r
  have r2 := hb.rel r1 rz
  have e1 : (Value.ref (s.heap.objs.size + 1) :: us).length = n + 1 := r1.length.symm.trans (congrArg Nat.succ l1)
  refine wpAny_call (make_map (f := f) I.kIn M.makes M.init (beq_iff_eq.mp M.fn) (codeAny_mono (F.run _ X.stack _ _ ⟨Value.ref (s.heap.objs.size + 1) :: us, ks.zip ws⟩ (g (Value.ref (s.heap.objs.size + 1) :: us) ws) _ _ (EE σ) (hr.make C us (ks.zip ws))
    (I2.env0.make C us (ks.zip ws)) (hb.to _ (Value.ref (s.heap.objs.size + 1) :: us) ws I2.kIn e1 (rz.length.symm.trans l2)) r2 hq) fun r s' hq' => ?_))
  cases r with
  | error e => exact hx pins _ _ e s' I2 hq'
  | ok fl =>
    cases fl with
    | ret u =>
      obtain ⟨v, H', I3, rv, ev, q3⟩ := I2.after hq'
      subst ev
      exact ⟨rv, ⟨V.ref (s.heap.objs.size + 1), H', I3, rfl, q3⟩⟩
    | next => exact False.elim hq'
    | brk => exact False.elim hq'
    | cont => exact False.elim hq'
theorem callV_of (ok : Fn3 X.prog X.w X.K X.mg X.base k f fd ps F) (hk : PySem.W.keepIn X.K (.ref f) = true) (hr : Room k X.A) (tk : Takes X E) (hb : KBn X.K fd ps n ks g gV) (re : ReArg X.K X.mg ps.length (n + ks.length) F' F fun l => gV (l.take n) (l.drop n)) : CallV X E (.ref f) n ks F' :=
  ⟨hk, fun pins s σ H Q us ws vs zs I r rz l1 l2 h => run_fnNS (EE := WE E) ok hr hb (passAt tk σ) I r rz l1 l2 (by
    have := sp3_re re h
    rw [List.take_left' l1, List.drop_left' l1] at this
    exact this)⟩
theorem callM_of (M : Mk X.K C f) (ok : Fn3 X.prog X.w X.K X.mg X.base k f fd ps F) (hr : Room (k + 1) X.A) (tk : Takes X E) (hb : KBn X.K fd ps (n + 1) ks g gV) (re : ReArg X.K X.mg ps.length (n + ks.length + 1) F' F fun l => gV (l.take (n + 1)) (l.drop (n + 1))) : CallM X E C n ks F' :=
  ⟨M.kp, fun pins s σ H Q us ws vs zs I r rz l1 l2 h => run_makeNS (EE := WE E) M ok hr hb (passAt tk σ) I r rz l1 l2 fun x dx h1 h2 h3 => by
    have := sp3_re re (h x dx h1 h2 h3)
    rw [List.take_succ_cons, List.drop_succ_cons, List.take_left' l1, List.drop_left' l1] at this
    exact this⟩
theorem kbn_all {K : PySem.W.Frag} (hb : Binds K fd ps []) : KBn K fd ps ps.length [] (fun us _ => us) (fun vs _ => vs) :=
  ⟨fun s us ws X l1 l2 => by
    have := hb s us X (by rw [List.append_nil]; exact l1)
    rw [List.append_nil] at this
    exact this, fun r1 r2 => r1⟩
theorem reArg_id {K : PySem.W.Frag} {mg : Str → Option Value} {n : Nat} : ReArg K mg n n F F fun l => l.take n :=
  ⟨id, fun ds m h => rfl, fun μ G ds vs h r => ⟨h, by
    have : vs.length = n := r.length.symm.trans h
    rw [List.take_of_length_le (by omega)]; exact r⟩⟩
theorem CallG.imp {g : Value} {cond cond' : L2.St → List V → Hp → VK → Prop} (h : CallG X g n ks cond) (i : ∀ σ vs H Q, cond' σ vs H Q → cond σ vs H Q) : CallG X g n ks cond' := ⟨h.kp, fun pins s σ H Q us ws vs zs I r rz l1 l2 q => h.run pins s σ H Q us ws vs zs I r rz l1 l2 (i _ _ _ _ q)⟩
theorem CallV.hid {g : Value} (h : CallV X E g n ks F) : CallV X E g n ks (hidF F) := h.imp fun _ _ _ _ q => sp3_hid q
end
abbrev PKs (X : Cx) (E : WX) (kws : List Keyword) (f : MA) : Prop := PK X kws (taOf X.K X.mg E f)
section
variable {X : Cx} {E : WX} {e : Expr} {es args : List Expr} {kws : List Keyword} {fa fe : ME} {fs fk g : MA} {pos p kpos : Pos} {nm : Option Str}
theorem cons_want {K : PySem.W.Frag} {mg : Str → Option Value} {σ : L2.St} {H : Hp} {Q : List V → Hp → Prop} (h : taOf K mg E (mCons fa g) σ H Q) : tCons (tOf K mg E fa) (taOf K mg E g) σ H Q := by
  obtain ⟨b, ρ, m, T, S, w⟩ := h
  refine ⟨b, ρ, m, T, S, ?_⟩
  unfold mCons at w
  revert w
  cases fa ρ m with
  | no => exact id
  | ex x m1 => exact id
  | ok x m1 =>
    intro w v H1 S1 hb
    cases x with
    | b i => exact w.elim
    | v d =>
      have w : WantA E (b.cf K mg) ρ σ T Q ((g ρ m1).bind fun ds m2 => .ok (d :: ds) m2) := w
      refine ⟨b, ρ, m1, tv v d :: T, S1, ?_⟩
      revert w
      cases g ρ m1 with
      | no => exact id
      | ex x m2 => exact fun w => WantX.weak (S := [tv v d]) w
      | ok ds m2 =>
        intro w vs H2 hl ⟨G, μ, s⟩
        refine w (v :: vs) H2 (by simp [hl]) ⟨G, μ, ?_⟩
        show St3 _ ρ m2 σ H2 (tv v d :: (tvs vs ds ++ T)) G μ
        refine s.weak (fun p hp => ?_) ?_
        · rcases List.mem_cons.mp hp with rfl | q
          · simp
          · rcases List.mem_append.mp q with q | q
            · exact List.mem_append_left _ q
            · exact List.mem_append_right _ (List.mem_cons_of_mem _ q)
        · rw [List.filterMap_cons, ownA_val, List.filterMap_append, List.filterMap_append, List.filterMap_cons, ownA_val]
          exact List.Sublist.refl _
theorem xk_nil : PKs X E [] mNil := ⟨fun pos pins s σ H Q I ⟨b, ρ, m, T, S, w⟩ => pk_nil.run pos pins s σ H Q I (w [] H rfl S)⟩
theorem xk_cons (ha : PX X E e fe) (hr : PKs X E kws fk) : PKs X E (⟨nm, e, kpos⟩ :: kws) (mCons fe fk) :=
  ⟨fun pos pins s σ H Q I h => (pk_cons ha hr).run pos pins s σ H Q I (cons_want h)⟩
structure ArgsOk (pos : Pos) (args : List Expr) (kws : List Keyword) (ks : List Str) (env : Env) : Prop where
  he : args = [] ∨ ∃ e es, args = e :: es ∧ starEach (e :: es) env = (false, eval e env) :: starEach es env
  hpl : ((backTo pos (starEach args env)).any (·.1) || (backToKw pos (keywordEach kws env)).any (·.1.isNone)) = false
  hall : (backToKw pos (keywordEach kws env)).all (·.1.isSome) = true
  hks : (backToKw pos (keywordEach kws env)).filterMap (·.1) = ks
theorem argsOk0 {ks : List Str} (hpl : ((backTo pos (starEach [] X.env)).any (·.1) || (backToKw pos (keywordEach kws X.env)).any (·.1.isNone)) = false) (hall : (backToKw pos (keywordEach kws X.env)).all (·.1.isSome) = true) (hks : (backToKw pos (keywordEach kws X.env)).filterMap (·.1) = ks) : ArgsOk pos [] kws ks X.env := ⟨.inl rfl, hpl, hall, hks⟩
theorem argsOk1 {ks : List Str} (he : starEach (e :: es) X.env = (false, eval e X.env) :: starEach es X.env) (hpl : ((backTo pos (starEach (e :: es) X.env)).any (·.1) || (backToKw pos (keywordEach kws X.env)).any (·.1.isNone)) = false) (hall : (backToKw pos (keywordEach kws X.env)).all (·.1.isSome) = true) (hks : (backToKw pos (keywordEach kws X.env)).filterMap (·.1) = ks) : ArgsOk pos (e :: es) kws ks X.env := ⟨.inr ⟨e, es, rfl, he⟩, hpl, hall, hks⟩
theorem callW {v : Value} {n : Nat} {ks : List Str} {cond : L2.St → List V → Hp → VK → Prop} {pins : List (Addr × Obj)} {σ : L2.St} {H : Hp} {s : Shared} {Q : VK} {ta tk : TA} {first : List Value} {fv : List V} (V : CallG X v n ks cond) (ha : PA X args ta) (hk : PK X kws tk) (A : ArgsOk pos args kws ks X.env) (I : Inv X pins σ H s) (rf : Vals fv first)
    (hnil : args = [] → ∀ σ H Q, ta σ H Q → Q [] H)
    (h : ta σ H fun vs H1 => tk σ H1 fun zs H2 => (fv ++ vs).length = n ∧ zs.length = ks.length ∧ cond σ (fv ++ vs ++ zs) H2 Q) : wpAny (model X.prog X.w) X.A (callWith pos v first (backTo pos (starEach args X.env)) (backToKw pos (keywordEach kws X.env))) (EP X pins σ Q) X.xe s := by
  obtain ⟨he, hpl, hall, hks⟩ := A
  rcases he with rfl | ⟨e, es, rfl, he⟩
  · have h := hnil rfl _ _ _ h
    refine PySem.W.callWith_KW0 (h₀ := X.base) I.ok.mod.kin V.kp hall ?_ hpl
    refine thn (hk.run pos pins s σ H _ I h) fun ws s2 ⟨zs, H2, I2, rz, l1, l2, q2⟩ => ⟨I2.kIn, ?_⟩
    rw [hks]
    rw [List.append_nil] at l1 q2 ⊢
    exact V.run pins s2 σ H2 Q _ _ _ _ I2 rf rz l1 l2 q2
  · refine PySem.W.callWith_KW (h₀ := X.base) I.ok.mod.kin V.kp hall (thn (ha.run pos pins s σ H _ I h) fun us s1 ⟨vs, H1, I1, r, q⟩ => ?_) hpl he
    refine thn (hk.run pos pins s1 σ H1 _ I1 q) fun ws s2 ⟨zs, H2, I2, rz, l1, l2, q2⟩ => ⟨I2.kIn, ?_⟩
    rw [hks]
    exact V.run pins s2 σ H2 Q _ _ _ _ I2 (rf.append r) rz l1 l2 q2
theorem nil_ta {K : PySem.W.Frag} {mg : Str → Option Value} (hn : args = [] → fs = mNil) : args = [] → ∀ σ H Q, taOf K mg E fs σ H Q → Q [] H := fun e σ H Q ⟨b, ρ, m, T, S, w⟩ => by
  rw [hn e] at w
  exact w [] H rfl S
def mArgs (n k : Nat) (fs fk : MA) : MA := fun ρ m => (fs ρ m).bind fun ds m1 => (fk ρ m1).bind fun es m2 => if ds.length = n ∧ es.length = k then .ok (ds ++ es) m2 else .no
theorem tvs_app {T : Tm} : ∀ {vs : List V} {ds : List Dv} {zs : List V} {es : List Dv}, vs.length = ds.length → (tvs (vs ++ zs) (ds ++ es) ++ T) = tvs vs ds ++ (tvs zs es ++ T)
  | [], [], zs, es, _ => rfl
  | v :: vs, d :: ds, zs, es, h => by
    show tv v d :: (tvs (vs ++ zs) (ds ++ es) ++ T) = tv v d :: (tvs vs ds ++ (tvs zs es ++ T))
    rw [tvs_app (by simpa using h)]
theorem args_want {K : PySem.W.Frag} {mg : Str → Option Value} {n k : Nat} {σ : L2.St} {H : Hp} {Q : List V → Hp → Prop} (h : taOf K mg E (mArgs n k fs fk) σ H Q) : taOf K mg E fs σ H fun vs H1 => taOf K mg E fk σ H1 fun zs H2 => vs.length = n ∧ zs.length = k ∧ Q (vs ++ zs) H2 := by
  obtain ⟨b, ρ, m, T, S, w⟩ := h
  refine ⟨b, ρ, m, T, S, ?_⟩
  unfold mArgs at w
  revert w
  cases fs ρ m with
  | no => exact id
  | ex x m1 => exact id
  | ok ds m1 =>
    intro w vs H1 hl S1
    rw [Rs.bind_ok] at w
    refine ⟨b, ρ, m1, tvs vs ds ++ T, S1, ?_⟩
    revert w
    cases fk ρ m1 with
    | no => exact id
    | ex x m2 => exact fun w => WantX.weak w
    | ok es m2 =>
      intro w zs H2 hl2 S2
      rw [Rs.bind_ok] at w
      by_cases z : ds.length = n ∧ es.length = k
      · rw [if_pos z] at w
        refine ⟨hl.trans z.1, hl2.trans z.2, w _ _ (by simp [hl, hl2]) ?_⟩
        obtain ⟨G, μ, S2⟩ := S2
        refine ⟨G, μ, S2.perm ?_⟩
        rw [tvs_app hl]
        rw [← List.append_assoc, ← List.append_assoc]
        exact List.Perm.append_right _ List.perm_append_comm
      · rw [if_neg z] at w; exact w.elim
end
section
variable {X : Cx} {E : WX} {o : Expr} {args : List Expr} {kws : List Keyword} {fo : ME} {fa fk fs : MA} {pos p apos : Pos} {x cn mn : Str} {n k : Nat} {f C : Addr} {F : MF} {ks : List Str} {v : Value}
theorem call_want {K : PySem.W.Frag} {mg : Str → Option Value} {σ : L2.St} {H : Hp} {Q : VK} (h : tOf K mg E (mCall n F fa) σ H Q) : taOf K mg E fa σ H fun vs H1 => sp3 n K mg F vs H1 Q (WE E σ) := by
  obtain ⟨b, ρ, m, T, S, w⟩ := h
  refine ⟨b, ρ, m, T, S, ?_⟩
  unfold mCall at w
  revert w
  cases fa ρ m with
  | no => exact id
  | ex x m1 => exact id
  | ok ds m1 =>
    intro w vs H1 hl ⟨G, μ, s⟩
    rw [Rs.bind_ok] at w
    by_cases z : ds.length = n
    · rw [if_pos z] at w
      exact sp3_of s.pops (tvs_rep hl s) z (want_rsA w)
    · rw [if_neg z] at w; exact w.elim
theorem x_callK (V : CallV X E v n ks F) (hm : X.mg x = some v) (hg : Gl X x) (ha : PXs X E args fs) (hk : PKs X E kws fk) (A : ArgsOk pos args kws ks X.env) (hn : args = [] → fs = mNil) (hdb : (x == ("__debug__" : Str)) = false := by decide) : PX X E (.Call (.Name x p) args kws pos) (mCall (n + ks.length) F (mArgs n ks.length fs fk)) :=
  ⟨fun pins s σ H Q I h => wpAny_Call_Name_kw (ld_glob I hg hm (callW (fv := []) V ha hk A (I.tok _) .nil (nil_ta hn) (args_want (call_want h))) hdb)⟩
theorem x_callP (V : CallV X E v n [] F) (hm : X.mg x = some v) (hg : Gl X x) (ha : PXs X E args fs) (A : ArgsOk pos args [] [] X.env) (hn : args = [] → fs = mNil) (hdb : (x == ("__debug__" : Str)) = false := by decide) : PX X E (.Call (.Name x p) args [] pos) (mCall n F fs) :=
  PEi (x_callK V hm hg ha xk_nil A hn hdb) fun σ H Q ⟨b, ρ, m, T, S, w⟩ => by
    refine ⟨b, ρ, m, T, S, ?_⟩
    have : mCall (n + ([] : List Str).length) F (mArgs n ([] : List Str).length fs mNil) ρ m = mCall n F fs ρ m := by
      unfold mCall mArgs mNil
      cases fs ρ m with
      | no => rfl
      | ex x m => rfl
      | ok ds m1 =>
        simp only [Rs.bind_ok, List.length_nil, and_true, List.append_nil, Nat.add_zero]
        by_cases z : ds.length = n
        · rw [if_pos z, Rs.bind_ok, if_pos z]
        · rw [if_neg z, if_neg z]; rfl
    rw [this]; exact w
end
end M3
set_option Elab.async false
set_option linter.all false
set_option autoImplicit false
set_option maxRecDepth 100000
set_option maxHeartbeats 2000000
namespace M3
open PySem L2 PySem.Spec PyProof.Rows
section
variable {P : Program} {w : World} {K : PySem.W.Frag} {mg : Str → Option Value} {base : Heap}
theorem body3 {qual : Str} {st : Stmt} {f : Addr} {N : List Str} {n : Nat} {body : MS} {cdv : Value} {A : Around} {outer : List Env} {s : Shared} {H : Hp} {vs : List V} {Q : VK} {E : XK}
    (h : PSsx (cxOf (L2.CX P w) P w K mg base N qual (defScope st) f cdv A outer s H E) (WF E) (defBody st) body) (q : sp3 n K mg (mDef N.length body) vs H Q E) :
    ∃ t, PSs (cxOf (L2.CX P w) P w K mg base N qual (defScope st) f cdv A outer s H E) (defBody st) t ∧ t { nx := fun _ H' => Q .non H', rt := Q } (L2.start N vs) H := by
  refine ⟨_, h, ?_⟩
  obtain ⟨G, μ, m, ds, hl, mem, r, q⟩ := q
  have hlen := r.length
  refine ⟨⟨G, μ, H⟩, ds.map .val ++ List.replicate (N.length - ds.length) .un, m, [], ⟨G, μ, ?_, mem, Le.refl _ _ _, ?_, ?_⟩, ?_⟩
  · simp [L2.start, hlen]
  · intro p hp
    rw [List.nil_append] at hp
    unfold L2.start at hp
    rw [← hlen] at hp
    exact start_cells (c := (Bs.cf ⟨G, μ, H⟩ K mg)) r p hp
  · rw [List.nil_append, own_vals fun y hy o e => ?_]
    · exact List.nodup_nil
    · subst e
      rcases List.mem_append.mp hy with z | z
      · obtain ⟨d, _, e⟩ := List.mem_map.mp z; cases e
      · have := List.eq_of_mem_replicate z; cases this
  · unfold mDef at q
    revert q
    cases body (ds.map .val ++ List.replicate (N.length - ds.length) .un) m with
    | nx ρ' m' =>
      intro q σ' H' ⟨G', μ', s'⟩
      exact q .non H' G' μ' s'.mem s'.le .non
    | rt d m' =>
      intro q v H' ⟨G', μ', m1, l1, r1⟩
      exact q v H' G' μ' m1 l1 r1
    | ex x ρ' m' =>
      intro q σ' cls dd H' G' μ' s' rx
      exact q cls dd H' G' μ' s'.mem s'.le rx
    | bk ρ' m' => exact fun q => q.elim
    | ct ρ' m' => exact fun q => q.elim
    | no => exact fun q => q.elim
theorem fn3 {x qual : Str} {st : Stmt} {f : Addr} {fd : FuncData} {N ps : List Str} {k : Nat} {body : MS} (F : Fun K x qual st f fd) (S : FnScope N ps (defScope st))
    (h : ∀ (cdv : Value) (A : Around) (outer : List Env) (s : Shared) (H : Hp) (E : XK), Room k (A.deeper (envOfC qual (defScope st) s.heap.objs.size f cdv)) →
      PSsx (cxOf (L2.CX P w) P w K mg base N qual (defScope st) f cdv A outer s H E) (WF E) (defBody st) body) : Fn3 P w K mg base (k + 1) f fd ps (mDef N.length body) :=
  F.okX S (fun vs H Q E q => by
    obtain ⟨G, μ, m, ds, hl, _, r, _⟩ := q
    rw [← r.length, hl]) fun cdv A outer s H vs Q E hr q => body3 (h cdv A outer s H E hr) q
theorem MemOk.newG {c : Cf} {m : Mm} {H : Hp} {G : Hp} {μ : List Addr} {p : Addr} {o : HO} (h : MemOk c.K c.mg G μ H m) (hp : H p = none) : MemOk c.K c.mg (upd G p o) μ (upd H p o) m ∧ Le G μ H (upd G p o) μ (upd H p o) := by
  have hg : G p = none := h.st.none hp
  have hn : p ∉ μ := h.notIn hp
  refine ⟨⟨fun a u e => ?_, h.len, h.nd, fun n ob e => ?_, fun a hm => ?_⟩, ⟨Ex.new hg, .refl _, fun a u h1 h2 h3 => ⟨ex_upd_none hp h1, ?_, h3⟩, fun a u h1 => ⟨u, ex_upd_none hp h1⟩⟩⟩
  · by_cases ha : a = p
    · subst ha; rw [upd_same] at e ⊢; cases e; exact .inl rfl
    · rw [upd_ne ha] at e ⊢; exact h.st a u e
  · obtain ⟨a, e1, e2, e3⟩ := h.ob n ob e
    have ha : a ≠ p := fun z => hn (by rw [← z]; exact List.mem_of_getElem? e1)
    exact ⟨a, e1, by rw [upd_ne ha]; exact e2, e3.mono (Ex.new hg) (.refl _) fun u q => ex_upd_none hp q⟩
  · obtain ⟨u, e⟩ := h.th a hm
    exact ⟨u, ex_upd_none hp e⟩
  · rw [upd_ne (ne_of_none h1 hp)]; exact h2
def starF (j : Nat) (F : MF) : MF := fun ds m => if ds.length ≤ sizeLine then F (ds.take j ++ [.tup (ds.drop j)]) m else .no
theorem sp3_star {n j : Nat} {F : MF} {vs : List V} {H : Hp} {Q : VK} {E : XK} (hj : j ≤ n) (h : sp3 n K mg (starF j F) vs H Q E) :
    ∃ ws rest, vs = ws ++ rest ∧ ws.length = j ∧ rest.length ≤ sizeLine ∧ ∀ p, H p = none → sp3 (j + 1) K mg F (ws ++ [.ref p]) (upd H p (.tup rest)) Q E := by
  obtain ⟨G, μ, m, ds, hl, mem, r, q⟩ := h
  have hlv := r.length
  unfold starF at q
  by_cases z : ds.length ≤ sizeLine
  · rw [if_pos z] at q
    refine ⟨vs.take j, vs.drop j, (List.take_append_drop j vs).symm, by rw [List.length_take]; omega, by rw [List.length_drop]; omega, fun p hp => ?_⟩
    obtain ⟨mem', le'⟩ := MemOk.newG (c := ⟨K, mg, G, μ, H⟩) (o := .tup (vs.drop j)) mem hp
    have hg : G p = none := mem.st.none hp
    have hd : (ds.drop j).length ≤ sizeLine := by rw [List.length_drop]; omega
    refine ⟨upd G p (.tup (vs.drop j)), μ, m, ds.take j ++ [.tup (ds.drop j)], by simp [List.length_take]; omega, mem', RepL.app (.one (.tup upd_same hd ((r.drop j).mono (Ex.new hg) (.refl _)))) ((r.take j).mono (Ex.new hg) (.refl _)), ?_⟩
    revert q
    cases F (ds.take j ++ [.tup (ds.drop j)]) m with
    | no => exact id
    | ok d m' => exact fun q v H' G' μ' me le rd => q v H' G' μ' me (le'.trans le) rd
    | ex d m' => exact fun q cls dd H' G' μ' me le rd => q cls dd H' G' μ' me (le'.trans le) rd
  · rw [if_neg z] at q; exact q.elim
theorem fn3_star {name qual : Str} {st : Stmt} {f : Addr} {N ps : List Str} {pv : Str} {k : Nat} {body : MS} {dV kV doc pm cdv ct oc : Value} {an od : Option Addr} {osl : Array (Option Value)}
    (lk : K.lookup f = some ⟨oc, od, .func (PySem.W.fnOf name qual (defArgs st) (defBody st) (defScope st) dV kV doc pm an cdv ct), osl⟩) (hcd : PySem.W.codeIn K cdv qual = true) (S : FnScope N (ps ++ [pv]) (defScope st))
    (hb : ∀ us rest : List Value, us.length = ps.length → bindArgs (PySem.W.fnOf name qual (defArgs st) (defBody st) (defScope st) dV kV doc pm an cdv ct) ⟨us ++ rest, []⟩ = (newTuple rest >>= fun t => pure (ps.zip us ++ [(pv, t)])))
    (h : ∀ (cdv : Value) (A : Around) (outer : List Env) (s : Shared) (H : Hp) (E : XK), Room k (A.deeper (envOfC qual (defScope st) s.heap.objs.size f cdv)) →
      PSsx (cxOf (L2.CX P w) P w K mg base N qual (defScope st) f cdv A outer s H E) (WF E) (defBody st) body) (n : Nat) (hn : ps.length ≤ n) :
    StX.CXUp (L2.CX P w) → FnR P w K mg base (L2.CX P w) (k + 1) f (sp3 n K mg (starF ps.length (mDef N.length body))) := fun up =>
  FnR.imp (StX.fn_star (sp := sp3 (ps.length + 1) K mg (mDef N.length body)) lk hcd S up hb fun A outer s H vs Q E hr q => body3 (h cdv A outer s H E hr) q) fun vs H Q E q => sp3_star hn q
end
section
variable {X : Cx} {E : WX} {k n : Nat} {f : Addr} {F : MF}
theorem callV_R (ok : FnR X.prog X.w X.K X.mg X.base (L2.CX X.prog X.w) k f (sp3 n X.K X.mg F)) (hk : PySem.W.keepIn X.K (.ref f) = true) (hr : Room k X.A) (tk : Takes X E) : CallV X E (.ref f) n [] F :=
  ⟨hk, fun pins s σ H Q us ws vs zs I r rz l1 l2 h => by
    have : ws = [] := List.eq_nil_of_length_eq_zero (rz.length.symm.trans l2)
    subst this
    cases rz
    rw [List.append_nil] at h
    refine wpAny_call (codeAny_mono (ok X.A X.stack s H us vs Q (WE E σ) hr I.env0 r h) fun r s' hq => ?_)
    cases r with
    | error e => exact passAt tk σ pins H s e s' I hq
    | ok fl =>
      cases fl with
      | ret u => exact I.after hq
      | next => exact False.elim hq
      | brk => exact False.elim hq
      | cont => exact False.elim hq⟩
end
structure SMet (K : PySem.W.Frag) (C : Addr) (mc : Value) (m : Str) (p g : Addr) : Prop where
  rd : PySem.W.readsIn K C mc = true
  ga : PySem.W.specialIn K (.ref C) "__getattribute__" = some (some (.builtin "type.__getattribute__"))
  at_ : PySem.W.findCls K (.ref C) mc m = some (.get (.builtin "staticmethod.__get__") (.ref p) .none (.ref C))
  rc : ∃ rest, PySem.W.recIn K p "staticmethod" = some (.ref g :: rest)
section
variable {X : Cx} {E : WX} {o : Expr} {args : List Expr} {kws : List Keyword} {fo : ME} {fa fk fs : MA} {pos p apos : Pos} {x cn mn : Str} {n k : Nat} {f C q : Addr} {F : MF} {ks : List Str} {mc : Value}
theorem x_methK {pl : Sem Bool} (hC : X.mg cn = some (.ref C)) (c : Cls X.K C) (hm : Meth X.K C mn f) (V : CallV X E (.ref f) (n + 1) ks F) (ho : PX X E o fo) (ha : PXs X E args fs) (hk : PKs X E kws fk) (A : ArgsOk pos args kws ks X.env) (hn : args = [] → fs = mNil)
    (ht : eval (.Call (.Attribute o mn apos) args kws pos) X.env = (do
      let ov ← eval o X.env
      standAt apos.atName
      let (f, first) ← holding [ov] (getMethod ov mn pl)
      callWith pos f first (backTo pos (starEach args X.env)) (backToKw pos (keywordEach kws X.env))) := by rfl) :
    PX X E (.Call (.Attribute o mn apos) args kws pos) (mMeth cn mn (n + ks.length + 1) F fo (mArgs n ks.length fs fk)) := by
  refine ⟨fun pins s σ H Q I h => ?_⟩
  have h := meth_want (mn := mn) (F := F) (fo := fo) (fa := mArgs n ks.length fs fk) hC (fun _ _ _ q => args_want q) h
  refine PySem.W.methodCall_KW (pl := pl) (thn (ho.run pins s σ H _ I h) fun u s1 ⟨x, H1, I1, rx, a, dx, fs', ex, ea, l, q⟩ => ?_) ht
  subst ex
  obtain rfl : u = Value.ref a := rx
  refine getmeth_ok I1 ea c hm l ?_
  refine callW (fv := [.ref a]) V ha hk A I1 (.cons rfl .nil) ?_ ?_
  · exact nil_ta hn
  · obtain ⟨b, ρ, m, T, S, w⟩ := q
    refine ⟨b, ρ, m, T, S, ?_⟩
    revert w
    cases fs ρ m with
    | no => exact id
    | ex x m1 => exact id
    | ok ds m1 =>
      intro w vs H2 hl S2
      obtain ⟨b2, ρ2, m2, T2, S3, w2⟩ := w vs H2 hl S2
      refine ⟨b2, ρ2, m2, T2, S3, ?_⟩
      revert w2
      cases fk ρ2 m2 with
      | no => exact id
      | ex x m1 => exact id
      | ok es m3 =>
        intro w2 zs H3 hl2 S4
        obtain ⟨z1, z2, z3⟩ := w2 zs H3 hl2 S4
        refine ⟨by rw [List.length_append, z1]; simp; omega, z2, ?_⟩
        rw [show n + 1 + ks.length = n + ks.length + 1 by omega]
        exact z3
theorem mArgs_nil {ρ : Sl} {m : Mm} : (mArgs n 0 fs mNil) ρ m = (fs ρ m).bind fun ds m1 => if ds.length = n then .ok ds m1 else .no := by
  unfold mArgs mNil
  cases fs ρ m with
  | no => rfl
  | ex x m => rfl
  | ok ds m1 =>
    simp only [Rs.bind_ok, List.length_nil, and_true, List.append_nil]
theorem x_methP {pl : Sem Bool} (hC : X.mg cn = some (.ref C)) (c : Cls X.K C) (hm : Meth X.K C mn f) (V : CallV X E (.ref f) (n + 1) [] F) (ho : PX X E o fo) (ha : PXs X E args fs) (A : ArgsOk pos args [] [] X.env) (hn : args = [] → fs = mNil)
    (ht : eval (.Call (.Attribute o mn apos) args [] pos) X.env = (do
      let ov ← eval o X.env
      standAt apos.atName
      let (f, first) ← holding [ov] (getMethod ov mn pl)
      callWith pos f first (backTo pos (starEach args X.env)) (backToKw pos (keywordEach [] X.env))) := by rfl) :
    PX X E (.Call (.Attribute o mn apos) args [] pos) (mMeth cn mn (n + 1) F fo fs) :=
  PEi (x_methK hC c hm V ho ha xk_nil A hn ht) fun σ H Q ⟨b, ρ, m, T, S, w⟩ => by
    refine ⟨b, ρ, m, T, S, ?_⟩
    have : mMeth cn mn (n + ([] : List Str).length + 1) F fo (mArgs n ([] : List Str).length fs mNil) ρ m = mMeth cn mn (n + 1) F fo fs ρ m := by
      unfold mMeth
      simp only [List.length_nil, mArgs_nil]
      cases fo ρ m with
      | no => rfl
      | ex x m => rfl
      | ok x m1 =>
        cases x with
        | b i => rfl
        | v d =>
          simp only [Rs.bind_ok]
          cases insOf ρ m1 (.v d) with
          | none => rfl
          | some q =>
            obtain ⟨c', fs'⟩ := q
            simp only
            by_cases z : c' = cn ∧ fs'.lookup mn = none
            · rw [if_pos z, if_pos z]
              cases fs ρ m1 with
              | no => rfl
              | ex x m => rfl
              | ok ds m2 =>
                simp only [Rs.bind_ok]
                by_cases y : ds.length = n
                · rw [if_pos y, Rs.bind_ok]
                · rw [if_neg y, if_neg (by omega)]; rfl
            · simp only [if_neg z]
    rw [this]; exact w
theorem make_want {K : PySem.W.Frag} {mg : Str → Option Value} (hC : mg cn = some (.ref C)) {σ : L2.St} {H : Hp} {Q : VK} (h : tnOf K mg E (mMake cn (n + 1) F fa) σ H Q) :
    taOf K mg E fa σ H fun vs H1 => ∀ xx dx, H1 xx = none → H1 dx = none → dx ≠ xx → sp3 (n + 1) K mg F (.ref xx :: vs) (upd (upd H1 dx (.own xx)) xx (.ins C dx [])) (fun v H2 => v = .non ∧ Q (.ref xx) H2) (WE E σ) := by
  obtain ⟨b, ρ, m, T, S, w⟩ := h
  refine ⟨b, ρ, m, T, S, ?_⟩
  unfold mMake at w
  revert w
  cases fa ρ m with
  | no => exact id
  | ex x m1 => exact id
  | ok ds m1 =>
    intro w vs H1 hl ⟨G, μ, st⟩ xx dx h1 h2 h3
    rw [Rs.bind_ok] at w
    by_cases z : ds.length + 1 = n + 1 ∧ pureL ds = true
    · rw [if_pos z] at w
      exact make_sp hC st.pops (tvs_rep hl st) z.1 z.2 w h1 h2 h3
    · rw [if_neg z] at w; exact w.elim
theorem n_makeK (hC : X.mg x = some (.ref C)) (hg : Gl X x) (V : CallM X E C n ks F) (ha : PXs X E args fs) (hk : PKs X E kws fk) (A : ArgsOk pos args kws ks X.env) (hn : args = [] → fs = mNil) (hdb : (x == ("__debug__" : Str)) = false := by decide) :
    PN X E (.Call (.Name x p) args kws pos) (mMake x (n + ks.length + 1) F (mArgs n ks.length fs fk)) :=
  ⟨fun pins s σ H Q I h => wpAny_Call_Name_kw (ld_glob I hg hC (callW (fv := []) V ha hk A (I.tok _) .nil (nil_ta hn) (args_want (make_want hC h))) hdb)⟩
theorem n_makeP (hC : X.mg x = some (.ref C)) (hg : Gl X x) (V : CallM X E C n [] F) (ha : PXs X E args fs) (A : ArgsOk pos args [] [] X.env) (hn : args = [] → fs = mNil) (hdb : (x == ("__debug__" : Str)) = false := by decide) :
    PN X E (.Call (.Name x p) args [] pos) (mMake x (n + 1) F fs) :=
  PEi (n_makeK hC hg V ha xk_nil A hn hdb) fun σ H Q ⟨b, ρ, m, T, S, w⟩ => by
    refine ⟨b, ρ, m, T, S, ?_⟩
    have : mMake x (n + ([] : List Str).length + 1) F (mArgs n ([] : List Str).length fs mNil) ρ m = mMake x (n + 1) F fs ρ m := by
      unfold mMake
      simp only [List.length_nil, mArgs_nil, Nat.add_zero]
      cases fs ρ m with
      | no => rfl
      | ex x m => rfl
      | ok ds m1 =>
        simp only [Rs.bind_ok]
        by_cases z : ds.length = n
        · rw [if_pos z, Rs.bind_ok]
        · rw [if_neg z, if_neg (by omega)]; rfl
    rw [this]; exact w
end
end M3
set_option Elab.async false
set_option linter.all false
set_option autoImplicit false
set_option maxRecDepth 100000
set_option maxHeartbeats 2000000
namespace M3
open PySem L2 PySem.Spec PyProof.Rows
section
variable {c : Cf} {ρ : Sl} {m : Mm} {σ : L2.St} {H : Hp} {T : Tm}
theorem S3.locTop {p : Addr} {o : Ob} (h : S3 c ρ m σ H ((some (.ref p), .own o) :: T)) : S3 c ρ (m ++ [some o]) σ H (tv (.ref p) (.loc m.length) :: T) := by
  obtain ⟨G, μ, s⟩ := h
  obtain ⟨a, ea, ob, g, n, h0⟩ := s.cells (some (.ref p), .own o) (by simp)
  cases ea
  have sp := s.pop
  have hlen := sp.mem.len
  have nd := s.nd
  rw [List.cons_append, List.filterMap_cons] at nd
  have nd : (p :: (T ++ σ.zip ρ).filterMap ownA).Nodup := nd
  have hnot := (List.nodup_cons.mp nd).1
  have key : ∀ k b, (μ ++ [p])[k]? = some b → (k < μ.length ∧ μ[k]? = some b) ∨ (k = μ.length ∧ b = p) := fun k b e => by
    by_cases hk : k < μ.length
    · rw [List.getElem?_append_left hk] at e; exact .inl ⟨hk, e⟩
    · rw [List.getElem?_append_right (by omega)] at e
      have : k - μ.length = 0 := by
        have := (List.getElem?_eq_some_iff.mp e).1
        simp at this; omega
      rw [this] at e; simp at e
      exact .inr ⟨by omega, e.symm⟩
  have mem : MemOk c.K c.mg G (μ ++ [p]) H (m ++ [some o]) := by
    refine ⟨sp.mem.st, by simp [hlen], fun i j a ei ej => ?_, fun n' ob' e => ?_, fun a hm => ?_⟩
    · rcases key i a ei with ⟨a1, a2⟩ | ⟨a1, a2⟩ <;> rcases key j a ej with ⟨b1, b2⟩ | ⟨b1, b2⟩
      · exact sp.mem.nd i j a a2 b2
      · exact absurd (List.mem_of_getElem? a2) (by rw [b2]; exact n)
      · exact absurd (List.mem_of_getElem? b2) (by rw [a2]; exact n)
      · omega
    · by_cases hk : n' < m.length
      · rw [List.getElem?_append_left hk] at e
        obtain ⟨a, e1, e2, e3⟩ := sp.mem.ob n' ob' e
        exact ⟨a, Pre.app _ _ _ _ e1, e2, e3.mono (.refl _) (.app _ _) fun u q => q⟩
      · rw [List.getElem?_append_right (by omega)] at e
        have hz : n' - m.length = 0 := by
          have := (List.getElem?_eq_some_iff.mp e).1
          simp at this; omega
        rw [hz] at e; simp at e; subst e
        exact ⟨p, by rw [List.getElem?_append_right (by omega)]; rw [show n' - μ.length = 0 by omega]; rfl, g, ob.mono (.refl _) (.app _ _) fun u q => q⟩
    · rcases List.mem_append.mp hm with q | q
      · exact sp.mem.th a q
      · simp at q; subst q; exact ob.some
  have le : Le c.G0 c.μ0 c.H0 G (μ ++ [p]) H := ⟨sp.le.ex, sp.le.pre.trans (.app _ _), (fun a u h1 h2 h3 => by
    obtain ⟨k1, k2, k3⟩ := sp.le.prv a u h1 h2 h3
    refine ⟨k1, k2, fun hm => ?_⟩
    rcases List.mem_append.mp hm with q | q
    · exact k3 q
    · simp at q; subst q; rw [h0] at h1; cases h1), sp.le.th⟩
  refine ⟨G, μ ++ [p], St3.push ⟨sp.len, mem, le, fun q hq => ?_, sp.nd⟩ (.loc (by rw [← hlen]; simp))⟩
  have k := sp.cells q hq
  obtain ⟨x, y⟩ := q
  cases y with
  | un => trivial
  | val d => obtain ⟨v, e, r⟩ := k; exact ⟨v, e, r.mono (.refl _) (.app _ _)⟩
  | own o' =>
    obtain ⟨a, e, r, g', n', z'⟩ := k
    have e : x = some (.ref a) := e
    subst e
    refine ⟨a, rfl, r.mono (.refl _) (.app _ _) (fun _ q => q), g', fun hm => ?_, z'⟩
    rcases List.mem_append.mp hm with q | q
    · exact n' q
    · simp at q
      subst q
      exact hnot (List.mem_filterMap.mpr ⟨_, hq, rfl⟩)
end
section
variable {X : Cx} {E : WX} {e a : Expr} {fa : ME} {pos p2 : Pos}
def mLoc (f : MN) : ME := fun ρ m => (f ρ m).bind fun o m1 => .ok (.v (.loc m1.length)) (m1 ++ [some o])
theorem x_loc {f : MN} (h : PN X E e f) : PX X E e (mLoc f) :=
  PEi h fun σ H Q ⟨b, ρ, m, T, S, w⟩ => by
    refine ⟨b, ρ, m, T, S, ?_⟩
    unfold mLoc at w
    revert w
    cases f ρ m with
    | no => exact id
    | ex x m1 => exact id
    | ok o m1 => exact fun w p H1 S1 => w.v S1.locTop
abbrev MO := Sl → Mm → Rs (Option Int)
def toOf (K : PySem.W.Frag) (mg : Str → Option Value) (E : WX) (f : MO) : TO := fun σ H Q => ∃ (b : Bs) (ρ : Sl) (m : Mm) (T : Tm), S3 (b.cf K mg) ρ m σ H T ∧ match f ρ m with
  | .ok o m' => ∀ H', S3 (b.cf K mg) ρ m' σ H' T → Q o H'
  | .ex x m' => WantX E (b.cf K mg) ρ σ T x m'
  | .no => False
abbrev POx (X : Cx) (E : WX) (e : Option Expr) (f : MO) : Prop := PO X e (toOf X.K X.mg E f)
def mO0 : MO := fun _ m => .ok none m
def mO1 (f : ME) : MO := fun ρ m => (f ρ m).bind fun x m1 => match x with
  | .v (.int i) => .ok (some i) m1
  | _ => .no
theorem o_none : POx X E none mO0 := ⟨fun pins s σ H Q I ⟨b, ρ, m, T, S, w⟩ => po_none.run pins s σ H Q I (w H S)⟩
theorem o_some (h : PX X E e fa) : POx X E (some e) (mO1 fa) := ⟨fun pins s σ H Q I ⟨b, ρ, m, T, S, w⟩ => (po_some h).run pins s σ H Q I (by
  refine ⟨b, ρ, m, T, S, ?_⟩
  unfold mO1 at w
  revert w
  cases fa ρ m with
  | no => exact id
  | ex x m1 => exact id
  | ok x m1 =>
    intro w v H1 S1 hb
    rw [Rs.bind_ok] at w
    cases x with
    | b i => exact w.elim
    | v d =>
      cases d with
      | int i =>
        obtain ⟨G, μ, s⟩ := id S1
        have r : Rep X.K X.mg μ G (.int i) v := s.top
        cases r
        exact ⟨i, rfl, w H1 S1.pop⟩
      | _ => exact w.elim)⟩
def cutD (xs : List Dv) (lo hi : Option Int) : List Dv := (xs.drop (HT.sIx xs.length 0 lo)).take (HT.sIx xs.length xs.length hi - HT.sIx xs.length 0 lo)
theorem cutD_rep {K : PySem.W.Frag} {mg : Str → Option Value} {μ : List Addr} {G : Hp} {ds : List Dv} {vs : List V} (r : RepL K mg μ G ds vs) (lo hi : Option Int) : RepL K mg μ G (cutD ds lo hi) (cutV vs lo hi) := by
  unfold cutD cutV
  rw [r.length]
  exact (r.drop _).take _
theorem cutD_length (xs : List Dv) (lo hi : Option Int) : (cutD xs lo hi).length ≤ xs.length := by
  unfold cutD
  rw [List.length_take, List.length_drop]
  omega
theorem cutV_whole {xs : List V} {lo hi : Option Int} (h : HT.sIx xs.length 0 lo = 0 ∧ HT.sIx xs.length xs.length hi = xs.length) : cutV xs lo hi = xs := by
  unfold cutV
  rw [h.1, h.2]
  simp
def rSl (K : PySem.W.Frag) : V → Option Int → Option Int → Hp → VK → Prop := fun x lo hi H Q => rSlL K x lo hi H Q ∨ (rSlA K x lo hi H Q ∨ rSlS x lo hi H Q)
theorem sl_U : SlR X (rSl X.K) := sl_list.or (sl_tupA.or sl_str)
def gSl (ρ : Sl) (m : Mm) (x : Ar) (lo hi : Option Int) : Rs Ar := match lstOf ρ m x with
  | some ds => if ds.length ≤ sizeLine then .ok (.v (.lst (cutD ds lo hi))) m else .no
  | none => match x with
    | .v (.tup ds) => .ok (.v (.tup (cutD ds lo hi))) m
    | .v (.str z) => if z.length ≤ sizeLine then .ok (.v (.str (cutS z lo hi))) m else .no
    | .v (.scr ns) => if ns.length ≤ sizeLine then .ok (.v (.lst (cutD (ns.map .int) lo hi))) m else .no
    | _ => .no
theorem sl_want {K : PySem.W.Frag} {mg : Str → Option Value} {b : Bs} {ρ : Sl} {m : Mm} {σ : L2.St} {H : Hp} {T : Tm} {G : Hp} {μ : List Addr} {v : V} {x : Ar} {lo hi : Option Int} {Q : VK} (s : St3 (b.cf K mg) ρ m σ H T G μ) (r : ArAt K mg μ G σ v x) (w : Want E (b.cf K mg) ρ σ T Q (gSl ρ m x lo hi)) : rSl K v lo hi H Q := by
  unfold gSl at w
  split at w
  · rename_i ds e
    split at w
    · rename_i z
      obtain ⟨a, vs, rfl, ha, ra⟩ := lst_at s r e
      exact .inl ⟨a, vs, rfl, SqL.of ha, fun p hp => w.v (s.newL (cutD_rep ra lo hi) (Nat.le_trans (cutD_length _ _ _) z) hp)⟩
    · exact w.elim
  · split at w
    · rename_i ds _
      cases r with
      | tup h z r =>
        refine .inr (.inl ⟨_, _, rfl, SqT.of (s.mem.st.t h), fun hw => ?_, fun hw p hp => w.v (s.newT (cutD_rep r lo hi) (Nat.le_trans (cutD_length _ _ _) z) hp)⟩)
        refine w.v ⟨G, μ, s.push (.tup h ?_ ?_)⟩
        · exact Nat.le_trans (cutD_length _ _ _) z
        · have := cutD_rep r lo hi
          rw [cutV_whole hw] at this
          exact this
    · split at w
      · rename_i z
        cases r
        exact .inr (.inr ⟨_, rfl, z, Want.s w s rfl⟩)
      · exact w.elim
    · rename_i ns _
      split at w
      · rename_i z
        cases r with
        | scr h => exact .inl ⟨_, _, rfl, s.mem.st.lst h, fun p hp => w.v (s.newL (cutD_rep (ints_rep _) lo hi) (Nat.le_trans (cutD_length _ _ _) (by simpa using z)) hp)⟩
      · exact w.elim
    · exact w.elim
def mSl (fa : ME) (fl fh : MO) : ME := fun ρ m => (fa ρ m).bind fun x m1 => (fl ρ m1).bind fun lo m2 => (fh ρ m2).bind fun hi m3 => gSl ρ m3 x lo hi
theorem x_sl {lo hi : Option Expr} {fl fh : MO} (ha : PX X E a fa) (hl : POx X E lo fl) (hh : POx X E hi fh) : PX X E (.Subscript a (.Slice lo hi none p2) pos) (mSl fa fl fh) :=
  PEi (pe_slice sl_U ha hl hh) fun σ H Q ⟨b, ρ, m, T, S, w⟩ => by
    refine ⟨b, ρ, m, T, S, ?_⟩
    unfold mSl at w
    revert w
    cases fa ρ m with
    | no => exact id
    | ex x m1 => exact id
    | ok x m1 =>
      intro w v H1 S1 hb
      refine ⟨b, ρ, m1, tva v x ++ T, S1, ?_⟩
      rw [Rs.bind_ok] at w
      revert w
      cases fl ρ m1 with
      | no => exact id
      | ex x m1 => exact fun w => WantX.weak w
      | ok lo m2 =>
        intro w H2 S2
        refine ⟨b, ρ, m2, tva v x ++ T, S2, ?_⟩
        rw [Rs.bind_ok] at w
        revert w
        cases fh ρ m2 with
        | no => exact id
        | ex x m1 => exact fun w => WantX.weak w
        | ok hi m3 =>
          intro w H3 ⟨G, μ, s⟩
          exact sl_want s.pops (s.ar (S := T) hb) w
def mS0 (g : Str → Sl → Mm → Rs Ar) (fo : ME) : ME := fun ρ m => (fo ρ m).bind fun x m1 => match x with
  | .v (.str a) => g a ρ m1
  | _ => .no
def mS1 (g : Str → Sl → Mm → Ar → Rs Ar) (fo fe : ME) : ME := fun ρ m => (fo ρ m).bind fun x m1 => match x with
  | .v (.str a) => (fe ρ m1).bind fun y m2 => g a ρ m2 y
  | _ => .no
def SS1 (K : PySem.W.Frag) (mg : Str → Option Value) (E : WX) (r : V → List V → Hp → VK → Prop) (g : Str → Sl → Mm → Ar → Rs Ar) : Prop :=
  ∀ (b : Bs) (ρ : Sl) (m : Mm) (σ : L2.St) (H : Hp) (T : Tm) (G : Hp) (μ : List Addr) (a : Str) (v : V) (x : Ar) (Q : VK), St3 (b.cf K mg) ρ m σ H T G μ → ArAt K mg μ G σ v x → Want E (b.cf K mg) ρ σ T Q (g a ρ m x) → r (.str a) [v] H Q
section
variable {K : PySem.W.Frag} {mg : Str → Option Value} {r : V → List V → Hp → VK → Prop} {fo fe : ME}
theorem s1_want {g : Str → Sl → Mm → Ar → Rs Ar} (hs : SS1 K mg E r g) {σ : L2.St} {H : Hp} {Q : VK} (h : tOf K mg E (mS1 g fo fe) σ H Q) : tM1 r (tOf K mg E fo) (tOf K mg E fe) σ H Q := by
  obtain ⟨b, ρ, m, T, S, w⟩ := h
  refine ⟨b, ρ, m, T, S, ?_⟩
  unfold mS1 at w
  revert w
  cases fo ρ m with
  | no => exact id
  | ex x m1 => exact id
  | ok x m1 =>
    intro w v H1 S1 hb
    rw [Rs.bind_ok] at w
    split at w
    · rename_i a
      obtain ⟨G, μ, s⟩ := id S1
      have r : Rep K mg μ G (.str a) v := s.top
      cases r
      refine ⟨⟨_, rfl⟩, b, ρ, m1, tv (.str a) (.str a) :: T, S1, ?_⟩
      revert w
      cases fe ρ m1 with
      | no => exact id
      | ex x m1 => exact fun w => WantX.weak (S := [tv (.str a) (.str a)]) w
      | ok y m2 =>
        intro w u H2 ⟨G2, μ2, s2⟩ hb2
        exact hs b ρ m2 σ H2 T G2 μ2 a u y Q s2.pops.pop (s2.ar (S := tv (.str a) (.str a) :: T) hb2) w
    · exact w.elim
end
section
variable {o : Expr} {fo fe : ME} {apos : Pos}
theorem x_s1 {id : String} {name : Str} {r : V → List V → Hp → VK → Prop} {g : Str → Sl → Mm → Ar → Rs Ar} (slot : Slot "str" name id) (ty : typeOf (.builtin id) = pure (.type "method_descriptor")) (rule : MtR X id r) (hs : SS1 X.K X.mg E r g) (ho : PX X E o fo) (he : PX X E e fe)
    (hst : starEach [e] X.env = [(false, eval e X.env)] := by rfl) (hbase : attributeBase o name X.env (eval o X.env) = eval o X.env := by rfl) (hline : (apos.endLine == pos.line) = true := by rfl) : PX X E (.Call (.Attribute o name apos) [e] [] pos) (mS1 g fo fe) :=
  PEi (pe_m1 slot ty rule ho he hst hbase hline) fun _ _ _ h => s1_want hs h
end
section
variable {K : PySem.W.Frag} {mg : Str → Option Value}
def gJoin (a : Str) : Sl → Mm → Ar → Rs Ar := fun ρ m x => match (seqOf ρ m x).bind strsD with
  | some ys => if (ys.map (·.length)).sum + ys.length * a.length ≤ 16777216 then .ok (.v (.str (Txt.join a ys))) m else .no
  | none => .no
theorem ss_join : SS1 K mg E (fun x xs H Q => ∃ a p, ∃ ys : List Str, x = .str a ∧ xs = [.ref p] ∧ (SqL K H p (ys.map V.str) ∨ SqT K H p (ys.map V.str)) ∧ (ys.map (·.length)).sum + ys.length * a.length ≤ 16777216 ∧ Q (.str (Txt.join a ys)) H) gJoin := fun b ρ m σ H T G μ a v x Q s r w => by
  unfold gJoin at w
  split at w
  · rename_i ys e
    obtain ⟨ds, h1, h2⟩ := Option.bind_eq_some_iff.mp e
    obtain ⟨p, vs, rfl, ha, ra⟩ := seq_at s r h1
    rw [strsD_rep ra h2] at ha
    split at w
    · rename_i z
      exact ⟨a, p, ys, rfl, rfl, ha, z, Want.s w s rfl⟩
    · exact w.elim
  · exact w.elim
end
def mFmt (f : ME) : ME := fun ρ m => (f ρ m).bind fun x m1 => match x with
  | .v (.str y) => if y.length ≤ sizeLine then .ok (.v (.str y)) m1 else .no
  | .v (.int i) => if i.natAbs.log2 < 1920 then .ok (.v (.str (toString i))) m1 else .no
  | _ => .no
theorem x_fmt (h : PX X E e fa) : PX X E (.FormattedValue e (-1) none pos) (mFmt fa) :=
  PEi (pe_fmt h) fun σ H Q ⟨b, ρ, m, T, S, w⟩ => by
    refine ⟨b, ρ, m, T, S, ?_⟩
    unfold mFmt at w
    revert w
    cases fa ρ m with
    | no => exact id
    | ex x m1 => exact id
    | ok x m1 =>
      intro w v H1 ⟨G, μ, s⟩ hb
      rw [Rs.bind_ok] at w
      split at w
      · rename_i y
        have r : Rep X.K X.mg μ G (.str y) v := s.top
        cases r
        split at w
        · rename_i z
          exact .inl ⟨y, rfl, z, Want.s w s.pop rfl⟩
        · exact w.elim
      · rename_i i
        have r : Rep X.K X.mg μ G (.int i) v := s.top
        cases r
        split at w
        · rename_i z
          exact .inr ⟨i, rfl, z, Want.s w s.pop rfl⟩
        · exact w.elim
      · exact w.elim
def jsM : List ME → Str → Sl → Mm → Rs Str
  | [], acc, _, m => .ok acc m
  | f :: fs, acc, ρ, m => (f ρ m).bind fun x m1 => match x with
    | .v (.str y) => if (acc ++ y).length ≤ sizeLine then jsM fs (acc ++ y) ρ m1 else .no
    | _ => .no
def mJs (fs : List ME) : ME := fun ρ m => (jsM fs Str.empty ρ m).bind fun s m1 => .ok (.v (.str s)) m1
inductive PJx (X : Cx) (E : WX) : List Expr → List ME → Prop where
  | nil : PJx X E [] []
  | cons {e : Expr} {f : ME} {es : List Expr} {fs : List ME} (h : PX X E e f) (r : PJx X E es fs) : PJx X E (e :: es) (f :: fs)
theorem PJx.pj {es : List Expr} {fs : List ME} (h : PJx X E es fs) : PJ X es (fs.map (tOf X.K X.mg E)) := by
  induction h with
  | nil => exact .nil
  | cons h r ih => exact .cons h ih
theorem js_want {K : PySem.W.Frag} {mg : Str → Option Value} {b : Bs} {ρ : Sl} {T : Tm} {σ : L2.St} {Q : VK} : ∀ {fs : List ME} {acc : Str} {m : Mm} {H : Hp}, S3 (b.cf K mg) ρ m σ H T → Want E (b.cf K mg) ρ σ T Q ((jsM fs acc ρ m).bind fun s m1 => .ok (.v (.str s)) m1) → tJs (fs.map (tOf K mg E)) acc σ H fun out H1 => Q (.str out) H1
  | [], acc, m, H, ⟨G, μ, s⟩, w => Want.s (d := .str acc) w s rfl
  | f :: fs, acc, m, H, S, w => by
    show tOf K mg E f σ H _
    refine ⟨b, ρ, m, T, S, ?_⟩
    unfold jsM at w
    revert w
    cases f ρ m with
    | no => exact id
    | ex x m1 => exact id
    | ok x m1 =>
      intro w v H1 S1 hb
      rw [Rs.bind_ok] at w
      split at w
      · rename_i y
        obtain ⟨G, μ, s⟩ := id S1
        have r : Rep K mg μ G (.str y) v := s.top
        cases r
        split at w
        · rename_i z
          exact ⟨y, rfl, z, js_want S1.pop w⟩
        · exact w.elim
      · exact w.elim
theorem x_js {e1 e2 : Expr} {es : List Expr} {fs : List ME} (h : PJx X E (e1 :: e2 :: es) fs) : PX X E (.JoinedStr (e1 :: e2 :: es) pos) (mJs fs) :=
  PEi (pe_joined h.pj) fun σ H Q ⟨b, ρ, m, T, S, w⟩ => js_want S w
end
end M3
set_option Elab.async false
set_option linter.all false
set_option autoImplicit false
set_option maxRecDepth 100000
set_option maxHeartbeats 2000000
namespace M3
open PySem L2 PySem.Spec PyProof.Rows
def kD : Key → Dv
  | .inl i => .int i
  | .inr s => .str s
theorem kD_rep {K : PySem.W.Frag} {mg : Str → Option Value} {μ : List Addr} {G : Hp} (k : Key) : Rep K mg μ G (kD k) (kV k) := by
  cases k with
  | inl i => exact .int i
  | inr s => exact .str s
section
variable {c : Cf} {ρ : Sl} {m : Mm} {σ : L2.St} {H H' : Hp} {T : Tm} {G : Hp} {μ : List Addr}
theorem ex_lock {a : Addr} {u : HO} {o : Obj} (g : G a = some u) (d : IsDk u) : Ex G (upd G a (.frz o u)) := fun b w e => by
  by_cases hb : b = a
  · subst hb
    rw [g] at e; cases e
    exact .inr ⟨d, o, upd_same⟩
  · exact .inl (by rw [upd_ne hb]; exact e)
theorem St3.lock {a : Addr} {u : HO} {o : Obj} (s : St3 c ρ m σ H T G μ) (g : G a = some u) (d : IsDk u) (h1 : H' a = some (.frz o u)) (h2 : ∀ b, b ≠ a → H' b = H b) : St3 c ρ m σ H' T (upd G a (.frz o u)) μ := by
  have ex : Ex G (upd G a (.frz o u)) := ex_lock g d
  have na : ∀ b, G b = none → b ≠ a := fun b e z => by subst z; rw [g] at e; cases e
  refine s.next ⟨fun b w e => ?_, s.mem.len, s.mem.nd, fun n ob e => ?_, fun b hb => ?_⟩ ⟨ex, .refl _, fun b w k1 k2 k3 => ⟨by rw [h2 b (na b k2)]; exact k1, by rw [upd_ne (na b k2)]; exact k2, k3⟩, fun b w k => ?_⟩
  · by_cases hb : b = a
    · subst hb; rw [upd_same] at e; cases e; exact .inl h1
    · rw [upd_ne hb] at e; rw [h2 b hb]; exact s.mem.st b w e
  · obtain ⟨b, e1, e2, e3⟩ := s.mem.ob n ob e
    exact ⟨b, e1, by rw [upd_ne (na b e2)]; exact e2, e3.mono ex (.refl _) fun w q => by rw [h2 b (na b e2)]; exact q⟩
  · by_cases hz : b = a
    · subst hz; exact ⟨_, h1⟩
    · rw [h2 b hz]; exact s.mem.th b hb
  · by_cases hz : b = a
    · subst hz; exact ⟨_, h1⟩
    · exact ⟨w, by rw [h2 b hz]; exact k⟩
theorem RepK.get {κ : Type} {K : PySem.W.Frag} {mg : Str → Option Value} {ds : List (κ × Dv)} : ∀ {vs : List (κ × V)} {i : Nat} {k : κ} {v : V}, RepK K mg μ G ds vs → vs[i]? = some (k, v) → ∃ d, ds[i]? = some (k, d) ∧ Rep K mg μ G d v := by
  induction ds with
  | nil => intro vs i k v h e; cases h; simp at e
  | cons x ds ih =>
    intro vs i k v h e
    cases h with
    | cons a b =>
      cases i with
      | zero => simp at e; obtain ⟨rfl, rfl⟩ := e; exact ⟨_, rfl, a⟩
      | succ i => obtain ⟨d, h1, h2⟩ := ih b (by simpa using e); exact ⟨d, by simpa using h1, h2⟩
end
def iAny (K : PySem.W.Frag) (tl : TE) : TI := fun σ H R => tl σ H fun x H1 =>
  (∃ a, x = .ref a ∧ (((∃ xs, SqL K H1 a xs) ∧ R (Itl K a) H1) ∨ ((∃ xs, SqT K H1 a xs) ∧ R (Itt K a) H1))) ∨ (∃ z, x = .str z ∧ R (Its z) H1) ∨
  (∃ d kvs, x = .ref d ∧ ((H1 d = some (.dK kvs) ∧ ∀ o, R (Itk d o kvs) (upd H1 d (.frz o (.dK kvs)))) ∨ ∃ o, H1 d = some (.frz o (.dK kvs)) ∧ R (Itk d o kvs) H1)) ∨
  (∃ d kvs, x = .ref d ∧ ((H1 d = some (.dT kvs) ∧ ∀ o, R (Itkt d o kvs) (upd H1 d (.frz o (.dT kvs)))) ∨ ∃ o, H1 d = some (.frz o (.dT kvs)) ∧ R (Itkt d o kvs) H1))
section
variable {X : Cx} {tg e : Expr} {te : TE}
theorem pi_any (he : PE X e te) : PI X tg e (iAny X.K te) := by
  refine ⟨fun pins s σ H R I h => ?_⟩
  refine thn (he.run pins s σ H _ I h) fun v s1 ⟨x, H1, I1, r1, q⟩ => ?_
  rcases q with ⟨a, rfl, q⟩ | ⟨z, rfl, q⟩ | ⟨d, kvs, rfl, q⟩ | ⟨d, kvs, rfl, q⟩
  · cases r1
    rcases q with ⟨⟨xs, hq⟩, q⟩ | ⟨⟨xs, hq⟩, q⟩
    · obtain ⟨its, rv, p, hz⟩ := I1.list hq
      refine wpAny_pyIter_list p.isList ?_
      refine ⟨s1.heap.objs.size, [s1.heap.objs.size], _, _, H1, rfl, I1.kept (t' := s1.toks) fun b o e => Heap.get?_push_of_some _ e, turn_list a _, ⟨_, Heap.get?_push_size _ rfl, rfl, rfl⟩, fun b hb => ?_, q⟩
      have e : b = s1.heap.objs.size := by simpa using hb
      subst e
      exact I1.fpOk (Nat.le_refl _) (I1.hok.fresh (Nat.le_refl _))
    · obtain ⟨its, rv, p, hz⟩ := I1.tuple hq
      refine wpAny_pyIter_tuple (show s1.heap.IsTuple a its.toArray from p) ?_
      refine ⟨s1.heap.objs.size, [s1.heap.objs.size], _, _, H1, rfl, I1.kept (t' := s1.toks) fun b o e => Heap.get?_push_of_some _ e, turn_tuple a _, ⟨_, Heap.get?_push_size _ rfl, rfl, rfl⟩, fun b hb => ?_, q⟩
      have e : b = s1.heap.objs.size := by simpa using hb
      subst e
      exact I1.fpOk (Nat.le_refl _) (I1.hok.fresh (Nat.le_refl _))
  · obtain ⟨t, rfl⟩ := r1
    cases ha : z.cps.all (· < 128)
    · exact wpAny_pyIter_wide ha (pi_one (tk := s1.toks) I1 _ (turn_str _ z t "str_iterator" (.inr rfl)) ⟨_, Heap.get?_push_size _ rfl, rfl, rfl⟩ q)
    · exact wpAny_pyIter_ascii ha (pi_one (tk := s1.toks) I1 _ (turn_str _ z t "str_ascii_iterator" (.inl rfl)) ⟨_, Heap.get?_push_size _ rfl, rfl, rfl⟩ q)
  · obtain rfl : v = Value.ref d := r1
    have go : ∀ o H2, Inv X pins σ H2 s1 → H2 d = some (.frz o (.dK kvs)) → R (Itk d o kvs) H2 → wpAny (model X.prog X.w) X.A (pyIter (.ref d)) (PIE X pins σ tg R) X.xe s1 := fun o H2 I2 hd q => by
      obtain ⟨hs, hgd, hx, es, ep, vs, hdt, hsz, kv, hm⟩ := I2.frzK hd
      refine iter_keys hs hgd hx hdt (pi_one (tk := s1.toks) I2 _ (turn_keys _ hdt) ⟨_, Heap.get?_push_size _ rfl, rfl, ?_⟩ q)
      rw [hsz] <;> rfl
    rcases q with ⟨hd, q⟩ | ⟨o, hd, q⟩
    · obtain ⟨o, I2⟩ := I1.lock hd True.intro
      exact go o _ I2 upd_same (q o)
    · exact go o _ I1 hd q
  · obtain rfl : v = Value.ref d := r1
    have go : ∀ o H2, Inv X pins σ H2 s1 → H2 d = some (.frz o (.dT kvs)) → R (Itkt d o kvs) H2 → wpAny (model X.prog X.w) X.A (pyIter (.ref d)) (PIE X pins σ tg R) X.xe s1 := fun o H2 I2 hd q => by
      obtain ⟨hs, hgd, hx, es, ep, hdt, hsz, ent⟩ := I2.frzT hd
      refine iter_keys hs hgd hx hdt (pi_one (tk := s1.toks) I2 _ (turn_keysT _ hdt) ⟨_, Heap.get?_push_size _ rfl, rfl, ?_⟩ q)
      rw [hsz] <;> rfl
    rcases q with ⟨hd, q⟩ | ⟨o, hd, q⟩
    · obtain ⟨o, I2⟩ := I1.lock hd True.intro
      exact go o _ I2 upd_same (q o)
    · exact go o _ I1 hd q
end
section
variable {X : Cx} {E : WX} {tg iter : Expr} {fa : ME} {pos : Pos}
def itOf (x : Ar) : Option (List Dv) := match x with
  | .v (.str z) => if z.length ≤ sizeLine then some (z.cps.toList.map fun c => .str ⟨#[c]⟩) else none
  | .v (.dct kvs) => some (kvs.map fun p => kD p.1)
  | x => stOf x
def mItA (f : ME) : MI := fun ρ m => (f ρ m).bind fun x m1 => match itOf x with
  | some ds => .ok ds m1
  | none => .no
theorem jok_str {c : Cf} {z : Str} : JOk c (Its z) [] (z.cps.toList.map fun c => .str ⟨#[c]⟩) := by
  intro ρ m σ H T i hT S
  have hl : (z.cps.toList.map fun c => Dv.str ⟨#[c]⟩).length = z.cps.size := by simp
  rw [hl]
  refine ⟨fun hi => hi, fun d hd x H' y => ?_, fun hi => hi⟩
  obtain ⟨e1, ch, e2, e3⟩ := y
  subst e1; subst e3
  simp only [List.getElem?_map, Option.map_eq_some_iff] at hd
  obtain ⟨c', h1, rfl⟩ := hd
  rw [Array.getElem?_toList, e2] at h1
  cases h1
  obtain ⟨G, μ, s⟩ := S
  exact ⟨G, μ, s.push (.str _)⟩
theorem jok_keys {c : Cf} {a : Addr} {o : Obj} {ws : List (Key × V)} {kvs : List (Key × Dv)} : JOk c (Itk a o ws) [tv (.ref a) (.lck o ws kvs)] (kvs.map fun p => kD p.1) := by
  intro ρ m σ H T i hT ⟨G, μ, s⟩
  have r := s.at (hT (tv (.ref a) (.lck o ws kvs)) (by simp))
  cases r with
  | lck g r =>
    have hh := s.mem.st.frz g
    have hlen := r.length
    have hk := r.keys
    refine ⟨fun hi => ⟨hh, by simp at hi; omega⟩, fun d' hd x H' y => ?_, fun hi => ⟨hh, by simp at hi; omega⟩⟩
    obtain ⟨e1, k, v, e2, e3⟩ := y
    subst e1; subst e3
    have e4 : (kvs.map (·.1))[i]? = some k := by rw [hk, List.getElem?_map, e2]; rfl
    simp only [List.getElem?_map, Option.map_eq_some_iff] at hd e4
    obtain ⟨p, h1, rfl⟩ := hd
    obtain ⟨p', h2, rfl⟩ := e4
    rw [h1] at h2; cases h2
    exact ⟨G, μ, s.push (kD_rep _)⟩
theorem i_any (ha : PX X E iter fa) : PIx X E tg iter (mItA fa) :=
  PIi (pi_any ha) fun σ H R ⟨b, ρ, m, T, S, w⟩ => by
    refine ⟨b, ρ, m, T, S, ?_⟩
    unfold mItA at w
    revert w
    cases fa ρ m with
    | no => exact id
    | ex x m1 => exact id
    | ok x m1 =>
      intro w v H1 ⟨G, μ, s⟩ hb
      rw [Rs.bind_ok] at w
      cases e : itOf x with
      | none => rw [e] at w; exact w.elim
      | some ds =>
        rw [e] at w
        cases x with
        | b i => cases e
        | v d =>
          have r : Rep X.K X.mg μ G d v := St3.top (T := T) s
          cases d with
          | str z =>
            cases r
            simp only [itOf] at e
            split at e
            · rename_i hz
              cases e
              exact .inr (.inl ⟨z, rfl, w _ H1 [] (by simp) (by simpa [Str.length] using hz) ⟨G, μ, s.pop⟩ jok_str⟩)
            · cases e
          | dct kvs =>
            cases e
            cases r with
            | @dct _ a ws h z r =>
              have fin : ∀ o H2, St3 (b.cf X.K X.mg) ρ m1 σ H2 (tv (.ref a) (.dct kvs) :: T) (upd G a (.frz o (.dK ws))) μ → Ex G (upd G a (.frz o (.dK ws))) → R (Itk a o ws) H2 := fun o H2 s2 ex =>
                w _ H2 [tv (.ref a) (.lck o ws kvs)] (fun p hp => by simp at hp; subst hp; exact ownA_val) (by simpa using z) ⟨_, μ, s2.pop.push (.lck upd_same (r.mono ex (.refl _)))⟩ jok_keys
              refine .inr (.inr (.inl ⟨a, ws, rfl, ?_⟩))
              rcases h with h | ⟨o, h⟩
              · rcases s.mem.st a _ h with q | ⟨_, o, q⟩
                · exact .inl ⟨q, fun o => fin o _ (s.lock h (.inl ⟨_, rfl⟩) upd_same fun b hb => upd_ne hb) (ex_lock h (.inl ⟨_, rfl⟩))⟩
                · exact .inr ⟨o, q, fin o _ (s.lock h (.inl ⟨_, rfl⟩) q fun b hb => rfl) (ex_lock h (.inl ⟨_, rfl⟩))⟩
              · exact .inr ⟨o, s.mem.st.frz h, w _ H1 [tv (.ref a) (.lck o ws kvs)] (fun p hp => by simp at hp; subst hp; exact ownA_val) (by simpa using z) ⟨G, μ, s.pop.push (.lck h r)⟩ jok_keys⟩
          | lst xs =>
            have e : stOf (.v (.lst xs)) = some ds := e
            obtain ⟨a, vs, rfl, ha, ra, z⟩ := st_rep s.mem.st r e
            refine .inl ⟨a, rfl, ?_⟩
            cases r with
            | lst h z' r' => exact .inl ⟨⟨_, SqL.of (s.mem.st.l h)⟩, w _ H1 [tv (.ref a) (.lst xs)] (tva_own (v := .ref a) (x := .v (.lst xs))) z ⟨G, μ, s⟩ (jok_list e fun μ G H st r => by
                cases e
                cases r with
                | lst h z r => exact ⟨_, SqL.of (st.l h), r⟩)⟩
          | scr ns =>
            have e : stOf (.v (.scr ns)) = some ds := e
            obtain ⟨a, vs, rfl, ha, ra, z⟩ := st_rep s.mem.st r e
            refine .inl ⟨a, rfl, ?_⟩
            cases r with
            | scr h => exact .inl ⟨⟨_, s.mem.st.lst h⟩, w _ H1 [tv (.ref a) (.scr ns)] (tva_own (v := .ref a) (x := .v (.scr ns))) z ⟨G, μ, s⟩ (jok_list e fun μ G H st r => by
                obtain ⟨a', vs, e1, e2, e3, _⟩ := st_rep st r e
                cases e1
                cases r with
                | scr h =>
                  simp [stOf] at e
                  have e := e.2
                  subst e
                  exact ⟨_, st.lst h, ints_rep _⟩)⟩
          | tup xs =>
            have e : stOf (.v (.tup xs)) = some ds := e
            obtain ⟨a, vs, rfl, ha, ra, z⟩ := st_rep s.mem.st r e
            refine .inl ⟨a, rfl, ?_⟩
            cases r with
            | tup h z' r' => exact .inr ⟨⟨_, SqT.of (s.mem.st.t h)⟩, w _ H1 [tv (.ref a) (.tup xs)] (tva_own (v := .ref a) (x := .v (.tup xs))) z ⟨G, μ, s⟩ (jok_tup e fun μ G H st r => by
                cases e
                cases r with
                | tup h z r => exact ⟨_, SqT.of (st.t h), r⟩)⟩
          | ktp xs =>
            have e : stOf (.v (.ktp xs)) = some ds := e
            obtain ⟨a, vs, rfl, ha, ra, z⟩ := st_rep s.mem.st r e
            refine .inl ⟨a, rfl, ?_⟩
            cases r with
            | ktp h r' => exact .inr ⟨⟨_, s.mem.st.tup h⟩, w _ H1 [tv (.ref a) (.ktp xs)] (tva_own (v := .ref a) (x := .v (.ktp xs))) z ⟨G, μ, s⟩ (jok_tup e fun μ G H st r => by
                simp [stOf] at e
                have e := e.2
                subst e
                cases r with
                | ktp h r => exact ⟨_, st.tup h, r⟩)⟩
          | _ => cases e
end
end M3
set_option Elab.async false
set_option linter.all false
set_option autoImplicit false
set_option maxRecDepth 100000
set_option maxHeartbeats 2000000
namespace PySem
open PySem.Sem
section
variable {prog : Program} {w : World} {A : Around} {E : Value → Shared → Prop} {s : Shared}
end
end PySem
namespace M3
open PySem L2 PySem.Spec PyProof.Rows
section
variable {X : Cx} {E : WX} {e e2 : Expr} {fa fb : ME} {f2 : MA} {p pos tpos cpos apos : Pos} {elts : List Expr} {kk : Nat}
def enOf (x : Ar) : Option (List Dv) := match x with
  | .v (.str z) => if z.length ≤ sizeLine then some (z.cps.toList.map fun c => .str ⟨#[c]⟩) else none
  | x => stOf x
def numD (ds : List Dv) : List Dv := ds.mapIdx fun i d => .tup [.int (i : Nat), d]
def mEn (f : ME) : MI := fun ρ m => (f ρ m).bind fun x m1 => match enOf x with
  | some ds => .ok (numD ds) m1
  | none => .no
def zipD : List Dv → List Dv → List Dv
  | d :: ds, e :: es => .tup [d, e] :: zipD ds es
  | _, _ => []
end
end M3
set_option Elab.async false
set_option linter.all false
set_option autoImplicit false
set_option maxRecDepth 100000
set_option maxHeartbeats 2000000
namespace M3
open PySem L2 PySem.Spec PyProof.Rows
def dcL (g : MG) (t : MB) (fk fv : ME) (ρ : Sl) : List Dv → List (Key × Dv) → Mm → Rs (List (Key × Dv))
  | [], acc, m => .ok acc m
  | d :: ds, acc, m => match g d ρ with
    | none => .no
    | some ρ1 => match t ρ1 m with
      | .ok k m1 => if k = true then match fk ρ1 m1 with
          | .ok (.v y) m2 => match fv ρ1 m2 with
            | .ok (.v z) m3 => match keyD y with
              | some k => if acc.length < sizeLine then dcL g t fk fv ρ ds (dput acc k z) m3 else .no
              | none => .no
            | _ => .no
          | _ => .no
        else dcL g t fk fv ρ ds acc m1
      | _ => .no
def mDc (vs : List Nat) (it : MI) (g : MG) (t : MB) (fk fv : ME) : MN := fun ρ m => (it ρ m).bind fun ds m1 => match dcL g t fk fv (wipeR ρ vs) ds [] m1 with
  | .ok ys m2 => .ok (.dct ys) m2
  | _ => .no
section
variable {X : Cx} {E : WX} {tg iter elt kx vx e e2 o : Expr} {ifs : List Expr} {scope : Scope} {own : List (Str × Nat)} {fa fb fk fv fo : ME} {pos apos p : Pos} {g : MG} {it : MI} {t : MB} {is : List Nat} {x : Str}
def isDct (ρ : Sl) (m : Mm) (x : Ar) : Bool := (dctOf ρ m x).isSome || (dcTOf ρ m x).isSome
def mGet2 (fo fa fb : ME) : ME := fun ρ m => (fo ρ m).bind fun x m1 => if isDct ρ m1 x = true then (fa ρ m1).bind fun y m2 => match y with
    | .v yd => (fb ρ m2).bind fun z m3 => match z with
      | .v d => match dlook ρ m3 x (.v yd) with
        | some (some r) => .ok (.v r) m3
        | some none => .ok (.v d) m3
        | none => .no
      | .b _ => .no
    | .b _ => .no
  else .no
def prD : Dv → Option (Key × Dv)
  | .tup [k, v] => (keyD k).map fun k => (k, v)
  | _ => none
def prsD : List Dv → Option (List (Key × Dv))
  | [] => some []
  | d :: ds => match prD d, prsD ds with
    | some p, some ps => some (p :: ps)
    | _, _ => none
def mergeD (acc : List (Key × Dv)) (kvs : List (Key × Dv)) : List (Key × Dv) := kvs.foldl (fun acc kv => dput acc kv.1 kv.2) acc
def gDict : Sl → Mm → Ar → Rs Ob := fun ρ m x => match dctOf ρ m x with
  | some kvs => .ok (.dct kvs) m
  | none => match (lstOf ρ m x).bind prsD with
    | some kvs => .ok (.dct (mergeD [] kvs)) m
    | none => .no
end
end M3
set_option Elab.async false
set_option linter.all false
set_option autoImplicit false
set_option maxRecDepth 100000
set_option maxHeartbeats 2000000
namespace PpSet
open PySem PySem.Spec PyProof.Rows L2
section
variable {X : Cx}
end
end PpSet
namespace M3
open PySem L2 PySem.Spec PyProof.Rows
def insU (i : Int) : List Int → List Int
  | [] => [i]
  | j :: r => if i < j then i :: j :: r else if i = j then j :: r else j :: insU i r
def sortU : List Int → List Int
  | [] => []
  | i :: r => insU i (sortU r)
def mSortSc (vs : List Nat) (it : MI) (g : MG) (t : MB) (f : ME) : MN := fun ρ m => (it ρ m).bind fun ds m1 => if ds.length < 64 then match lcL g t f (wipeR ρ vs) ds m1 with
  | .ok ys m2 => match intsD ys with
    | some ns => .ok (.lst ((sortU ns).map .int)) m2
    | none => .no
  | _ => .no
  else .no
section
variable {X : Cx} {E : WX} {tg iter elt : Expr} {ifs : List Expr} {scope : Scope} {own : List (Str × Nat)} {fa : ME} {pos p pos2 : Pos} {g : MG} {it : MI} {t : MB} {is : List Nat}
end
end M3
set_option Elab.async false
set_option linter.all false
set_option autoImplicit false
set_option maxRecDepth 100000
set_option maxHeartbeats 2000000
namespace M3
open PySem L2 PySem.Spec PyProof.Rows
section
variable {prog : Program} {w : World} {A : Around} {R : Result → Shared → Prop} {I : Addr} {fp wr : List Addr} {G : Array GenState → Array GenState → Prop} {n : Nat} {P : Nat → Value → Prop} {St : Nat → Shared → Prop}
end
section
variable {prog : Program} {w : World} {A : Around} {E : Value → Shared → Prop} {s : Shared}
end
end M3
set_option Elab.async false
set_option linter.all false
set_option autoImplicit false
set_option maxRecDepth 100000
set_option maxHeartbeats 2000000
namespace M3
open PySem L2 PySem.Spec PyProof.Rows
section
variable {X : Cx} {E : WX} {a e : Expr} {es : List Expr} {fa : ME} {fs : MA} {p p2 q pos : Pos} {ta : TE}
def mNoS : MS := fun _ _ => .no
theorem ss_no {st : List Stmt} : PSsx X E st mNoS := ⟨fun pins s σ H D I ⟨b, ρ, m, T, S, w⟩ => w.elim⟩
def tyD : Dv → Option String
  | .non => some "NoneType"
  | .bl _ => some "bool"
  | .int _ => some "int"
  | .str _ => some "str"
  | .lst _ => some "list"
  | .scr _ => some "list"
  | .tup _ => some "tuple"
  | .ktp _ => some "tuple"
  | .dct _ => some "dict"
  | _ => none
def isT (a b : String) : Bool := a == b || (a == "bool" && b == "int")
def okT (b : String) : Bool := b == "NoneType" || b == "bool" || b == "int" || b == "str" || b == "list" || b == "tuple" || b == "dict"
theorem kit_isT {a b : String} (ha : okT a = true) (hb : okT b = true) : kitB a b = some (isT a b) := by
  unfold okT at ha hb
  simp only [Bool.or_eq_true, beq_iff_eq] at ha hb
  rcases ha with (((((rfl | rfl) | rfl) | rfl) | rfl) | rfl) | rfl <;> rcases hb with (((((rfl | rfl) | rfl) | rfl) | rfl) | rfl) | rfl <;> decide +kernel
theorem tyD_ok {d : Dv} {t : String} (h : tyD d = some t) : okT t = true := by
  cases d <;> simp only [tyD, reduceCtorEq, Option.some.injEq] at h <;> subst h <;> decide
theorem tyD_at {K : PySem.W.Frag} {mg : Str → Option Value} {μ : List Addr} {G H : Hp} {d : Dv} {v : V} {t : String} (st : Stands G H) (r : Rep K mg μ G d v) (e : tyD d = some t) : TyX K H v (.type t) := by
  have hL : ∀ {a : Addr} {xs : List V}, SqL K H a xs → TyX K H (.ref a) (.type "list") := fun {a xs} h => by
    rcases h with (h | ⟨o, h⟩) | ⟨o, its, n, h, hc, _⟩
    · exact .base (.lst h)
    · exact .base (.frz h)
    · exact .kList h hc
  have hT : ∀ {a : Addr} {xs : List V}, SqT K H a xs → TyX K H (.ref a) (.type "tuple") := fun {a xs} h => by
    rcases h with (h | ⟨o, h⟩) | ⟨o, its, n, h, hc, _⟩
    · exact .base (.tup h)
    · exact .fTuple h
    · exact .kTuple h hc
  cases r <;> simp only [tyD, reduceCtorEq, Option.some.injEq] at e <;> subst e
  case non => exact .base .non
  case bl => exact .base (.bl _)
  case int => exact .base (.int _)
  case str => exact .base (.str _)
  case lst h z r => exact hL (SqL.of (st.l h))
  case scr h => exact hL (st.lst h)
  case tup h z r => exact hT (SqT.of (st.t h))
  case ktp h r => exact hT (st.tup h)
  case dct h z r =>
    rcases st.rdD h with h | ⟨o, h⟩
    · exact .base (.dK h)
    · exact .fDict h
def tysD : List Dv → Option (List String)
  | [] => some []
  | .ty n :: r => if okT n = true then (tysD r).map (n :: ·) else none
  | _ :: _ => none
def gIsi : Sl → Mm → List Dv → Rs Ar := fun _ m ds => match ds with
  | [x, .ty n] => match tyD x with
    | some t => if okT n = true then .ok (.v (.bl (isT t n))) m else .no
    | none => .no
  | [x, .tup cs] => match tyD x, tysD cs with
    | some t, some ns => .ok (.v (.bl (ns.any (isT t)))) m
    | _, _ => .no
  | _ => .no
def rIsiU (K : PySem.W.Frag) : List V → Hp → VK → Prop := fun xs H Q => rIsi K xs H Q ∨ rIsiT K xs H Q
theorem call_isiU : CallR X (.builtin "isinstance") (rIsiU X.K) := CallR.or call_isi call_isiT
theorem tys_rep {K : PySem.W.Frag} {mg : Str → Option Value} {μ : List Addr} {G : Hp} {t : String} (ht : okT t = true) : ∀ {cs : List Dv} {vs : List V} {ns : List String}, RepL K mg μ G cs vs → tysD cs = some ns → Paired ClsV vs (ns.map Value.type) ∧ PySem.W.kitAny K (.type t) (ns.map Value.type) = some (ns.any (isT t))
  | [], _, ns, .nil, e => by simp [tysD] at e; subst e; exact ⟨.nil, kitAny_nil⟩
  | d :: ds, _, ns, .cons a b, e => by
    cases d <;> simp only [tysD, reduceCtorEq] at e
    split at e
    · rename_i hn
      rw [Option.map_eq_some_iff] at e
      obtain ⟨r, h1, rfl⟩ := e
      obtain ⟨q1, q2⟩ := tys_rep ht b h1
      cases a
      refine ⟨.cons (.ty _) q1, ?_⟩
      refine kitAny_cons (kit_ty (kit_isT ht hn)) (fun hb => ?_) (fun hb => ?_)
      · rw [List.any_cons, hb]; exact q2
      · rw [List.any_cons, hb]; rfl
    · cases e
theorem x_ty {x : Str} {n : String} (hg : Gl X x) (hm : X.mg x = none) (hv : bootBuiltins x = some (.type n)) (hn : x ≠ "__name__" := by decide) (hd : (x == ("__debug__" : Str)) = false := by decide) : PX X E (.Name x pos) (mC (.ty n)) :=
  PEi (pe_bltn (v := .ty n) hg hm hv rfl hn hd) fun σ H Q ⟨b, ρ, m, T, ⟨G, μ, s⟩, w⟩ => Want.s w s rfl
end
end M3
set_option Elab.async false
set_option linter.all false
set_option autoImplicit false
set_option maxRecDepth 100000
set_option maxHeartbeats 2000000
namespace M3
open PySem L2 PySem.Spec PyProof.Rows
structure Sg where
  P : Program
  w : World
  K : PySem.W.Frag
  mg : Str → Option Value
  base : Heap
abbrev sg (X : Cx) : Sg := ⟨X.prog, X.w, X.K, X.mg, X.base⟩
def Gc (S : Sg) (v : Value) (n : Nat) (ks : List Str) (k : Nat) (F : MF) : Prop :=
  ∃ f, v = .ref f ∧ PySem.W.keepIn S.K (.ref f) = true ∧ ((∃ fd ps g gV F0, Fn3 S.P S.w S.K S.mg S.base k f fd ps F0 ∧ KBn S.K fd ps n ks g gV ∧ ReArg S.K S.mg ps.length (n + ks.length) F F0 fun l => gV (l.take n) (l.drop n)) ∨
    (ks = [] ∧ FnR S.P S.w S.K S.mg S.base (L2.CX S.P S.w) k f (sp3 n S.K S.mg F)))
def Gm (S : Sg) (C : Addr) (n : Nat) (ks : List Str) (k : Nat) (F : MF) : Prop :=
  ∃ f, Mk S.K C f ∧ ((∃ fd ps g gV F0, Fn3 S.P S.w S.K S.mg S.base k f fd ps F0 ∧ KBn S.K fd ps (n + 1) ks g gV ∧ ReArg S.K S.mg ps.length (n + ks.length + 1) F F0 fun l => gV (l.take (n + 1)) (l.drop (n + 1))) ∨
    (ks = [] ∧ FnR S.P S.w S.K S.mg S.base (L2.CX S.P S.w) k f (sp3 (n + 1) S.K S.mg F)))
def GF (S : Sg) (x : Str) (n : Nat) (ks : List Str) (k : Nat) (F : MF) : Prop := ∃ v, S.mg x = some v ∧ Gc S v n ks k F
def GM (S : Sg) (cn mn : Str) (n : Nat) (ks : List Str) (k : Nat) (F : MF) : Prop := ∃ C f, S.mg cn = some (.ref C) ∧ Cls S.K C ∧ Meth S.K C mn f ∧ Gc S (.ref f) (n + 1) ks k F
def GN (S : Sg) (cn : Str) (n : Nat) (ks : List Str) (k : Nat) (F : MF) : Prop := ∃ C, S.mg cn = some (.ref C) ∧ Gm S C n ks k F
def GA (S : Sg) (cn f : Str) : Prop := ∃ C, S.mg cn = some (.ref C) ∧ Cls S.K C ∧ NoAttr S.K C f
def GP (S : Sg) (cn pf : Str) (k : Nat) (F : MF) : Prop := ∃ C pr g, S.mg cn = some (.ref C) ∧ Cls S.K C ∧ PropOf S.K C pf pr g ∧ Def3n S.P S.w S.K S.mg S.base k g 1 F
def GK (S : Sg) (x : Str) (d : Dv) : Prop := ∃ u v, S.mg x = some u ∧ RelV v u ∧ ∀ μ G, Rep S.K S.mg μ G d v
section
variable {X : Cx} {E : WX} {v : Value} {n k k' : Nat} {ks : List Str} {F : MF} {C : Addr}
theorem Gc.mono {S : Sg} (G : Gc S v n ks k F) (h : k ≤ k') : Gc S v n ks k' F := by
  obtain ⟨f, rfl, hk, q⟩ := G
  rcases q with ⟨fd, ps, g, gV, F0, ok, hb, re⟩ | ⟨rfl, ok⟩
  · exact ⟨f, rfl, hk, .inl ⟨fd, ps, g, gV, F0, FnOk.mono ok h, hb, re⟩⟩
  · exact ⟨f, rfl, hk, .inr ⟨rfl, FnR.mono ok h⟩⟩
theorem Gc.call (G : Gc (sg X) v n ks k F) (hr : Room k X.A) (tk : Takes X E) : CallV X E v n ks F := by
  obtain ⟨f, rfl, hk, q⟩ := G
  rcases q with ⟨fd, ps, g, gV, F0, ok, hb, re⟩ | ⟨rfl, ok⟩
  · exact callV_of ok hk hr tk hb re
  · exact callV_R ok hk hr tk
theorem callM_R {f : Addr} (M : Mk X.K C f) (ok : FnR X.prog X.w X.K X.mg X.base (L2.CX X.prog X.w) k f (sp3 (n + 1) X.K X.mg F)) (hr : Room (k + 1) X.A) (tk : Takes X E) : CallM X E C n [] F :=
  ⟨M.kp, fun pins s σ H Q us ws vs zs I r rz l1 l2 h => by
    have : ws = [] := List.eq_nil_of_length_eq_zero (rz.length.symm.trans l2)
    subst this
    cases rz
    rw [List.append_nil] at h
    have hq := h (s.heap.objs.size + 1) s.heap.objs.size (I.hok.fresh (Nat.le_succ _)) (I.hok.fresh (Nat.le_refl _)) (Nat.ne_of_lt (Nat.lt_succ_self _))
    have I2 := Inv.made (C := C) I
    have r2 : Vals (V.ref (s.heap.objs.size + 1) :: vs) (Value.ref (s.heap.objs.size + 1) :: us) := .cons rfl r
    refine wpAny_call (make_map (f := f) I.kIn M.makes M.init (beq_iff_eq.mp M.fn) (codeAny_mono (ok _ X.stack _ _ (Value.ref (s.heap.objs.size + 1) :: us) _ _ (WE E σ) (hr.make C us []) (I2.env0.make C us []) r2 hq) fun r s' hq' => ?_))
    cases r with
    | error e => exact passAt tk σ pins _ _ e s' I2 hq'
    | ok fl =>
      cases fl with
      | ret u =>
        obtain ⟨v, H', I3, rv, ev, q3⟩ := I2.after hq'
        subst ev
        exact ⟨rv, ⟨V.ref (s.heap.objs.size + 1), H', I3, rfl, q3⟩⟩
      | next => exact False.elim hq'
      | brk => exact False.elim hq'
      | cont => exact False.elim hq'⟩
theorem Gm.call (G : Gm (sg X) C n ks k F) (hr : Room (k + 1) X.A) (tk : Takes X E) : CallM X E C n ks F := by
  obtain ⟨f, M, ⟨fd, ps, g, gV, F0, ok, hb, re⟩ | ⟨rfl, ok⟩⟩ := G
  · exact callM_of M ok hr tk hb re
  · exact callM_R M ok hr tk
end
section
variable {X : Cx} {E : WX} {x cn mn : Str} {o e : Expr} {args es : List Expr} {kws : List Keyword} {fo : ME} {fs fk : MA} {pos p apos : Pos} {n k : Nat} {ks : List Str} {F : MF} {d : Dv}
theorem y_fn (G : GF (sg X) x n [] k F) (hr : Room k X.A) (tk : Takes X E) (hg : Gl X x) (ha : PXs X E args fs) (A : ArgsOk pos args [] [] X.env) (hn : args = [] → fs = mNil) (hdb : (x == ("__debug__" : Str)) = false := by decide) : PX X E (.Call (.Name x p) args [] pos) (mCall n F fs) :=
  let ⟨_, hm, g⟩ := G
  x_callP (g.call hr tk) hm hg ha A hn hdb
theorem y_me {pl : Sem Bool} (G : GM (sg X) cn mn n [] k F) (hr : Room k X.A) (tk : Takes X E) (ho : PX X E o fo) (ha : PXs X E args fs) (A : ArgsOk pos args [] [] X.env) (hn : args = [] → fs = mNil)
    (ht : eval (.Call (.Attribute o mn apos) args [] pos) X.env = (do
      let ov ← eval o X.env
      standAt apos.atName
      let (f, first) ← holding [ov] (getMethod ov mn pl)
      callWith pos f first (backTo pos (starEach args X.env)) (backToKw pos (keywordEach [] X.env))) := by rfl) : PX X E (.Call (.Attribute o mn apos) args [] pos) (mMeth cn mn (n + 1) F fo fs) :=
  let ⟨_, _, hC, c, hm, g⟩ := G
  x_methP hC c hm (g.call hr tk) ho ha A hn ht
theorem y_meK {pl : Sem Bool} (G : GM (sg X) cn mn n ks k F) (hr : Room k X.A) (tk : Takes X E) (ho : PX X E o fo) (ha : PXs X E args fs) (hk : PKs X E kws fk) (A : ArgsOk pos args kws ks X.env) (hn : args = [] → fs = mNil)
    (ht : eval (.Call (.Attribute o mn apos) args kws pos) X.env = (do
      let ov ← eval o X.env
      standAt apos.atName
      let (f, first) ← holding [ov] (getMethod ov mn pl)
      callWith pos f first (backTo pos (starEach args X.env)) (backToKw pos (keywordEach kws X.env))) := by rfl) : PX X E (.Call (.Attribute o mn apos) args kws pos) (mMeth cn mn (n + ks.length + 1) F fo (mArgs n ks.length fs fk)) :=
  let ⟨_, _, hC, c, hm, g⟩ := G
  x_methK hC c hm (g.call hr tk) ho ha hk A hn ht
theorem y_mk (G : GN (sg X) x n [] k F) (hr : Room (k + 1) X.A) (tk : Takes X E) (hg : Gl X x) (ha : PXs X E args fs) (A : ArgsOk pos args [] [] X.env) (hn : args = [] → fs = mNil) (hdb : (x == ("__debug__" : Str)) = false := by decide) : PN X E (.Call (.Name x p) args [] pos) (mMake x (n + 1) F fs) :=
  let ⟨_, hC, g⟩ := G
  n_makeP hC hg (g.call hr tk) ha A hn hdb
theorem y_mkK (G : GN (sg X) x n ks k F) (hr : Room (k + 1) X.A) (tk : Takes X E) (hg : Gl X x) (ha : PXs X E args fs) (hk : PKs X E kws fk) (A : ArgsOk pos args kws ks X.env) (hn : args = [] → fs = mNil) (hdb : (x == ("__debug__" : Str)) = false := by decide) : PN X E (.Call (.Name x p) args kws pos) (mMake x (n + ks.length + 1) F (mArgs n ks.length fs fk)) :=
  let ⟨_, hC, g⟩ := G
  n_makeK hC hg (g.call hr tk) ha hk A hn hdb
theorem y_fld {f : Str} (G : GA (sg X) cn f) (ho : PX X E o fo) (hb : attributeBase o f X.env (eval o X.env) = eval o X.env := by rfl) : PX X E (.Attribute o f pos) (mFld cn f fo) :=
  let ⟨_, hC, c, h⟩ := G
  x_fld hC c h ho hb
theorem y_set {f : Str} {fv : ME} {pos' : Pos} (G : GA (sg X) cn f) (ho : PX X E o fo) (hv : PX X E e fv) (hs : swapsWith e (some (.Attribute o f pos')) pos.line X.env = pure false := by rfl) : PSx X E (.Assign [.Attribute o f pos'] e pos) (mStF cn f fv fo) :=
  let ⟨_, hC, c, h⟩ := G
  s_fld hC c h ho hv hs
theorem y_pr {pf : Str} (G : GP (sg X) cn pf k F) (hr : Room (k + 1) X.A) (ho : PX X E o fo) (hab : attributeBase o pf X.env (eval o X.env) = eval o X.env := by rfl) : PX X E (.Attribute o pf pos) (mProp cn F fo) :=
  let ⟨_, _, _, hC, c, hp, D⟩ := G
  x_prop hC c hp D hr ho hab
theorem y_con (G : GK (sg X) x d) (hg : Gl X x) (hd : (x == ("__debug__" : Str)) = false := by decide) : PX X E (.Name x pos) (mC d) :=
  let ⟨_, _, hm, r, h⟩ := G
  x_glob hg hm r h hd
theorem tk_blk {scope : Scope} {s : Shared} {H : Hp} {cenv : Env} {fp : List Addr} : Takes (X.blk s H scope cenv fp) EN := fun u s' ⟨_, _, _, _, _, _, _, _, _, _, _, _, _, _, _, _, w⟩ => w.elim
end
end M3
set_option Elab.async false
set_option linter.all false
set_option autoImplicit false
set_option maxRecDepth 100000
set_option maxHeartbeats 2000000
namespace M3
open PySem L2 PySem.Spec PyProof.Rows
def visB (sc : Scope) (x : Str) : Bool := match sc.names.lookup x with
  | some .local => true
  | some .cell => true
  | some .free => true
  | _ => false
def locB (sc : Scope) (x : Str) : Bool := match sc.names.lookup x with
  | some .local => true
  | some .cell => true
  | _ => false
def flB (sc fsc : Scope) (x : Str) : Bool := match sc.names.lookup x with
  | some .local => true
  | _ => match fsc.names.lookup x with
    | some .cell => true
    | _ => false
section
variable {X : Cx} {N : List Str} {sc fsc : Scope} (h : Nm X N sc fsc) {x : Str}
include h
theorem Nm.vis (e : visB sc x = true) : Vis X.env.scope x := by
  unfold visB at e
  split at e
  · exact h.loc (by assumption)
  · exact h.cell (by assumption)
  · exact h.free (by assumption)
  · cases e
theorem Nm.lo (e : locB sc x = true) : Loc X.env.scope x := by
  unfold locB at e
  split at e
  · exact h.locL (by assumption)
  · exact h.locC (by assumption)
  · cases e
theorem Nm.fl (e : flB sc fsc x = true) : X.fn x = true ∨ X.env.scope.names.lookup x = some .local := by
  unfold flB at e
  split at e
  · exact h.fnL (by assumption)
  · split at e
    · exact h.fnC (by assumption)
    · cases e
theorem Nm.sw {elt : Expr} {gs : List Comprehension} {scope : Scope} {pos py : Pos} {l : Nat} (hk : sc.kind = .function) (e : sc.names.lookup x = some .local) (hl : (py.line == pos.line) = true)
    (ha : (scope.names.any fun (n, k) => n == x && (k == .local || k == .cell)) = false) : swapsWith (.ListComp elt gs scope pos) (some (.Name x py)) l X.env = pure true :=
  sw_true (by rw [h.hsc]; exact hk) (h.lk e) hl ha
end
def envS (sc : Scope) : Env := { scope := sc, locals := 0, globals := 0, cells := [], qual := Str.empty, func := none, code := .none, frame := none, builtins := 0 }
theorem Nm.swp {X : Cx} {N : List Str} {sc fsc : Scope} (h : Nm X N sc fsc) {ts : List Expr} {v : Expr} {r : Sem (Option (List Str))} (e : swappedStores ts v (envS sc) = r) : swappedStores ts v X.env = r := by
  have q : swappedStores ts v X.env = swappedStores ts v (envS X.env.scope) := rfl
  rw [q, h.hsc]; exact e
theorem s_parC {X : Cx} {E : WX} {i j : Nat} {x y : Str} {a b : Expr} {f : MC} {px py pt pos : Pos} {kt k2 pt2} (hc : X.calm = true) (hN : X.N.Nodup) (hi : X.N[i]? = some x) (hj : X.N[j]? = some y)
    (hx : Loc X.env.scope x) (hy : Loc X.env.scope y) (fx : X.fn x = true ∨ X.env.scope.names.lookup x = some .local) (fy : X.fn y = true ∨ X.env.scope.names.lookup y = some .local) (ha : PCs X E [a, b] f)
    (hw : swappedStores [.Tuple [.Name x px, .Name y py] kt pt] (.Tuple [a, b] k2 pt2) X.env = pure none)
    (hs : swapsWithSole [.Tuple [.Name x px, .Name y py] kt pt] (.Tuple [a, b] k2 pt2) pos.line X.env = pure false := by rfl) :
    PSx X E (.Assign [.Tuple [.Name x px, .Name y py] kt pt] (.Tuple [a, b] k2 pt2) pos) (mPar i j f) :=
  PSi (ps_asg (pe_tup ha) (pg_tup (n := 2) hc (pgs_cons (pg_name hN hi hx fx) (pgs_cons (pg_name hN hj hy fy) pgs_nil))) hs hw) fun D σ H ⟨b, ρ, m, T, S, w⟩ => by
    refine ⟨b, ρ, m, T, S, ?_⟩
    unfold mPar at w
    revert w
    cases f ρ m with
    | no => exact fun h => h
    | ex x m1 => exact fun w => w σ
    | ok ys m1 =>
      intro w vs H1 hl S1
      rw [Rs.st_ok] at w
      split at w
      · rename_i x y
        split at w
        · rename_i z
          match vs, hl, S1 with
          | [u, v], _, S1 =>
            have S1 : S3 (b.cf X.K X.mg) ρ m1 σ H1 ((some u, x) :: (some v, y) :: T) := S1
            refine ⟨by show 2 ≤ sizeLine; decide, fun p hp => ⟨p, [u, v], rfl, SqT.of upd_same, rfl, u, [v], rfl, v, [], rfl, rfl, w _ _ ?_⟩⟩
            obtain ⟨G, μ, s⟩ := S1
            have S2 : S3 (b.cf X.K X.mg) ρ m1 σ (upd H1 p (.tup [u, v])) ((some u, x) :: (some v, y) :: T) := ⟨G, μ, s.newU hp⟩
            have := S2.setC (i := i) (fun e => by subst e; simp [isUn] at z)
            exact this.setC (i := j) (fun e => by subst e; simp [isUn] at z)
        · exact w.elim
      · exact w.elim
theorem bt_len : bootBuiltins "len" = some (.builtin "len") := by decide +kernel
theorem bt_all : bootBuiltins "all" = some (.builtin "all") := by decide +kernel
theorem bt_max : bootBuiltins "max" = some (.builtin "max") := by decide +kernel
theorem bt_isinstance : bootBuiltins "isinstance" = some (.builtin "isinstance") := by decide +kernel
theorem bt_int : bootBuiltins "int" = some (.type "int") := by decide +kernel
theorem bt_str : bootBuiltins "str" = some (.type "str") := by decide +kernel
theorem bt_bool : bootBuiltins "bool" = some (.type "bool") := by decide +kernel
theorem bt_list : bootBuiltins "list" = some (.type "list") := by decide +kernel
theorem bt_tuple : bootBuiltins "tuple" = some (.type "tuple") := by decide +kernel
theorem hu64_of {A : Around} {k : Nat} (hr : Room k A) : A.units + 64 < cLine := by have := hr.un; omega
theorem hu65_of {A : Around} {k : Nat} (hr : Room k A) : A.units + 65 < cLine := by have := hr.un; omega
theorem hu1_of {A : Around} {k : Nat} (hr : Room k A) : A.units + 1 < cLine := by have := hr.un; omega
section
variable {P : Program} {w : World} {K : PySem.W.Frag} {mg : Str → Option Value} {base : Heap} {N : List Str} {qual : Str} {sc : Scope} {f : Addr} {cdv : Value} {A : Around} {outer : List Env} {s : Shared} {H : Hp} {E : XK}
theorem tk_def : Takes (cxOf (L2.CX P w) P w K mg base N qual sc f cdv A outer s H E) (WF E) := takes_of rfl rfl rfl rfl
theorem hp_def : PassesOwn (model P w) (cxOf (L2.CX P w) P w K mg base N qual sc f cdv A outer s H E).A (cxOf (L2.CX P w) P w K mg base N qual sc f cdv A outer s H E).env (cxOf (L2.CX P w) P w K mg base N qual sc f cdv A outer s H E).xe :=
  passes_of (X := cxOf (L2.CX P w) P w K mg base N qual sc f cdv A outer s H E) rfl
end
end M3
set_option Elab.async false
set_option linter.all false
set_option autoImplicit false
set_option maxRecDepth 100000
set_option maxHeartbeats 2000000
namespace M3
open PySem L2 PySem.Spec PyProof.Rows
section
variable {P : Program} {w : World} {K : PySem.W.Frag} {mg : Str → Option Value} {base : Heap} {k n : Nat} {f : Addr} {fd : FuncData} {ps ks : List Str} {F F' : MF} {g : List Value → List Value → List Value} {gV : List V → List V → List V} {C : Addr} {cn mn x : Str}
theorem gc_all (ok : Fn3 P w K mg base k f fd ps F) (hk : PySem.W.keepIn K (.ref f) = true) (hb : Binds K fd ps []) (hn : ps.length = n) : Gc ⟨P, w, K, mg, base⟩ (.ref f) n [] k F := by
  subst hn
  exact ⟨f, rfl, hk, .inl ⟨fd, ps, _, _, F, ok, kbn_all hb, reArg_id⟩⟩
theorem gc_kw (ok : Fn3 P w K mg base k f fd ps F) (hk : PySem.W.keepIn K (.ref f) = true) (kb : KBn K fd ps n ks g gV) (re : ReArg K mg ps.length (n + ks.length) F' F fun l => gV (l.take n) (l.drop n)) : Gc ⟨P, w, K, mg, base⟩ (.ref f) n ks k F' :=
  ⟨f, rfl, hk, .inl ⟨fd, ps, g, gV, F, ok, kb, re⟩⟩
theorem gm_star {j : Nat} (M : Mk K C f) (ok : FnR P w K mg base (L2.CX P w) k f (sp3 (n + 1) K mg (starF j F))) : Gm ⟨P, w, K, mg, base⟩ C n [] k (starF j F) :=
  ⟨f, M, .inr ⟨rfl, ok⟩⟩
theorem gm_kw (M : Mk K C f) (ok : Fn3 P w K mg base k f fd ps F) (kb : KBn K fd ps (n + 1) ks g gV) (re : ReArg K mg ps.length (n + ks.length + 1) F' F fun l => gV (l.take (n + 1)) (l.drop (n + 1))) : Gm ⟨P, w, K, mg, base⟩ C n ks k F' :=
  ⟨f, M, .inl ⟨fd, ps, g, gV, F, ok, kb, re⟩⟩
def pick {α : Type} (ix : List Nat) (l : List α) : List α := ix.filterMap fun i => l[i]?
theorem pick_vals {vs : List V} {us : List Value} (r : Vals vs us) : ∀ ix : List Nat, Vals (pick ix vs) (pick ix us)
  | [] => .nil
  | i :: ix => by
    unfold pick
    rw [List.filterMap_cons, List.filterMap_cons]
    have hl := r.length
    by_cases h : i < vs.length
    · have h' : i < us.length := by omega
      obtain ⟨u, hu, ru⟩ := r.get (List.getElem?_eq_getElem h)
      rw [List.getElem?_eq_getElem h, hu]
      exact .cons ru (pick_vals r ix)
    · rw [List.getElem?_eq_none (by omega), List.getElem?_eq_none (by omega)]
      exact pick_vals r ix
theorem pick_rep {μ : List Addr} {G : Hp} {ds : List Dv} {vs : List V} (r : RepL K mg μ G ds vs) : ∀ ix : List Nat, RepL K mg μ G (pick ix ds) (pick ix vs)
  | [] => .nil
  | i :: ix => by
    unfold pick
    rw [List.filterMap_cons, List.filterMap_cons]
    have hl := r.length
    by_cases h : i < ds.length
    · obtain ⟨u, hu, ru⟩ := r.get (List.getElem?_eq_getElem h)
      rw [List.getElem?_eq_getElem h, hu]
      exact .cons ru (pick_rep r ix)
    · rw [List.getElem?_eq_none (by omega), List.getElem?_eq_none (by omega)]
      exact pick_rep r ix
theorem pick_len {α : Type} {l : List α} : ∀ {ix : List Nat}, (∀ i ∈ ix, i < l.length) → (pick ix l).length = ix.length
  | [], _ => rfl
  | i :: ix, h => by
    unfold pick
    rw [List.filterMap_cons, List.getElem?_eq_getElem (h i List.mem_cons_self)]
    exact congrArg Nat.succ (pick_len fun j hj => h j (List.mem_cons_of_mem _ hj))
theorem re_pick {pl n k : Nat} (ix : List Nat) (hn : ix.length = pl) (hb : ∀ i ∈ ix, i < n + k) : ReArg K mg pl (n + k) (fun l m => F (pick ix l) m) F fun l => (fun vs zs => pick ix (vs ++ zs)) (l.take n) (l.drop n) :=
  ⟨fun l => pick ix l, fun ds m h => rfl, fun μ G ds vs h r => ⟨by rw [pick_len (by rw [h]; exact hb)]; exact hn, by
    show RepL K mg μ G (pick ix ds) (pick ix (vs.take n ++ vs.drop n))
    rw [List.take_append_drop]; exact pick_rep r ix⟩⟩
end
end M3
set_option Elab.async false
set_option linter.all false
set_option autoImplicit false
set_option maxRecDepth 100000
set_option maxHeartbeats 2000000
namespace M3
open PySem L2 PySem.Spec PyProof.Rows
section
variable {X : Cx} {E : WX} {e : Expr} {fa : ME} {pos p : Pos}
def mStar (f : ME) (g : MA) : MA := fun ρ m => (f ρ m).bind fun x m1 => match x with
  | .v d => match seqOf ρ m1 (.v d) with
    | some ds => (g ρ m1).bind fun es m2 => .ok (ds ++ es) m2
    | none => .no
  | .b _ => .no
end
inductive PItem where
  | lit (s : Str) | cap (i : Nat)
structure MCase where
  ps : List PItem
  g : Option MB
  b : MS
def bindV : List (Nat × V) → L2.St → L2.St
  | [], σ => σ
  | (i, v) :: bs, σ => bindV bs (σ.set i (some v))
section
variable {X : Cx}
structure NmOk (X : Cx) (i : Nat) (x : Str) : Prop where
  hN : X.N.Nodup
  hi : X.N[i]? = some x
  hx : Loc X.env.scope x
  hf : X.fn x = true ∨ X.env.scope.names.lookup x = some .local
inductive PatsOk (X : Cx) : List Pattern → List PItem → Prop
  | nil : PatsOk X [] []
  | lit {s : Str} {j : Nat} {p1 p2 : Pos} {ps : List Pattern} {qs : List PItem} (r : PatsOk X ps qs) : PatsOk X (.MatchValue (.Constant (.str s) j p1) p2 :: ps) (.lit s :: qs)
  | cap {i : Nat} {x : Str} {p1 : Pos} {ps : List Pattern} {qs : List PItem} (h : NmOk X i x) (r : PatsOk X ps qs) : PatsOk X (.MatchAs none (some x) p1 :: ps) (.cap i :: qs)
inductive BsOk (X : Cx) : List (Str × Value) → List (Nat × V) → Prop
  | nil : BsOk X [] []
  | cons {i : Nat} {x : Str} {u : Value} {v : V} {bl : List (Str × Value)} {bs : List (Nat × V)} (h : NmOk X i x) (r : RelV v u) (t : BsOk X bl bs) : BsOk X ((x, u) :: bl) ((i, v) :: bs)
theorem PatsOk.len {ps : List Pattern} {qs : List PItem} (h : PatsOk X ps qs) : ps.length = qs.length := by
  induction h with
  | nil => rfl
  | lit r ih => simp [ih]
  | cap h r ih => simp [ih]
theorem bind_ok {bl : List (Str × Value)} {bs : List (Nat × V)} (h : BsOk X bl bs) : ∀ {pins : List (Addr × Obj)} {σ : L2.St} {H : Hp} {s : Shared} {Q : Unit → Shared → Prop}, Inv X pins σ H s → (∀ s', Inv X pins (bindV bs σ) H s' → Q () s') →
    wpAny (model X.prog X.w) X.A (assignInOrder (bl.map fun (n, _) => bindName X.env n) (bl.map (·.2))) Q X.xe s := by
  induction h with
  | nil => intro pins σ H s Q I k; exact wpAny_assignInOrder_none (k s I)
  | @cons i x u v bl bs hn r t ih =>
    intro pins σ H s Q I k
    refine wpAny_assignInOrder_more (wpAny_bindName (store_ok I hn.hN hn.hi hn.hx r (fun s' I' => ?_) hn.hf))
    exact ih I' fun s2 I2 => k s2 I2
abbrev TCase := List PItem × Option TT × TS
inductive CasesOk (X : Cx) : List MatchCase → List TCase → Prop
  | nil : CasesOk X [] []
  | plain {ps : List Pattern} {qs : List PItem} {pos : Pos} {body : List Stmt} {t : TS} {cs : List MatchCase} {ts : List TCase} (hp : PatsOk X ps qs) (hstar : ps.findIdx? (·.isStar) = none) (hwild : (ps.all fun p => p.isWildcard || (p.isStar && p.names.isEmpty)) = false) (hb : PSs X body t) (r : CasesOk X cs ts) :
      CasesOk X (⟨.MatchSequence ps pos, none, body⟩ :: cs) ((qs, none, t) :: ts)
  | guard {ps : List Pattern} {qs : List PItem} {pos : Pos} {g : Expr} {tt : TT} {body : List Stmt} {t : TS} {cs : List MatchCase} {ts : List TCase} (hp : PatsOk X ps qs) (hstar : ps.findIdx? (·.isStar) = none) (hwild : (ps.all fun p => p.isWildcard || (p.isStar && p.names.isEmpty)) = false) (hg : PT X g tt) (hb : PSs X body t) (r : CasesOk X cs ts) :
      CasesOk X (⟨.MatchSequence ps pos, some g, body⟩ :: cs) ((qs, some tt, t) :: ts)
end
def eachD : List PItem → List Dv → Option (Option (List (Nat × Dv)))
  | [], [] => some (some [])
  | .lit s :: ps, d :: ds => match d with
    | .str z => if z = s then eachD ps ds else some none
    | .int _ => some none
    | .bl _ => some none
    | .non => some none
    | _ => none
  | .cap i :: ps, d :: ds => match eachD ps ds with
    | some (some bs) => some (some ((i, d) :: bs))
    | r => r
  | _, _ => none
def bindD : List (Nat × Dv) → Sl → Sl
  | [], ρ => ρ
  | (i, d) :: bs, ρ => bindD bs (ρ.set i (.val d))
def mCases : List MCase → Dv → MS
  | [], _ => fun ρ m => .nx ρ m
  | c :: cs, d => fun ρ m => match seqOf ρ m (.v d) with
    | none => .no
    | some ds => if ds.length = c.ps.length then match eachD c.ps ds with
        | none => .no
        | some none => mCases cs d ρ m
        | some (some bs) => match c.g with
          | none => c.b (bindD bs ρ) m
          | some t => (t (bindD bs ρ) m).st (bindD bs ρ) fun k m2 => if k = true then c.b (bindD bs ρ) m2 else mCases cs d (bindD bs ρ) m2
      else mCases cs d ρ m
def mMatch (f : ME) (cs : List MCase) : MS := fun ρ m => (f ρ m).st ρ fun x m1 => match x with
  | .v d => mCases cs d ρ m1
  | .b _ => .no
section
variable {X : Cx} {E : WX}
inductive BsRep (K : PySem.W.Frag) (mg : Str → Option Value) (μ : List Addr) (G : Hp) : List (Nat × Dv) → List (Nat × V) → Prop
  | nil : BsRep K mg μ G [] []
  | cons {i : Nat} {d : Dv} {v : V} {bs : List (Nat × Dv)} {cs : List (Nat × V)} (r : Rep K mg μ G d v) (t : BsRep K mg μ G bs cs) : BsRep K mg μ G ((i, d) :: bs) ((i, v) :: cs)
inductive CasesX (X : Cx) (E : WX) : List MatchCase → List MCase → Prop
  | nil : CasesX X E [] []
  | plain {ps : List Pattern} {qs : List PItem} {pos : Pos} {body : List Stmt} {f : MS} {cs : List MatchCase} {ms : List MCase} (hp : PatsOk X ps qs) (hstar : ps.findIdx? (·.isStar) = none) (hwild : (ps.all fun p => p.isWildcard || (p.isStar && p.names.isEmpty)) = false) (hb : PSsx X E body f) (r : CasesX X E cs ms) :
      CasesX X E (⟨.MatchSequence ps pos, none, body⟩ :: cs) (⟨qs, none, f⟩ :: ms)
  | guard {ps : List Pattern} {qs : List PItem} {pos : Pos} {g : Expr} {t : MB} {body : List Stmt} {f : MS} {cs : List MatchCase} {ms : List MCase} (hp : PatsOk X ps qs) (hstar : ps.findIdx? (·.isStar) = none) (hwild : (ps.all fun p => p.isWildcard || (p.isStar && p.names.isEmpty)) = false) (hg : PB X E g t) (hb : PSsx X E body f) (r : CasesX X E cs ms) :
      CasesX X E (⟨.MatchSequence ps pos, some g, body⟩ :: cs) (⟨qs, some t, f⟩ :: ms)
def tcM (K : PySem.W.Frag) (mg : Str → Option Value) (E : WX) (c : MCase) : TCase := (c.ps, c.g.map (tbOf K mg E), tsOf K mg E c.b)
theorem CasesX.ok {cs : List MatchCase} {ms : List MCase} (h : CasesX X E cs ms) : CasesOk X cs (ms.map (tcM X.K X.mg E)) := by
  induction h with
  | nil => exact .nil
  | plain hp hs hw hb r ih => exact .plain hp hs hw hb ih
  | guard hp hs hw hg hb r ih => exact .guard hp hs hw hg hb ih
end
end M3
set_option Elab.async false
set_option linter.all false
set_option autoImplicit false
set_option maxRecDepth 100000
set_option maxHeartbeats 2000000
namespace M3
open PySem L2 PySem.Spec PyProof.Rows
mutual
def lowD (k : Nat) : Dv → Bool
  | .lst ds => lowL k ds
  | .tup ds => lowL k ds
  | .ktp ds => lowL k ds
  | .dct ds => lowK1 k ds
  | .dcT ds => lowK2 k ds
  | .ins _ ds => lowK3 k ds
  | .loc n => decide (n < k)
  | .lck _ _ ds => lowK1 k ds
  | .lckT _ _ ds => lowK2 k ds
  | .ext _ _ => true
  | .non => true
  | .bl _ => true
  | .int _ => true
  | .str _ => true
  | .ty _ => true
  | .glb _ => true
  | .scr _ => true
def lowL (k : Nat) : List Dv → Bool
  | [] => true
  | d :: ds => lowD k d && lowL k ds
def lowK1 (k : Nat) : List (Key × Dv) → Bool
  | [] => true
  | (_, d) :: ds => lowD k d && lowK1 k ds
def lowK2 (k : Nat) : List (List Key × Dv) → Bool
  | [] => true
  | (_, d) :: ds => lowD k d && lowK2 k ds
def lowK3 (k : Nat) : List (Str × Dv) → Bool
  | [] => true
  | (_, d) :: ds => lowD k d && lowK3 k ds
end
def lowO (k : Nat) : Ob → Bool
  | .lst ds => lowL k ds
  | .dct kvs => lowK1 k kvs
  | .dcT kvs => lowK2 k kvs
  | .ins _ fs => lowK3 k fs
  | .raw _ => true
section
variable {K : PySem.W.Frag} {mg : Str → Option Value} {μ μ' : List Addr} {G G' : Hp} {k : Nat}
mutual
theorem Rep.low : ∀ {d : Dv} {v : V}, Rep K mg μ G d v → lowD μ.length d = true
  | _, _, .non => rfl
  | _, _, .bl b => rfl
  | _, _, .int b => rfl
  | _, _, .str b => rfl
  | _, _, .ty b => rfl
  | _, _, .lst s z r => RepL.low r
  | _, _, .scr s => rfl
  | _, _, .tup s z r => RepL.low r
  | _, _, .ktp s r => RepL.low r
  | _, _, .dct s z r => RepK.low1 r
  | _, _, .dcT s z r => RepK.low2 r
  | _, _, .ins c s r => RepK.low3 r
  | _, _, .glb h r => rfl
  | _, _, .ext h => rfl
  | _, _, .loc h => decide_eq_true (List.getElem?_eq_some_iff.mp h).1
  | _, _, .lck h r => RepK.low1 r
  | _, _, .lckT h r => RepK.low2 r
theorem RepL.low : ∀ {d : List Dv} {v : List V}, RepL K mg μ G d v → lowL μ.length d = true
  | _, _, .nil => rfl
  | _, _, .cons a b => Bool.and_eq_true_iff.mpr ⟨Rep.low a, RepL.low b⟩
theorem RepK.low1 : ∀ {d : List (Key × Dv)} {v : List (Key × V)}, RepK K mg μ G d v → lowK1 μ.length d = true
  | _, _, .nil => rfl
  | _, _, .cons a b => Bool.and_eq_true_iff.mpr ⟨Rep.low a, RepK.low1 b⟩
theorem RepK.low2 : ∀ {d : List (List Key × Dv)} {v : List (List Key × V)}, RepK K mg μ G d v → lowK2 μ.length d = true
  | _, _, .nil => rfl
  | _, _, .cons a b => Bool.and_eq_true_iff.mpr ⟨Rep.low a, RepK.low2 b⟩
theorem RepK.low3 : ∀ {d : List (Str × Dv)} {v : List (Str × V)}, RepK K mg μ G d v → lowK3 μ.length d = true
  | _, _, .nil => rfl
  | _, _, .cons a b => Bool.and_eq_true_iff.mpr ⟨Rep.low a, RepK.low3 b⟩
end
mutual
theorem Rep.cut : ∀ {d : Dv} {v : V}, Rep K mg μ G d v → lowD k d = true → Rep K mg (μ.take k) G d v
  | _, _, .non, _ => .non
  | _, _, .bl b, _ => .bl b
  | _, _, .int b, _ => .int b
  | _, _, .str b, _ => .str b
  | _, _, .ty b, _ => .ty b
  | _, _, .lst s z r, p => .lst s z (RepL.cut r p)
  | _, _, .scr s, _ => .scr s
  | _, _, .tup s z r, p => .tup s z (RepL.cut r p)
  | _, _, .ktp s r, p => .ktp s (RepL.cut r p)
  | _, _, .dct s z r, p => .dct s z (RepK.cut1 r p)
  | _, _, .dcT s z r, p => .dcT s z (RepK.cut2 r p)
  | _, _, .ins c s r, p => .ins c s (RepK.cut3 r p)
  | _, _, .glb h r, _ => .glb h r
  | _, _, .ext h, _ => .ext h
  | _, _, .loc h, p => .loc (by rw [List.getElem?_take_of_lt (of_decide_eq_true p)]; exact h)
  | _, _, .lck h r, p => .lck h (RepK.cut1 r p)
  | _, _, .lckT h r, p => .lckT h (RepK.cut2 r p)
theorem RepL.cut : ∀ {d : List Dv} {v : List V}, RepL K mg μ G d v → lowL k d = true → RepL K mg (μ.take k) G d v
  | _, _, .nil, _ => .nil
  | _, _, .cons a b, p => .cons (Rep.cut a (Bool.and_eq_true_iff.mp p).1) (RepL.cut b (Bool.and_eq_true_iff.mp p).2)
theorem RepK.cut1 : ∀ {d : List (Key × Dv)} {v : List (Key × V)}, RepK K mg μ G d v → lowK1 k d = true → RepK K mg (μ.take k) G d v
  | _, _, .nil, _ => .nil
  | _, _, .cons a b, p => .cons (Rep.cut a (Bool.and_eq_true_iff.mp p).1) (RepK.cut1 b (Bool.and_eq_true_iff.mp p).2)
theorem RepK.cut2 : ∀ {d : List (List Key × Dv)} {v : List (List Key × V)}, RepK K mg μ G d v → lowK2 k d = true → RepK K mg (μ.take k) G d v
  | _, _, .nil, _ => .nil
  | _, _, .cons a b, p => .cons (Rep.cut a (Bool.and_eq_true_iff.mp p).1) (RepK.cut2 b (Bool.and_eq_true_iff.mp p).2)
theorem RepK.cut3 : ∀ {d : List (Str × Dv)} {v : List (Str × V)}, RepK K mg μ G d v → lowK3 k d = true → RepK K mg (μ.take k) G d v
  | _, _, .nil, _ => .nil
  | _, _, .cons a b, p => .cons (Rep.cut a (Bool.and_eq_true_iff.mp p).1) (RepK.cut3 b (Bool.and_eq_true_iff.mp p).2)
end
theorem obAt_low {H : Hp} {a : Addr} {o : Ob} (h : ObAt K mg μ G H a o) : lowO μ.length o = true := by
  cases o with
  | lst ds => obtain ⟨vs, x, r⟩ := h; exact r.low
  | dct ds => obtain ⟨vs, x, r⟩ := h; exact r.low1
  | dcT ds => obtain ⟨vs, x, r⟩ := h; exact r.low2
  | ins c fs => obtain ⟨C, dx, ws, q, x, r⟩ := h; exact r.low3
  | raw u => rfl
theorem obAt_cut {H : Hp} {a : Addr} {o : Ob} (h : ObAt K mg μ G H a o) (p : lowO k o = true) : ObAt K mg (μ.take k) G H a o := by
  cases o with
  | lst ds => obtain ⟨vs, x, r⟩ := h; exact ⟨vs, x, r.cut p⟩
  | dct ds => obtain ⟨vs, x, r⟩ := h; exact ⟨vs, x, r.cut1 p⟩
  | dcT ds => obtain ⟨vs, x, r⟩ := h; exact ⟨vs, x, r.cut2 p⟩
  | ins c fs => obtain ⟨C, dx, ws, q, x, r⟩ := h; exact ⟨C, dx, ws, q, x, r.cut3 p⟩
  | raw u => exact h
end
def lowC (k : Nat) : Cell → Prop
  | .un => True
  | .val d => lowD k d = true
  | .own o => lowO k o = true
theorem St3.lowT {c : Cf} {ρ : Sl} {m : Mm} {σ : L2.St} {H : Hp} {T : Tm} {G : Hp} {μ : List Addr} (s : St3 c ρ m σ H T G μ) : ∀ p ∈ T ++ σ.zip ρ, lowC m.length p.2 := fun p hp => by
  have k := s.cells p hp
  rw [← s.mem.len]
  obtain ⟨x, y⟩ := p
  cases y with
  | un => trivial
  | val d => obtain ⟨v, e, r⟩ := k; exact r.low
  | own o => obtain ⟨a, e, ob, _⟩ := k; exact obAt_low ob
theorem St3.popM {c : Cf} {ρ : Sl} {m : Mm} {o : Ob} {σ : L2.St} {H : Hp} {T : Tm} {G : Hp} {μ : List Addr} {v : V} (s : St3 c ρ (m ++ [some o]) σ H (tv v (.loc m.length) :: T) G μ) (hl : ∀ p ∈ T ++ σ.zip ρ, lowC m.length p.2)
    (hm : ∀ (n : Nat) (o : Ob), m[n]? = some (some o) → lowO m.length o = true) (ho : lowO m.length o = true) (hk : c.μ0.length ≤ m.length) : ∃ a, v = .ref a ∧ St3 c ρ m σ H ((some (.ref a), .own o) :: T) G (μ.take m.length) := by
  have hlen : μ.length = m.length + 1 := by rw [s.mem.len]; simp
  have r : Rep c.K c.mg μ G (.loc m.length) v := s.top
  have sp := s.pop
  cases r with
  | @loc _ a ha =>
    refine ⟨a, rfl, ?_⟩
    obtain ⟨a', e1, e2, e3⟩ := s.mem.ob m.length o (by rw [List.getElem?_append_right (Nat.le_refl _)]; simp)
    rw [ha] at e1; cases e1
    have tk : ∀ {n : Nat} {b : Addr}, (μ.take m.length)[n]? = some b → n < m.length ∧ μ[n]? = some b := fun {n b} e => by
      by_cases hn : n < m.length
      · rw [List.getElem?_take_of_lt hn] at e; exact ⟨hn, e⟩
      · rw [List.getElem?_eq_none (by rw [List.length_take]; omega)] at e; cases e
    have hna : a ∉ μ.take m.length := fun hm => by
      obtain ⟨n, hn⟩ := List.getElem?_of_mem hm
      obtain ⟨q1, q2⟩ := tk hn
      have := s.mem.nd n m.length a q2 ha
      omega
    have h0 : c.H0 a = none := by
      cases e : c.H0 a with
      | none => rfl
      | some u =>
        cases g0 : c.G0 a with
        | some w =>
          rcases s.le.ex a w g0 with q | ⟨_, _, q⟩ <;> rw [e2] at q <;> cases q
        | none =>
          by_cases hmem : a ∈ c.μ0
          · obtain ⟨n, hn⟩ := List.getElem?_of_mem hmem
            have q := s.le.pre n a hn
            have := s.mem.nd n m.length a q ha
            have := (List.getElem?_eq_some_iff.mp hn).1
            omega
          · exact absurd (List.mem_of_getElem? ha) (s.le.prv a u e g0 hmem).2.2
    have mem : MemOk c.K c.mg G (μ.take m.length) H m := by
      refine ⟨s.mem.st, by rw [List.length_take]; omega, fun i j b ei ej => s.mem.nd i j b (tk ei).2 (tk ej).2, fun n ob e => ?_, fun b hb => s.mem.th b (List.mem_of_mem_take hb)⟩
      have hn : n < m.length := (List.getElem?_eq_some_iff.mp e).1
      obtain ⟨b, q1, q2, q3⟩ := s.mem.ob n ob (by rw [List.getElem?_append_left hn]; exact e)
      exact ⟨b, by rw [List.getElem?_take_of_lt hn]; exact q1, q2, obAt_cut q3 (hm n ob e)⟩
    have le : Le c.G0 c.μ0 c.H0 G (μ.take m.length) H := ⟨s.le.ex, fun n b e => by
      have hn := (List.getElem?_eq_some_iff.mp e).1
      rw [List.getElem?_take_of_lt (by omega)]; exact s.le.pre n b e, fun b u h1 h2 h3 => by
      obtain ⟨k1, k2, k3⟩ := s.le.prv b u h1 h2 h3
      exact ⟨k1, k2, fun z => k3 (List.mem_of_mem_take z)⟩, s.le.th⟩
    have base : St3 c ρ m σ H T G (μ.take m.length) := by
      refine ⟨s.len, mem, le, fun p hp => ?_, sp.nd⟩
      have k := sp.cells p hp
      have low := hl p hp
      obtain ⟨x, y⟩ := p
      cases y with
      | un => trivial
      | val d => obtain ⟨w, e, r⟩ := k; exact ⟨w, e, r.cut low⟩
      | own ob => obtain ⟨b, e, ra, g, n, z⟩ := k; exact ⟨b, e, obAt_cut ra low, g, fun hb => n (List.mem_of_mem_take hb), z⟩
    refine base.pushO (obAt_cut e3 ho) e2 hna h0 fun q hq e => ?_
    obtain ⟨ob', rfl⟩ := ownA_some e
    obtain ⟨b, eb, _, _, n, _⟩ := sp.cells _ hq
    cases eb
    exact n (List.mem_of_getElem? ha)
def memLow (k : Nat) : Mm → Bool
  | [] => true
  | none :: m => memLow k m
  | some o :: m => lowO k o && memLow k m
theorem memLow_at {k : Nat} : ∀ {m : Mm} {n : Nat} {o : Ob}, memLow k m = true → m[n]? = some (some o) → lowO k o = true
  | [], n, o, h, e => by simp at e
  | none :: m, 0, o, h, e => by simp at e
  | none :: m, n + 1, o, h, e => memLow_at (m := m) h (by simpa using e)
  | some o' :: m, 0, o, h, e => by
    simp at e; subst e
    exact (Bool.and_eq_true_iff.mp h).1
  | some o' :: m, n + 1, o, h, e => memLow_at (m := m) (Bool.and_eq_true_iff.mp h).2 (by simpa using e)
def ownE2 (k : Nat) (m : Mm) : Option (Option Ob) → Rs Ob
  | some (some o) => if memLow k (m.take k) = true ∧ lowO k o = true then .ok o (m.take k) else .no
  | _ => .no
def ownEnd (k : Nat) : Rs Ar → Rs Ob
  | .ok (.v (.loc n)) m => if n = k ∧ m.length = k + 1 then ownE2 k m m[k]? else .no
  | .ex x m => .ex x m
  | _ => .no
def mOwnE (f : ME) : MN := fun ρ m => ownEnd m.length (f ρ m)
theorem Pre.le {μ μ' : List Addr} (p : Pre μ μ') : μ.length ≤ μ'.length := by
  rcases Nat.lt_or_ge μ'.length μ.length with h | h
  · have e : μ[μ'.length]? = some μ[μ'.length] := List.getElem?_eq_getElem h
    have := (List.getElem?_eq_some_iff.mp (p _ _ e)).1
    omega
  · exact h
section
variable {X : Cx} {E : WX} {e : Expr} {f : ME}
theorem n_own (h : PX X E e f) : PN X E e (mOwnE f) :=
  PEi h fun σ H Q ⟨b, ρ, m, T, S, w⟩ => by
    refine ⟨b, ρ, m, T, S, ?_⟩
    unfold mOwnE at w
    obtain ⟨G, μ, s⟩ := S
    have low := s.lowT
    have hk : (b.cf X.K X.mg).μ0.length ≤ m.length := by rw [← s.mem.len]; exact s.le.pre.le
    revert w
    cases f ρ m with
    | no => exact id
    | ex x m1 => exact id
    | ok x m1 =>
      intro w v H1 S1 hb
      cases x with
      | b i => exact w.elim
      | v d =>
        cases d with
        | loc n =>
          rw [show ownEnd m.length (.ok (.v (.loc n)) m1) = if n = m.length ∧ m1.length = m.length + 1 then ownE2 m.length m1 m1[m.length]? else .no from rfl] at w
          by_cases hn : n = m.length ∧ m1.length = m.length + 1
          · rw [if_pos hn] at w
            obtain ⟨hn, hl⟩ := hn
            subst hn
            cases he : m1[m.length]? with
            | none => rw [he] at w; exact w.elim
            | some q =>
              rw [he] at w
              cases q with
              | none => exact w.elim
              | some o =>
                rw [show ownE2 m.length m1 (some (some o)) = if memLow m.length (m1.take m.length) = true ∧ lowO m.length o = true then .ok o (m1.take m.length) else .no from rfl] at w
                by_cases hp : memLow m.length (m1.take m.length) = true ∧ lowO m.length o = true
                · rw [if_pos hp] at w
                  have hm1 : m1 = m1.take m.length ++ [some o] := by
                    have h1 : m1.drop m.length = [some o] := by
                      have h2 : m1.drop m.length = m1[m.length] :: m1.drop (m.length + 1) := List.drop_eq_getElem_cons (by omega)
                      rw [h2, List.drop_eq_nil_of_le (by omega)]
                      rw [List.getElem?_eq_getElem (by omega)] at he
                      exact congrArg (fun z => [z]) (Option.some.inj he)
                    rw [← h1, List.take_append_drop]
                  have hlen : (m1.take m.length).length = m.length := by rw [List.length_take]; omega
                  obtain ⟨G1, μ1, s1⟩ := S1
                  have s1 : St3 (b.cf X.K X.mg) ρ m1 σ H1 (tv v (.loc m.length) :: T) G1 μ1 := s1
                  rw [hm1] at s1
                  have s2 : St3 (b.cf X.K X.mg) ρ (m1.take m.length ++ [some o]) σ H1 (tv v (.loc (m1.take m.length).length) :: T) G1 μ1 := by rw [hlen]; exact s1
                  obtain ⟨a, rfl, s3⟩ := s2.popM (by rw [hlen]; exact low) (fun n o' e' => by rw [hlen]; exact memLow_at hp.1 e') (by rw [hlen]; exact hp.2) (by rw [hlen]; exact hk)
                  exact w a H1 ⟨_, _, s3⟩
                · rw [if_neg hp] at w; exact w.elim
          · rw [if_neg hn] at w; exact w.elim
        | _ => exact w.elim
end
section
variable {X : Cx} {E : WX} {a : Expr} {fa : ME} {fl fh : MO} {lo hi : Option Expr} {pos p2 : Pos}
def gSlN (ρ : Sl) (m : Mm) (x : Ar) (lo hi : Option Int) : Rs Ob := match lstOf ρ m x with
  | some ds => .ok (.lst (cutD ds lo hi)) m
  | none => .no
def mSlN (fa : ME) (fl fh : MO) : MN := fun ρ m => (fa ρ m).bind fun x m1 => (fl ρ m1).bind fun lo m2 => (fh ρ m2).bind fun hi m3 => gSlN ρ m3 x lo hi
end
end M3
set_option Elab.async false
set_option linter.all false
set_option autoImplicit false
set_option maxRecDepth 100000
set_option maxHeartbeats 2000000
namespace M3
open PySem L2 PySem.Spec PyProof.Rows
section
variable {X : Cx} {E : WX} {e e2 a : Expr} {fa : ME} {fs : MA} {p pos tpos p1 p2 p3 : Pos} {elts : List Expr} {kk k : Nat}
def mZipL (f : MA) : MI := fun ρ m => (f ρ m).bind fun ds m1 => match ds with
  | [.lst xs, .lst ys] => if xs.length ≤ sizeLine then .ok (zipD xs ys) m1 else .no
  | _ => .no
def mRevN (f : ME) : MN := fun ρ m => (f ρ m).bind fun x m1 => match lstOf ρ m1 x with
  | some ds => .ok (.lst ds.reverse) m1
  | none => .no
end
end M3
set_option Elab.async false
set_option linter.all false
set_option autoImplicit false
set_option maxRecDepth 100000
set_option maxHeartbeats 2000000
namespace M3
open PySem L2 PySem.Spec PyProof.Rows
def gInKd (nm : Str) (kvs : List (Str × Dv)) (neg : List Str) : Sl → Mm → Ar → Ar → Rs Ar := fun _ m x y => match x, y with
  | .v (.str z), .v (.glb w) => if w = nm then match kvs.lookup z with
      | some _ => .ok (.v (.bl true)) m
      | none => if neg.contains z = true then .ok (.v (.bl false)) m else .no
    else .no
  | _, _ => .no
def gIxKd (nm : Str) (kvs : List (Str × Dv)) : Sl → Mm → Ar → Ar → Rs Ar := fun _ m x y => match x, y with
  | .v (.glb w), .v (.str z) => if w = nm then match kvs.lookup z with
      | some d => .ok (.v d) m
      | none => .no
    else .no
  | _, _ => .no
section
variable {X : Cx} {E : WX} {nm : Str} {kvs : List (Str × Dv)} {neg : List Str}
end
end M3
set_option Elab.async false
set_option linter.all false
set_option autoImplicit false
set_option maxRecDepth 100000
set_option maxHeartbeats 2000000
namespace M3
open PySem L2 PySem.Spec PyProof.Rows
def mPar3 (i j l : Nat) (f : MC) : MS := fun ρ m => (f ρ m).st ρ fun ys m1 => match ys with
  | [x, y, z] => if isUn x = false ∧ isUn y = false ∧ isUn z = false then .nx (((ρ.set i x).set j y).set l z) m1 else .no
  | _ => .no
section
variable {X : Cx} {E : WX}
end
section
variable {X : Cx} {N : List Str} {sc fsc : Scope} (h : Nm X N sc fsc)
include h
theorem Nm.swE {e : Expr} {t : Option Expr} {l : Nat} {r : Sem Bool} (q : swapsWith e t l (envS sc) = r) : swapsWith e t l X.env = r := by
  have z : swapsWith e t l X.env = swapsWith e t l (envS X.env.scope) := rfl
  rw [z, h.hsc]; exact q
end
section
variable {X : Cx} {E : WX}
def mIfB (t f g : MB) : MB := fun ρ m => (t ρ m).bind fun k m1 => if k = true then f ρ m1 else g ρ m1
section
variable {c a b : Expr} {pos : Pos} {tc ta tb : MB} {tA tA1 tA2 : TT}
end
end
def gStr2 : Sl → Mm → Ar → Rs Ar := fun _ m x => match x with
  | .v (.int i) => if i.natAbs.log2 < 1920 then .ok (.v (.str (toString i))) m else .no
  | .v (.str a) => .ok (.v (.str a)) m
  | _ => .no
def rStr2 : List V → Hp → VK → Prop := fun xs H Q => (∃ i, xs = [.int i] ∧ i.natAbs.log2 < 1920 ∧ Q (.str (toString i)) H) ∨ ∃ a, xs = [.str a] ∧ Q (.str a) H
theorem call_str2 {X : Cx} : CallR X (.type "str") rStr2 := CallR.or call_str_int SkE.call_str_str
section
variable {K : PySem.W.Frag} {mg : Str → Option Value} {E : WX}
theorem unS_str2 : UnS K mg E (fun v => rStr2 [v]) gStr2 := fun b ρ m σ H T G μ v x Q s r w => by
  unfold gStr2 at w
  split at w
  · split at w
    · rename_i z
      cases r; exact .inl ⟨_, rfl, z, Want.s w s rfl⟩
    · exact w.elim
  · cases r; exact .inr ⟨_, rfl, Want.s w s rfl⟩
  · exact w.elim
end
end M3
set_option Elab.async false
set_option linter.all false
set_option autoImplicit false
set_option maxRecDepth 100000
set_option maxHeartbeats 4000000
namespace M3
section
open PySem PySem.Builtin PyProof.Rows Srt SrtO
variable {prog : Program} {w : World} {A : Around} {E : Value → Shared → Prop} {s : Shared}
end
open PySem L2 PySem.Spec PyProof.Rows
section
variable {K : PySem.W.Frag} {mg : Str → Option Value} {E : WX}
end
end M3
set_option Elab.async false
set_option linter.all false
set_option autoImplicit false
set_option maxRecDepth 100000
set_option maxHeartbeats 2000000
namespace M3
open PySem L2 PySem.Spec PyProof.Rows
end M3
set_option Elab.async false
set_option linter.all false
set_option autoImplicit false
set_option maxRecDepth 100000
set_option maxHeartbeats 2000000
namespace M3
open PySem L2 PySem.Spec PyProof.Rows
def tyM (m : Mm) : Dv → Option String
  | .loc n => match lstOf [] m (.v (.loc n)) with
    | some _ => some "list"
    | none => none
  | d => tyD d
theorem tyM_eq {m : Mm} {d : Dv} (h : ∀ n, d ≠ .loc n) : tyM m d = tyD d := by
  cases d with
  | loc n => exact absurd rfl (h n)
  | _ => rfl
theorem tyM_ok {m : Mm} {d : Dv} {t : String} (h : tyM m d = some t) : okT t = true := by
  cases d with
  | loc n =>
    have h : (match lstOf [] m (.v (.loc n)) with | some _ => some "list" | none => (none : Option String)) = some t := h
    split at h
    · cases h; decide
    · cases h
  | _ => rw [tyM_eq (by intro n z; cases z)] at h; exact tyD_ok h
theorem tyM_at {c : Cf} {ρ : Sl} {m : Mm} {σ : L2.St} {H : Hp} {T : Tm} {G : Hp} {μ : List Addr} {v : V} {d : Dv} {t : String} (s : St3 c ρ m σ H T G μ) (r : Rep c.K c.mg μ G d v) (e : tyM m d = some t) : TyX c.K H v (.type t) := by
  cases d with
  | loc n =>
    have e : (match lstOf [] m (.v (.loc n)) with | some _ => some "list" | none => (none : Option String)) = some t := e
    split at e
    · rename_i ds q
      cases e
      have q' : lstOf ρ m (.v (.loc n)) = some ds := q
      obtain ⟨a, vs, rfl, ha, _⟩ := lst_at s (x := .v (.loc n)) r q'
      rcases SqL.of ha with (h | ⟨o, h⟩) | ⟨o, its, n, h, hc, _⟩
      · exact .base (.lst h)
      · exact .base (.frz h)
      · exact .kList h hc
    · cases e
  | _ => rw [tyM_eq (by intro n z; cases z)] at e; exact tyD_at s.mem.st r e
def gIsiM : Sl → Mm → List Dv → Rs Ar := fun _ m ds => match ds with
  | [x, .ty n] => match tyM m x with
    | some t => if okT n = true then .ok (.v (.bl (isT t n))) m else .no
    | none => .no
  | [x, .tup cs] => match tyM m x, tysD cs with
    | some t, some ns => .ok (.v (.bl (ns.any (isT t)))) m
    | _, _ => .no
  | _ => .no
theorem callS_isiM {E : WX} {K : PySem.W.Frag} {mg : Str → Option Value} : CallS K mg E (rIsiU K) gIsiM := fun b ρ m σ H T G μ vs ds Q s r w => by
  unfold gIsiM at w
  split at w
  · split at w
    · rename_i ht
      split at w
      · rename_i hn
        cases r with
        | cons a b =>
          cases b with
          | cons b c =>
            cases b; cases c
            exact .inl ⟨_, _, _, _, _, rfl, .ty _, tyM_at s a ht, kit_ty (kit_isT (tyM_ok ht) hn), Want.s w s rfl⟩
      · exact w.elim
    · exact w.elim
  · split at w
    · rename_i x cs t ns ht hns
      cases r with
      | cons a b =>
        cases b with
        | cons b c =>
          cases c
          cases b with
          | tup h z rr =>
            obtain ⟨q1, q2⟩ := tys_rep (tyM_ok ht) rr hns
            exact .inr ⟨_, _, _, .type t, _, _, rfl, s.mem.st.t h, q1, tyM_at s a ht, q2, Want.s w s rfl⟩
    · exact w.elim
  · exact w.elim
end M3
set_option Elab.async false
set_option linter.all false
set_option autoImplicit false
set_option maxRecDepth 100000
set_option maxHeartbeats 2000000
namespace M3
open PySem L2 PySem.Spec PyProof.Rows
structure GOb (S : Sg) (cn mn : Str) (n k : Nat) (F : MF) (C f : Addr) : Prop where
  mg : S.mg cn = some (.ref C)
  at_ : PySem.W.findIn S.K (.ref C) mn = some (some (.ref f))
  fn : PySem.W.isFn S.K (.ref f) = true
  D : Def3n S.P S.w S.K S.mg S.base k f n F
def GO (S : Sg) (cn mn : Str) (n k : Nat) (F : MF) : Prop := ∃ C f, GOb S cn mn n k F C f
def GTy (S : Sg) (cn : Str) : Prop := ∃ C, S.mg cn = some (.ref C) ∧ PySem.W.subIn S.K (.type "str") (.ref C) = some false
section
variable {X : Cx} {E : WX} {k n : Nat} {f C : Addr} {F : MF} {cn mn : Str} {EE : XK}
theorem call_at {A : Around} {pins : List (Addr × Obj)} {s : Shared} {σ : L2.St} {H : Hp} {vs : List V} {us : List Value} {Q : VK} (D : Def3n X.prog X.w X.K X.mg X.base k f n F) (sb : Sub X k A) (px : PassesAt (L2.CX X.prog X.w) X σ EE) (I : Inv X pins σ H s) (r : Vals vs us)
    (h : sp3 n X.K X.mg F vs H Q EE) : wpAny (model X.prog X.w) A (call (.ref f) us) (EP X pins σ Q) X.xe s := by
  obtain ⟨fd, ps, hn, ok, hk, hb⟩ := D
  subst hn
  have e0 : Env0 X.prog X.w X.K X.mg X.base A X.stack s H := by
    have e := I.env0
    exact ⟨by rw [sb.fr]; exact e.frames, e.mod, e.bs, e.bsz, e.funs, e.frf, e.hok, e.bare⟩
  have hl := ok.len _ _ _ _ h
  have hlu := r.length
  refine wpAny_call (codeAny_mono (ok.run A X.stack s H ⟨us, []⟩ us vs Q EE sb.room e0 (by
    have := hb s us I.kIn (by simp; omega)
    simpa using this) r h) fun r s' hq => ?_)
  cases r with
  | error e => exact px pins H s e s' I hq
  | ok fl =>
    cases fl with
    | ret w => exact I.after hq
    | next => exact False.elim hq
    | brk => exact False.elim hq
    | cont => exact False.elim hq
def okD (cn : Str) : Dv → Bool
  | .ins c' _ => decide (c' = cn)
  | .str _ => true
  | _ => false
def OkV (C : Addr) (v : V) (H : Hp) : Prop := (∃ a dx fs, v = .ref a ∧ H a = some (.ins C dx fs)) ∨ ∃ z, v = .str z
theorem okD_at {c : Cf} {ρ : Sl} {m : Mm} {σ : L2.St} {H : Hp} {T : Tm} {G : Hp} {μ : List Addr} (hC : c.mg cn = some (.ref C)) (s : St3 c ρ m σ H T G μ) {d : Dv} {v : V} (r : Rep c.K c.mg μ G d v) (e : okD cn d = true) : OkV C v H := by
  cases d <;> simp [okD] at e
  · cases r; exact .inr ⟨_, rfl⟩
  · rename_i c' fs
    subst e
    obtain ⟨a, C', dx, ws, rfl, hC', hp, _⟩ := ins_at (x := .v (.ins c' fs)) s r rfl
    rw [hC] at hC'; cases hC'
    exact .inl ⟨a, dx, ws, rfl, hp⟩
theorem okV_type {pins : List (Addr × Obj)} {s : Shared} {σ : L2.St} {H : Hp} {v : V} {u : Value} (hs : PySem.W.subIn X.K (.type "str") (.ref C) = some false) (I : Inv X pins σ H s) (ru : RelV v u) (ok : OkV C v H) :
    ∃ tb, PySem.W.Looks (model X.prog X.w) s.heap (typeOf u) tb ∧ PySem.W.notFirst X.K C tb = true := by
  rcases ok with ⟨a, dx, fs, rfl, h⟩ | ⟨z, rfl⟩
  · obtain rfl : u = Value.ref a := ru
    obtain ⟨mA, J, _⟩ := ins_get I.hok h
    obtain ⟨od, J, _⟩ := J.look
    exact ⟨.ref C, J.type, by simp [PySem.W.notFirst]⟩
  · obtain ⟨t, rfl⟩ := ru
    exact ⟨.type "str", PySem.W.Looks.of_pure rfl, by simp [PySem.W.notFirst, hs]⟩
def rEqO (n : Nat) (K : PySem.W.Frag) (mg : Str → Option Value) (F : MF) (C : Addr) : R2 := fun x y H Q => (∃ a dx fs, x = .ref a ∧ H a = some (.ins C dx fs)) ∧ OkV C y H ∧ sp3 n K mg F [x, y] H Q E0
theorem relV_ne {v : V} {u : Value} (r : RelV v u) : u ≠ .notImplemented := by
  intro e; subst e
  cases v <;> first | exact nomatch r | (obtain ⟨_, r⟩ := r; cases r)
theorem cmpBack_of {Q : Value → Shared → Prop} {u : Value} {s' : Shared} (h : u ≠ .notImplemented) (q : Q u s') : PySem.W.CmpBack Q u s' := by
  cases u <;> first | exact absurd rfl h | exact q
theorem op_eqO (G : GOb (sg X) cn "__eq__" 2 k F C f) (hs : PySem.W.subIn X.K (.type "str") (.ref C) = some false) (hr : Room k X.A) : OpR X (compareOp .Eq) (rEqO 2 X.K X.mg F C) := by
  intro pins s σ H x y v u Q I rx ry ⟨⟨a, dx, fs, ex, ha⟩, ok, sp⟩
  subst ex
  obtain rfl : v = Value.ref a := rx
  obtain ⟨mA, J, _⟩ := ins_get I.hok ha
  obtain ⟨od, J, _⟩ := J.look
  obtain ⟨m, hF⟩ := I.fr
  obtain ⟨tb, ht, hn⟩ := okV_type hs I ry ok
  refine PySem.W.cmp_ofEq (PySem.W.cmp_K (op := .Eq) (tb := tb) hr.units0 hF I.ok.mod.kin J ht hn G.at_ G.fn ?_)
  refine thn (call_at (EE := E0) (A := X.A) G.D ⟨hr, rfl⟩ (fun pins H s e s' I q => passL (X := X) pins σ H s e s' I q) I (.cons (show L2.RelV (.ref a) (.ref a) from rfl) (.cons ry .nil)) sp) fun z s' q => ?_
  obtain ⟨z', H', I', r', q'⟩ := id q
  exact cmpBack_of (relV_ne r') q
def gEqO (cn : Str) (F : MF) : Sl → Mm → Ar → Ar → Rs Ar := fun ρ m x y => match x, y with
    | .v d, .v d2 => match insOf ρ m (.v d) with
      | some (c', _) => if c' = cn ∧ okD cn d2 = true then match F [d, d2] m with
          | .ok r m2 => .ok (.v r) m2
          | _ => .no
        else .no
      | none => .no
    | _, _ => .no
def gNeO (cn : Str) (F : MF) : Sl → Mm → Ar → Ar → Rs Ar := fun ρ m x y => match x, y with
    | .v d, .v d2 => match insOf ρ m (.v d) with
      | some (c', _) => if c' = cn ∧ okD cn d2 = true then match F [d, d2] m with
          | .ok (.bl r) m2 => .ok (.v (.bl (!r))) m2
          | _ => .no
        else .no
      | none => .no
    | _, _ => .no
theorem opS_eqO {K : PySem.W.Frag} {mg : Str → Option Value} (hC : mg cn = some (.ref C)) : OpS K mg E (rEqO 2 K mg F C) (gEqO cn F) := by
  intro b ρ m σ H T G μ v u x y Q s r1 r2 w
  cases x with
  | b i => exact w.elim
  | v d =>
    cases y with
    | b i => exact w.elim
    | v d2 =>
      unfold gEqO at w
      simp only at w
      cases e : insOf ρ m (.v d) with
      | none => simp only [e] at w; exact w.elim
      | some q =>
        obtain ⟨c', fs⟩ := q
        simp only [e] at w
        obtain ⟨a, C', dx, ws, rfl, hC', hp, rk⟩ := ins_at s r1 e
        by_cases z : c' = cn ∧ okD cn d2 = true
        · rw [if_pos z] at w
          have hC' : mg c' = some (.ref C') := hC'
          rw [z.1, hC] at hC'; cases hC'
          refine ⟨⟨a, dx, ws, rfl, hp⟩, okD_at (c := b.cf K mg) hC s r2 z.2, G, μ, m, [d, d2], rfl, s.mem, .cons r1 (.cons r2 .nil), ?_⟩
          revert w
          cases F [d, d2] m with
          | no => exact id
          | ex x m' => exact fun w => w.elim
          | ok r m' => exact fun w v H' G' μ' mem le rp => Want.v w ⟨G', μ', (s.next mem le).push rp⟩
        · rw [if_neg z] at w; exact w.elim
section
variable {M : Model} {prog : Program} {w : World} {A : Around} {EX : Value → Shared → Prop} {s : Shared} {K : PySem.W.Frag} {x C f L : Addr} {ox : Obj} {od : Option Obj} {b tb : Value} {h₀ : Heap} {mm : Str → Option Value}
end
def rRepr (K : PySem.W.Frag) (mg : Str → Option Value) (F : MF) (C : Addr) : V → Hp → VK → Prop := fun x H Q => (∃ a dx fs, x = .ref a ∧ H a = some (.ins C dx fs)) ∧ sp3 1 K mg F [x] H (fun v H' => ∃ z, v = .str z ∧ Q v H') E0
def gRepr (cn : Str) (F : MF) : Sl → Mm → Ar → Rs Ar := fun ρ m x => match x with
    | .v d => match insOf ρ m (.v d) with
      | some (c', _) => if c' = cn then match F [d] m with
          | .ok (.str r) m2 => .ok (.v (.str r)) m2
          | _ => .no
        else .no
      | none => .no
    | _ => .no
theorem call_reprO (G : GOb (sg X) cn "__repr__" 1 k F C f) (hr : Room (k + 1) X.A) : CallR X (.builtin "repr") (fun xs H Q => ∃ x, xs = [x] ∧ rRepr X.K X.mg F C x H Q) := by
  intro pins s σ H xs us Q I r ⟨x, ex, ⟨a, dx, fs, ex2, ha⟩, sp⟩
  subst ex; subst ex2
  obtain ⟨u, us', rfl, ru, r'⟩ : ∃ u us', us = u :: us' ∧ L2.RelV (.ref a) u ∧ Vals [] us' := by
    cases r with
    | cons a b => exact ⟨_, _, rfl, a, b⟩
  cases r'
  obtain rfl : u = Value.ref a := ru
  obtain ⟨mA, J, _⟩ := ins_get I.hok ha
  obtain ⟨od, J, _⟩ := J.look
  obtain ⟨m, hF⟩ := I.fr
  have sb : Sub X k X.A.in1 := Sub.in1 (X := X) (A := X.A) ⟨hr, rfl⟩
  refine PySem.W.repr_K sb.room.units0 hF I.ok.mod.kin J G.at_ G.fn ?_
  refine thn (call_at (EE := E0) (A := X.A.in1) G.D sb (fun pins H s e s' I q => passL (X := X) pins σ H s e s' I q) I (.cons (show L2.RelV (.ref a) (.ref a) from rfl) .nil) sp) fun z s' q => ?_
  obtain ⟨z', H', I', r', b, e', q'⟩ := q
  subst e'
  obtain ⟨t, rfl⟩ := r'
  exact ⟨.str b, H', I', (show L2.RelV (.str b) _ from ⟨_, rfl⟩), q'⟩
theorem unS_reprO {K : PySem.W.Frag} {mg : Str → Option Value} (hC : mg cn = some (.ref C)) : UnS K mg E (fun v => (fun xs H Q => ∃ x, xs = [x] ∧ rRepr K mg F C x H Q) [v]) (gRepr cn F) := by
  intro b ρ m σ H T G μ v x Q s r1 w
  refine ⟨v, rfl, ?_⟩
  unfold gRepr at w
  cases x with
  | b i => exact w.elim
  | v d =>
      simp only at w
      cases e : insOf ρ m (.v d) with
      | none => simp only [e] at w; exact w.elim
      | some q =>
        obtain ⟨c', fs⟩ := q
        simp only [e] at w
        obtain ⟨a, C', dx, ws, rfl, hC', hp, rk⟩ := ins_at s r1 e
        by_cases z : c' = cn
        · rw [if_pos z] at w
          have hC' : mg c' = some (.ref C') := hC'
          rw [z, hC] at hC'; cases hC'
          refine ⟨⟨a, dx, ws, rfl, hp⟩, G, μ, m, [d], rfl, s.mem, .cons r1 .nil, ?_⟩
          revert w
          cases F [d] m with
          | no => exact id
          | ex x m' => exact fun w => w.elim
          | ok r m' =>
            cases r with
            | str r => exact fun w v H' G' μ' mem le rp => by cases rp; exact ⟨r, rfl, Want.v w ⟨G', μ', (s.next mem le).push (.str _)⟩⟩
            | _ => exact fun w => w.elim
        · rw [if_neg z] at w; exact w.elim
def rEqY (K : PySem.W.Frag) (mg : Str → Option Value) (cn : Str) (F : MF) : R2 := fun x y H Q => ∃ C, mg cn = some (.ref C) ∧ rEqO 2 K mg F C x y H Q
theorem op_eqY (G : GO (sg X) cn "__eq__" 2 k F) (Y : GTy (sg X) cn) (hr : Room (k + 1) X.A) : OpR X (compareOp .Eq) (rEqY X.K X.mg cn F) := by
  intro pins s σ H x y v u Q I rx ry ⟨C, hC, q⟩
  obtain ⟨C1, f, g⟩ := G
  obtain ⟨C2, e2, hs⟩ := Y
  have e1 := g.mg
  have e1 : X.mg cn = some (.ref C1) := e1
  have e2 : X.mg cn = some (.ref C2) := e2
  rw [hC] at e1 e2; cases e1; cases e2
  exact op_eqO g hs (hr.mono (Nat.le_succ _)) pins s σ H x y v u Q I rx ry q
theorem opS_eqY (G : GO (sg X) cn "__eq__" 2 k F) : OpS X.K X.mg E (rEqY X.K X.mg cn F) (gEqO cn F) := by
  intro b ρ m σ H T G1 μ v u x y Q s r1 r2 w
  obtain ⟨C, f, g⟩ := G
  exact ⟨C, g.mg, opS_eqO g.mg b ρ m σ H T G1 μ v u x y Q s r1 r2 w⟩
def rReprY (K : PySem.W.Frag) (mg : Str → Option Value) (cn : Str) (F : MF) : List V → Hp → VK → Prop := fun xs H Q => ∃ C, mg cn = some (.ref C) ∧ ∃ x, xs = [x] ∧ rRepr K mg F C x H Q
theorem call_reprY (G : GO (sg X) cn "__repr__" 1 k F) (hr : Room (k + 1) X.A) : CallR X (.builtin "repr") (rReprY X.K X.mg cn F) := by
  intro pins s σ H xs us Q I r ⟨C, hC, q⟩
  obtain ⟨C1, f, g⟩ := G
  have e1 : X.mg cn = some (.ref C1) := g.mg
  rw [hC] at e1; cases e1
  exact call_reprO g hr pins s σ H xs us Q I r q
theorem unS_reprY (G : GO (sg X) cn "__repr__" 1 k F) : UnS X.K X.mg E (fun v => rReprY X.K X.mg cn F [v]) (gRepr cn F) := by
  intro b ρ m σ H T G1 μ v x Q s r1 w
  obtain ⟨C, f, g⟩ := G
  exact ⟨C, g.mg, unS_reprO g.mg b ρ m σ H T G1 μ v x Q s r1 w⟩
theorem bt_repr : bootBuiltins "repr" = some (.builtin "repr") := by decide +kernel
theorem GO.mono {S : Sg} {k' : Nat} (G : GO S cn mn n k F) (h : k ≤ k') : GO S cn mn n k' F := by
  obtain ⟨C, f, g⟩ := G
  obtain ⟨fd, ps, hn, ok, hk, hb⟩ := g.D
  exact ⟨C, f, g.mg, g.at_, g.fn, fd, ps, hn, ok.mono h, hk, hb⟩
structure IsC (K : PySem.W.Frag) (C : Addr) : Prop where
  cl : Cls K C
  ha : PySem.W.findIn K (.ref C) "__class__" = some (some (.builtin "object.__class__"))
  hn : PySem.W.specialIn K (.builtin "object.__class__") "__get__" = some (some (.builtin "getset_descriptor.__get__"))
  htk : PySem.W.takesIn K (.builtin "object.__class__") = some true
  hm : PySem.W.mroIn K C (.type "object") = some true
  hc : PySem.W.isClsIn K C = true
  ht : PySem.W.typeIn K (.ref C) = some (.type "type")
  hs : PySem.W.subIn K (.type "str") (.ref C) = some false
def GIs (S : Sg) (cn : Str) : Prop := ∃ C, S.mg cn = some (.ref C) ∧ IsC S.K C
def gIsiO (cn : Str) : Sl → Mm → List Dv → Rs Ar := fun ρ m ds => match ds with
  | [.ins c' fs, .glb y] => if c' = cn ∧ y = cn then .ok (.v (.bl true)) m else .no
  | [.str z, .glb y] => if y = cn then .ok (.v (.bl false)) m else .no
  | _ => .no
theorem glb_ref {K : PySem.W.Frag} {mg : Str → Option Value} {μ : List Addr} {G : Hp} {y : Str} {v : V} (r : Rep K mg μ G (.glb y) v) (h : mg y = some (.ref C)) : v = .ref C := by
  cases r with
  | glb h1 h2 =>
    rw [h] at h1; cases h1
    cases v with
    | ref a => cases h2; rfl
    | non => cases h2
    | bl => cases h2
    | ty => cases h2
    | int => obtain ⟨_, z⟩ := h2; cases z
    | str => obtain ⟨_, z⟩ := h2; cases z
    | byt => obtain ⟨_, z⟩ := h2; cases z
    | flt => obtain ⟨_, z⟩ := h2; cases z
theorem callS_isiO {K : PySem.W.Frag} {mg : Str → Option Value} (hC : mg cn = some (.ref C)) (c : IsC K C) : CallS K mg E (rIsi K) (gIsiO cn) := by
  intro b ρ m σ H T G μ vs ds Q s r w
  unfold gIsiO at w
  split at w
  · rename_i c' fs y
    by_cases z : c' = cn ∧ y = cn
    · rw [if_pos z] at w
      obtain ⟨rfl, rfl⟩ := z
      cases r with
      | cons r1 r2 =>
        cases r2 with
        | cons r2 r3 =>
          cases r3
          obtain ⟨a, C', dx, ws, rfl, hC', hp, _⟩ := ins_at (x := .v (.ins _ fs)) s r1 rfl
          have hC' : mg _ = some (.ref C') := hC'
          rw [hC] at hC'; cases hC'
          have hv := glb_ref r2 hC
          subst hv
          exact ⟨_, _, .ref C, .ref C, true, rfl, .own C, .base (.ins hp c.cl c.ha c.hn c.htk c.hm), by simp [PySem.W.kitOne], Want.s w s rfl⟩
    · rw [if_neg z] at w; exact w.elim
  · rename_i z y
    by_cases e : y = cn
    · rw [if_pos e] at w
      subst e
      cases r with
      | cons r1 r2 =>
        cases r2 with
        | cons r2 r3 =>
          cases r3
          cases r1
          have hv := glb_ref r2 hC
          subst hv
          refine ⟨_, _, .type "str", .ref C, false, rfl, .own C, .base (.str _), ?_, Want.s w s rfl⟩
          have h1 : (PySem.W.clsIn K C).isSome = true := c.hc
          simp [PySem.W.kitOne, PySem.W.kitCls, h1, c.ht, c.hs]
    · rw [if_neg e] at w; exact w.elim
  · exact w.elim
theorem callS_isiY (G : GIs (sg X) cn) : CallS X.K X.mg E (rIsi X.K) (gIsiO cn) := let ⟨_, h, c⟩ := G; callS_isiO h c
end
end M3
set_option Elab.async false
set_option linter.all false
set_option autoImplicit false
set_option maxRecDepth 100000
set_option maxHeartbeats 2000000
namespace M3
open PySem L2 PySem.Spec PyProof.Rows
section
variable {X : Cx} {E : WX} {N : List Str} {sc fsc : Scope} {pn : List (Addr × Obj)} {xe : Value → Shared → Prop}
theorem Nm.tr (h : Nm X N sc fsc) : Nm (X.tr pn xe) N sc fsc := ⟨h.hN, h.nd, h.hsc, h.calm, h.fn⟩
def mTry0 (b : MS) : MS := fun ρ m => match b ρ m with
  | .ex _ _ _ => .no
  | r => r
def mMutD (t : String) (g : Ob → List Dv → Option (Ob × Dv)) (fo : MN) (fa : MA) : MS := fun ρ m => (fo ρ m).st ρ fun o m1 => if tyOb t o = true then (fa ρ m1).st ρ fun ds m2 => match g o ds with
    | some _ => .nx ρ m2
    | none => .no
  else .no
end
def mGl (n : Nat) (g : MGs) : MG := fun d ρ => match d with
  | .lst ds => if ds.length = n then g ds ρ else none
  | _ => none
end M3
set_option Elab.async false
set_option linter.all false
set_option autoImplicit false
set_option maxRecDepth 100000
set_option maxHeartbeats 2000000
namespace M3
open PySem L2 PySem.Spec PyProof.Rows
def mkEndL (k : Nat) : Rs Dv → Rs Ar
  | .ok .non m2 => .ok (.v (.loc k)) m2
  | .ex x m2 => .ex x m2
  | _ => .no
def mMakeL (cn : Str) (n : Nat) (F : MF) (fa : MA) : ME := fun ρ m => (fa ρ m).bind fun ds m1 => if ds.length + 1 = n then mkEndL m1.length (F (.loc m1.length :: ds) (m1 ++ [some (.ins cn [])])) else .no
section
variable {X : Cx} {E : WX} {args : List Expr} {fs : MA} {pos p : Pos} {x cn : Str} {n k : Nat} {C : Addr} {F : MF}
end
end M3
set_option Elab.async false
set_option linter.all false
set_option autoImplicit false
set_option maxRecDepth 100000
set_option maxHeartbeats 2000000
namespace M3
open PySem L2 PySem.Spec PyProof.Rows
def mDct0 : MN := fun _ m => .ok (.dct []) m
def dspL : List (Key × ME) → Sl → Mm → Rs (List (Key × Dv))
  | [], _, m => .ok [] m
  | kf :: r, ρ, m => match kf.2 ρ m with
    | .ok (.v d) m1 => match dspL r ρ m1 with
      | .ok kvs m2 => .ok ((kf.1, d) :: kvs) m2
      | _ => .no
    | _ => .no
def mDsp (fs : List (Key × ME)) : MN := fun ρ m => match dspL fs ρ m with
  | .ok kvs m1 => if kvs.length ≤ 15 then .ok (.dct (mergeD [] kvs)) m1 else .no
  | _ => .no
section
variable {K : PySem.W.Frag} {mg : Str → Option Value} {E : WX} {b : Bs} {ρ : Sl} {σ : L2.St}
end
section
variable {K : PySem.W.Frag} {mg : Str → Option Value} {E : WX} {c : Cf} {ρ : Sl} {m : Mm} {σ : L2.St} {H : Hp} {T : Tm} {G : Hp} {μ : List Addr}
end
def dropD {κ : Type} [DecidableEq κ] (kvs : List (κ × Dv)) (k : κ) : List (κ × Dv) := kvs.filter fun kv => decide (kv.1 ≠ k)
def gDPop : Ob → List Dv → Option (Ob × Dv) := fun o ds => match o, ds with
  | .dct kvs, [i, d] => match keyD i with
    | some k => match dget kvs k with
      | some x => some (.dct (dropD kvs k), x)
      | none => some (.dct kvs, d)
    | none => none
  | _, _ => none
def gDUpd : Ob → List Dv → Option (Ob × Dv) := fun o ds => match o, ds with
  | .dct kvs, [.dct more] => if kvs.length + more.length ≤ sizeLine then some (.dct (mergeD kvs more), .non) else none
  | _, _ => none
section
variable {X : Cx} {E : WX} {o e : Expr} {fo : ME} {fa : MA} {pos apos cpos : Pos} {name : Str} {t mid : String} {r : V → List V → Hp → VK → Prop} {g : Ob → List Dv → Option (Ob × Dv)} {es : List Expr}
def mMutD0 (t : String) (g : Ob → List Dv → Option (Ob × Dv)) (fo : MN) : MS := fun ρ m => (fo ρ m).st ρ fun o m1 => if tyOb t o = true then match g o [] with
    | some _ => .nx ρ m1
    | none => .no
  else .no
theorem s_mutD0 {fo : MN} (pa : PlainAttrs t) (slot : Slot t name mid) (hty : typeOf (.builtin mid) = pure (.type "method_descriptor")) (hm : MtR X mid r) (hr : MutR r g) (ho : PN X E o fo)
    (hbase : attributeBase o name X.env (eval o X.env) = eval o X.env := by rfl) (hline : (apos.endLine == cpos.line) = true := by rfl)
    (hsw : swapsWith (.Call (.Attribute o name apos) [] [] cpos) none pos.line X.env = pure false := by rfl) :
    PSx X E (.Expr (.Call (.Attribute o name apos) [] [] cpos) pos) (mMutD0 t g fo) :=
  PSi (ps_expr (pe_bm0 pa slot hty hm ho hbase hline) hsw) fun D σ H ⟨b, ρ, m, T, S, w⟩ => by
    refine ⟨b, ρ, m, T, S, ?_⟩
    unfold mMutD0 at w
    revert w
    cases fo ρ m with
    | no => exact id
    | ex x m1 => exact fun w => w σ
    | ok o m1 =>
      intro w p H1 ⟨G, μ, s⟩
      rw [Rs.st_ok] at w
      by_cases ht : tyOb t o = true
      · rw [if_pos ht] at w
        obtain ⟨a, ea, ob, g0, n0, h0⟩ := s.cells (some (.ref p), .own o) (by simp)
        cases ea
        cases e3 : g o [] with
        | none => rw [e3] at w; exact w.elim
        | some od =>
          obtain ⟨o', d⟩ := od
          rw [e3] at w
          exact ⟨ty_at ob ht, hr _ _ _ _ _ _ _ _ _ _ _ _ ob .nil e3 fun u z q1 q2 => w σ _ ⟨G, μ, (s.putTop q1).pop⟩⟩
      · rw [if_neg ht] at w; exact w.elim
end
def mFldAug (cn f : Str) (g : Int → Int → Int) (fo fv : ME) : MS := fun ρ m => (fo ρ m).st ρ fun x m1 => match mobOf ρ m1 x with
  | some (.ins c' fs) => if c' = cn then match fs.lookup f with
      | some (.int i) => (fv ρ m1).st ρ fun y m2 => match y with
        | .v (.int j) => match mobOf ρ m2 x with
          | some (.ins c2 fs2) => if c2 = cn ∧ fs2.length < 1000 then match mobPut ρ m2 x (.ins c2 (fput f (.int (g i j)) fs2)) with
              | some (ρ', m') => .nx ρ' m'
              | none => .no
            else .no
          | _ => .no
        | _ => .no
      | _ => .no
    else .no
  | _ => .no
section
variable {X : Cx} {E : WX} {o v : Expr} {fo fv : ME} {pos tpos : Pos} {cn f : Str} {op : Operator} {g : Int → Int → Int}
end
end M3
set_option Elab.async false
set_option linter.all false
set_option autoImplicit false
set_option maxRecDepth 100000
set_option maxHeartbeats 2000000
namespace M3
open PySem L2 PySem.Spec PyProof.Rows
section
variable {X : Cx} {pos : Pos} {o i : Expr} {f : Str} {to : TE}
end
abbrev MT := Dv → MS
def seqT : List MT → List Dv → MS
  | [], [], ρ, m => .nx ρ m
  | g :: gs, d :: ds, ρ, m => match g d ρ m with
    | .nx ρ' m' => seqT gs ds ρ' m'
    | _ => .no
  | _, _, _, _ => .no
section
variable {X : Cx} {E : WX} {o i e : Expr} {es : List Expr} {fo fi : ME} {fa : MA} {pos : Pos} {f cn : Str} {g : MT} {gs : List MT}
def mTSub (fo fi : ME) : MT := fun d ρ m => match fo ρ m with
  | .ok x m1 => match fi ρ m1 with
    | .ok (.v i) m2 => match mobOf ρ m2 x with
      | some o => match gSetIx o i d with
        | some o' => match mobPut ρ m2 x o' with
          | some (ρ', m') => .nx ρ' m'
          | none => .no
        | none => .no
      | none => .no
    | _ => .no
  | _ => .no
def mTFld (cn f : Str) (fo : ME) : MT := fun d ρ m => match fo ρ m with
  | .ok x m1 => match mobOf ρ m1 x with
    | some (.ins c' fs) => if c' = cn ∧ fs.length < 1000 then match mobPut ρ m1 x (.ins c' (fput f d fs)) with
        | some (ρ', m') => .nx ρ' m'
        | none => .no
      else .no
    | _ => .no
  | _ => .no
def mAsgT (fa : MA) (gs : List MT) : MS := fun ρ m => (fa ρ m).st ρ fun ds m1 => if ds.length ≤ sizeLine ∧ ds.length = gs.length then match seqT gs ds ρ m1 with
    | .nx ρ' m' => .nx ρ' m'
    | _ => .no
  else .no
end
section
variable {prog : Program} {w : World} {A : Around} {E : Value → Shared → Prop} {s : Shared}
end
section
variable {X : Cx} {E : WX} {e1 e2 : Expr} {pos sp : Pos} {k : Nat}
def mGs2 (g : MGs) : MG := fun d ρ => match tupOf (.v d) with
  | some (x :: xs) => if xs.length ≤ sizeLine then g [x, .lst xs] ρ else none
  | _ => none
end
def mItems (f : ME) : MI := fun ρ m => (f ρ m).bind fun x m1 => match x with
  | .v (.dct kvs) => .ok (kvs.map fun p => .tup [kD p.1, p.2]) m1
  | _ => .no
def rLenO (K : PySem.W.Frag) (mg : Str → Option Value) (F : MF) (C : Addr) : V → Hp → VK → Prop := fun x H Q => (∃ a dx fs, x = .ref a ∧ H a = some (.ins C dx fs)) ∧ sp3 1 K mg F [x] H (fun v H' => ∃ z : Int, v = .int z ∧ 0 ≤ z ∧ z < 2 ^ 63 ∧ Q v H') E0
def gLenO (cn : Str) (F : MF) : Sl → Mm → Ar → Rs Ar := fun ρ m x => match x with
    | .v d => match insOf ρ m (.v d) with
      | some (c', _) => if c' = cn then match F [d] m with
          | .ok (.int z) m2 => if 0 ≤ z ∧ z < 2 ^ 63 then .ok (.v (.int z)) m2 else .no
          | _ => .no
        else .no
      | none => .no
    | _ => .no
section
variable {X : Cx} {E : WX} {k n : Nat} {f C : Addr} {F : MF} {cn mn : Str}
theorem call_lenO (G : GOb (sg X) cn "__len__" 1 k F C f) (hr : Room (k + 1) X.A) : CallR X (.builtin "len") (fun xs H Q => ∃ x, xs = [x] ∧ rLenO X.K X.mg F C x H Q) := by
  intro pins s σ H xs us Q I r ⟨x, ex, ⟨a, dx, fs, ex2, ha⟩, sp⟩
  subst ex; subst ex2
  rw [Vals.ref1 r]
  obtain ⟨mA, J, _⟩ := ins_get I.hok ha
  obtain ⟨od, J, _⟩ := J.look
  obtain ⟨m, hF⟩ := I.fr
  have sb : Sub X k X.A.in1 := Sub.in1 (X := X) (A := X.A) ⟨hr, rfl⟩
  refine PySem.W.len_K hF I.ok.mod.kin J G.at_ G.fn (thn (call_at (EE := E0) (A := X.A.in1) G.D sb (fun pins H s e s' I q => passL (X := X) pins σ H s e s' I q) I (.cons (show L2.RelV (.ref a) (.ref a) from rfl) .nil) sp) fun z s' q => ?_)
  obtain ⟨z', H', I', r', b, e', h0, h1, q'⟩ := q
  subst e'
  obtain ⟨t, rfl⟩ := r'
  exact ⟨⟨h0, h1⟩, .int b, H', I'.tok _, (show L2.RelV (.int b) _ from ⟨_, rfl⟩), q'⟩
theorem unS_lenO {K : PySem.W.Frag} {mg : Str → Option Value} (hC : mg cn = some (.ref C)) : UnS K mg E (fun v => (fun xs H Q => ∃ x, xs = [x] ∧ rLenO K mg F C x H Q) [v]) (gLenO cn F) := by
  intro b ρ m σ H T G μ v x Q s r1 w
  refine ⟨v, rfl, ?_⟩
  unfold gLenO at w
  cases x with
  | b i => exact w.elim
  | v d =>
      simp only at w
      cases e : insOf ρ m (.v d) with
      | none => simp only [e] at w; exact w.elim
      | some q =>
        obtain ⟨c', fs⟩ := q
        simp only [e] at w
        obtain ⟨a, C', dx, ws, rfl, hC', hp, rk⟩ := ins_at s r1 e
        by_cases z : c' = cn
        · rw [if_pos z] at w
          have hC' : mg c' = some (.ref C') := hC'
          rw [z, hC] at hC'; cases hC'
          refine ⟨⟨a, dx, ws, rfl, hp⟩, G, μ, m, [d], rfl, s.mem, .cons r1 .nil, ?_⟩
          revert w
          cases F [d] m with
          | no => exact id
          | ex x m' => exact fun w => w.elim
          | ok r m' =>
            cases r with
            | int r =>
              intro w
              by_cases hz : 0 ≤ r ∧ r < 2 ^ 63
              · have w : Want E (b.cf K mg) ρ σ T Q (if 0 ≤ r ∧ r < 2 ^ 63 then .ok (.v (.int r)) m' else .no) := w
                rw [if_pos hz] at w
                intro v H' G' μ' mem le rp
                cases rp
                exact ⟨r, rfl, hz.1, hz.2, Want.v w ⟨G', μ', (s.next mem le).push (.int _)⟩⟩
              · have w : Want E (b.cf K mg) ρ σ T Q (if 0 ≤ r ∧ r < 2 ^ 63 then .ok (.v (.int r)) m' else .no) := w
                rw [if_neg hz] at w; exact w.elim
            | _ => exact fun w => w.elim
        · rw [if_neg z] at w; exact w.elim
def rLenY (K : PySem.W.Frag) (mg : Str → Option Value) (cn : Str) (F : MF) : List V → Hp → VK → Prop := fun xs H Q => ∃ C, mg cn = some (.ref C) ∧ ∃ x, xs = [x] ∧ rLenO K mg F C x H Q
theorem call_lenY (G : GO (sg X) cn "__len__" 1 k F) (hr : Room (k + 1) X.A) : CallR X (.builtin "len") (rLenY X.K X.mg cn F) := by
  intro pins s σ H xs us Q I r ⟨C, hC, q⟩
  obtain ⟨C1, f, g⟩ := G
  have e1 : X.mg cn = some (.ref C1) := g.mg
  rw [hC] at e1; cases e1
  exact call_lenO g hr pins s σ H xs us Q I r q
theorem unS_lenY (G : GO (sg X) cn "__len__" 1 k F) : UnS X.K X.mg E (fun v => rLenY X.K X.mg cn F [v]) (gLenO cn F) := by
  intro b ρ m σ H T G1 μ v x Q s r1 w
  obtain ⟨C, f, g⟩ := G
  exact ⟨C, g.mg, unS_lenO g.mg b ρ m σ H T G1 μ v x Q s r1 w⟩
def gInO (cn : Str) (neg : Bool) (F : MF) : Sl → Mm → Ar → Ar → Rs Ar := fun ρ m x y => match x, y with
    | .v d, .v d2 => match insOf ρ m (.v d2) with
      | some (c', _) => if c' = cn then match F [d2, d] m with
          | .ok (.bl r) m2 => .ok (.v (.bl (xor neg r))) m2
          | _ => .no
        else .no
      | none => .no
    | _, _ => .no
end
end M3
set_option Elab.async false
set_option linter.all false
set_option autoImplicit false
set_option maxRecDepth 100000
set_option maxHeartbeats 2000000
namespace M3
open PySem L2 PySem.Spec PyProof.Rows
abbrev MIP := Sl → Mm → Rs (List Dv × (Mm → Prop))
open Classical in
noncomputable def lcLP (P : Mm → Prop) (g : MG) (t : MB) (f : ME) (ρ : Sl) : List Dv → Mm → Rs (List Dv)
  | [], m => if P m then .ok [] m else .no
  | d :: ds, m => if P m then match g d ρ with
    | none => .no
    | some ρ1 => match t ρ1 m with
      | .ok k m1 => if k = true then match f ρ1 m1 with
          | .ok (.v y) m2 => match lcLP P g t f ρ ds m2 with
            | .ok ys m3 => .ok (y :: ys) m3
            | _ => .no
          | _ => .no
        else lcLP P g t f ρ ds m1
      | _ => .no
    else .no
noncomputable def mLcP (vs : List Nat) (it : MIP) (g : MG) (t : MB) (f : ME) : MN := fun ρ m => (it ρ m).bind fun dp m1 => match lcLP dp.2 g t f (wipeR ρ vs) dp.1 m1 with
  | .ok ys m2 => .ok (.lst ys) m2
  | _ => .no
section
variable {X : Cx} {E : WX} {tg iter elt : Expr} {ifs : List Expr} {scope : Scope} {own : List (Str × Nat)} {fa : ME} {pos : Pos} {g : MG} {it : MIP} {t : MB} {is : List Nat}
end
def mItL (f : ME) : MIP := fun ρ m => (f ρ m).bind fun x m1 => match x with
  | .v (.loc n) => match m1[n]? with
    | some (some (.lst ds)) => if ds.length ≤ sizeLine then .ok (ds, fun m => m[n]? = some (some (.lst ds))) m1 else .no
    | _ => .no
  | _ => .no
section
variable {X : Cx} {E : WX} {tg iter e : Expr} {fa : ME}
end
section
variable {X : Cx} {E : WX} {tg iter elt : Expr} {ifs : List Expr} {scope : Scope} {own : List (Str × Nat)} {fa : ME} {pos : Pos} {g : MG} {it : MI} {t : MB} {is : List Nat} {i : Nat} {y : Str} {py spos : Pos}
end
end M3
set_option Elab.async false
set_option linter.all false
set_option autoImplicit false
set_option maxRecDepth 100000
set_option maxHeartbeats 2000000
namespace M3
open PySem L2 PySem.Spec PyProof.Rows
def gListD : Sl → Mm → Ar → Rs Ob := fun ρ m x => match dctOf ρ m x with
  | some kvs => .ok (.lst (kvs.map fun p => kD p.1)) m
  | none => .no
end M3
set_option Elab.async false
set_option linter.all false
set_option autoImplicit false
set_option maxRecDepth 100000
set_option maxHeartbeats 4000000
namespace M3
section
open PySem PySem.Builtin PyProof.Rows Srt SrtO
variable {prog : Program} {w : World} {A : Around} {E : Value → Shared → Prop} {s : Shared}
def IsIb (h : Heap) (v : Value) (x : Int) (y : Bool) : Prop := ∃ a o t n, v = .ref a ∧ h.get? a = some o ∧ o.cls = .type "tuple" ∧ o.data = .seq #[.int x t, .bool y] n
theorem IsIb.keeps {h h' : Heap} {v : Value} {x : Int} {y : Bool} (p : IsIb h v x y) (k : ∀ b o, h.get? b = some o → o.cls = .type "tuple" → h'.get? b = some o) : IsIb h' v x y := by
  obtain ⟨a, o, t, n, e, ho, hc, hd⟩ := p
  exact ⟨a, o, t, n, e, k _ _ ho hc, hc, hd⟩
end
open PySem L2 PySem.Spec PyProof.Rows
section
variable {K : PySem.W.Frag} {mg : Str → Option Value} {E : WX}
end
end M3
set_option Elab.async false
set_option linter.all false
set_option autoImplicit false
set_option maxRecDepth 100000
set_option maxHeartbeats 4000000
namespace M3
open PySem L2 PySem.Spec PyProof.Rows
def gLenD : Sl → Mm → Ar → Rs Ar := fun ρ m x => match dctOf ρ m x with
  | some kvs => .ok (.v (.int (kvs.length : Nat))) m
  | none => .no
end M3
set_option Elab.async false
set_option linter.all false
set_option autoImplicit false
set_option maxRecDepth 100000
set_option maxHeartbeats 4000000
namespace M3
open PySem PySem.W PySem.Calls PyProof.Rows
section
variable {prog : Program} {w : World} {A : Around} {E : Value → Shared → Prop} {K : Frag}
abbrev excD (C t : Addr) (d : Option Addr) : Obj := { cls := .ref C, dict := d, data := .fields #[.ref t, .none, .none, .none, .bool false, .none] }
theorem sup_call {C x u t0 : Addr} {nm q : Str} {N : Addr} {bs bm : List Value} {hd : Bool} {sn : List Str} {sub : List Value} {ab : Bool} {col : Option Bool} {dd : Option Addr} {k0 k1 k2 k3 k5 : Option Value} {hp : Heap} {g : Array GenState} {d : Drawn} {t : Nat} {os : OsState} {rest : List Value} {Q : Value → Shared → Prop}
    (hC : hp.get? C = some (excClassObj nm q C N bs bm hd sn sub ab col dd k0 k1 k2 k3 k5 "ValueError.__new__")) (hu : hp.get? u = some (kxs_mw "ValueError.__init__" x)) (hx : hp.get? x = some (excD C t0 none)) (hz : rest.length ≤ sizeLine)
    (h : ∀ h' t1, (∀ b o, b ≠ x → hp.get? b = some o → h'.get? b = some o) → h'.get? x = some (excD C t1 none) → Q .none ⟨h', g, d, t, os⟩) : wpAny (model prog w) A (call (.ref u) rest) Q E ⟨hp, g, d, t, os⟩ := by
  have FB := F.excBase_ValueError
  refine wpAny_call (codeAny_of_tree ?_)
  show wpAny _ A.in1 (callAny (.ref u) ⟨rest, []⟩) _ _ _
  simp only [callAny]
  refine wpAny_bind (wpAny_load hu ?_)
  simp only [kxs_mw, show (Value.type "method-wrapper" == Value.type "method" || Value.type "method-wrapper" == Value.type "builtin_function_or_method" || Value.type "method-wrapper" == Value.type "method-wrapper") = true by decide, if_true]
  refine KFB.if_so (by decide) ?_
  refine wpAny_bind (check_bound_init FB.toExcCallFacts hC hx rfl ?_)
  refine wpAny_bind (wpAny_pure (wpAny_pure ?_))
  refine ⟨plainId_quiet FB.init.plain _, codeAny_builtin FB.initEntry ?_⟩
  exact exc_init_tree (cls := .ref C) (t0 := t0) (dv := none) (c2 := .none) (c3 := .none) (b4 := .bool false) hx hz fun h' ko kx kt => h h' _ ko kx
structure SupF (prog : Program) (K : Frag) (C f : Addr) (ar : Arg) (name qual : Str) (params : Arguments) (body : List Stmt) (scope : Scope) (dV kV doc pm : Value) (an : Option Addr) (cda cc : Addr) (ct : Value) : Prop where
  fn : ∃ oc od osl, K.lookup f = some ⟨oc, od, .func (ksFn name qual params body scope dV kV doc pm an (.ref cda) ct cc), osl⟩
  code : ∃ ccl cdd ccs vs file tf, K.lookup cda = some ⟨ccl, cdd, .fields vs, ccs⟩ ∧ vs[2]? = some (.str file tf) ∧ ((prog.main.file : Str) == file) = true
  crec : codeIn K (.ref cda) qual = true
  cell : ∃ cl cld csl, K.lookup cc = some ⟨cl, cld, .cell (some (.ref C)), csl⟩
  cls : ∃ nm q N bs bm sn sub ab col dd k0 k1 k2 k3 k5, K.lookup C = some (excClassObj nm q C N bs bm true sn sub ab col dd k0 k1 k2 k3 k5 "ValueError.__new__") ∧ PySem.HandSPX.refsVE bm = true
  sup : ks_superIn K C C "__init__" = some (some (.builtin "ValueError.__init__"))
  subV : subIn K (.ref C) (.type "ValueError") = some true
  mro : mroIn K C (.ref C) = some true
  opq : nsIn K cStatics "thirdparty.any" = some none
  sa : findIn K (.ref C) "__setattr__" = some (some (.builtin "object.__setattr__"))
  arg : (params.posonlyargs ++ params.args).head? = some ar
  htop : (prog.main.scope.names.lookup ("super" : Str)).isSome = false
  ks : scope.names.lookup ("super" : Str) = some .globalImplicit
  kc : scope.names.lookup ("__class__" : Str) = some .free
  ka : scope.names.lookup ar.arg = some .local
  kk : scope.kind = .function
  co : scope.isCoroutine = false
  gen : scope.isGenerator = false
  nocell : ∀ x ∈ scope.names, x.2 ≠ .cell
variable {C f cda cc : Addr} {ar : Arg} {name qual : Str} {params : Arguments} {body : List Stmt} {scope : Scope} {dV kV doc pm ct : Value} {an : Option Addr}
theorem sup_first (T : SupF prog K C f ar name qual params body scope dV kV doc pm an cda cc ct) {x t0 L : Addr} {m mg mb : Str → Option Value} {s : Shared} {msg : Str} {k0 : Nat} {p0 p1 p2 p3 p4 p5 : Pos} {Q : Flow → Shared → Prop}
    (X : K.In s.heap) (hx : s.heap.get? x = some (excD C t0 none)) (hn : s.heap.Ns L m) (hv : m ar.arg = some (.ref x)) (hG : s.heap.Ns mainGlobals mg) (hm : mg "super" = none) (hB : s.heap.Ns builtinsNs mb) (hb : mb "super" = some (.type "super"))
    {pl : Sem Bool} (hi : interactive (ksEnv qual scope L f (.ref cda) cc) = false) (hsw : swapsWith (.Call (.Attribute (.Call (.Name "super" p0) [] [] p1) "__init__" p2) [.Constant (.str msg) k0 p3] [] p4) none p5.line (ksEnv qual scope L f (.ref cda) cc) = pure false)
    (he : eval (.Call (.Attribute (.Call (.Name "super" p0) [] [] p1) "__init__" p2) [.Constant (.str msg) k0 p3] [] p4) (ksEnv qual scope L f (.ref cda) cc) = (do
      let ov ← attributeBase (.Call (.Name "super" p0) [] [] p1) "__init__" (ksEnv qual scope L f (.ref cda) cc) (eval (.Call (.Name "super" p0) [] [] p1) (ksEnv qual scope L f (.ref cda) cc))
      standAt p2.atName
      let (fu, first) ← holding [ov] (getMethod ov "__init__" pl)
      callWith p4 fu first (backTo p4 (starEach [.Constant (.str msg) k0 p3] (ksEnv qual scope L f (.ref cda) cc))) []))
    (h : ∀ s' t1, s'.os = s.os → s'.gens = s.gens → s'.drawn = s.drawn → (∀ b o, b ≠ x → s.heap.get? b = some o → s'.heap.get? b = some o) → s'.heap.get? x = some (excD C t1 none) → Q .next s') :
    _root_.PySem.wpAt (model prog w) A (.func body (ksEnv qual scope L f (.ref cda) cc)) (exec (.Expr (.Call (.Attribute (.Call (.Name "super" p0) [] [] p1) "__init__" p2) [.Constant (.str msg) k0 p3] [] p4) p5) (ksEnv qual scope L f (.ref cda) cc)) Q E s := by
  obtain ⟨oc, od, osl, hf⟩ := T.fn
  obtain ⟨ccl, cdd, ccs, vs, file, tf, hcode, hvs, hfile⟩ := T.code
  obtain ⟨cl, cld, csl, hcell⟩ := T.cell
  obtain ⟨nm, q, N, bs, bm, sn, sub, ab, col, dd, k0', k1, k2, k3, k5, hC, hbm⟩ := T.cls
  have hcl : clsIn K C = some { name := nm, bases := bs, mro := .ref C :: bm, ns := N, qualname := q, hasDict := true, slotNames := sn, subclasses := sub, abstract := ab, collection := col, hasDel := false } := by unfold clsIn; rw [hC] <;> rfl
  have hC' := X _ _ hC
  obtain ⟨hp, g, d, t, os⟩ := s
  refine ks_wpAt_Expr_any (ks_wpAt_MethodCall (pl := pl) ?_ he) hi hsw
  refine ks_wpAt_super_base (env := ksEnv qual scope L f (.ref cda) cc) T.ks T.kc (by decide +kernel) rfl (X _ _ hf) rfl T.arg rfl (X _ _ hcode) rfl hvs hfile T.htop ?_
  refine ks_loadName_global T.kk T.ks (loadGlobal_builtin (env := ksEnv qual scope L f (.ref cda) cc) hG hm hB hb ⟨rfl, ?_⟩)
  refine wpAny_loadName_free T.kk T.kc rfl ⟨_, X _ _ hcell, rfl⟩ ?_
  refine wpAny_loadName_local T.kk T.ka hn hv ?_
  have I : InstAt hp x (excD C t0 none) C none := ⟨hx, rfl, rfl, trivial⟩
  refine ks_wpAny_isType_cls hC' rfl ⟨rfl, ?_⟩
  refine ks_wpAny_call_super hC' rfl I.at_ I.cls (fun c e => by cases e) (looks_mroIn X T.mro) (fun h1 hso k1 => ?_)
  have hI1 : h1.get? x = some (excD C t0 none) := k1 _ _ hx
  have X1 : K.In h1 := X.keeps k1
  have hBi : Looks (model prog w) h1 (isInstance (.ref x) (.type "ValueError")) true := (show InstAt h1 x (excD C t0 none) C none from ⟨hI1, rfl, rfl, trivial⟩).type.andThen (looks_subIn X1 T.subV)
  have hsup := T.sup
  unfold ks_superIn at hsup
  rw [hcl] at hsup
  refine kxs_getMethod kxs_ValueError hso (looks_opaque X1 T.opq) (l₀ := .ref C :: bm) (fun A Q E s k q => wpAny_bind ((looks_clsIn X1 hcl) A _ E s k (wpAny_pure q))) rfl X1 hsup hBi (ks_ne X1 (show InstAt h1 x (excD C t0 none) C none from ⟨hI1, rfl, rfl, trivial⟩) hcl) (by decide +kernel) ?_
  have hmw : (h1.push (kxs_mw "ValueError.__init__" x)).get? h1.objs.size = some (kxs_mw "ValueError.__init__" x) := Heap.get?_push_at rfl rfl
  have k2 : ∀ b o, h1.get? b = some o → (h1.push (kxs_mw "ValueError.__init__" x)).get? b = some o := fun b o e => Heap.get?_push_of_some _ e
  have hst : starEach [.Constant (.str msg) k0 p3] (ksEnv qual scope L f (.ref cda) cc) = (false, eval (.Constant (.str msg) k0 p3) (ksEnv qual scope L f (.ref cda) cc)) :: starEach [] (ksEnv qual scope L f (.ref cda) cc) := rfl
  rw [hst]
  refine kxs_callWith (i := "ValueError.__init__") (x := x) (by rfl) ?_
  refine evalArgs_plain ?_
  show wpAny _ _ (spliced ((false, eval (.Constant (.str msg) k0 p3) (ksEnv qual scope L f (.ref cda) cc)) :: backTo p4 (starEach [] (ksEnv qual scope L f (.ref cda) cc)))) _ _ _
  refine Calls.spliced_cons (wpAny_Constant_str (Calls.spliced_nil ⟨hmw, ?_⟩))
  exact sup_call (k2 _ _ (k1 _ _ hC')) hmw (k2 _ _ hI1) (by rw [sizeLine_eq]; simp) fun h' t1 ko kx => h _ _ rfl rfl rfl (fun b o hb e => ko b o hb (k2 _ _ (k1 _ _ e))) kx
theorem sup_new (T : SupF prog K C f ar name qual params body scope dV kV doc pm an cda cc ct) {x t1 L : Addr} {m : Str → Option Value} {s : Shared} {fl : Str} {y : Value} {tk : Nat} {e : Expr} {pn p' pos : Pos} {Q : Flow → Shared → Prop}
    (X : K.In s.heap) (hx : s.heap.get? x = some (excD C t1 none)) (hn : s.heap.Ns L m) (hv : m ar.arg = some (.ref x)) (hno : findIn K (.ref C) fl = some none) (hd : (ar.arg == ("__debug__" : Str)) = false)
    (hev : wpAny (model prog w) A (eval e (ksEnv qual scope L f (.ref cda) cc)) (fun v s1 => v = y ∧ s1 = { s with toks := tk }) E s) (hs : swapsWith e (some (.Attribute (.Name ar.arg pn) fl p')) pos.line (ksEnv qual scope L f (.ref cda) cc) = pure false)
    (h : ∀ s' dx, s'.os = s.os → s'.gens = s.gens → s'.drawn = s.drawn → (∀ b o, b ≠ x → s.heap.get? b = some o → s'.heap.get? b = some o) → s.heap.objs.size ≤ dx → dx ≠ x → s'.heap.get? x = some (excD C t1 (some dx)) → s'.heap.Ns1 dx (fun z => if z = fl then some y else none) → Q .next s') :
    wpAny (model prog w) A (exec (.Assign [.Attribute (.Name ar.arg pn) fl p'] e pos) (ksEnv qual scope L f (.ref cda) cc)) Q E s := by
  obtain ⟨nm, q, N, bs, bm, sn, sub, ab, col, dd, k0', k1, k2, k3, k5, hC, hbm⟩ := T.cls
  have hcl : clsIn K C = some { name := nm, bases := bs, mro := .ref C :: bm, ns := N, qualname := q, hasDict := true, slotNames := sn, subclasses := sub, abstract := ab, collection := col, hasDel := false } := by unfold clsIn; rw [hC] <;> rfl
  obtain ⟨hp, g, d, t, os⟩ := s
  refine plainObj_wpAny_Assign_Attribute (wpAny_mono hev (fun v s1 ⟨e1, e2⟩ => ?_) fun _ _ z => z) hs
  subst e1 e2
  refine wpAny_Name (wpAny_loadName_local T.kk T.ka hn hv ?_) hd
  refine set_plain X (ox := excD C t1 none) (od := none) ⟨hx, rfl, rfl, trivial⟩ T.sa ?_
  exact PySem.HandSPX.exc_osa X hx hcl (show PySem.HandSPX.refsVE (.ref C :: bm) = true from hbm) rfl hno fun h' tk' dx k dn dne hx' hn' => h _ dx rfl rfl rfl k dn dne hx' hn'
theorem sup_old (T : SupF prog K C f ar name qual params body scope dV kV doc pm an cda cc ct) {x t1 L dx : Addr} {m m0 : Str → Option Value} {nl : List Str} {s : Shared} {fl : Str} {y : Value} {tk : Nat} {e : Expr} {pn p' pos : Pos} {Q : Flow → Shared → Prop}
    (X : K.In s.heap) (hx : s.heap.get? x = some (excD C t1 (some dx))) (hns : s.heap.Ns1 dx m0) (hw : Within m0 nl) (hz : nl.length ≤ 1000) (hn : s.heap.Ns L m) (hv : m ar.arg = some (.ref x)) (hno : findIn K (.ref C) fl = some none) (hd : (ar.arg == ("__debug__" : Str)) = false)
    (hev : wpAny (model prog w) A (eval e (ksEnv qual scope L f (.ref cda) cc)) (fun v s1 => v = y ∧ s1 = { s with toks := tk }) E s) (hs : swapsWith e (some (.Attribute (.Name ar.arg pn) fl p')) pos.line (ksEnv qual scope L f (.ref cda) cc) = pure false)
    (h : ∀ s', s'.os = s.os → s'.gens = s.gens → s'.drawn = s.drawn → (∀ b o, b ≠ dx → s.heap.get? b = some o → s'.heap.get? b = some o) → s'.heap.Ns1 dx (fun z => if z = fl then some y else m0 z) → Q .next s') :
    wpAny (model prog w) A (exec (.Assign [.Attribute (.Name ar.arg pn) fl p'] e pos) (ksEnv qual scope L f (.ref cda) cc)) Q E s := by
  obtain ⟨nm, q, N, bs, bm, sn, sub, ab, col, dd, k0', k1, k2, k3, k5, hC, hbm⟩ := T.cls
  have hcl : clsIn K C = some { name := nm, bases := bs, mro := .ref C :: bm, ns := N, qualname := q, hasDict := true, slotNames := sn, subclasses := sub, abstract := ab, collection := col, hasDel := false } := by unfold clsIn; rw [hC] <;> rfl
  obtain ⟨hp, g, d, t, os⟩ := s
  refine plainObj_wpAny_Assign_Attribute (wpAny_mono hev (fun v s1 ⟨e1, e2⟩ => ?_) fun _ _ z => z) hs
  subst e1 e2
  refine wpAny_Name (wpAny_loadName_local T.kk T.ka hn hv ?_) hd
  obtain ⟨oD, _, _, hoD, _, _⟩ := hns.count hw
  refine set_plain X (ox := excD C t1 (some dx)) (od := some oD) ⟨hx, rfl, rfl, hoD⟩ T.sa ?_
  exact PySem.OEX.osa_old X hx hns hw hz hcl (show PySem.HandSPX.refsVE (.ref C :: bm) = true from hbm) rfl hno fun h' tk' k hn' => h _ rfl rfl rfl k hn'
theorem in_but {h h' : Heap} {x : Addr} (X : K.In h) (hx : K.lookup x = none) (k : ∀ b o, b ≠ x → h.get? b = some o → h'.get? b = some o) : K.In h' := fun b o e => k b o (fun z => by rw [z, hx] at e; cases e) (X b o e)
theorem at_nil {M : Model} {c : Code} {env : Env} {Q : Flow → Shared → Prop} {s : Shared} (h : Q .next s) : _root_.PySem.wpAt M A c (execs [] env) Q E s := by
  rw [execs_nil]
  exact _root_.PySem.wpAt_of_wpAny (wpAny_pure h)
abbrev supSt (p0 p1 p2 p3 p4 p5 : Pos) (msg : Str) (k0 : Nat) : Stmt := .Expr (.Call (.Attribute (.Call (.Name "super" p0) [] [] p1) "__init__" p2) [.Constant (.str msg) k0 p3] [] p4) p5
abbrev codeSt (a code : Str) (q0 q1 q2 q3 : Pos) (k1 : Nat) : Stmt := .Assign [.Attribute (.Name a q0) "code" q1] (.Constant (.str code) k1 q2) q3
abbrev fldSt (a fl pn : Str) (r0 r1 r2 r3 : Pos) : Stmt := .Assign [.Attribute (.Name a r0) fl r1] (.Name pn r2) r3
structure SupE (f : Addr) (qual : Str) (scope : Scope) (cda cc : Addr) (msg : Str) (k0 : Nat) (p0 p1 p2 p3 p4 p5 : Pos) : Prop where
  hi : ∀ L, interactive (ksEnv qual scope L f (.ref cda) cc) = false
  sw : ∀ L, swapsWith (.Call (.Attribute (.Call (.Name "super" p0) [] [] p1) "__init__" p2) [.Constant (.str msg) k0 p3] [] p4) none p5.line (ksEnv qual scope L f (.ref cda) cc) = pure false
  he : ∀ L, ∃ pl : Sem Bool, eval (.Call (.Attribute (.Call (.Name "super" p0) [] [] p1) "__init__" p2) [.Constant (.str msg) k0 p3] [] p4) (ksEnv qual scope L f (.ref cda) cc) = (do
      let ov ← attributeBase (.Call (.Name "super" p0) [] [] p1) "__init__" (ksEnv qual scope L f (.ref cda) cc) (eval (.Call (.Name "super" p0) [] [] p1) (ksEnv qual scope L f (.ref cda) cc))
      standAt p2.atName
      let (fu, first) ← holding [ov] (getMethod ov "__init__" pl)
      callWith p4 fu first (backTo p4 (starEach [.Constant (.str msg) k0 p3] (ksEnv qual scope L f (.ref cda) cc))) [])
theorem sup_init1 {msg code fl pn : Str} {k0 k1 : Nat} {p0 p1 p2 p3 p4 p5 q0 q1 q2 q3 r0 r1 r2 r3 : Pos} {R : Result → Shared → Prop} {s : Shared} {x t0 : Addr} {v : Value} {mg mb : Str → Option Value}
    (T : SupF prog K C f ar name qual params [supSt p0 p1 p2 p3 p4 p5 msg k0, codeSt ar.arg code q0 q1 q2 q3 k1, fldSt ar.arg fl pn r0 r1 r2 r3] scope dV kV doc pm an cda cc ct) (Y : SupE f qual scope cda cc msg k0 p0 p1 p2 p3 p4 p5)
    (hroom : A.depth < recursionLimit) (hlim : s.heap.NoLimit) (X : K.In s.heap) (hKx : K.lookup x = none) (hx : s.heap.get? x = some (excD C t0 none)) (hG : s.heap.Ns mainGlobals mg) (hm : mg "super" = none) (hB : s.heap.Ns builtinsNs mb) (hb : mb "super" = some (.type "super"))
    (hbind : BindsTo s (ksFn name qual params [supSt p0 p1 p2 p3 p4 p5 msg k0, codeSt ar.arg code q0 q1 q2 q3 k1, fldSt ar.arg fl pn r0 r1 r2 r3] scope dV kV doc pm an (.ref cda) ct cc) ⟨[.ref x, v], []⟩ [(ar.arg, .ref x), (pn, v)])
    (hpn : scope.names.lookup pn = some .local) (hne : pn ≠ ar.arg) (hd : (ar.arg == ("__debug__" : Str)) = false) (hd2 : (pn == ("__debug__" : Str)) = false) (hn1 : findIn K (.ref C) "code" = some none) (hn2 : findIn K (.ref C) fl = some none)
    (sw1 : ∀ L, swapsWith (.Constant (.str code) k1 q2) (some (.Attribute (.Name ar.arg q0) "code" q1)) q3.line (ksEnv qual scope L f (.ref cda) cc) = pure false)
    (sw2 : ∀ L, swapsWith (.Name pn r2) (some (.Attribute (.Name ar.arg r0) fl r1)) r3.line (ksEnv qual scope L f (.ref cda) cc) = pure false)
    (h : ∀ s' dx t1 tk, s'.os = s.os → s'.gens = s.gens → s'.drawn = s.drawn → (∀ b o, b ≠ x → s.heap.get? b = some o → s'.heap.get? b = some o) → s.heap.objs.size ≤ dx → dx ≠ x → s'.heap.get? x = some (excD C t1 (some dx)) →
      s'.heap.Ns1 dx (fun z => if z = fl then some v else if z = "code" then some (.str code tk) else none) → R (.ok (.ret .none)) s') :
    codeAny (model prog w) A (.call (.ref f) ⟨[.ref x, v], []⟩) R s := by
  obtain ⟨oc, od, osl, hf⟩ := T.fn
  have hxlt : x < s.heap.objs.size := Heap.lt_size hx
  refine ks_codeAny_call_defAt (binds := [(ar.arg, .ref x), (pn, v)]) hroom (X _ _ hf) rfl hlim (codeRec_of X T.crec) rfl hbind T.nocell (fun y hy => ?_) (fun h₀ hns hk => ?_) T.co T.gen T.kk
  · rcases List.mem_cons.mp hy with e | hy
    · rw [e]; exact T.ka
    · rw [List.mem_singleton.mp hy]; exact hpn
  have hv : (fun z => ([(ar.arg, Value.ref x), (pn, v)] : List (Str × Value)).reverse.lookup z) ar.arg = some (.ref x) := by
    have e : (ar.arg == pn) = false := by simpa using Ne.symm hne
    show ([(pn, v), (ar.arg, Value.ref x)] : List (Str × Value)).lookup ar.arg = _
    simp [List.lookup, e]
  have hw : (fun z => ([(ar.arg, Value.ref x), (pn, v)] : List (Str × Value)).reverse.lookup z) pn = some v := by
    show ([(pn, v), (ar.arg, Value.ref x)] : List (Str × Value)).lookup pn = _
    simp [List.lookup]
  obtain ⟨pl, he⟩ := Y.he s.heap.objs.size
  refine ks_wpAt_execs_cons (sup_first T (X.keeps hk) (hk _ _ hx) hns hv (hG.keeps hk) hm (hB.keeps hk) hb (Y.hi _) (Y.sw _) he fun s1 t1 e1 e2 e3 k1' hx1 => ?_)
  have X1 := in_but (X.keeps hk) hKx k1'
  have hn1' : s1.heap.Ns s.heap.objs.size _ := hns.at fun o z => k1' _ o (Nat.ne_of_gt hxlt) z
  refine ks_wpAt_execs_cons (_root_.PySem.wpAt_of_wpAny (sup_new T (y := .str code s1.toks) (tk := s1.toks + 1) X1 hx1 hn1' hv hn1 hd (wpAny_Constant_str ⟨rfl, rfl⟩) (sw1 _) fun s2 dx f1 f2 f3 k2 hdx hdx2 hx2 hns2 => ?_))
  have X2 := in_but X1 hKx k2
  have hn2' : s2.heap.Ns s.heap.objs.size _ := hn1'.at fun o z => k2 _ o (Nat.ne_of_gt hxlt) z
  have hs1 : s.heap.objs.size < s1.heap.objs.size := by
    obtain ⟨o, _, _, z, _⟩ := hn1'
    exact Heap.lt_size z
  refine ks_wpAt_execs_cons (_root_.PySem.wpAt_of_wpAny (sup_old T (y := v) (tk := s2.toks) X2 hx2 hns2 (nl := ["code"]) (fun z hz => by by_cases q : z = "code" <;> simp_all) (by simp) hn2' hv hn2 hd (wpAny_Name (wpAny_loadName_local T.kk hpn hn2' hw ⟨rfl, rfl⟩) hd2) (sw2 _) fun s3 g1 g2 g3 k3 hns3 => ?_))
  refine at_nil ?_
  refine h s3 dx t1 s1.toks ((g1.trans f1).trans e1) ((g2.trans f2).trans e2) ((g3.trans f3).trans e3) (fun b o hb z => ?_) (Nat.le_trans (Nat.le_of_lt hs1) hdx) hdx2 (k3 _ _ (Ne.symm hdx2) hx2) hns3
  have z0 := hk b o z
  have hbs : b < s.heap.objs.size := Heap.lt_size z
  exact k3 b o (Nat.ne_of_lt (Nat.lt_of_lt_of_le (Nat.lt_trans hbs hs1) hdx)) (k2 b o hb (k1' b o hb z0))
end
open PySem L2 PySem.Spec PyProof.Rows
def tMkS (C : Addr) (code fl : Str) (ta : TA) : L2.St → Hp → XK → Prop := fun σ H Q => ta σ H fun vs H1 => ∃ v, vs = [v] ∧ ∀ dx, H1 dx = none → Q (.ref C) (some dx) (upd H1 dx (.xd [(fl, v), ("code", .str code)]))
structure SupC (X : Cx) (xn : Str) (C f : Addr) : Prop where
  iC : PySem.W.findIn X.K (.ref C) "__init__" = some (some (.ref f))
  tI : PySem.W.typeIn X.K (.ref f) = some (.type "function")
  kC : PySem.W.keepIn X.K (.ref C) = true
  exC : PySem.W.subIn X.K (.ref C) (.type "BaseException") = some true
  tyC : PySem.W.typeIn X.K (.ref C) = some (.type "type")
  mC : X.mg xn = some (.ref C)
  sup : X.mg "super" = none
  n1 : PySem.W.findIn X.K (.ref C) "code" = some none
section
variable {X : Cx}
theorem sup_made {pins : List (Addr × Obj)} {σ : L2.St} {H1 : Hp} {Q : XK} {s s' : Shared} {a C dx t1 : Addr} {fs : List (Str × V)} {m : Str → Option Value} (I1 : Inv X pins σ H1 s) (R : Raises X (.ref C)) (ha : s.heap.objs.size ≤ a) (e1 : s'.os = s.os) (e2 : s'.gens = s.gens) (e3 : s'.drawn = s.drawn)
    (k : ∀ b o, s.heap.get? b = some o → s'.heap.get? b = some o) (hdx : s.heap.objs.size ≤ dx) (hne : dx ≠ a) (hx : s'.heap.get? a = some (excD C t1 (some dx))) (hns : s'.heap.Ns1 dx m) (rel : ∀ z, RelO (fs.lookup z) (m z)) (q : Q (.ref C) (some dx) (upd H1 dx (.xd fs))) : MkP X pins σ Q (.ref a) s' := by
  obtain ⟨hp, g, d, t, os⟩ := s
  obtain ⟨h2, g2, d2, t2, os2⟩ := s'
  have e1 : os2 = os := e1
  have e2 : g2 = g := e2
  have e3 : d2 = d := e3
  subst e1 e2 e3
  obtain ⟨G, g1', g2'⟩ := restrict h2 fun b => decide (b ≠ a)
  have gk : ∀ b, b ≠ a → G.get? b = h2.get? b := fun b hb => g1' b (decide_eq_true hb)
  have ge : G.get? a = none := g2' a (by simp)
  have kG : ∀ b o, hp.get? b = some o → G.get? b = some o := fun b o z => (gk b (Nat.ne_of_lt (Nat.lt_of_lt_of_le (Heap.lt_size z) ha))).trans (k b o z)
  have J : Inv X pins σ (upd H1 dx (.xd fs)) ⟨G, g2, d2, t2, os2⟩ := I1.laid (t' := t2) (a := dx) (o := .xd fs) (h' := G) kG hdx ⟨m, hns.at fun o y => (gk dx hne).trans y, rel⟩
  refine ⟨a, _, _, ⟨G, g2, d2, t2, os2⟩, upd H1 dx (.xd fs), .ref C, some dx, rfl, J, fun b o z => ?_, ge, hx, ⟨rfl, rfl⟩, rfl, rfl, ?_, rfl, I1.bare, R, q⟩
  · by_cases hba : b = a
    · rw [hba, ge] at z; cases z
    · exact (gk b hba).symm.trans z
  · rw [upd_ne (Ne.symm hne)]
    exact I1.hok.fresh ha
theorem pmk_sup1 {xn : Str} {C f cda cc : Addr} {k : Nat} {ar : Arg} {name qual : Str} {params : Arguments} {scope : Scope} {dV kV doc pm ct : Value} {an : Option Addr} {msg code fl pn : Str} {k0 k1 : Nat} {p0 p1 p2 p3 p4 p5 q0 q1 q2 q3 r0 r1 r2 r3 p pos : Pos} {e : Expr} {ta : TA}
    (T : SupF X.prog X.K C f ar name qual params [supSt p0 p1 p2 p3 p4 p5 msg k0, codeSt ar.arg code q0 q1 q2 q3 k1, fldSt ar.arg fl pn r0 r1 r2 r3] scope dV kV doc pm an cda cc ct) (Y : SupE f qual scope cda cc msg k0 p0 p1 p2 p3 p4 p5) (Z : SupC X xn C f) (hr : Room (k + 1) X.A) (hg : Gl X xn)
    (hbind : ∀ s x v, BindsTo s (PySem.W.ksFn name qual params [supSt p0 p1 p2 p3 p4 p5 msg k0, codeSt ar.arg code q0 q1 q2 q3 k1, fldSt ar.arg fl pn r0 r1 r2 r3] scope dV kV doc pm an (.ref cda) ct cc) ⟨[.ref x, v], []⟩ [(ar.arg, .ref x), (pn, v)])
    (hpn : scope.names.lookup pn = some .local) (hne : pn ≠ ar.arg) (hd : (ar.arg == ("__debug__" : Str)) = false) (hd2 : (pn == ("__debug__" : Str)) = false) (hn2 : PySem.W.findIn X.K (.ref C) fl = some none) (hfl : fl ≠ "code")
    (sw1 : ∀ L, swapsWith (.Constant (.str code) k1 q2) (some (.Attribute (.Name ar.arg q0) "code" q1)) q3.line (PySem.W.ksEnv qual scope L f (.ref cda) cc) = pure false)
    (sw2 : ∀ L, swapsWith (.Name pn r2) (some (.Attribute (.Name ar.arg r0) fl r1)) r3.line (PySem.W.ksEnv qual scope L f (.ref cda) cc) = pure false)
    (ha : PA X [e] ta) (hdb : (xn == ("__debug__" : Str)) = false := by decide) (he : starEach [e] X.env = (false, eval e X.env) :: starEach [] X.env := by rfl) (hpl : (backTo pos (starEach [] X.env)).any (·.1) = false := by rfl) :
    PMk X (.Call (.Name xn p) [e] [] pos) (tMkS C code fl ta) := by
  intro pins s σ H Q I h
  obtain ⟨nm, q, N, bs, bm, sn, sub, ab, col, dd, k0', k1', k2', k3', k5', hC, hbm⟩ := T.cls
  refine wpAny_Call_Name_kw (ld_glob I hg Z.mC ?_ hdb)
  refine PySem.W.callWith_K (h₀ := X.base) I.ok.mod.kin Z.kC (thn (ha.run pos pins s σ H _ I h) fun us s1 ⟨vs, H1, I1, r1, v, ev, q1⟩ => ⟨I1.kIn, ?_⟩) he hpl
  subst ev
  obtain ⟨u, rfl, ru⟩ := vals1 r1
  show wpAny _ _ (call (.ref C) [u]) _ _ _
  obtain ⟨mb, b1, b2⟩ := I1.mod.blt
  have hG := I1.mod.glob.keeps I1.bk
  have hB := b1.keeps I1.bk
  have hlim := I1.nolimit
  obtain ⟨hp, g, dr, tk, os⟩ := s1
  have kk : ∀ b o, hp.get? b = some o → ((hp.push (PySem.W.kdv_tup [u])).push (PySem.HandSPX.excO C hp.objs.size)).get? b = some o := fun b o e => Heap.get?_push_of_some _ (Heap.get?_push_of_some _ e)
  have hget : ((hp.push (PySem.W.kdv_tup [u])).push (PySem.HandSPX.excO C hp.objs.size)).get? (hp.objs.size + 1) = some (PySem.HandSPX.excO C hp.objs.size) := by heap_get
  have hKx : X.K.lookup (hp.objs.size + 1) = none := by
    cases z : X.K.lookup (hp.objs.size + 1) with
    | none => rfl
    | some o =>
      have y := Heap.lt_size (I1.kIn _ _ z)
      exact absurd y (Nat.not_lt_of_le (Nat.le_succ _))
  refine wpAny_call (PySem.HandSPX.call_own F.excBase_ValueError (fun Y => PySem.HandSPX.refsVE_contains Y bm hbm) (I1.kIn _ _ hC) (PySem.W.looks_findIn I1.kIn Z.iC) (fun self => PySem.W.bind_fn I1.kIn self Z.tI) (by rw [sizeLine_eq]; simp) ?_)
  refine sup_init1 (s := ⟨(hp.push (PySem.W.kdv_tup [u])).push (PySem.HandSPX.excO C hp.objs.size), g, dr, tk, os⟩) T Y (hr.make C [u] []).depth (hlim.keeps kk) (I1.kIn.keeps kk) hKx hget (hG.keeps kk) Z.sup (hB.keeps kk) ((b2 "super" (by decide)).trans (by first | rfl | exact PyProof.Rows.Boot.«super»)) (hbind _ _ _) hpn hne hd hd2 Z.n1 hn2 sw1 sw2 fun s' dx t1 tk' e1 e2 e3 k2 hdx hne2 hx2 hns => ?_
  refine ⟨rfl, sup_made (s := ⟨hp, g, dr, tk, os⟩) I1 (raises_own Z.exC Z.tyC) (Nat.le_succ _) e1 e2 e3 (fun b o z => k2 b o (Nat.ne_of_lt (Nat.lt_succ_of_lt (Heap.lt_size z))) (kk b o z)) ?_ hne2 hx2 hns (fun z => ?_) (q1 dx ?_)⟩
  · have : ((hp.push (PySem.W.kdv_tup [u])).push (PySem.HandSPX.excO C hp.objs.size)).objs.size ≤ dx := hdx
    rw [Heap.size_push, Heap.size_push] at this
    exact Nat.le_trans (Nat.le_trans (Nat.le_succ _) (Nat.le_succ _)) this
  · rw [lookup_put]
    by_cases z1 : z = fl
    · rw [if_pos z1, if_pos z1]; exact ru
    · rw [if_neg z1, if_neg z1, lookup_put]
      by_cases z2 : z = "code"
      · rw [if_pos z2, if_pos z2]; exact ⟨tk', rfl⟩
      · rw [if_neg z2, if_neg z2]; exact True.intro
  · refine I1.hok.fresh ?_
    have : ((hp.push (PySem.W.kdv_tup [u])).push (PySem.HandSPX.excO C hp.objs.size)).objs.size ≤ dx := hdx
    rw [Heap.size_push, Heap.size_push] at this
    exact Nat.le_trans (Nat.le_trans (Nat.le_succ _) (Nat.le_succ _)) this
end
end M3
set_option Elab.async false
set_option linter.all false
set_option autoImplicit false
set_option maxRecDepth 100000
set_option maxHeartbeats 4000000
namespace M3
open PySem L2 PySem.Spec PyProof.Rows
def excV (cn code fl : Str) (d : Dv) : Dv := .ins cn [(fl, d), ("code", .str code)]
def mRaise1 (cn code fl : Str) (fa : MA) : MS := fun ρ m => (fa ρ m).st ρ fun ds m1 => match ds with
  | [d] => .ex (excV cn code fl d) ρ m1
  | _ => .no
section
variable {X : Cx} {E : WX}
theorem raise1_want {K : PySem.W.Frag} {mg : Str → Option Value} {cn code fl : Str} {C : Addr} {fa : MA} {D : Ends} {σ : L2.St} {H : Hp} (hC : mg cn = some (.ref C)) (h : tsOf K mg E (mRaise1 cn code fl fa) D σ H) :
    tMkS C code fl (taOf K mg E fa) σ H fun cls d H' => E cls d σ H' := by
  obtain ⟨b, ρ, m, T, S, w⟩ := h
  refine ⟨b, ρ, m, T, S, ?_⟩
  unfold mRaise1 at w
  revert w
  cases fa ρ m with
  | no => exact id
  | ex x m1 => exact fun w => w σ
  | ok ds m1 =>
    intro w vs H1 hl ⟨G, μ, st⟩
    rw [Rs.st_ok] at w
    match ds, w with
    | [d], w =>
      have r := tvs_rep hl st
      cases r with
      | @cons _ v _ _ r1 r2 =>
        cases r2
        refine ⟨v, rfl, fun dx hdx => ?_⟩
        have s0 := st.pops
        have s1 := s0.newG (o := .xd [(fl, v), ("code", .str code)]) hdx
        exact w σ _ _ _ _ _ s1 ⟨cn, _, C, dx, _, rfl, rfl, hC, rfl, upd_same, .cons (r1.mono (Ex.new (s0.mem.st.none hdx)) (.refl _)) (.cons (.str _) .nil)⟩
    | [], w => exact w.elim
    | _ :: _ :: _, w => exact w.elim
theorem s_raise1 {cn code fl : Str} {C : Addr} {fa : MA} {e : Expr} {p pos pos' : Pos} (hc : X.calm = true) (tk : Takes X E) (hC : X.mg cn = some (.ref C))
    (he : ∀ ta, PA X [e] ta → PMk X (.Call (.Name cn p) [e] [] pos) (tMkS C code fl ta)) (ha : PXs X E [e] fa) : PSx X E (.Raise (some (.Call (.Name cn p) [e] [] pos)) none pos') (mRaise1 cn code fl fa) :=
  PSi (ps_raise hc tk (he _ ha)) fun D σ H h => raise1_want hC h
end
end M3
set_option Elab.async false
set_option linter.all false
set_option autoImplicit false
set_option maxRecDepth 100000
set_option maxHeartbeats 4000000
namespace M3
section
open PySem PySem.SeqAt GQ
open AutoSeq1 (wpAny_loadPart')
open MeetsSeq MeetsSeq2 MeetsSeq3 SeqRoads2
variable {prog : Program} {w : World} {A : Around} {R : Result → Shared → Prop} {E : Value → Shared → Prop} {s : Shared}
def ListB (prog : Program) (w : World) (A : Around) (E : Value → Shared → Prop) (l b : Addr) (N : Nat) (e : Nat → Bool) (I : Shared → Prop) : Prop :=
  ∀ s, I s → ∃ (items items2 : Array Value) (n n2 : Nat), s.heap.get? l = some { cls := .type "list", data := .seq items n } ∧ s.heap.get? b = some { cls := .type "list", data := .seq items2 n2 } ∧ items.size = N ∧ items2.size = N ∧
    ∀ i (h1 : i < items.size) (h2 : i < items2.size), wpAny (model prog w) A.in1 (eqBool items[i] items2[i]) (fun r s' => r = e i ∧ I s') E s
theorem eq_loopB (l b : Addr) (N : Nat) (e : Nat → Bool) (I : Shared → Prop) (hl : ListB prog w A (fun e s' => R (.error e) s') l b N e I) (k : Nat) :
    ∀ i : Nat, N - i = k → i ≤ N → (∀ s, I s → R (.ok (.ret (.bool (((List.range N).drop i).all e)))) s) → ∀ s, I s →
      wpAny (model prog w) A.in1 (Builtin.«list.__eq__.loop» ⟨[.ref l, .ref b, rawInt i, rawInt 2], []⟩) (FinOf prog w A R) (fun e s' => R (.error e) s') s := by
  induction k with
  | zero =>
    intro i hk hi fin s h
    obtain ⟨items, items2, n, n2, hl1, hb1, hs1, hs2, _⟩ := hl _ h
    have hR := fin s h
    have hd : (List.range N).drop i = [] := by simp; omega
    rw [hd] at hR
    obtain ⟨hp, g, d, tk, os⟩ := s
    wp_walk using wpAny_loadPart' hl1, wpAny_loadPart' hb1
    have hi1 : items[((i : Nat) : Int).toNat]? = none := by simp; omega
    have hi2 : items2[((i : Nat) : Int).toNat]? = none := by simp; omega
    rw [hi1, hi2]
    wp_walk using wpAny_loadPart' hl1, wpAny_loadPart' hb1
    show R (.ok (.ret (.bool (items.size == items2.size)))) _
    rw [hs1, hs2]
    simpa using hR
  | succ k ih =>
    intro i hk hi fin s h
    obtain ⟨items, items2, n, n2, hl1, hb1, hs1, hs2, turn⟩ := hl _ h
    have hlt : i < items.size := by omega
    have hlt2 : i < items2.size := by omega
    have ht := turn i hlt hlt2
    obtain ⟨hp, g, d, tk, os⟩ := s
    wp_walk using wpAny_loadPart' hl1, wpAny_loadPart' hb1
    have hi1 : items[((i : Nat) : Int).toNat]? = some items[i] := by simp [hlt]
    have hi2 : items2[((i : Nat) : Int).toNat]? = some items2[i] := by simp [hlt2]
    have hc : ((i : Int) + 1) = ((i + 1 : Nat) : Int) := by omega
    have hd : (List.range N).drop i = i :: (List.range N).drop (i + 1) := by
      have hlN : i < (List.range N).length := by rw [List.length_range]; omega
      rw [List.drop_eq_getElem_cons hlN, List.getElem_range]
    rw [hi1, hi2]
    refine wpAny_bind (wpAny_mono ht (fun r s2 h2 => ?_) fun _ _ x => x)
    obtain ⟨hr, h2⟩ := h2
    subst hr
    cases he : e i with
    | true =>
      have hrec := ih (i + 1) (by omega) (by omega) (fun s hs => by
        have := fin s hs
        rw [hd, List.all_cons, he, Bool.true_and] at this
        exact this) s2 h2
      obtain ⟨hp2, g2, d2, tk2, os2⟩ := s2
      wp_walk
      rw [hc]
      exact ⟨plainId_quiet plain_eq_loop _, codeAny_builtin entry_eq_loop (by
        rw [Around.under_plainId plain_eq_loop _]
        exact hrec)⟩
    | false =>
      have hR := fin s2 h2
      rw [hd, List.all_cons, he, Bool.false_and] at hR
      obtain ⟨items', items2', n', n2', hl1', hb1', hs1', hs2', _⟩ := hl _ h2
      have hlt' : i < items'.size := by omega
      have hlt2' : i < items2'.size := by omega
      have hi1' : items'[((i : Nat) : Int).toNat]? = some items'[i] := by simp [hlt']
      have hi2' : items2'[((i : Nat) : Int).toNat]? = some items2'[i] := by simp [hlt2']
      obtain ⟨hp2, g2, d2, tk2, os2⟩ := s2
      wp_walk using wpAny_loadPart' hl1', wpAny_loadPart' hb1'
      rw [hi1', hi2']
      wp_walk
      simpa using hR
theorem list_eqB (l b : Addr) (N : Nat) (e : Nat → Bool) (I : Shared → Prop) (hl : ListB prog w A (fun e s' => R (.error e) s') l b N e I)
    (fin : ∀ s, I s → R (.ok (.ret (.bool ((List.range N).all e)))) s) (h : I s) :
    wpAny (model prog w) A.in1 (Builtin.«list.__eq__» ⟨[.ref l, .ref b], []⟩) (FinOf prog w A R) (fun e s' => R (.error e) s') s := by
  obtain ⟨items, items2, n, n2, hl1, hb1, hs1, hs2, _⟩ := hl _ h
  have hrec := eq_loopB (A := A) (R := R) l b N e I hl _ 0 rfl (Nat.zero_le _) fin s h
  obtain ⟨hp, g, d, tk, os⟩ := s
  have f3 := AutoSeq1.sub_list_list
  have hne : ¬ (items.size != items2.size) = true := by simp [hs1, hs2]
  wp_walk using wpAny_loadPart' hl1, wpAny_loadPart' hb1
  exact ⟨plainId_quiet plain_eq_loop _, codeAny_builtin entry_eq_loop (by
    rw [Around.under_plainId plain_eq_loop _]
    exact hrec)⟩
theorem rc_listB {l b : Addr} {N : Nat} {e : Nat → Bool} {Q : Value → Shared → Prop} (hu : A.units < cLine) (I : Shared → Prop) (hl : ListB prog w A E l b N e I)
    (fin : ∀ s, I s → Q (.bool ((List.range N).all e)) s) (h : I s) : wpAny (model prog w) A (richCompare .Eq (.ref l) (.ref b)) Q E s := by
  obtain ⟨items, items2, n, n2, hl1, hb1, _, _, _⟩ := hl _ h
  refine wpAny_richCompare_same_room (op := .Eq) ⟨_, hl1, rfl⟩ ⟨_, hb1, rfl⟩ F.slot_list_eq (call_here F.slot_list_eq ⟨_, hl1, rfl⟩ F.entry_list_eq (F.args_list_eq_2 _ _) ?_) hu
  exact list_eqB (R := wants (fun v s' => v ≠ .notImplemented ∧ Q v s') E) l b N e I hl (fun s' q => ⟨(fun x => nomatch x), fin s' q⟩) h
theorem rc_listN {l b : Addr} {items items2 : Array Value} {n n2 : Nat} {Q : Value → Shared → Prop} (hu : A.units < cLine) (hl1 : s.heap.get? l = some { cls := .type "list", data := .seq items n }) (hb1 : s.heap.get? b = some { cls := .type "list", data := .seq items2 n2 }) (hne : items.size ≠ items2.size)
    (h : Q (.bool false) s) : wpAny (model prog w) A (richCompare .Eq (.ref l) (.ref b)) Q E s := by
  refine wpAny_richCompare_same_room (op := .Eq) ⟨_, hl1, rfl⟩ ⟨_, hb1, rfl⟩ F.slot_list_eq (call_here F.slot_list_eq ⟨_, hl1, rfl⟩ F.entry_list_eq (F.args_list_eq_2 _ _) ?_) hu
  obtain ⟨hp, g, d, tk, os⟩ := s
  have f3 := AutoSeq1.sub_list_list
  have hc0 : (items.size != items2.size) = true := by simp [hne]
  wp_walk using wpAny_loadPart' hl1, wpAny_loadPart' hb1
  · exact ⟨(fun x => nomatch x), h⟩
end
section
open PySem L2 PySem.Spec PyProof.Rows
variable {X : Cx} {E : WX} {k : Nat} {cn : Str} {F : MF} {K : PySem.W.Frag} {mg : Str → Option Value} {μ : List Addr} {G : Hp}
def flatDv : Dv → Bool
  | .non => true
  | .bl _ => true
  | .int _ => true
  | .str _ => true
  | _ => false
def SimI (cn : Str) (d : Dv) : Prop := ∃ fs, d = .ins cn fs ∧ ∀ p ∈ fs, flatDv p.2 = true
theorem flat_eq {d e : Dv} {v : V} (hd : flatDv d = true) (he : flatDv e = true) (r1 : Rep K mg μ G d v) (r2 : Rep K mg μ G e v) : d = e := by
  cases d <;> simp [flatDv] at hd <;> cases r1 <;> cases e <;> simp [flatDv] at he <;> cases r2 <;> rfl
theorem flatK_eq : ∀ (fs gs : List (Str × Dv)) (ws : List (Str × V)), RepK K mg μ G fs ws → RepK K mg μ G gs ws → (∀ p ∈ fs, flatDv p.2 = true) → (∀ p ∈ gs, flatDv p.2 = true) → fs = gs := by
  intro fs
  induction fs with
  | nil =>
    intro gs ws r1 r2 _ _
    cases r1
    cases r2
    rfl
  | cons p fs ih =>
    intro gs ws r1 r2 h1 h2
    cases r1 with
    | cons a b =>
      cases r2 with
      | cons a' b' =>
        have e := flat_eq (h1 _ List.mem_cons_self) (h2 _ List.mem_cons_self) a a'
        simp only at e
        subst e
        rw [ih _ _ b b' (fun p hp => h1 p (List.mem_cons_of_mem _ hp)) fun p hp => h2 p (List.mem_cons_of_mem _ hp)]
theorem sim_eq {d e : Dv} {v : V} (hd : SimI cn d) (he : SimI cn e) (r1 : Rep K mg μ G d v) (r2 : Rep K mg μ G e v) : d = e := by
  obtain ⟨fs, rfl, h1⟩ := hd
  obtain ⟨gs, rfl, h2⟩ := he
  cases r1 with
  | ins c1 g1 k1 =>
    cases r2 with
    | ins c2 g2 k2 =>
      rw [g1] at g2
      cases g2
      rw [flatK_eq _ _ _ k1 k2 h1 h2]
def PEq (cn : Str) (F : MF) (m : Mm) (ds es : List Dv) (bs : List Bool) : Prop :=
  ds.length = es.length ∧ bs.length = ds.length ∧ ∀ (i : Nat) d e b, ds[i]? = some d → es[i]? = some e → bs[i]? = some b → SimI cn d ∧ SimI cn e ∧ F [d, e] m = .ok (.bl b) m ∧ (d = e → b = true)
theorem PEq.nil {m : Mm} : PEq cn F m [] [] [] := ⟨rfl, rfl, fun i d e b h => by simp at h⟩
theorem PEq.cons {m : Mm} {d e : Dv} {ds es : List Dv} {b : Bool} {bs : List Bool} (hd : SimI cn d) (he : SimI cn e) (hF : F [d, e] m = .ok (.bl b) m) (hb : d = e → b = true) (p : PEq cn F m ds es bs) : PEq cn F m (d :: ds) (e :: es) (b :: bs) := by
  refine ⟨by rw [List.length_cons, List.length_cons, p.1], by rw [List.length_cons, List.length_cons, p.2.1], fun i d' e' b' h1 h2 h3 => ?_⟩
  cases i with
  | zero =>
    simp at h1 h2 h3
    subst h1 h2 h3
    exact ⟨hd, he, hF, hb⟩
  | succ i =>
    simp at h1 h2 h3
    exact p.2.2 i _ _ _ h1 h2 h3
def rEqL (K : PySem.W.Frag) (mg : Str → Option Value) (cn : Str) (F : MF) : R2 := fun x y H Q => ∃ (G : Hp) (μ : List Addr) (m : Mm) (ds es : List Dv) (C : Addr), mg cn = some (.ref C) ∧ MemOk K mg G μ H m ∧ Rep K mg μ G (.lst ds) x ∧ Rep K mg μ G (.lst es) y ∧
  ((ds.length ≠ es.length ∧ Q (.bl false) H) ∨ ∃ bs, PEq cn F m ds es bs ∧ ∀ H' G' μ', MemOk K mg G' μ' H' m → Le G μ H G' μ' H' → Q (.bl (bs.all id)) H')
theorem all_getD : ∀ bs : List Bool, ((List.range bs.length).all fun i => bs.getD i false) = bs.all id
  | [] => rfl
  | b :: bs => by
    rw [List.length_cons, List.range_succ_eq_map, List.all_cons, List.all_map, List.all_cons, ← all_getD bs]
    rfl
theorem op_eqL (G0 : GO (sg X) cn "__eq__" 2 k F) (hr : Room (k + 1) X.A) : OpR X (compareOp .Eq) (rEqL X.K X.mg cn F) := by
  intro pins s σ H x y v u Q I rx ry ⟨G, μ, m, ds, es, C, hC, mem, r1, r2, h⟩
  obtain ⟨C1, f, g⟩ := G0
  have e1 : X.mg cn = some (.ref C1) := g.mg
  rw [hC] at e1; cases e1
  cases r1 with
  | @lst _ a xs ga za ra =>
  cases r2 with
  | @lst _ b ys gb zb rb =>
  obtain rfl : v = Value.ref a := rx
  obtain rfl : u = Value.ref b := ry
  show wpAny (model X.prog X.w) X.A (richCompare .Eq (.ref a) (.ref b)) (EP X pins σ Q) X.xe s
  have lxs := ra.length
  have lys := rb.length
  rcases h with ⟨hne, q⟩ | ⟨bs, pe, q⟩
  · obtain ⟨z, its, kk, r, e⟩ := I.hok a _ (mem.st.l ga)
    obtain ⟨z2, its2, kk2, r2, e2⟩ := I.hok b _ (mem.st.l gb)
    exact rc_listN hr.units0 e e2 (by rw [List.size_toArray, List.size_toArray, ← r.length, ← r2.length, ← lxs, ← lys]; exact hne) ⟨.bl false, H, I, rfl, q⟩
  · refine rc_listB (N := ds.length) (e := fun i => bs.getD i false) hr.units0 (fun s' => ∃ H' G' μ', Inv X pins σ H' s' ∧ MemOk X.K X.mg G' μ' H' m ∧ Le G μ H G' μ' H') ?_ ?_ ⟨H, G, μ, I, mem, Le.refl _ _ _⟩
    · intro s' ⟨H1, G1, μ1, I1, mem1, le1⟩
      obtain ⟨z, its, kk, r, e⟩ := I1.hok a _ (mem1.st.l (le1.ex.at ga ndL))
      obtain ⟨z2, its2, kk2, r2, e2⟩ := I1.hok b _ (mem1.st.l (le1.ex.at gb ndL))
      have n1 := r.length
      have n2 := r2.length
      have n3 := pe.1
      have n4 := pe.2.1
      refine ⟨its.toArray, its2.toArray, kk, kk2, e, e2, by rw [List.size_toArray]; omega, by rw [List.size_toArray]; omega, fun i h1 h2 => ?_⟩
      have k1 : i < its.length := by simpa using h1
      have k2 : i < its2.length := by simpa using h2
      have k3 : i < xs.length := by omega
      have k4 : i < ys.length := by omega
      have k5 : i < ds.length := by omega
      have k6 : i < es.length := by omega
      have k7 : i < bs.length := by omega
      obtain ⟨u1, hu1, ru1⟩ := r.get (List.getElem?_eq_getElem k3)
      obtain ⟨u2, hu2, ru2⟩ := r2.get (List.getElem?_eq_getElem k4)
      rw [List.getElem?_eq_getElem k1] at hu1
      rw [List.getElem?_eq_getElem k2] at hu2
      have hu1 : its.toArray[i] = u1 := by simpa using hu1
      have hu2 : its2.toArray[i] = u2 := by simpa using hu2
      rw [hu1, hu2]
      obtain ⟨v1, hv1, rd⟩ := (ra.mono le1.ex le1.pre).get (List.getElem?_eq_getElem k5)
      obtain ⟨v2, hv2, re⟩ := (rb.mono le1.ex le1.pre).get (List.getElem?_eq_getElem k6)
      rw [List.getElem?_eq_getElem k3] at hv1
      rw [List.getElem?_eq_getElem k4] at hv2
      cases hv1
      cases hv2
      obtain ⟨sd, se, hF, hid⟩ := pe.2.2 i _ _ _ (List.getElem?_eq_getElem k5) (List.getElem?_eq_getElem k6) (List.getElem?_eq_getElem k7)
      have hbd : bs.getD i false = bs[i] := by rw [List.getD_eq_getElem?_getD, List.getElem?_eq_getElem k7]; rfl
      show wpAny _ _ _ (fun r s' => r = bs.getD i false ∧ _) _ _
      rw [hbd]
      obtain ⟨fs, ed, _⟩ := id sd
      obtain ⟨gs, ee, _⟩ := id se
      obtain ⟨a1, dx1, ws1, ev1, hp1⟩ : ∃ a1 dx1 ws1, xs[i] = V.ref a1 ∧ H1 a1 = some (.ins C dx1 ws1) := by
        have rd' := rd
        rw [ed] at rd'
        cases hx : xs[i] with
        | ref a1 =>
          rw [hx] at rd'
          cases rd' with
          | ins c1 g1 k1 => rw [hC] at c1; cases c1; exact ⟨_, _, _, rfl, mem1.st.ins g1⟩
        | _ => rw [hx] at rd'; cases rd'
      obtain ⟨a2, dx2, ws2, ev2, hp2⟩ : ∃ a2 dx2 ws2, ys[i] = V.ref a2 ∧ H1 a2 = some (.ins C dx2 ws2) := by
        have re' := re
        rw [ee] at re'
        cases hx : ys[i] with
        | ref a1 =>
          rw [hx] at re'
          cases re' with
          | ins c1 g1 k1 => rw [hC] at c1; cases c1; exact ⟨_, _, _, rfl, mem1.st.ins g1⟩
        | _ => rw [hx] at re'; cases re'
      rw [ev1] at ru1 rd
      rw [ev2] at ru2 re
      obtain rfl : u1 = Value.ref a1 := ru1
      obtain rfl : u2 = Value.ref a2 := ru2
      by_cases hab : a1 = a2
      · subst hab
        have hb : bs[i] = true := hid (sim_eq sd se rd re)
        exact SeqAt.EqAt.same (A := X.A.in1) (s := s') (.ref a1) X.prog X.w X.xe _ ⟨hb.symm, H1, G1, μ1, I1, mem1, le1⟩
      · obtain ⟨mA, J, _⟩ := ins_get I1.hok hp1
        obtain ⟨mB, J', _⟩ := ins_get I1.hok hp2
        obtain ⟨od, J, _⟩ := J.look
        obtain ⟨od', J', _⟩ := J'.look
        obtain ⟨mm, hFr⟩ := I1.fr
        have sb : Sub X k X.A.in1 := Sub.in1 (X := X) (A := X.A) ⟨hr, rfl⟩
        refine GQ.eqBool_refG hab (PySem.W.cmp_K (op := .Eq) (tb := .ref C) sb.room.units0 hFr I1.ok.mod.kin J J'.type (by simp [PySem.W.notFirst]) g.at_ g.fn ?_)
        have sp : sp3 2 X.K X.mg F [.ref a1, .ref a2] H1 (fun v H' => v = .bl bs[i] ∧ ∃ G' μ', MemOk X.K X.mg G' μ' H' m ∧ Le G μ H G' μ' H') E0 :=
          ⟨G1, μ1, m, [ds[i], es[i]], rfl, mem1, .cons rd (.cons re .nil), by
            rw [hF]
            exact fun v H' G' μ' me le rp => by
              cases rp
              exact ⟨rfl, G', μ', me, le1.trans le⟩⟩
        refine thn (call_at (EE := E0) (A := X.A.in1) g.D sb (fun pins H s e s' I q => passL (X := X) pins σ H s e s' I q) I1 (.cons (show L2.RelV (.ref a1) (.ref a1) from rfl) (.cons (show L2.RelV (.ref a2) (.ref a2) from rfl) .nil)) sp) fun z s2 q2 => ?_
        obtain ⟨z', H2, I2, r', ez, G2, μ2, mem2, le2⟩ := id q2
        subst ez
        cases r'
        exact ⟨_, rfl, rfl, H2, G2, μ2, I2, mem2, le2⟩
    · intro s' ⟨H1, G1, μ1, I1, mem1, le1⟩
      have e : ((List.range ds.length).all fun i => bs.getD i false) = bs.all id := by rw [← pe.2.1, all_getD]
      rw [e]
      exact ⟨.bl _, H1, I1, rfl, q H1 G1 μ1 mem1 le1⟩
open Classical in
noncomputable def gEqL (cn : Str) (F : MF) : Sl → Mm → Ar → Ar → Rs Ar := fun ρ m x y => match x, y with
  | .v (.lst ds), .v (.lst es) => if ds.length ≠ es.length then .ok (.v (.bl false)) m else if h : ∃ bs, PEq cn F m ds es bs then .ok (.v (.bl (h.choose.all id))) m else .no
  | _, _ => .no
theorem opS_eqL (G0 : GO (sg X) cn "__eq__" 2 k F) : OpS X.K X.mg E (rEqL X.K X.mg cn F) (gEqL cn F) := by
  intro b ρ m σ H T G μ v u x y Q s r1 r2 w
  obtain ⟨C, f, g⟩ := G0
  have hC : X.mg cn = some (.ref C) := g.mg
  cases x with
  | b i => exact w.elim
  | v d =>
    cases y with
    | b i => cases d <;> exact w.elim
    | v d2 =>
      cases d <;> first | exact w.elim | skip
      cases d2 <;> first | exact w.elim | skip
      rename_i ds es
      unfold gEqL at w
      simp only at w
      by_cases hl : ds.length ≠ es.length
      · rw [if_pos hl] at w
        exact ⟨G, μ, m, ds, es, C, hC, s.mem, r1, r2, .inl ⟨hl, Want.v w ⟨G, μ, s.push (.bl _)⟩⟩⟩
      · rw [if_neg hl] at w
        by_cases h : ∃ bs, PEq cn F m ds es bs
        · rw [dif_pos h] at w
          exact ⟨G, μ, m, ds, es, C, hC, s.mem, r1, r2, .inr ⟨_, h.choose_spec, fun H' G' μ' mem le => Want.v w ⟨G', μ', (s.next mem le).push (.bl _)⟩⟩⟩
        · rw [dif_neg h] at w
          exact w.elim
theorem pEq_det {m : Mm} {ds es : List Dv} {bs bs' : List Bool} (p : PEq cn F m ds es bs) (p' : PEq cn F m ds es bs') : bs = bs' := by
  refine List.ext_getElem? fun i => ?_
  have l1 := p.2.1
  have l2 := p'.2.1
  have l3 := p.1
  by_cases h : i < ds.length
  · have h1 : i < bs.length := by omega
    have h2 : i < bs'.length := by omega
    have h3 : i < es.length := by omega
    have q := (p.2.2 i _ _ _ (List.getElem?_eq_getElem h) (List.getElem?_eq_getElem h3) (List.getElem?_eq_getElem h1)).2.2.1
    have q' := (p'.2.2 i _ _ _ (List.getElem?_eq_getElem h) (List.getElem?_eq_getElem h3) (List.getElem?_eq_getElem h2)).2.2.1
    rw [List.getElem?_eq_getElem h1, List.getElem?_eq_getElem h2]
    rw [q] at q'
    injection q' with q' _
    injection q' with q'
    rw [q']
  · rw [List.getElem?_eq_none (by omega), List.getElem?_eq_none (by omega)]
theorem g_eqL {ρ : Sl} {m : Mm} {ds es : List Dv} {bs : List Bool} (p : PEq cn F m ds es bs) : gEqL cn F ρ m (.v (.lst ds)) (.v (.lst es)) = .ok (.v (.bl (bs.all id))) m := by
  unfold gEqL
  have h : ∃ bs, PEq cn F m ds es bs := ⟨bs, p⟩
  simp only
  rw [if_neg (fun z => z p.1), dif_pos h, pEq_det h.choose_spec p]
theorem g_eqL_ne {ρ : Sl} {m : Mm} {ds es : List Dv} (h : ds.length ≠ es.length) : gEqL cn F ρ m (.v (.lst ds)) (.v (.lst es)) = .ok (.v (.bl false)) m := by
  unfold gEqL
  simp only
  rw [if_pos h]
theorem rep_rg : ∀ l : List Nat, RepL K mg μ G (l.map fun i => Dv.int (0 + ((i : Nat) : Int))) (l.map fun i => V.int (0 + ((i : Nat) : Int)))
  | [] => .nil
  | _ :: l => .cons (.int _) (rep_rg l)
def mLstR (f : ME) : MN := fun ρ m => (f ρ m).bind fun x m1 => match x with
  | .v (.int n) => if 0 ≤ n ∧ n ≤ 16777216 then .ok (.lst (rngD 0 n.toNat)) m1 else .no
  | _ => .no
theorem n_listRg {a : Expr} {f : ME} {p p2 pos pos2 : Pos} (hc : X.calm = true) (hg : Gl X "list") (hm : X.mg "list" = none) (hg2 : Gl X "range") (hm2 : X.mg "range" = none) (ha : PX X E a f) (na : starEach [a] X.env = (false, eval a X.env) :: starEach [] X.env := by rfl)
    (na2 : starEach [.Call (.Name "range" p2) [a] [] pos2] X.env = (false, eval (.Call (.Name "range" p2) [a] [] pos2) X.env) :: starEach [] X.env := by rfl) : PN X E (.Call (.Name "list" p) [.Call (.Name "range" p2) [a] [] pos2] [] pos) (mLstR f) :=
  PEi (pe_listRg hc hg hm (prg_1 hg2 hm2 ha na) na2) fun σ H Q ⟨b, ρ, m, T, S, w⟩ => by
    refine ⟨b, ρ, m, T, S, ?_⟩
    unfold mLstR at w
    revert w
    cases f ρ m with
    | no => exact id
    | ex x m1 => exact id
    | ok x m1 =>
      intro w v H1 ⟨G, μ, s⟩ hb
      rw [Rs.bind_ok] at w
      cases x with
      | b i => exact w.elim
      | v d =>
        cases d <;> first | exact w.elim | skip
        rename_i n
        have r : Rep _ _ _ _ (.int n) v := s.ar (S := T) hb
        cases r
        simp only at w
        by_cases h : 0 ≤ n ∧ n ≤ 16777216
        · rw [if_pos h] at w
          refine ⟨n, rfl, RgOk.of_le (by omega) h.2 (by omega) h.1, fun q hq => w q _ ?_⟩
          have e : rgV 0 n = (List.range n.toNat).map fun i => V.int (0 + ((i : Nat) : Int)) := by unfold rgV; rw [Int.sub_zero]
          rw [e]
          exact s.pops.newOL (rep_rg _) hq
        · rw [if_neg h] at w
          exact w.elim
end
end M3
set_option Elab.async false
set_option linter.all false
set_option autoImplicit false
set_option maxRecDepth 100000
set_option maxHeartbeats 4000000
namespace M3
open PySem L2 PySem.Spec PyProof.Rows
theorem fly_keeps {base h h' : Heap} {l : List Env} {e : Addr} {Z : Obj → Prop} (k : ∀ b o, h.get? b = some o → h'.get? b = some o) (fl : HandSPX.FlyingZ base l e Z h) : HandSPX.FlyingZ base l e Z h' := by
  obtain ⟨k1, k2, k3, oe, vs, T, oT, ts, h1, hz, hd, hv, hb, hne, hT, hdt, ht⟩ := fl
  exact ⟨fun b o e => k b o (k1 b o e), k2, Heap.FunFrames.of_keeps (fun b o e _ => ⟨o, k b o e, rfl⟩) k3, oe, vs, T, oT, ts, k _ _ h1, hz, hd, hv, hb, hne, k _ _ hT, hdt, ht⟩
def wAny3 (K : PySem.W.Frag) (cs : List Value) (i : Nat) (ts : Addr → Value → Option Addr → TS) (Wout : WX) (D : Ends) : WX := fun cls d σ H =>
  ∃ b, PySem.W.exmAny K cls cs = some b ∧ (b = true → ∀ a, H a = none → ts a cls d { nx := fun σ' H' => D.nx (σ'.set i none) H', rt := D.rt, bk := fun σ' H' => D.bk (σ'.set i none) H', ct := fun σ' H' => D.ct (σ'.set i none) H' } (σ.set i (some (.ref a))) H) ∧
    (b = false → Wout cls d σ H)
section
variable {X : Cx} {x1 x2 x3 n : Str} {c1 c2 c3 : Value} {i : Nat} {body suite : List Stmt} {b₀ : Stmt} {p1 p2 p3 tp pos pos' : Pos} {kk : Nat} {tb : WX → TS} {ts : Addr → Value → Option Addr → TS} {Wout : WX}
theorem ps_try_any3 (hs : X.stack = X.env :: X.outer) (hf : X.env.frame = some X.env.locals) (hN : X.N.Nodup) (hi : X.N[i]? = some n) (hln : X.env.kindOf n = some .local) (n1 : Names X x1 c1) (n2 : Names X x2 c2) (n3 : Names X x3 c3) (tk : Takes X Wout)
    (hb : ∀ (W : WX) (pn : List (Addr × Obj)) (xe : Value → Shared → Prop), Takes (X.tr pn xe) W → PassesOwn (model X.prog X.w) X.A X.env xe → PSs (X.tr pn xe) body (tb W))
    (hsu : ∀ (a : Addr) (oe : Obj) (cls : Value) (d : Option Addr) (pn : List (Addr × Obj)), Zc cls d oe → (∃ vs, oe.data = .fields vs) → PSs (X.suite a ((a, oe) :: pn)) (b₀ :: suite) (ts a cls d)) :
    PS X (.Try body [.ExceptHandler (some (.Tuple [.Name x1 p1, .Name x2 p2, .Name x3 p3] kk tp)) (some n) (b₀ :: suite) pos'] [] [] pos) (fun D σ H => tb (wAny3 X.K [c1, c2, c3] i ts Wout D) D σ H) := by
  refine ⟨fun pins s σ H D I h => ?_⟩
  have ok := I.ok
  have hfr : X.A.frames = some (X.env :: X.outer) := by rw [ok.frames, hs]
  have hloc : Loc X.env.scope n := .inl hln
  refine wpAny_Try_except ?_
  refine wpAny_mono ((hb (wAny3 X.K [c1, c2, c3] i ts Wout D) (X.pn ++ pins) (fun e s₁ => wpAny (model X.prog X.w) X.A (noteFrame e X.env) (fun _ s₂ => wpAny (model X.prog X.w) X.A (setFlight e none) (fun _ s₃ =>
    wpAny (model X.prog X.w) X.A (handleBy e X.env [.ExceptHandler (some (.Tuple [.Name x1 p1, .Name x2 p2, .Name x3 p3] kk tp)) (some n) (b₀ :: suite) pos']) (SP X pins D) X.xe s₃) X.xe s₂) X.xe s₁) (fun u s' xx => ?_) PassesOwn.looking).run [] s σ H D (I.toTry _) h) (fun f s1 hsp => ?_) (fun e s1 he => he)
  · obtain ⟨a, B, sI, pins', σ', H', cls, d, rfl, J', nb, up, sky, na, os, ag, b, hb1, hyes, hno⟩ := xx
    have J : Inv X pins σ' H' sI := J'.ofTry ok
    have sky' : Sky B (X.env :: X.outer) a (Zc cls d) X.env.locals s'.heap := by rw [← hs]; exact sky
    show wpAny (model X.prog X.w) X.A (noteFrame (.ref a) X.env) _ _ _
    refine Sky.land Zc.steady hfr hf sky' fun h2 fl2 up2 => ?_
    have J2 : Inv X pins σ' H' { s' with heap := h2 } := J.landed nb fl2.1 (up.trans up2) os ag
    obtain ⟨oe2, vs2, he2, hz2, hd2⟩ := fl2.there
    have notFr : ∀ {h : Heap} {o : Obj} {vs : Array Value}, h.FunFrames B (X.env :: X.outer) → h.get? a = some o → o.data = .fields vs → a ∉ frs (X.env :: X.outer) := fun {h o vs} ff e dd hm => by
      obtain ⟨_, o', e', hnf⟩ := ff.mem hm
      rw [e] at e'; cases e'
      exact hnf _ dd
    have nfr := notFr fl2.2.2.1 he2 hd2
    have nL : a ≠ X.env.locals := fun z => nfr (List.mem_filterMap.mpr ⟨X.env, List.mem_cons_self, by rw [hf, z]⟩)
    have nF : a ∉ X.fs := fun hm => by
      obtain ⟨e, he, q⟩ := List.mem_filterMap.mp hm
      exact nfr (List.mem_filterMap.mpr ⟨e, List.mem_cons_of_mem _ he, q⟩)
    have S2 := J2.suite he2 hd2 na nL nF
    refine wpAny_handleBy_cons (codeAny_handlers_test ?_) (by intro q; cases q)
    have LT : PySem.W.Looks (model X.prog X.w) h2 (typeOf (.ref a)) cls := fun A Q E s k q => wpAny_typeOf_ref (k _ _ he2) (by rw [hz2.1]; exact q)
    have test : ∀ {x : Str} {c : Value} {np : Pos} {Q : Value → Shared → Prop} {E : Value → Shared → Prop}, Names X x c → Q c { s' with heap := h2 } → wpAny (model X.prog X.w) (X.A.mark (some (.ref a))) (eval (.Name x np) X.env) Q E { s' with heap := h2 } := fun {x c np Q E} hc q => by
      obtain ⟨hg, hdbg, hm | ⟨hm, hv, hnn⟩⟩ := hc
      · exact ld_glob (X := X.suite a ((a, oe2) :: (X.pn ++ pins))) S2 hg hm q hdbg
      · exact ld_blt (X := X.suite a ((a, oe2) :: (X.pn ++ pins))) S2 hg hm hv q hnn hdbg
    refine wpAny_Tuple ?_
    refine wpAny_items_cons (test n1 ?_)
    refine wpAny_items_cons (test n2 ?_)
    refine wpAny_items_cons (test n3 ?_)
    refine wpAny_items_nil ⟨by size_fits, ?_⟩
    have kp : ∀ q o, h2.get? q = some o → (h2.push { cls := .type "tuple", data := .seq [c1, c2, c3].toArray }).get? q = some o := fun _ _ z => Heap.get?_push_of_some _ z
    have htp := Heap.get?_push_size h2 (o := { cls := .type "tuple", data := .seq [c1, c2, c3].toArray }) rfl
    generalize h2.push { cls := .type "tuple", data := .seq [c1, c2, c3].toArray } = h3 at kp htp ⊢
    have fl3 := fly_keeps kp fl2
    have up3 := up2.trans (Heap.UpToSlots.of_keeps kp)
    have he3 := kp _ _ he2
    have J3 : Inv X pins σ' H' { s' with heap := h3 } := J.landed nb fl3.1 (up.trans up3) os ag
    have LM := PySem.W.exm_tup3 (M := model X.prog X.w) (J3.kIn) (LT.keeps kp) htp hb1
    refine LM.here ?_
    cases b with
    | true =>
      refine codeAny_handlers_suite_as ?_
      refine HandSPX.lands_againZ fl3 fun h4 fl4 up4 => ?_
      have J4 : Inv X pins σ' H' { s' with heap := h4 } := J.landed nb fl4.1 ((up.trans up3).trans up4) os ag
      obtain ⟨oe4, vs4, he4, hz4, hd4⟩ := fl4.there
      have S4 := J4.suite he4 hd4 na nL nF
      refine store_ok (X := X.suite a ((a, oe4) :: (X.pn ++ pins))) (v := .ref a) S4 hN hi hloc rfl (fun s5 S5 => ?_) (.inr hln)
      refine wpAny_mono ((hsu a oe4 cls d (X.pn ++ pins) hz4 ⟨_, hd4⟩).run [] s5 _ H' _ S5 (hyes rfl a na)) (fun f s6 hsp => ?_) (fun _ _ z => False.elim z)
      have end_ : ∀ {σ6 : L2.St} {H6 : Hp} {Q : Shared → Prop}, Inv (X.suite a ((a, oe4) :: (X.pn ++ pins))) [] σ6 H6 s6 → (∀ s7, Inv X pins (σ6.set i none) H6 s7 → Q s7) →
          wpAny (model X.prog X.w) X.A (do bindName X.env n .none; unbindBehindTheSuite X.env n pos') (fun _ s7 => Q s7) X.xe s6 := fun {σ6 H6 Q} S6 hq => gone_ok (S6.unsuite ok) hN hi hln hq
      cases f with
      | next =>
        obtain ⟨σ6, H6, S6, q6⟩ := hsp
        exact end_ S6 fun s7 J7 => ⟨_, _, J7, q6⟩
      | brk =>
        obtain ⟨σ6, H6, S6, q6⟩ := hsp
        exact end_ S6 fun s7 J7 => ⟨_, _, J7, q6⟩
      | cont =>
        obtain ⟨σ6, H6, S6, q6⟩ := hsp
        exact end_ S6 fun s7 J7 => ⟨_, _, J7, q6⟩
      | ret u =>
        obtain ⟨v6, σ6, H6, S6, r6, q6⟩ := hsp
        exact end_ S6 fun s7 J7 => ⟨_, _, _, J7, r6, q6⟩
    | false =>
      show wpAny _ X.A (handleBy (.ref a) X.env []) _ _ _
      refine wpAny_handleBy_nil ?_
      obtain ⟨k1, k2, k3, oe, vs, T, oT, ts', he, hz, hd, h1, hr⟩ := id fl3
      unfold PySem.passOn
      refine wpAny_bind (wpAny_field he hd h1 ?_)
      rw [if_neg (show ¬ ((Value.ref T == Value.none) = true) from by simp)]
      have fin : wpAny (model X.prog X.w) X.A (setFlight (.ref a) X.env.frame) (fun _ s4 => wpAny (model X.prog X.w) X.A (throw (.ref a) : Sem Flow) (SP X pins D) X.xe s4) X.xe { s' with heap := h3 } := by
        rw [hf]
        refine HandSPX.setFlight_upZ fl3 fun h4 hh4 up4 => wpAny_throw (tk _ _ ?_)
        exact ⟨a, B, sI, pins, σ', H', cls, d, rfl, J, nb, (up.trans up3).trans up4, .inr (.inr (by rw [hs]; exact hh4)), na, os, ag, hno rfl⟩
      first
        | exact wpAny_bind (wpAny_pure (wpAny_bind fin))
        | exact wpAny_bind fin
  · cases f with
    | next =>
      obtain ⟨σ', H', J', q⟩ := hsp
      exact wpAny_execs_nil ⟨σ', H', J'.ofTry ok, q⟩
    | brk =>
      obtain ⟨σ', H', J', q⟩ := hsp
      exact ⟨σ', H', J'.ofTry ok, q⟩
    | cont =>
      obtain ⟨σ', H', J', q⟩ := hsp
      exact ⟨σ', H', J'.ofTry ok, q⟩
    | ret u =>
      obtain ⟨v, σ', H', J', r, q⟩ := hsp
      exact ⟨v, σ', H', J'.ofTry ok, r, q⟩
end
end M3
set_option Elab.async false
set_option linter.all false
set_option autoImplicit false
set_option maxRecDepth 100000
set_option maxHeartbeats 4000000
namespace M3
open PySem L2 PySem.Spec PyProof.Rows LamX
abbrev ldFn (qual : Str) (params : Arguments) (body : Expr) (scope : Scope) (cl : List (Str × Addr)) (dV pm cdv ct : Value) : FuncData :=
  { name := "<lambda>", qualname := qual, params, body := .expr body, scope, globals := mainGlobals, closure := cl, defaults := dV, kwdefaults := .none, doc := .none, pyModule := pm, annotations := none, code := cdv, closureTuple := ct, builtins := builtinsNs }
abbrev ldObj (qual : Str) (params : Arguments) (body : Expr) (scope : Scope) (cl : List (Str × Addr)) (dV pm cdv ct : Value) : Obj :=
  { cls := .type "function", data := .func (ldFn qual params body scope cl dV pm cdv ct) }
section
variable {M : Model} {A : Around} {E : Value → Shared → Prop} {s : Shared} {qual : Str} {params : Arguments} {body : Expr} {scope : Scope} {env : Env} {c P : Addr} {ps : Array Value} {pos : Pos} {firstLine : Nat} {mg : Str → Option Value}
  {clos : List (Str × Addr)} {dV : Value} {Q : Value → Shared → Prop}
theorem ld_tail (hcl : closureFor scope env = pure clos) (hge0 : env.globals = mainGlobals) (hg : s.heap.Ns mainGlobals mg) (hcode : env.code = .ref c) (C : PySem.W.CodeHd s.heap c P) (hP : s.heap.get? P = some (PySem.W.tabObj ps)) (ht : TriplesOk ps.toList)
    (hnf : codeAmong pos ps.toList = none) (hgP : mainGlobals ≠ P) (hb : s.heap.BuiltinsAt mg P)
    (h : ∀ (c' : Addr) (ctv : Value) (h' : Heap) (tk : Nat), Heap.ExtBut P s.heap h' → s.heap.objs.size ≤ c' → c' < h'.objs.size → h'.CodeRec (.ref c') qual → h'.get? P = some (PySem.W.tabObj (ps ++ #[rawInt pos.line, rawInt pos.col, .ref c'])) →
      Q (.ref h'.objs.size) { s with heap := h'.push (ldObj qual params body scope clos dV ((mg "__name__").getD .none) (.ref c') ctv), toks := tk }) :
    wpAny M A (makeTail "<lambda>" qual params (.expr body) scope env dV .none none pos firstLine) Q E s := by
  obtain ⟨bm, ob, hbm, hne0, _, hneP, hbo, hcls, hdict, hdata⟩ := hb
  unfold makeTail
  rw [hcl, hge0]
  refine wpAny_bind (wpAny_pure ?_)
  cases clos with
  | nil =>
    simp only [List.isEmpty_nil, if_true]
    refine wpAny_bind (wpAny_pure ?_)
    refine wpAny_bind (wpAny_functionCodeX hcode (C.code hP ht) (C.tab hP) hnf fun c' h' tk hx hge hlt _ hrec htb _ => ?_)
    have hg' := hg.extBut hx hgP
    refine wpAny_bind (wpAny_builtinsFor hg' hbm hne0 (hx _ _ hneP hbo) hcls hdict hdata ?_)
    refine wpAny_bind (wpAny_nsGet hg' ?_)
    exact wpAny_bind (wpAny_pure (wpAny_newObj_type (h c' .none h' tk hx hge hlt hrec htb.2) (by size_fits)))
  | cons q r =>
    simp only [List.isEmpty_cons, Bool.false_eq_true, if_false]
    refine wpAny_bind (wpAny_newTextTuple ?_)
    refine wpAny_bind (wpAny_functionCodeX hcode ((C.keeps fun b o e => Heap.get?_push_of_some _ e).code (Heap.get?_push_of_some _ hP) ht) ((C.keeps fun b o e => Heap.get?_push_of_some _ e).tab (Heap.get?_push_of_some _ hP)) hnf fun c' h' tk hx hge hlt _ hrec htb _ => ?_)
    have hg' := (hg.push _).extBut hx hgP
    have hx' : Heap.ExtBut P s.heap h' := fun b o hb' e => hx b o hb' (Heap.get?_push_of_some _ e)
    have hge' : s.heap.objs.size ≤ c' := Nat.le_trans (by rw [Heap.size_push]; omega) hge
    refine wpAny_bind (wpAny_builtinsFor hg' hbm hne0 (hx' _ _ hneP hbo) hcls hdict hdata ?_)
    refine wpAny_bind (wpAny_nsGet hg' ?_)
    exact wpAny_bind (wpAny_pure (wpAny_newObj_type (h c' _ h' tk hx' hge' hlt hrec htb.2) (by size_fits)))
theorem ld_tailHit {cv : Value} (hcl : closureFor scope env = pure clos) (hge0 : env.globals = mainGlobals) (hg : s.heap.Ns mainGlobals mg) (hcode : env.code = .ref c) (C : PySem.W.CodeHd s.heap c P) (hP : s.heap.get? P = some (PySem.W.tabObj ps)) (ht : TriplesOk ps.toList)
    (hf : codeAmong pos ps.toList = some cv) (hb : s.heap.BuiltinsAt mg P)
    (h : ∀ (ctv : Value) (h' : Heap) (tk : Nat), (∀ b o, s.heap.get? b = some o → h'.get? b = some o) → s.heap.objs.size ≤ h'.objs.size →
      Q (.ref h'.objs.size) { s with heap := h'.push (ldObj qual params body scope clos dV ((mg "__name__").getD .none) cv ctv), toks := tk }) :
    wpAny M A (makeTail "<lambda>" qual params (.expr body) scope env dV .none none pos firstLine) Q E s := by
  obtain ⟨bm, ob, hbm, hne0, _, hneP, hbo, hcls, hdict, hdata⟩ := hb
  unfold makeTail
  rw [hcl, hge0]
  refine wpAny_bind (wpAny_pure ?_)
  cases clos with
  | nil =>
    simp only [List.isEmpty_nil, if_true]
    refine wpAny_bind (wpAny_pure ?_)
    refine wpAny_bind (wpAny_functionCode_hit hcode (C.code hP ht) hf ?_)
    refine wpAny_bind (wpAny_builtinsFor hg hbm hne0 hbo hcls hdict hdata ?_)
    refine wpAny_bind (wpAny_nsGet hg ?_)
    exact wpAny_bind (wpAny_pure (wpAny_newObj_type (h .none s.heap s.toks (fun _ _ e => e) (Nat.le_refl _)) (by size_fits)))
  | cons q r =>
    simp only [List.isEmpty_cons, Bool.false_eq_true, if_false]
    refine wpAny_bind (wpAny_newTextTuple ?_)
    refine wpAny_bind (wpAny_functionCode_hit hcode ((C.keeps fun b o e => Heap.get?_push_of_some _ e).code (Heap.get?_push_of_some _ hP) ht) hf ?_)
    refine wpAny_bind (wpAny_builtinsFor (hg.push _) hbm hne0 (Heap.get?_push_of_some _ hbo) hcls hdict hdata ?_)
    refine wpAny_bind (wpAny_nsGet (hg.push _) ?_)
    have hsz : ∀ oT : Obj, s.heap.objs.size ≤ (s.heap.push oT).objs.size := fun oT => by rw [Heap.size_push]; omega
    exact wpAny_bind (wpAny_pure (wpAny_newObj_type (h _ _ s.toks (fun b o e => Heap.get?_push_of_some _ e) (hsz _)) (by size_fits)))
theorem ld_eval {n : Int} {j : Nat} {dp : Pos} (hdef : defaultsOf params env = ([eval (.Constant (.int n) j dp) env], [])) (h : wpAny M A (makeTail "<lambda>" (env.qual ++ "<lambda>") params (.expr body) scope env (.ref s.heap.objs.size) .none none pos pos.line) Q E
      { s with heap := s.heap.push { cls := .type "tuple", data := .seq [.int n s.toks].toArray }, toks := s.toks + 1 }) :
    wpAny M A (eval (.Lambda params body scope pos) env) Q E s := by
  rw [arm_eval_Lambda, hdef]
  show wpAny M A (do let dv ← evalAll [eval (.Constant (.int n) j dp) env]; let kdv ← holding dv (evalAllOpt []); makeFunction "<lambda>" (env.qual ++ "<lambda>") params (.expr body) scope env dv kdv [] pos pos.line) Q E s
  refine wpAny_bind ?_
  unfold evalAll
  refine wpAny_bind (wpAny_Constant_int ?_)
  refine wpAny_bind (wpAny_holding (wpAny_pure ?_))
  refine wpAny_pure ?_
  refine wpAny_bind (wpAny_holding (wpAny_pure ?_))
  rw [makeFunction_eq]
  simp only [List.zip_nil_right, List.filterMap_nil, List.isEmpty_nil, List.isEmpty_cons, Bool.false_eq_true, if_false, if_true, pure_bind]
  exact wpAny_bind (wpAny_newTextTuple h)
theorem ld_bind {a : Str} {q : Str} {x1 : Arg} {d : Expr} {dV v pm cdv ct : Value} {cl : List (Str × Addr)} {tp : Addr} {k : Nat} {R : List (Str × Value) → Shared → Prop}
    (htp : s.heap.get? tp = some { cls := .type "tuple", data := .seq [v].toArray }) (h : R [(x1.arg, v)] s) :
    wpAny M A (bindArgs (ldFn q ⟨[], [x1], none, [], [], none, [d]⟩ body scope cl (.ref tp) pm cdv ct) ⟨[], []⟩) R E s := by
  unfold bindArgs
  simp only [List.map_nil, List.map_cons, List.nil_append, List.zip_nil_right, List.forIn_nil, pure_bind]
  refine wpAny_bind (wpAny_seqItems htp rfl ?_)
  rw [if_neg (by simp)]
  rw [if_neg (by simp)]
  simp
  first
    | exact wpAny_pure h
    | trace_state
end
section
variable {X : Cx} {pins : List (Addr × Obj)} {σ : L2.St} {H : Hp} {s : Shared}
theorem lam_makeD {T : List (Addr × Str)} {c P : Addr} {params : Arguments} {body : Expr} {scope : Scope} {pos dp : Pos} {n : Int} {j : Nat} {E : Value → Shared → Prop} {Q : Value → Shared → Prop} (I : Inv X pins σ H s) (TB : TabB X.base X.mg c P) (hcode : X.env.code = .ref c)
    (hm : (P, X.env.qual ++ "<lambda>") ∈ T) (hu : ∀ p ∈ T, p.1 = P → p.2 = X.env.qual ++ "<lambda>") (hT : Tabs T H) (hdef : defaultsOf params X.env = ([eval (.Constant (.int n) j dp) X.env], [])) (hfree : ∀ y ∈ scope.names, y.2 = .free → ∃ c, X.env.cells.lookup y.1 = some c)
    (h : ∀ (f c' tp : Addr) (pm ctv : Value) (tk0 : Nat) (H1 : Hp) (s' : Shared), Inv X pins σ H1 s' → ExtN H H1 → Tabs T H1 →
      s'.heap.get? f = some (ldObj (X.env.qual ++ "<lambda>") params body scope (cloFrom X.env.cells scope.names []) (.ref tp) pm (.ref c') ctv) → H1 f = none → f ∉ frs X.stack →
      s'.heap.get? tp = some { cls := .type "tuple", data := .seq [.int n tk0].toArray } → H1 tp = none → tp ∉ frs X.stack → H1 c' = some (CodeO c' (X.env.qual ++ "<lambda>")) → Q (.ref f) s') :
    wpAny (model X.prog X.w) X.A (eval (.Lambda params body scope pos) X.env) Q E s := by
  obtain ⟨ps, hP, ht, ha⟩ := hT _ hm
  refine ld_eval hdef ?_
  have nofr : ∀ f, s.heap.objs.size ≤ f → f ∉ frs X.stack := fun f hf z => by
    rcases List.mem_cons.mp (I.stkSub _ z) with e | e
    · have h1 := I.lt
      rw [← e] at h1
      exact Nat.lt_irrefl _ (Nat.lt_of_lt_of_le h1 hf)
    · exact I.nofs hf e
  have kp0 : ∀ b u, s.heap.get? b = some u → (s.heap.push { cls := .type "tuple", data := .seq [.int n s.toks].toArray }).get? b = some u := fun _ _ e => Heap.get?_push_of_some _ e
  have htp := Heap.get?_push_size s.heap (o := { cls := .type "tuple", data := .seq [.int n s.toks].toArray }) rfl
  have nT : H s.heap.objs.size = none := I.hok.fresh (Nat.le_refl _)
  have fT := nofr _ (Nat.le_refl s.heap.objs.size)
  have sz0 : s.heap.objs.size ≤ (s.heap.push { cls := .type "tuple", data := .seq [.int n s.toks].toArray }).objs.size := by rw [Heap.size_push]; omega
  have I0 : Inv X pins σ H { s with heap := s.heap.push { cls := .type "tuple", data := .seq [.int n s.toks].toArray }, toks := s.toks + 1 } := I.kept kp0
  generalize hs1 : ({ s with heap := s.heap.push { cls := .type "tuple", data := .seq [.int n s.toks].toArray }, toks := s.toks + 1 } : Shared) = s1 at I0
  have eh : s1.heap = s.heap.push { cls := .type "tuple", data := .seq [.int n s.toks].toArray } := by rw [← hs1]
  rw [← eh] at htp sz0
  have bP : s1.heap.BuiltinsAt X.mg P := TB.bm.keeps I0.bk
  have hP' : s1.heap.get? P = some { cls := .none, data := .fields ps } := I0.hok P _ hP
  have neP : s.heap.objs.size ≠ P := fun z => by rw [z, hP] at nT; cases nT
  cases hc : codeAmong pos ps.toList with
  | none =>
    refine ld_tail (mg := X.mg) (c := c) (P := P) (ps := ps) (closure_ok hfree) I0.ok.glob (I0.mod.glob.keeps I0.bk) hcode (TB.code.keeps I0.bk) hP' ht hc TB.gP bP fun c' ctv h' tk hx hge hlt hrec htb => ?_
    obtain ⟨c2, oc, vs, t, e2, hoc, hd, hv⟩ := hrec
    cases e2
    have hsz : s1.heap.objs.size ≤ h'.objs.size := Nat.le_trans hge (Nat.le_of_lt hlt)
    have nC : H c' = none := I0.hok.fresh hge
    have I1 := inv_table (t' := tk) (more := #[rawInt pos.line, rawInt pos.col, .ref c']) (h' := h'.push (ldObj (X.env.qual ++ "<lambda>") params body scope (cloFrom X.env.cells scope.names []) (.ref s.heap.objs.size) ((X.mg "__name__").getD .none) (.ref c') ctv)) I0 hP
      (fun b o hb e => Heap.get?_push_of_some _ (hx b o hb e)) (Heap.get?_push_of_some _ htb) hge ⟨oc, vs, t, Heap.get?_push_of_some _ hoc, hd, hv⟩
    have hE : ExtN H (upd (upd H P (.tbl (ps ++ #[rawInt pos.line, rawInt pos.col, .ref c']))) c' (CodeO c' (X.env.qual ++ "<lambda>"))) := fun b o e n => by
      rw [upd_ne (ne_of_none e nC), upd_ne (fun z => n ps (Option.some.inj (e.symm.trans (by rw [z]; exact hP))))]
      exact e
    have eL : (ps ++ #[rawInt pos.line, rawInt pos.col, .ref c']).toList = ps.toList ++ [rawInt pos.line, rawInt pos.col, .ref c'] := by simp
    have ltT : s.heap.objs.size < s1.heap.objs.size := Heap.lt_size htp
    refine h h'.objs.size c' s.heap.objs.size ((X.mg "__name__").getD .none) ctv s.toks _ _ I1 hE (fun p hp => ?_) (Heap.get?_push_size _ rfl) ?_ (nofr _ (Nat.le_trans sz0 hsz)) (Heap.get?_push_of_some _ (hx _ _ neP htp)) ?_ fT upd_same
    · by_cases hb : p.1 = P
      · rw [hu p hp hb, hb]
        refine ⟨_, by rw [upd_ne (ne_of_none hP nC), upd_same], by rw [eL]; exact PySem.TriplesOk_snoc _ _ _ _ ht, fun p' cv hcv => ?_⟩
        rw [eL] at hcv
        rcases among_app _ ht hcv with z | z
        · obtain ⟨c0, e1, e2⟩ := ha p' cv z
          exact ⟨c0, e1, hE _ _ e2 codeO_ne⟩
        · exact ⟨c', z, upd_same⟩
      · obtain ⟨ps', a1, a2, a3⟩ := hT p hp
        refine ⟨ps', by rw [upd_ne (ne_of_none a1 nC), upd_ne hb]; exact a1, a2, fun p' cv hcv => ?_⟩
        obtain ⟨c0, e1, e2⟩ := a3 p' cv hcv
        exact ⟨c0, e1, hE _ _ e2 codeO_ne⟩
    · have n1 : h'.objs.size ≠ c' := Nat.ne_of_gt hlt
      have n2 : h'.objs.size ≠ P := Nat.ne_of_gt (Nat.lt_of_lt_of_le (Heap.lt_size hP') hsz)
      rw [upd_ne n1, upd_ne n2]
      exact I0.hok.fresh hsz
    · rw [upd_ne (fun (z : s.heap.objs.size = c') => absurd hge (by rw [← z]; omega)), upd_ne neP]
      exact nT
  | some cv =>
    obtain ⟨c', e, hco⟩ := ha pos cv hc
    subst e
    refine ld_tailHit (mg := X.mg) (c := c) (P := P) (ps := ps) (closure_ok hfree) I0.ok.glob (I0.mod.glob.keeps I0.bk) hcode (TB.code.keeps I0.bk) hP' ht hc bP fun ctv h' tk hx hsz => ?_
    have I1 : Inv X pins σ H { s1 with heap := h'.push (ldObj (X.env.qual ++ "<lambda>") params body scope (cloFrom X.env.cells scope.names []) (.ref s.heap.objs.size) ((X.mg "__name__").getD .none) (.ref c') ctv), toks := tk } := I0.kept fun b o e => Heap.get?_push_of_some _ (hx b o e)
    exact h h'.objs.size c' s.heap.objs.size ((X.mg "__name__").getD .none) ctv s.toks H _ I1 (ExtN.refl H) hT (Heap.get?_push_size _ rfl) (I0.hok.fresh hsz) (nofr _ (Nat.le_trans sz0 hsz)) (Heap.get?_push_of_some _ (hx _ _ htp)) nT fT hco
end
end M3
set_option Elab.async false
set_option linter.all false
set_option autoImplicit false
set_option maxRecDepth 100000
set_option maxHeartbeats 4000000
namespace M3
open PySem L2 PySem.Spec PyProof.Rows LamX
structure LamD (sc scope : Scope) (N : List Str) : Prop where
  kind : scope.kind = .function
  co : scope.isCoroutine = false
  gen : scope.isGenerator = false
  cell : ∀ y ∈ scope.names, y.2 ≠ .cell
  own : ∀ y ∈ scope.names, y.2 = .local → y.1 ∉ N
  free : ∀ y ∈ scope.names, y.2 = .free → sc.names.lookup y.1 = some .cell ∨ sc.names.lookup y.1 = some .free
def lamDB (sc scope : Scope) (N : List Str) : Bool :=
  decide (scope.kind = .function) && (!scope.isCoroutine && (!scope.isGenerator && scope.names.all fun y => !decide (y.2 = .cell) && ((!decide (y.2 = .local) || !N.contains y.1) && (!decide (y.2 = .free) || decide (sc.names.lookup y.1 = some .cell) || decide (sc.names.lookup y.1 = some .free)))))
theorem lamD_by {sc scope : Scope} {N : List Str} (h : lamDB sc scope N = true) : LamD sc scope N := by
  unfold lamDB at h
  simp only [Bool.and_eq_true, Bool.or_eq_true, Bool.not_eq_true', decide_eq_true_eq, decide_eq_false_iff_not, List.all_eq_true] at h
  obtain ⟨h1, h2, h3, h4⟩ := h
  refine ⟨h1, h2, h3, fun y hy => (h4 y hy).1, fun y hy e => ?_, fun y hy e => ?_⟩
  · rcases (h4 y hy).2.1 with z | z
    · exact absurd e z
    · intro hm
      have : N.contains y.1 = true := by rw [List.contains_iff_mem]; exact hm
      rw [this] at z; cases z
  · rcases (h4 y hy).2.2 with (z | z) | z
    · exact absurd e z
    · exact .inl z
    · exact .inr z
theorem LamD.has {X : Cx} {scope : Scope} {N : List Str} (L : LamD X.env.scope scope N) (ok : X.Ok) : ∀ y ∈ scope.names, y.2 = .free → ∃ c, X.env.cells.lookup y.1 = some c := fun y hy e => by
  rcases L.free y hy e with k | k
  · exact ok.has _ (.inl k)
  · exact ok.has _ (.inr k)
section
variable {X : Cx} {pins : List (Addr × Obj)} {σ : L2.St} {H HZ : Hp} {s s1 : Shared}
end
section
variable {X : Cx} {pins : List (Addr × Obj)} {σ : L2.St} {H : Hp} {s : Shared}
theorem ld_bind0 {s1 : Shared} {M : Model} {A : Around} {E : Value → Shared → Prop} {R : List (Str × Value) → Shared → Prop} {q : Str} {body : Expr} {scope : Scope} {cl : List (Str × Addr)} {pm cdv ct : Value} (h : R [] s1) :
    wpAny M A (bindArgs (ldFn q ⟨[], [], none, [], [], none, []⟩ body scope cl .none pm cdv ct) ⟨[], []⟩) R E s1 := by
  have e : bindArgs (ldFn q ⟨[], [], none, [], [], none, []⟩ body scope cl .none pm cdv ct) ⟨[], []⟩ = pure [] := by rfl
  rw [e]
  exact wpAny_pure h
end
end M3
set_option Elab.async false
set_option linter.all false
set_option autoImplicit false
set_option maxRecDepth 100000
set_option maxHeartbeats 4000000
namespace M3
open PySem L2 PySem.Spec PyProof.Rows LamX
structure Later (X : Cx) (s : Shared) (H : Hp) (outer : List Env) (s1 : Shared) (H1 : Hp) : Prop where
  un : Un (frs X.stack) [] H H1 s.heap s1.heap
  fr : ∀ b ∈ frs outer, b ∉ frs X.stack → s.heap.get? b = none
section
variable {X : Cx} {s s1 s2 : Shared} {H H1 H2 : Hp} {outer : List Env}
theorem Later.refl {pins : List (Addr × Obj)} {σ : L2.St} (I : Inv X pins σ H s) : Later X s H X.stack s H :=
  ⟨Un.refl, fun b hb nf => absurd hb nf⟩
end
end M3
set_option Elab.async false
set_option linter.all false
set_option autoImplicit false
set_option maxRecDepth 100000
set_option maxHeartbeats 4000000
namespace M3
open PySem L2 PySem.Spec PyProof.Rows LamX L2H
theorem pe_xfK {CX : CXT} {P : Program} {w : World} {K : PySem.W.Frag} {mg : Str → Option Value} {base : Heap} {N : List Str} {qual : Str} {scope : Scope} {f a C : Addr} {cdv cls : Value} {A : Around} {outer : List Env} {s : Shared} {H : Hp} {E : XK} {oe : Obj} {pq : Addr × Obj} {d : Option Addr} {e : Expr} {te : TE} {pos : Pos} {n : Str}
    (T : XfC K C) (hno : PySem.W.findIn K (.ref C) n = some none) (hz : Zc cls d oe) (hf : ∃ vs, oe.data = .fields vs) (ha : s.heap.get? a = some oe) (na : H a = none) (nf : a ∉ frs outer)
    (he : PE (cxH CX P w K mg base N qual scope f cdv A outer s H E pq) e te) (hb : attributeBase e n (cxH CX P w K mg base N qual scope f cdv A outer s H E pq).env (eval e (cxH CX P w K mg base N qual scope f cdv A outer s H E pq).env) = eval e (cxH CX P w K mg base N qual scope f cdv A outer s H E pq).env := by rfl) :
    PE (cxH CX P w K mg base N qual scope f cdv A outer s H E pq) (.Attribute e n pos) (tXf a cls d C n te) := by
  refine ⟨fun pins s1 σ H1 Q I h => ?_⟩
  refine attr_of hb (thn (he.run pins s1 σ H1 _ I h) fun u s2 hh => ?_)
  obtain ⟨x, H2, I2, rx, ex, ec, dd, fs, v, ed, ea, l, q⟩ := hh
  subst ex
  obtain rfl : u = Value.ref a := rx
  subst ec
  subst ed
  have un : Un (frs outer) [] H H2 s.heap s2.heap := I2.base
  have ha2 := un.keep a oe ha na nf (by simp)
  obtain ⟨vs, hd⟩ := hf
  have hx : ObjOk P w H2 s2.heap dd (.xd fs) := I2.hok dd _ ea
  obtain ⟨mA, hns, hr⟩ := hx
  obtain ⟨od, ho, hl⟩ := lookIn_ns hns
  obtain ⟨u, hu, ru⟩ := RelO.some_of (v := v) (o := mA n) (by rw [← l]; exact hr n)
  have J : PySem.W.InstAt s2.heap a oe C (some od) := ⟨ha2, hz.1, by unfold PySem.W.notCls; rw [hd] <;> rfl, by rw [hz.2]; exact ho⟩
  exact HandSPX.exc_get I2.kIn J T.ga T.gg T.exC (PySem.W.findObj_own T.hdC hno rfl (by rw [hl, hu])) (handed_of ru) ⟨v, H2, I2.tok _, ru, q⟩
theorem run_ofSH {CX : CXT} {P : Program} {w : World} {K : PySem.W.Frag} {mg : Str → Option Value} {base : Heap} {k : Nat} {f : Addr} {name qual : Str} {params : Arguments} {body : List Stmt} {scope : Scope} {dV kV doc pm cdv ct oc : Value} {an od : Option Addr}
    {osl : Array (Option Value)} {N ps : List Str} {p : Addr × Obj} (lk : K.lookup f = some ⟨oc, od, .func (PySem.W.fnOf name qual params body scope dV kV doc pm an cdv ct), osl⟩) (hcd : PySem.W.codeIn K cdv qual = true) (S : FnScope N ps scope)
    {A : Around} {outer : List Env} {s : Shared} {H : Hp} {args : Args} {us : List Value} {vs : List V} {Q : VK} {E : XK} (hr : RoomH (k + 1) A) (hpin : PinOk outer H s p) (e0 : Env0 P w K mg base A outer s H) (hb : BindsTo s (PySem.W.fnOf name qual params body scope dV kV doc pm an cdv ct) args (ps.zip us)) (r : Vals vs us) (hl : vs.length = ps.length)
    (hbody : RoomH k (A.deeper (envOfC qual scope s.heap.objs.size f cdv)) → ∃ t, PSs (cxH CX P w K mg base N qual scope f cdv A outer s H E p) body t ∧ t { nx := fun _ H' => Q .non H', rt := Q } (L2.start N vs) H) :
    codeAny (model P w) A (.call (.ref f) args) (CR CX outer P w H s Q E) s := by
  have KX : K.In s.heap := e0.mod.kin.keeps fun b o e => (e0.bs b o e).1
  have lim : s.heap.NoLimit := e0.mod.nolimit.keeps fun b o e => (e0.bs b o e).1
  have hkind : ∀ y ∈ ps.zip us, scope.names.lookup y.1 = some .local ∨ (scope.names.lookup y.1 = some .cell ∧ ((cellsFrom (s.heap.objs.size + 1) scope.names []).lookup y.1).isSome = true) := fun ⟨n, v⟩ hy => by
    rcases S.par n (List.of_mem_zip hy).1 with q | q
    · exact .inl q
    · exact .inr ⟨q, PySem.W.cellsFrom_some _ _ _ (.inl q)⟩
  refine codeAny_call_function hr.depth (KX _ _ lk) rfl S.co S.gen rfl (PySem.W.codeRec_of KX hcd) (hb _ _ _ _ ?_)
  refine wpAny_newFunctionEnv_cells S.kind hkind fun env he s1 x => ?_
  subst he
  refine ⟨lim.keeps x.toInCall.keep, codeAny_func ?_⟩
  obtain ⟨t, ht, hq⟩ := hbody (hr.deeper _)
  have I : Inv (cxH CX P w K mg base N qual scope f cdv A outer s H E p) [] (L2.start N vs) H s1 := inv_startH S hpin e0 hl r x
  refine wpAny_mono (ht.run [] s1 (L2.start N vs) H _ I hq) (fun fl s' hs => ?_) fun e s' hs => hs
  have fin : ∀ {σ' : L2.St} {H' : Hp} {v : V} {u : Value}, Inv (cxH CX P w K mg base N qual scope f cdv A outer s H E p) [] σ' H' s' → Q v H' → L2.RelV v u → CE outer P w H s Q u s' :=
    fun {σ' H' v u} J q rv => ⟨v, H', J.os, J.bare, J.base, J.hok, rv, q⟩
  cases fl with
  | ret u =>
    obtain ⟨v, σ', H', J, rv, q⟩ := hs
    exact fin J q rv
  | next =>
    obtain ⟨σ', H', J, q⟩ := hs
    exact fin (v := V.non) (u := Value.none) J q rfl
  | brk =>
    obtain ⟨_, _, _, q⟩ := hs
    exact False.elim q
  | cont =>
    obtain ⟨_, _, _, q⟩ := hs
    exact False.elim q
end M3
set_option Elab.async false
set_option linter.all false
set_option autoImplicit false
set_option maxRecDepth 100000
set_option maxHeartbeats 4000000
namespace M3
open PySem L2 PySem.Spec PyProof.Rows LamX
def Ex2 (H H' : Hp) : Prop := ∀ b o, H b = some o → H' b = some o
theorem Ex2.refl (H : Hp) : Ex2 H H := fun _ _ h => h
theorem Ex2.trans {H H1 H2 : Hp} (a : Ex2 H H1) (b : Ex2 H1 H2) : Ex2 H H2 := fun c o h => b c o (a c o h)
theorem Ex2.new {H : Hp} {p : Addr} {o : HO} (h : H p = none) : Ex2 H (upd H p o) := fun b o' e => by rw [upd_ne (ne_of_none e h)]; exact e
def strsE (l : List (Str × Pos)) : List Expr := l.map fun x => .Constant (.str x.1) 0 x.2
def tCs (l : List (Str × Pos)) : TA := fun _ H Q => Q (l.map fun x => V.str x.1) H
theorem pa_strs {X : Cx} : ∀ l : List (Str × Pos), PA X (strsE l) (tCs l)
  | [] => pa_nil
  | x :: l => pa_cons (te := tC (V.str x.1)) (t := tCs l) pe_str (pa_strs l)
theorem flat_strs (l : List (Str × Pos)) : (l.map fun x => V.str x.1).all flatV = true := by
  induction l with
  | nil => rfl
  | cons x l ih => rw [List.map_cons, List.all_cons, ih]; rfl
def inNm (code : Str) (l : List (Str × Pos)) : Bool := inV (.str code) (l.map fun x => V.str x.1)
section
variable {X : Cx} {a C : Addr} {cls : Value} {d : Option Addr} {l : List (Str × Pos)} {fl code : Str} {e : Str} {p0 p1 p2 p3 p4 p5 p6 p7 p8 p9 : Pos} {dd : Addr} {fs : List (Str × V)}
def Rf (X : Cx) (a : Addr) (cls : Value) (d : Option Addr) (C : Addr) (e fl : Str) : Prop := ∀ p q : Pos, PE X (.Attribute (.Name e p) fl q) (tXf a cls d C fl (tVar 0))
theorem xf_go {σ : L2.St} {H : Hp} {Q : VK} {v : V} (hs : σ[0]? = some (some (V.ref a))) (hc : cls = .ref C) (hd : d = some dd) (hH : H dd = some (.xd fs)) (hl : fs.lookup fl = some v) (q : Q v H) : tXf a cls d C fl (tVar 0) σ H Q :=
  ⟨.ref a, hs, rfl, hc, dd, fs, v, hd, hH, hl, q⟩
def tLfIf (X : Cx) (a : Addr) (cls : Value) (d : Option Addr) (C : Addr) (l : List (Str × Pos)) (fl : Str) : TS :=
  tIfS (tTest (tOp (rIn X.K false) (tXf a cls d C "code" (tVar 0)) (tTup (tCs l)))) (tRet (tTup (tCons (tXf a cls d C fl (tVar 0)) tNil))) tNext
theorem lf_if (h1 : Rf X a cls d C e "code") (h2 : Rf X a cls d C e fl) :
    PS X (.If (.Compare (.Attribute (.Name e p0) "code" p1) [.In] [.Tuple (strsE l) 0 p2] p3) [.Return (some (.Tuple [.Attribute (.Name e p4) fl p5] 0 p6)) p7] [] p8) (tLfIf X a cls d C l fl) :=
  ps_if (pt_cmpR op_in_seq (h1 p0 p1) (pe_tup (pa_strs l)) rfl) (pss_one (ps_ret (pe_tup (pa_cons (h2 p4 p5) pa_nil)))) pss_nil
theorem lf_if_go {D : Ends} {σ : L2.St} {H : Hp} (hs : σ[0]? = some (some (V.ref a))) (hc : cls = .ref C) (hd : d = some dd) (hH : H dd = some (.xd fs)) (hk : fs.lookup ("code" : Str) = some (V.str code)) (hz : l.length ≤ 30)
    (y : inNm code l = true → ∃ v, fs.lookup fl = some v ∧ ∀ H' p, Ex2 H H' → H' p = none → D.rt (.ref p) (upd H' p (.tup [v]))) (n : inNm code l = false → ∀ H', Ex2 H H' → D.nx σ H') : tLfIf X a cls d C l fl D σ H := by
  unfold tLfIf tIfS tTest tOp
  refine xf_go hs hc hd hH hk ?_
  refine ⟨by rw [List.length_map]; exact Nat.le_trans hz (by decide), fun p hp => ?_⟩
  refine ⟨p, _, rfl, .inr (.inl (.inl upd_same)), rfl, flat_strs l, inNm code l, rfl, ?_⟩
  have x := Ex2.new (o := .tup (l.map fun x => V.str x.1)) hp
  cases hb : inNm code l with
  | true =>
    show (if true = true then tRet (tTup (tCons (tXf a cls d C fl (tVar 0)) tNil)) D σ _ else tNext D σ _)
    rw [if_pos rfl]
    obtain ⟨v, hv, q⟩ := y hb
    refine xf_go hs hc hd (x _ _ hH) hv ?_
    exact ⟨(by decide : 1 ≤ sizeLine), fun p' hp' => q _ _ x hp'⟩
  | false =>
    show (if false = true then tRet (tTup (tCons (tXf a cls d C fl (tVar 0)) tNil)) D σ _ else tNext D σ _)
    rw [if_neg Bool.false_ne_true]
    exact n hb _ x
def tLfLast (X : Cx) (a : Addr) (cls : Value) (d : Option Addr) (C : Addr) (txt fl : Str) : TS :=
  tRet (tIf (tTest (tOp rEq (tXf a cls d C "code" (tVar 0)) (tC (V.str txt)))) (tTup (tCons (tXf a cls d C fl (tVar 0)) tNil)) (tTup tNil))
theorem lf_last {txt : Str} (h1 : Rf X a cls d C e "code") (h2 : Rf X a cls d C e fl) :
    PS X (.Return (some (.IfExp (.Compare (.Attribute (.Name e p0) "code" p1) [.Eq] [.Constant (.str txt) 0 p2] p3) (.Tuple [.Attribute (.Name e p4) fl p5] 0 p6) (.Tuple [] 0 p7) p8)) p9) (tLfLast X a cls d C txt fl) :=
  ps_ret (pe_ifExp (pt_cmpR op_eq (h1 p0 p1) pe_str rfl) (pe_tup (pa_cons (h2 p4 p5) pa_nil)) (pe_tup pa_nil))
theorem lf_last_go {D : Ends} {σ : L2.St} {H : Hp} {txt : Str} (hs : σ[0]? = some (some (V.ref a))) (hc : cls = .ref C) (hd : d = some dd) (hH : H dd = some (.xd fs)) (hk : fs.lookup ("code" : Str) = some (V.str code))
    (y : code = txt → ∃ v, fs.lookup fl = some v ∧ ∀ p, H p = none → D.rt (.ref p) (upd H p (.tup [v]))) (n : code ≠ txt → ∀ p, H p = none → D.rt (.ref p) (upd H p (.tup []))) : tLfLast X a cls d C txt fl D σ H := by
  unfold tLfLast tRet tIf tTest tOp
  refine xf_go hs hc hd hH hk ?_
  refine ⟨rfl, _, rfl, ?_⟩
  by_cases hb : code = txt
  · show (if decide (V.str code = V.str txt) = true then tTup (tCons (tXf a cls d C fl (tVar 0)) tNil) σ H D.rt else tTup tNil σ H D.rt)
    rw [if_pos (decide_eq_true (by rw [hb]))]
    obtain ⟨v, hv, q⟩ := y hb
    refine xf_go hs hc hd hH hv ?_
    exact ⟨(by decide : 1 ≤ sizeLine), fun p' hp' => q p' hp'⟩
  · show (if decide (V.str code = V.str txt) = true then tTup (tCons (tXf a cls d C fl (tVar 0)) tNil) σ H D.rt else tTup tNil σ H D.rt)
    rw [if_neg (fun z => hb (V.str.inj (of_decide_eq_true z)))]
    exact ⟨by decide, fun p' hp' => n hb p' hp'⟩
def lfIf (e fl : Str) (l : List (Str × Pos)) (P : Nat → Pos) : Stmt :=
  .If (.Compare (.Attribute (.Name e (P 0)) "code" (P 1)) [.In] [.Tuple (strsE l) 0 (P 2)] (P 3)) [.Return (some (.Tuple [.Attribute (.Name e (P 4)) fl (P 5)] 0 (P 6))) (P 7)] [] (P 8)
def lfOf (Y1 Y2 Y3 Y4 : List (Str × Pos)) (code : Str) (fs : List (Str × V)) : Option (List V) :=
  if inNm code Y1 = true then (fs.lookup ("given" : Str)).map fun v => [v]
  else if inNm code Y2 = true then (fs.lookup ("most" : Str)).map fun v => [v]
  else if inNm code Y3 = true then (fs.lookup ("at" : Str)).map fun v => [v]
  else if inNm code Y4 = true then (fs.lookup ("name" : Str)).map fun v => [v]
  else if code = "BadWeather" then (fs.lookup ("state" : Str)).map fun v => [v]
  else some []
def tLf (X : Cx) (a : Addr) (cls : Value) (d : Option Addr) (C : Addr) (Y1 Y2 Y3 Y4 : List (Str × Pos)) : TS :=
  tSeq (tLfIf X a cls d C Y1 "given") (tSeq (tLfIf X a cls d C Y2 "most") (tSeq (tLfIf X a cls d C Y3 "at") (tSeq (tLfIf X a cls d C Y4 "name") (tLfLast X a cls d C "BadWeather" "state"))))
theorem lf_body {Y1 Y2 Y3 Y4 : List (Str × Pos)} {P1 P2 P3 P4 : Nat → Pos} (h : ∀ n ∈ (["code", "given", "most", "at", "name", "state"] : List Str), Rf X a cls d C e n) :
    PSs X [lfIf e "given" Y1 P1, lfIf e "most" Y2 P2, lfIf e "at" Y3 P3, lfIf e "name" Y4 P4,
      .Return (some (.IfExp (.Compare (.Attribute (.Name e p0) "code" p1) [.Eq] [.Constant (.str "BadWeather") 0 p2] p3) (.Tuple [.Attribute (.Name e p4) "state" p5] 0 p6) (.Tuple [] 0 p7) p8)) p9] (tLf X a cls d C Y1 Y2 Y3 Y4) :=
  pss_cons (lf_if (h _ (by simp)) (h _ (by simp))) (pss_cons (lf_if (h _ (by simp)) (h _ (by simp))) (pss_cons (lf_if (h _ (by simp)) (h _ (by simp))) (pss_cons (lf_if (h _ (by simp)) (h _ (by simp))) (pss_one (lf_last (h _ (by simp)) (h _ (by simp)))))))
theorem lf_go {Y1 Y2 Y3 Y4 : List (Str × Pos)} {D : Ends} {σ : L2.St} {H : Hp} {xs : List V} (z1 : Y1.length ≤ 30) (z2 : Y2.length ≤ 30) (z3 : Y3.length ≤ 30) (z4 : Y4.length ≤ 30) (hs : σ[0]? = some (some (V.ref a))) (hc : cls = .ref C) (hd : d = some dd) (hH : H dd = some (.xd fs)) (hk : fs.lookup ("code" : Str) = some (V.str code))
    (hx : lfOf Y1 Y2 Y3 Y4 code fs = some xs) (q : ∀ H' p, Ex2 H H' → H' p = none → D.rt (.ref p) (upd H' p (.tup xs))) : tLf X a cls d C Y1 Y2 Y3 Y4 D σ H := by
  unfold lfOf at hx
  unfold tLf tSeq
  have one : ∀ {fl : Str}, ((fs.lookup fl).map fun v => [v]) = some xs → ∃ v, fs.lookup fl = some v ∧ xs = [v] := fun {fl} e => by
    cases hl : fs.lookup fl with
    | none => rw [hl] at e; cases e
    | some v => rw [hl] at e; exact ⟨v, rfl, (Option.some.inj e).symm⟩
  refine lf_if_go hs hc hd hH hk z1 (fun b => ?_) (fun b H1 x1 => ?_)
  · rw [if_pos b] at hx
    obtain ⟨v, hv, e⟩ := one hx
    exact ⟨v, hv, fun H' p x hp => e ▸ q H' p x hp⟩
  rw [if_neg (by rw [b]; exact Bool.false_ne_true)] at hx
  refine lf_if_go hs hc hd (x1 _ _ hH) hk z2 (fun b => ?_) (fun b H2 x2 => ?_)
  · rw [if_pos b] at hx
    obtain ⟨v, hv, e⟩ := one hx
    exact ⟨v, hv, fun H' p x hp => e ▸ q H' p (x1.trans x) hp⟩
  rw [if_neg (by rw [b]; exact Bool.false_ne_true)] at hx
  have x2 := x1.trans x2
  refine lf_if_go hs hc hd (x2 _ _ hH) hk z3 (fun b => ?_) (fun b H3 x3 => ?_)
  · rw [if_pos b] at hx
    obtain ⟨v, hv, e⟩ := one hx
    exact ⟨v, hv, fun H' p x hp => e ▸ q H' p (x2.trans x) hp⟩
  rw [if_neg (by rw [b]; exact Bool.false_ne_true)] at hx
  have x3 := x2.trans x3
  refine lf_if_go hs hc hd (x3 _ _ hH) hk z4 (fun b => ?_) (fun b H4 x4 => ?_)
  · rw [if_pos b] at hx
    obtain ⟨v, hv, e⟩ := one hx
    exact ⟨v, hv, fun H' p x hp => e ▸ q H' p (x3.trans x) hp⟩
  rw [if_neg (by rw [b]; exact Bool.false_ne_true)] at hx
  have x4 := x3.trans x4
  refine lf_last_go (X := X) hs hc hd (x4 _ _ hH) hk (fun b => ?_) (fun b p hp => ?_)
  · rw [if_pos b] at hx
    obtain ⟨v, hv, e⟩ := one hx
    exact ⟨v, hv, fun p hp => e ▸ q _ p x4 hp⟩
  · rw [if_neg b] at hx
    have e := Option.some.inj hx
    exact e ▸ q _ p x4 hp
end
end M3
set_option Elab.async false
set_option linter.all false
set_option autoImplicit false
set_option maxRecDepth 100000
set_option maxHeartbeats 4000000
namespace M3
open PySem L2 PySem.Spec PyProof.Rows LamX L2H
structure LfC (K : PySem.W.Frag) (C : Addr) : Prop where
  xf : XfC K C
  no : ∀ n ∈ (["code", "given", "most", "at", "name", "state"] : List Str), PySem.W.findIn K (.ref C) n = some none
def lfBody (e : Str) (Y1 Y2 Y3 Y4 : List (Str × Pos)) (P1 P2 P3 P4 P5 : Nat → Pos) : List Stmt :=
  [lfIf e "given" Y1 P1, lfIf e "most" Y2 P2, lfIf e "at" Y3 P3, lfIf e "name" Y4 P4,
    .Return (some (.IfExp (.Compare (.Attribute (.Name e (P5 0)) "code" (P5 1)) [.Eq] [.Constant (.str "BadWeather") 0 (P5 2)] (P5 3)) (.Tuple [.Attribute (.Name e (P5 4)) "state" (P5 5)] 0 (P5 6)) (.Tuple [] 0 (P5 7)) (P5 8))) (P5 9)]
section
variable {S : Cx}
theorem pe_lf {a C dd g : Addr} {oe : Obj} {cls : Value} {d : Option Addr} {i k : Nat} {x e : Str} {nv : Str} {pv : Pos} {pg : Arguments} {sg : Scope} {dV kV doc pm cdv ct oc : Value} {an od : Option Addr} {osl : Array (Option Value)} {Y1 Y2 Y3 Y4 : List (Str × Pos)} {P1 P2 P3 P4 P5 : Nat → Pos} {p pos : Pos}
    (hp : (a, oe) ∈ S.pn) (hz : Zc cls d oe) (hf : ∃ vs, oe.data = .fields vs) (T : cls = .ref C → LfC S.K C)
    (hg : Gl S x) (hm : S.mg x = some (.ref g)) (hk : PySem.W.keepIn S.K (.ref g) = true) (lk : S.K.lookup g = some ⟨oc, od, .func (PySem.W.fnOf x x pg (lfBody e Y1 Y2 Y3 Y4 P1 P2 P3 P4 P5) sg dV kV doc pm an cdv ct), osl⟩) (hcg : PySem.W.codeIn S.K cdv x = true)
    (hb : L2.Binds S.K (PySem.W.fnOf x x pg (lfBody e Y1 Y2 Y3 Y4 P1 P2 P3 P4 P5) sg dV kV doc pm an cdv ct) [e] []) (Sg : FnScope [e] [e] sg) (hva : Vis sg e) (hr : RoomH (k + 1) S.A)
    (z1 : Y1.length ≤ 30) (z2 : Y2.length ≤ 30) (z3 : Y3.length ≤ 30) (z4 : Y4.length ≤ 30) (he : PE S (.Name nv pv) (tVar i))
    (hdb : (x == ("__debug__" : Str)) = false := by decide) (hd1 : (e == ("__debug__" : Str)) = false := by decide) (hd2 : (e == ("__classdict__" : Str)) = false := by decide) :
    PE S (.Call (.Name x p) [.Name nv pv] [] pos) (fun σ H Q => σ[i]? = some (some (V.ref a)) ∧ cls = .ref C ∧ d = some dd ∧ ∃ (fs : List (Str × V)) (code : Str) (xs : List V), H dd = some (.xd fs) ∧ fs.lookup ("code" : Str) = some (V.str code) ∧ lfOf Y1 Y2 Y3 Y4 code fs = some xs ∧
      ∀ H' p, Ex2 H H' → H' p = none → Q (.ref p) (upd H' p (.tup xs))) := by
  refine ⟨fun pins s σ H Q I h => ?_⟩
  obtain ⟨hσ, hc, hd, fs, code, xs, hH, hcode, hx, hq⟩ := h
  refine wpAny_Call_Name_kw (ld_glob I hg hm ?_ hdb)
  refine PySem.W.callWith_K (h₀ := S.base) I.ok.mod.kin hk ?_ (by rfl) (by rfl)
  show wpAny _ _ (spliced ((false, eval (.Name nv pv) S.env) :: backTo pos (starEach [] S.env))) _ _ s
  refine Calls.spliced_cons (thn (he.run pins s σ H (fun v H1 => v = .ref a ∧ H1 = H) I ⟨.ref a, hσ, rfl, rfl⟩) fun u s1 ⟨v, H1, I1, r1, q1⟩ => ?_)
  obtain ⟨ev, eH⟩ := q1
  subst ev
  rw [eH] at I1
  obtain rfl : u = Value.ref a := r1
  refine Calls.spliced_nil ⟨I1.kIn, ?_⟩
  obtain ⟨ha, na, nL, nF, nC⟩ := I1.pin (a, oe) (List.mem_append_left _ hp)
  have nf : a ∉ frs S.stack := fun z => (List.mem_cons.mp (I1.stkSub _ z)).elim nL nF
  have TT := T hc
  have rc : codeAny (model S.prog S.w) S.A (.call (.ref g) ⟨[.ref a], []⟩) (CR C8.CX0 S.stack S.prog S.w H s1 Q C8.E0) s1 := by
    refine run_ofSH (N := [e]) (ps := [e]) (us := [.ref a]) (vs := [.ref a]) (p := (a, oe)) lk hcg Sg hr ⟨ha, na, nf, nC⟩ I1.env0 (hb s1 [.ref a] I1.kIn rfl) (.cons rfl .nil) rfl fun hr' => ?_
    refine ⟨_, lf_body (X := cxH C8.CX0 S.prog S.w S.K S.mg S.base [e] x sg g cdv S.A S.stack s1 H C8.E0 (a, oe)) (a := a) (C := C) (cls := cls) (d := d) (fun n hn => ?_), ?_⟩
    · intro p q
      exact pe_xfK TT.xf (TT.no n hn) hz hf ha na nf (pe_var (i := 0) rfl hva hd1 hd2)
    · exact lf_go z1 z2 z3 z4 rfl hc hd hH hcode hx fun H' p x hp => hq H' p x hp
  refine wpAny_call (codeAny_mono rc fun r s2 hq => ?_)
  cases r with
  | error e => exact (show False from hq).elim
  | ok fl =>
    cases fl with
    | ret u => exact I1.after hq
    | next => exact False.elim hq
    | brk => exact False.elim hq
    | cont => exact False.elim hq
end
end M3
set_option Elab.async false
set_option linter.all false
set_option autoImplicit false
set_option maxRecDepth 100000
set_option maxHeartbeats 4000000
namespace M3
open PySem L2 PySem.Spec PyProof.Rows LamX L2H
def tryOk (Q : VK) : VK := fun v H' => [V.str "", v].length ≤ sizeLine ∧ ∀ p, H' p = none → Q (.ref p) (upd H' p (.tup [V.str "", v]))
def tryEx (K : PySem.W.Frag) (cs : List Value) (Y1 Y2 Y3 Y4 : List (Str × Pos)) (Q : VK) : XK := fun cls d H' =>
  ∃ (C dd : Addr) (fs : List (Str × V)) (code : Str) (xs : List V), cls = .ref C ∧ d = some dd ∧ LfC K C ∧ PySem.W.exmAny K cls cs = some true ∧ H' dd = some (.xd fs) ∧ fs.lookup ("code" : Str) = some (V.str code) ∧ lfOf Y1 Y2 Y3 Y4 code fs = some xs ∧
    ∀ (H'' : Hp) (p : Addr), Ex2 H' H'' → H' p = none → H'' p = some (.tup (V.str code :: xs)) → Q (.ref p) H''
def tryBody (ask en x1 x2 x3 xf : Str) (P : Nat → Pos) : List Stmt :=
  [.Try [.Return (some (.Tuple [.Constant (.str "") 0 (P 0), .Call (.Name ask (P 1)) [] [] (P 2)] 0 (P 3))) (P 4)]
    [.ExceptHandler (some (.Tuple [.Name x1 (P 5), .Name x2 (P 6), .Name x3 (P 7)] 0 (P 8))) (some en)
      [.Return (some (.BinOp (.Tuple [.Attribute (.Name en (P 9)) "code" (P 10)] 0 (P 11)) .Add (.Call (.Name xf (P 12)) [.Name en (P 13)] [] (P 14)) (P 15))) (P 16)] (P 17)] [] [] (P 18)]
theorem lfOf_len {Y1 Y2 Y3 Y4 : List (Str × Pos)} {code : Str} {fs : List (Str × V)} {xs : List V} (h : lfOf Y1 Y2 Y3 Y4 code fs = some xs) : xs.length ≤ 1 := by
  have one : ∀ {fl : Str}, ((fs.lookup fl).map fun v => [v]) = some xs → xs.length ≤ 1 := fun {fl} e => by
    cases hl : fs.lookup fl with
    | none => rw [hl] at e; cases e
    | some v => rw [hl] at e; have := Option.some.inj e; rw [← this]; exact Nat.le_refl _
  unfold lfOf at h
  split at h
  · exact one h
  split at h
  · exact one h
  split at h
  · exact one h
  split at h
  · exact one h
  split at h
  · exact one h
  · have := Option.some.inj h
    rw [← this]; exact Nat.zero_le _
section
variable {X : Cx} {s s1 : Shared} {H H1 : Hp} {outer : List Env}
end
end M3
set_option Elab.async false
set_option linter.all false
set_option autoImplicit false
set_option maxRecDepth 100000
set_option maxHeartbeats 4000000
namespace M3
open PySem L2 PySem.Spec PyProof.Rows LamX L2H
def hidB (X : Cx) (s : Shared) (H : Hp) : List Addr := frs X.stack ++ (List.range s.heap.objs.size).filter fun b => (H b).isSome
def baseB (X : Cx) (s : Shared) (H : Hp) : Heap := PySem.W.hideAll s.heap (hidB X s H)
theorem FunFrames.base_of {h b1 b2 : Heap} : ∀ {l : List Env}, (∀ b, b1.get? b = none → b ∈ frs l → b2.get? b = none) → h.FunFrames b1 l → h.FunFrames b2 l
  | [], _, _ => trivial
  | env :: r, k, ⟨x, ⟨L, o, hf, hn, ho, hd⟩, y⟩ => ⟨x, ⟨L, o, hf, k L hn (by unfold frs; rw [List.filterMap_cons, hf]; exact List.mem_cons_self), ho, hd⟩, FunFrames.base_of (fun b e hb => k b e (by
    unfold frs at hb ⊢; rw [List.filterMap_cons, hf]; exact List.mem_cons_of_mem _ hb)) y⟩
section
variable {X : Cx} {pins : List (Addr × Obj)} {σ : L2.St} {H : Hp} {s : Shared}
theorem baseB_get {b : Addr} {o : Obj} (e : s.heap.get? b = some o) (n : H b = none) (nf : b ∉ frs X.stack) : (baseB X s H).get? b = some o :=
  PySem.W.hideAll_get _ e fun hb => by
    rcases List.mem_append.mp hb with z | z
    · exact nf z
    · have := (List.mem_filter.mp z).2
      rw [n] at this; cases this
theorem baseB_of {b : Addr} {o : Obj} (e : (baseB X s H).get? b = some o) : s.heap.get? b = some o ∧ H b = none ∧ b ∉ frs X.stack := by
  have e1 := PySem.W.of_hideAll _ e
  have nb : b ∉ hidB X s H := fun hb => by rw [show (baseB X s H).get? b = none from PySem.W.hideAll_none _ hb] at e; cases e
  refine ⟨e1, ?_, fun z => nb (List.mem_append_left _ z)⟩
  cases hn : H b with
  | none => rfl
  | some o' => exact absurd (List.mem_append_right _ (List.mem_filter.mpr ⟨List.mem_range.mpr (Heap.lt_size e1), by rw [hn]; rfl⟩)) nb
theorem baseB_keep (I : Inv X pins σ H s) {b : Addr} {o : Obj} (e : X.base.get? b = some o) : (baseB X s H).get? b = some o := by
  obtain ⟨e1, n⟩ := I.bs b o e
  refine baseB_get e1 n fun z => ?_
  have := (I.stack.mem z).1
  rw [this] at e; cases e
theorem baseB_env (I : Inv X pins σ H s) : Env0 X.prog X.w X.K X.mg (baseB X s H) X.A X.stack s H := by
  have e0 := I.env0
  refine ⟨e0.frames, ⟨e0.mod.kin.keeps fun b o e => baseB_keep I e, e0.mod.glob.keeps fun b o e => baseB_keep I e, ?_, e0.mod.nolimit.keeps fun b o e => baseB_keep I e⟩, fun b o e => ⟨(baseB_of e).1, (baseB_of e).2.1⟩, Nat.le_of_eq (PySem.W.hideAll_size _ _), ?_, e0.frf, e0.hok, e0.bare⟩
  · obtain ⟨mb, hn, h⟩ := e0.mod.blt
    exact ⟨mb, hn.keeps fun b o e => baseB_keep I e, h⟩
  · exact FunFrames.base_of (fun b _ hb => PySem.W.hideAll_none _ (List.mem_append_left _ hb)) e0.funs
theorem env_down (I : Inv X pins σ H s) {A : Around} {outer : List Env} {s1 : Shared} {H1 : Hp} (e0 : Env0 X.prog X.w X.K X.mg (baseB X s H) A outer s1 H1) : Env0 X.prog X.w X.K X.mg X.base A outer s1 H1 := by
  refine ⟨e0.frames, I.ok.mod, fun b o e => e0.bs b o (baseB_keep I e), Nat.le_trans (Nat.le_trans I.env0.bsz (Nat.le_of_eq (PySem.W.hideAll_size (hidB X s H) s.heap).symm)) e0.bsz, ?_, e0.frf, e0.hok, e0.bare⟩
  refine FunFrames.base_of (fun b e _ => ?_) e0.funs
  cases hn : X.base.get? b with
  | none => rfl
  | some o => rw [baseB_keep I hn] at e; cases e
end
end M3
set_option Elab.async false
set_option linter.all false
set_option autoImplicit false
set_option maxRecDepth 100000
set_option maxHeartbeats 4000000
namespace M3
open PySem L2 PySem.Spec PyProof.Rows LamX L2H
section
variable {X : Cx} {pins : List (Addr × Obj)} {σ : L2.St} {H HZ : Hp} {s s1 : Shared}
theorem lam_startB {A : Around} {outer : List Env} {E : XK} {scope : Scope} {f c' : Addr} {h₁ : Heap} {tk : Nat} {m : Str → Option Value} (I : Inv X pins σ H s) (L : LamD X.env.scope scope X.N) (eB : Env0 X.prog X.w X.K X.mg (baseB X s H) A outer s1 HZ) (hd : A.handled = none)
    (hcf : ∀ y c, X.env.cells.lookup y = some c → c ∉ frs X.stack) (hns : h₁.Ns s1.heap.objs.size m) (kp : ∀ b o, s1.heap.get? b = some o → h₁.get? b = some o) :
    Inv (lamCx X A outer s1 HZ E scope f c') [] σ HZ { s1 with heap := h₁, toks := tk } := by
  have e0 := env_down I eB
  have hfree := L.has I.ok
  have cm : ∀ {y c}, (cloFrom X.env.cells scope.names []).lookup y = some c → X.env.cells.lookup y = some c := fun {y c} e => by
    rcases cloFrom_mem (PySem.mem_of_lookup e) with hm | ⟨h1, h2⟩
    · cases hm
    · obtain ⟨c1, hc⟩ := hfree _ h1 rfl
      have hc : X.env.cells.lookup y = some c1 := hc
      have e2 : c = c1 := by
        rw [h2, hc] <;> rfl
      rw [e2]
      exact hc
  have look : ∀ {y}, scope.names.lookup y = some .free → ∃ c, (cloFrom X.env.cells scope.names []).lookup y = some c := fun {y} hl => by
    have hy : (y, NameKind.free) ∈ scope.names := PySem.mem_of_lookup hl
    exact mem_lookup (cloFrom_has (cells := X.env.cells) (acc := []) hy)
  have cellK : ∀ {c : Addr} {v : Option Value}, H c = none → c ∉ frs X.stack → s.heap.IsCell c v → h₁.IsCell c v := fun {c v} n nf ⟨o, ho, hd⟩ =>
    ⟨o, kp _ _ (eB.bs c o (baseB_get ho n nf)).1, hd⟩
  have noA : ∀ b : Addr, b ∉ (lamCx X A outer s1 HZ E scope f c').ex := fun b z => absurd (show b ∈ ([] : List Addr) from z) (by simp)
  refine ⟨⟨e0.mod, L.kind, rfl, rfl, Nat.le_refl _, fun y z c e1 e2 => I.ok.inj y z c (cm e1) (cm e2), fun y hy => ?_, fun y c z _ => ?_, fun _ => hd, Around.frames_deeper e0.frames, .inr ⟨rfl, rfl⟩, fun b z => absurd z (noA b), e0.bs, e0.bsz, fun b _ _ => noA b,
      fun b z => absurd z (noA b), e0.funs, e0.frf⟩,
    rfl, e0.bare, Un.kept kp, ⟨_, hns, fun i y v e1 e2 e3 => ?_⟩, fun y c e => ?_, e0.hok.fresh (Nat.le_refl _), fun y c e => ?_, fun q hq => absurd (show q ∈ ([] : List (Addr × Obj)) ++ [] from hq) (by simp), e0.hok.kept kp, I.len⟩
  · have hy : scope.names.lookup y = some .cell ∨ scope.names.lookup y = some .free := hy
    rcases hy with hy | hy
    · exact absurd rfl (L.cell _ (PySem.mem_of_lookup hy))
    · exact look hy
  · have z : false = true := z
    cases z
  · have e3 : Vis scope y := e3
    rcases e3 with k | k | k
    · exact absurd (List.mem_of_getElem? (show X.N[i]? = some y from e1)) (L.own _ (PySem.mem_of_lookup k) rfl)
    · exact absurd rfl (L.cell _ (PySem.mem_of_lookup k))
    · obtain ⟨m, hn, hl⟩ := I.loc
      have hvis : Vis X.env.scope y := (L.free _ (PySem.mem_of_lookup k) rfl).elim (fun k => .inr (.inl k)) (fun k => .inr (.inr k))
      obtain ⟨w', r, q⟩ := hl i y v e1 e2 hvis
      obtain ⟨c2, h2⟩ := look k
      refine ⟨w', r, .inr ⟨.inr k, c2, h2, ?_⟩⟩
      have c1 := cm h2
      rcases q with ⟨k', _⟩ | ⟨_, c3, e', z⟩
      · have k' : X.env.scope.names.lookup y = some .local := k'
        rcases L.free _ (PySem.mem_of_lookup k) rfl with k2 | k2 <;> rw [show X.env.scope.names.lookup y = _ from k2] at k' <;> cases k'
      · rw [c1] at e'
        cases e'
        exact cellK (I.freeC y _ c1) (hcf y _ c1) z
  · obtain ⟨w', z⟩ := I.cell y c (cm e)
    exact ⟨w', cellK (I.freeC y c (cm e)) (hcf y c (cm e)) z⟩
  · obtain ⟨v, o, ho, hd⟩ := I.cell y c (cm e)
    exact (eB.bs c o (baseB_get ho (I.freeC y c (cm e)) (hcf y c (cm e)))).2
end
def LamB (Pr : Program) (w : World) (K : PySem.W.Frag) (mg : Str → Option Value) (bs : Heap) (q : Str) (f c' : Addr) (k : Nat) (tl : XK → Hp → VK → Prop) : Prop :=
  (∃ o, bs.get? f = some o ∧ ∃ fd, o.data = .func fd) ∧ ∀ (A : Around) (outer : List Env) (s1 : Shared) (H1 : Hp) (E : XK) (Q : VK), Room (k + 1) A → Env0 Pr w K mg bs A outer s1 H1 →
    H1 c' = some (CodeO c' q) → tl E H1 Q → codeAny (model Pr w) A (.call (.ref f) ⟨[], []⟩) (CR (L2.CX Pr w) outer Pr w H1 s1 Q E) s1
section
variable {X : Cx} {pins : List (Addr × Obj)} {σ : L2.St} {H : Hp} {s : Shared}
theorem lamB_of {k : Nat} {f c' : Addr} {dV pm ctv : Value} {params : Arguments} {body : Expr} {scope : Scope} {binds : List (Str × Value)} {t : XK → TE} (I : Inv X pins σ H s) (L : LamD X.env.scope scope X.N)
    (hcf : ∀ y c, X.env.cells.lookup y = some c → c ∉ frs X.stack)
    (hf : s.heap.get? f = some (ldObj (X.env.qual ++ "<lambda>") params body scope (cloFrom X.env.cells scope.names []) dV pm (.ref c') ctv)) (hfn : H f = none) (hfr : f ∉ frs X.stack)
    (hbind : ∀ (s1 : Shared) (M : Model) (A : Around) (E : Value → Shared → Prop) (R : List (Str × Value) → Shared → Prop), (∀ b o, s.heap.get? b = some o → H b = none → b ∉ frs X.stack → s1.heap.get? b = some o) → R binds s1 →
      wpAny M A (bindArgs (ldFn (X.env.qual ++ "<lambda>") params body scope (cloFrom X.env.cells scope.names []) dV pm (.ref c') ctv) ⟨[], []⟩) R E s1)
    (hloc : ∀ y ∈ binds, scope.names.lookup y.1 = some .local)
    (hbody : ∀ (A : Around) (outer : List Env) (s : Shared) (H : Hp) (E : XK), Room k (A.deeper (lamEnv X scope s.heap.objs.size f c')) → PE (lamCx X A outer s H E scope f c') body (t E)) :
    LamB X.prog X.w X.K X.mg (baseB X s H) (X.env.qual ++ "<lambda>") f c' k (fun E H1 Q => t E σ H1 Q) := by
  refine ⟨⟨_, baseB_get hf hfn hfr, _, rfl⟩, fun A outer s1 H1 E Q hr eB hc ht => ?_⟩
  have of1 := (eB.bs f _ (baseB_get hf hfn hfr)).1
  have e0 := env_down I eB
  obtain ⟨⟨oc, vs, t', hoc, hdc, hvc⟩, _, _⟩ := eB.hok c' _ hc
  refine PySem.W.kla_callFunE hr.depth of1 rfl L.co L.gen rfl ⟨c', oc, vs, t', rfl, hoc, hdc, hvc⟩ ?_
  refine hbind s1 _ _ _ _ (fun b o e n nf => (eB.bs b o (baseB_get e n nf)).1) ?_
  refine wpAny_newFunctionEnv L.cell hloc (fun h₁ hns hsb => ⟨(e0.mod.nolimit.keeps fun b o e => (e0.bs b o e).1).fresh _ hsb, ?_⟩) L.kind
  show codeAny _ _ (.expr body (lamEnv X scope s1.heap.objs.size f c')) _ _
  have kp : ∀ b o, s1.heap.get? b = some o → h₁.get? b = some o := fun b o e => hsb.extBut b o (Nat.ne_of_lt (Heap.lt_size e)) (Heap.get?_push_of_some _ e)
  have J : Inv (lamCx X A outer s1 H1 E scope f c') [] σ H1 { s1 with heap := h₁, toks := s1.toks + binds.length } := lam_startB I L eB hr.hd hcf hns kp
  refine PySem.W.kla_codeExpr (wpAny_mono ((hbody _ _ s1 H1 E (hr.deeper _)).run [] _ _ H1 Q J ht) (fun v s' hq => ?_) fun e s' hq => hq)
  obtain ⟨w', H', J', rv, q⟩ := hq
  exact ⟨w', H', J'.os, J'.bare, J'.base, J'.hok, rv, q⟩
end
section
variable {Pr : Program} {w : World} {K : PySem.W.Frag} {mg : Str → Option Value} {bs : Heap} {s1 : Shared} {H1 : Hp} {outer : List Env}
theorem pe_lamb {CXg : CXT} {Eg : XK} {Ng : List Str} {qg q : Str} {sg : Scope} {g f c' : Addr} {cdg : Value} {A : Around} {k i : Nat} {a : Str} {pn : List (Addr × Obj)} {xe : Value → Shared → Prop} {W : WX} {E : XK} {tl : XK → Hp → VK → Prop} {p1 p2 : Pos}
    (LB : LamB Pr w K mg bs q f c' k tl)
    (tk : Takes ((cxOf CXg Pr w K mg bs Ng qg sg g cdg A outer s1 H1 Eg).tr pn xe) W) (hW : ∀ cls d σ' H', E cls d H' → W cls d σ' H') (hr : Room (k + 1) (A.deeper (envOfC qg sg s1.heap.objs.size g cdg)))
    (hN : Ng[i]? = some a) (hv : Vis sg a) (hd : (a == ("__debug__" : Str)) = false := by decide) (hcd : (a == ("__classdict__" : Str)) = false := by decide) :
    PE ((cxOf CXg Pr w K mg bs Ng qg sg g cdg A outer s1 H1 Eg).tr pn xe) (.Call (.Name a p1) [] [] p2)
      (fun σZ HZ Q => σZ[i]? = some (some (.ref f)) ∧ HZ c' = some (CodeO c' q) ∧ tl E HZ Q) := by
  refine ⟨fun pinsZ sZ σZ HZ Q IZ h => ?_⟩
  obtain ⟨hs, hc, ht⟩ := h
  refine wpAny_Call_Name_kw (thn ((pe_var (pos := p1) (i := i) hN hv hd hcd).run pinsZ sZ σZ HZ (fun v H1 => v = .ref f ∧ H1 = HZ) IZ ⟨.ref f, hs, rfl, rfl⟩) fun u s2 ⟨v, H2, I2, r1, q1⟩ => ?_)
  obtain ⟨ev, eH⟩ := q1
  subst ev
  rw [eH] at I2
  obtain rfl : u = Value.ref f := r1
  obtain ⟨⟨⟨oc, od, odt, osl⟩, hob, fd, hfd⟩, run⟩ := LB
  have hfd : odt = .func fd := hfd
  subst hfd
  have eB : Env0 Pr w K mg bs (A.deeper (envOfC qg sg s1.heap.objs.size g cdg)) (envOfC qg sg s1.heap.objs.size g cdg :: outer) s2 HZ := I2.env0
  have of2 := (eB.bs f _ hob).1
  refine PySem.W.callWith_F0 ⟨_, _, _, _, of2⟩ ?_
  have rc := run (A.deeper (envOfC qg sg s1.heap.objs.size g cdg)) (envOfC qg sg s1.heap.objs.size g cdg :: outer) s2 HZ E Q hr eB hc ht
  have hx : Passes (L2.CX Pr w) ((cxOf CXg Pr w K mg bs Ng qg sg g cdg A outer s1 H1 Eg).tr pn xe) E := passes_call tk hW
  refine wpAny_call (codeAny_mono rc fun r s' hq => ?_)
  cases r with
  | error e => exact hx pinsZ σZ HZ s2 e s' I2 hq
  | ok fl =>
    cases fl with
    | ret u => exact I2.after hq
    | next => exact False.elim hq
    | brk => exact False.elim hq
    | cont => exact False.elim hq
end
end M3
set_option Elab.async false
set_option linter.all false
set_option autoImplicit false
set_option maxRecDepth 100000
set_option maxHeartbeats 4000000
namespace M3
open PySem L2 PySem.Spec PyProof.Rows LamX L2H
section
variable {Pr : Program} {w : World} {K : PySem.W.Frag} {mg : Str → Option Value} {bs : Heap} {s1 : Shared} {H1 : Hp} {outer : List Env}
theorem try_b {k : Nat} {f c' gt g : Addr} {tl : XK → Hp → VK → Prop} {A : Around} {Q : VK} {x ask en x1 x2 x3 xf e q : Str} {P : Nat → Pos} {c1 c2 c3 : Value}
    {pgt : Arguments} {sgt : Scope} {tdV tkV tdoc tpm tcd tct toc : Value} {tan tod : Option Addr} {tosl : Array (Option Value)}
    {pg : Arguments} {sg : Scope} {dV kV doc pm cdv ct oc : Value} {an od : Option Addr} {osl : Array (Option Value)} {Y1 Y2 Y3 Y4 : List (Str × Pos)} {P1 P2 P3 P4 P5 : Nat → Pos}
    -- the lambda
    (LB : LamB Pr w K mg bs q f c' k tl)
    (e0 : Env0 Pr w K mg bs A outer s1 H1) (hr : Room (k + 2) A)
    -- the def that tries
    (lkt : K.lookup gt = some ⟨toc, tod, .func (PySem.W.fnOf x x pgt (tryBody ask en x1 x2 x3 xf P) sgt tdV tkV tdoc tpm tan tcd tct), tosl⟩) (hct : PySem.W.codeIn K tcd x = true) (hbt : L2.Binds K (PySem.W.fnOf x x pgt (tryBody ask en x1 x2 x3 xf P) sgt tdV tkV tdoc tpm tan tcd tct) [ask] [])
    (Sgt : FnScope [ask, en] [ask] sgt) (va : Vis sgt ask) (ve : sgt.names.lookup en = some .local)
    (g1 : sgt.names.lookup x1 = some .globalImplicit) (m1 : mg x1 = some c1) (g2 : sgt.names.lookup x2 = some .globalImplicit) (m2 : mg x2 = some c2) (g3 : sgt.names.lookup x3 = some .globalImplicit) (m3 : mg x3 = some c3)
    -- the def that tells the fields
    (gf : sgt.names.lookup xf = some .globalImplicit) (mf : mg xf = some (.ref g)) (hk : PySem.W.keepIn K (.ref g) = true) (lk : K.lookup g = some ⟨oc, od, .func (PySem.W.fnOf xf xf pg (lfBody e Y1 Y2 Y3 Y4 P1 P2 P3 P4 P5) sg dV kV doc pm an cdv ct), osl⟩) (hcg : PySem.W.codeIn K cdv xf = true)
    (hb : L2.Binds K (PySem.W.fnOf xf xf pg (lfBody e Y1 Y2 Y3 Y4 P1 P2 P3 P4 P5) sg dV kV doc pm an cdv ct) [e] []) (Sg : FnScope [e] [e] sg) (hva : Vis sg e) (hk1 : 1 ≤ k)
    (z1 : Y1.length ≤ 30) (z2 : Y2.length ≤ 30) (z3 : Y3.length ≤ 30) (z4 : Y4.length ≤ 30)
    (hc : H1 c' = some (CodeO c' q)) (h : tl (tryEx K [c1, c2, c3] Y1 Y2 Y3 Y4 Q) H1 (tryOk Q))
    (da : (ask == ("__debug__" : Str)) = false := by decide) (db : (ask == ("__classdict__" : Str)) = false := by decide) (de : (en == ("__debug__" : Str)) = false := by decide) (df : (en == ("__classdict__" : Str)) = false := by decide)
    (d1 : (x1 == ("__debug__" : Str)) = false := by decide) (d2 : (x2 == ("__debug__" : Str)) = false := by decide) (d3 : (x3 == ("__debug__" : Str)) = false := by decide)
    (d4 : (xf == ("__debug__" : Str)) = false := by decide) (d5 : (e == ("__debug__" : Str)) = false := by decide) (d6 : (e == ("__classdict__" : Str)) = false := by decide) :
    codeAny (model Pr w) A (.call (.ref gt) ⟨[.ref f], []⟩) (CR C8.CX0 outer Pr w H1 s1 Q C8.E0) s1 := by
  have KX : K.In s1.heap := e0.mod.kin.keeps fun b o e => (e0.bs b o e).1
  refine run_ofS (N := [ask, en]) (ps := [ask]) (us := [.ref f]) (vs := [.ref f]) lkt hct Sgt hr e0 (hbt s1 [.ref f] KX rfl) (.cons rfl .nil) rfl fun hr' => ?_
  have gl : ∀ {y : Str}, sgt.names.lookup y = some .globalImplicit → Gl (cxOf C8.CX0 Pr w K mg bs [ask, en] x sgt gt tcd A outer s1 H1 C8.E0) y := fun h => h
  refine ⟨_, pss_one (ps_try_any3 (X := cxOf C8.CX0 Pr w K mg bs [ask, en] x sgt gt tcd A outer s1 H1 C8.E0) (i := 1) (c1 := c1) (c2 := c2) (c3 := c3)
      (tb := fun W D σ H => ∃ Ech : XK, (∀ cls d σ' H', Ech cls d H' → W cls d σ' H') ∧ σ[0]? = some (some (V.ref f)) ∧ H c' = some (CodeO c' q) ∧ tl Ech H (tryOk D.rt))
      (ts := fun a cls d D σ H => ∃ (C dd : Addr) (fs : List (Str × V)) (code : Str) (xs : List V), cls = .ref C ∧ d = some dd ∧ LfC K C ∧ (1 < σ.length → σ[1]? = some (some (V.ref a))) ∧ H dd = some (.xd fs) ∧ fs.lookup ("code" : Str) = some (V.str code) ∧ lfOf Y1 Y2 Y3 Y4 code fs = some xs ∧
        ∀ (H'' : Hp) (p : Addr), Ex2 H H'' → H p = none → H'' p = some (.tup (V.str code :: xs)) → D.rt (.ref p) H'')
      rfl rfl Sgt.nd rfl ve ⟨gl g1, d1, .inl m1⟩ ⟨gl g2, d2, .inl m2⟩ ⟨gl g3, d3, .inl m3⟩ LamX.takes0 (fun W pn xe tk _ => ?_) (fun a oe cls d pn hz hfl => ?_)), ?_⟩
  · refine ⟨fun pins s' σ H' D I h' => ?_⟩
    obtain ⟨Ech, hW, h1, h2, h3⟩ := h'
    have hp := pe_lamb (p1 := P 1) (p2 := P 2) (i := 0) LB tk hW (hr'.mono (Nat.le_refl _)) rfl va da db
    have hq := pss_one (ps_ret (pos := P 4) (pe_tup (x1 := 0) (pos := P 3) (pa_cons (pe_str (x := "") (j := 0) (pos := P 0)) (pa_cons hp pa_nil))))
    exact hq.run pins s' σ H' D I ⟨h1, h2, h3⟩
  · refine ⟨fun pins s' σ H' D I h' => ?_⟩
    obtain ⟨C, dd, fs, code, xs, w1, w2, w3, w4, w5, w6, w7, w8⟩ := h'
    have hs : σ[1]? = some (some (V.ref a)) := w4 (by have := I.len; rw [this]; exact (by decide : 1 < 2))
    have pv : ∀ p : Pos, PE ((cxOf C8.CX0 Pr w K mg bs [ask, en] x sgt gt tcd A outer s1 H1 C8.E0).suite a ((a, oe) :: pn)) (.Name en p) (tVar 1) := fun p => pe_var (i := 1) rfl (.inl ve) de df
    have pa := pe_xf (X := cxOf C8.CX0 Pr w K mg bs [ask, en] x sgt gt tcd A outer s1 H1 C8.E0) (pos := P 10) (a := a) (pn := pn) w3.xf (w3.no "code" (by simp)) hz hfl (pv (P 9))
    have pl := pe_lf (S := (cxOf C8.CX0 Pr w K mg bs [ask, en] x sgt gt tcd A outer s1 H1 C8.E0).suite a ((a, oe) :: pn)) (i := 1) (k := k) (dd := dd) (C := C) (p := P 12) (pos := P 14) (pv := P 13) List.mem_cons_self hz hfl (fun _ => w3) gf mf hk lk hcg hb Sg hva ⟨hr'.dp, hr'.un⟩ z1 z2 z3 z4 (pv (P 13)) d4 d5 d6
    have hq := pss_one (ps_ret (pos := P 16) (pe_op (pos := P 15) op_catT (pe_tup (x1 := 0) (pos := P 11) (pa_cons pa pa_nil)) pl))
    refine hq.run pins s' σ H' D I ?_
    refine ⟨.ref a, hs, rfl, w1, dd, fs, V.str code, w2, w5, w6, (by decide : 1 ≤ sizeLine), fun p1 hp1 => ?_⟩
    have e1 := Ex2.new (o := .tup [V.str code]) hp1
    refine ⟨hs, w1, w2, fs, code, xs, e1 _ _ w5, w6, w7, fun H2 p2 e2 hp2 => ?_⟩
    have e3 := Ex2.new (o := .tup xs) hp2
    have hl := lfOf_len w7
    refine ⟨p1, p2, [V.str code], xs, rfl, rfl, .inl (.inl (e3 _ _ (e2 _ _ upd_same))), .inl (.inl upd_same), by simp, ?_, fun z => ?_, fun z p3 hp3 => ?_⟩
    · exact Nat.le_trans (show 1 + xs.length ≤ 2 by omega) (by decide)
    · refine w8 _ p1 ((e1.trans e2).trans e3) hp1 ?_
      rw [z]
      exact e3 _ _ (e2 _ _ upd_same) |> fun q => by rw [z] at q; exact q
    · have x := (e1.trans e2).trans e3
      refine w8 _ p3 (x.trans (Ex2.new hp3)) ?_ upd_same
      cases hn : H' p3 with
      | none => rfl
      | some o => rw [x _ _ hn] at hp3; cases hp3
  · refine ⟨tryEx K [c1, c2, c3] Y1 Y2 Y3 Y4 Q, fun cls d σ' H' z => ?_, rfl, hc, h⟩
    obtain ⟨C, dd, fs, code, xs, w1, w2, w3, w4, w5, w6, w7, w8⟩ := z
    refine ⟨true, w4, fun _ a ha => ?_, fun z => by cases z⟩
    exact ⟨C, dd, fs, code, xs, w1, w2, w3, fun z => List.getElem?_set_self (by rw [List.length_set] at z; exact z), w5, w6, w7, w8⟩
end
end M3
set_option Elab.async false
set_option linter.all false
set_option autoImplicit false
set_option maxRecDepth 100000
set_option maxHeartbeats 4000000
namespace M3
open PySem L2 PySem.Spec PyProof.Rows LamX L2H
def TryC (Pr : Program) (w : World) (K : PySem.W.Frag) (mg : Str → Option Value) (bs : Heap) (k : Nat) (gt : Addr) (cs : List Value) (Y1 Y2 Y3 Y4 : List (Str × Pos)) : Prop :=
  ∀ (q : Str) (f c' : Addr) (tl : XK → Hp → VK → Prop) (A : Around) (outer : List Env) (s1 : Shared) (H1 : Hp) (Q : VK), LamB Pr w K mg bs q f c' k tl → Env0 Pr w K mg bs A outer s1 H1 → Room (k + 2) A → H1 c' = some (CodeO c' q) →
    tl (tryEx K cs Y1 Y2 Y3 Y4 Q) H1 (tryOk Q) → codeAny (model Pr w) A (.call (.ref gt) ⟨[.ref f], []⟩) (CR C8.CX0 outer Pr w H1 s1 Q C8.E0) s1
def tTry (S : Cx) (k : Nat) (cs : List Value) (Y1 Y2 Y3 Y4 : List (Str × Pos)) (i : Nat) : TE := fun σ H Q =>
  ∃ (q : Str) (f c' : Addr) (tl : XK → Hp → VK → Prop), σ[i]? = some (some (V.ref f)) ∧ LamB S.prog S.w S.K S.mg S.base q f c' k tl ∧ H c' = some (CodeO c' q) ∧ tl (tryEx S.K cs Y1 Y2 Y3 Y4 Q) H (tryOk Q)
section
variable {S : Cx}
theorem pe_tryb {k i : Nat} {gt : Addr} {x nv : Str} {p pv pos : Pos} {cs : List Value} {Y1 Y2 Y3 Y4 : List (Str × Pos)} (T : TryC S.prog S.w S.K S.mg S.base k gt cs Y1 Y2 Y3 Y4)
    (hg : Gl S x) (hm : S.mg x = some (.ref gt)) (hk : PySem.W.keepIn S.K (.ref gt) = true) (hr : Room (k + 2) S.A) (he : PE S (.Name nv pv) (tVar i)) (hdb : (x == ("__debug__" : Str)) = false := by decide) :
    PE S (.Call (.Name x p) [.Name nv pv] [] pos) (tTry S k cs Y1 Y2 Y3 Y4 i) := by
  refine ⟨fun pins s σ H Q I h => ?_⟩
  obtain ⟨q, f, c', tl, hσ, LB, hc, ht⟩ := h
  refine wpAny_Call_Name_kw (ld_glob I hg hm ?_ hdb)
  refine PySem.W.callWith_K (h₀ := S.base) I.ok.mod.kin hk ?_ (by rfl) (by rfl)
  show wpAny _ _ (spliced ((false, eval (.Name nv pv) S.env) :: backTo pos (starEach [] S.env))) _ _ s
  refine Calls.spliced_cons (thn (he.run pins s σ H (fun v H1 => v = .ref f ∧ H1 = H) I ⟨.ref f, hσ, rfl, rfl⟩) fun u s1 ⟨v, H1, I1, r1, q1⟩ => ?_)
  obtain ⟨ev, eH⟩ := q1
  subst ev
  rw [eH] at I1
  obtain rfl : u = Value.ref f := r1
  refine Calls.spliced_nil ⟨I1.kIn, ?_⟩
  have rc := T q f c' tl S.A S.stack s1 H Q LB I1.env0 hr hc ht
  refine wpAny_call (codeAny_mono rc fun r s2 hq => ?_)
  cases r with
  | error e => exact (show False from hq).elim
  | ok fl =>
    cases fl with
    | ret u => exact I1.after hq
    | next => exact False.elim hq
    | brk => exact False.elim hq
    | cont => exact False.elim hq
end
end M3
set_option Elab.async false
set_option linter.all false
set_option autoImplicit false
set_option maxRecDepth 100000
set_option maxHeartbeats 4000000
namespace M3
open PySem L2 PySem.Spec PyProof.Rows LamX L2H
structure LamR where
  q : Str
  f : Addr
  c : Addr
  tl : XK → Hp → VK → Prop
def tTs (K : PySem.W.Frag) (cs : List Value) (Y1 Y2 Y3 Y4 : List (Str × Pos)) (L D : Addr) (xs : List V) (Q : VK) : List LamR → Hp → Prop
  | [], H => Q (.ref D) H
  | l :: r, H => H l.c = some (CodeO l.c l.q) ∧
    l.tl (tryEx K cs Y1 Y2 Y3 Y4 fun y H4 => ∃ acc : List V, H4 D = some (.lst acc) ∧ acc.length < sizeLine ∧ SqL K (upd H4 D (.lst (acc ++ [y]))) L xs ∧ tTs K cs Y1 Y2 Y3 Y4 L D xs Q r (upd H4 D (.lst (acc ++ [y])))) H
      (tryOk fun y H4 => ∃ acc : List V, H4 D = some (.lst acc) ∧ acc.length < sizeLine ∧ SqL K (upd H4 D (.lst (acc ++ [y]))) L xs ∧ tTs K cs Y1 Y2 Y3 Y4 L D xs Q r (upd H4 D (.lst (acc ++ [y]))))
section
variable {S : Cx}
theorem pe_tries {k : Nat} {gt : Addr} {x av nv : Str} {p pv pos p2 p3 lpos : Pos} {scope : Scope} {cs : List Value} {Y1 Y2 Y3 Y4 : List (Str × Pos)} (T : TryC S.prog S.w S.K S.mg S.base k gt cs Y1 Y2 Y3 Y4)
    (hm : S.mg x = some (.ref gt)) (hk : PySem.W.keepIn S.K (.ref gt) = true) (hr : Room (k + 2) S.A) (hc : S.calm = true) (hN : S.N = [av, nv]) (nd : S.N.Nodup) (va : Vis S.env.scope av) (ok : BlkOk S.N S.env.scope scope [(nv, 1)])
    (g1 : (relS scope S.env.scope).names.lookup x = some .globalImplicit) (l1 : (relS scope S.env.scope).names.lookup nv = some .local)
    (hdb : (x == ("__debug__" : Str)) = false := by decide) (d1 : (av == ("__debug__" : Str)) = false := by decide) (d2 : (av == ("__classdict__" : Str)) = false := by decide) (d3 : (nv == ("__debug__" : Str)) = false := by decide) (d4 : (nv == ("__classdict__" : Str)) = false := by decide) :
    PE S (.ListComp (.Call (.Name x p) [.Name nv pv] [] pos) [⟨.Name nv p2, .Name av p3, [], 0⟩] scope lpos) (fun σ H Q => ∃ (L : Addr) (ls : List LamR), σ[0]? = some (some (V.ref L)) ∧ 1 < σ.length ∧ H L = some (.lst (ls.map fun l => V.ref l.f)) ∧
      (∀ l ∈ ls, LamB S.prog S.w S.K S.mg S.base l.q l.f l.c k l.tl) ∧ ∀ D, H D = none → tTs S.K cs Y1 Y2 Y3 Y4 L D (ls.map fun l => V.ref l.f) Q ls (upd H D (.lst []))) := by
  have h0 : S.N[0]? = some av := by rw [hN]; rfl
  have h1 : S.N[1]? = some nv := by rw [hN]; rfl
  refine ⟨fun pins s σ H Q I h => ?_⟩
  obtain ⟨L, ls, hσ, hlen, hL, hB, h⟩ := h
  have body := pe_lc (X := S) (pos := lpos) (elt := .Call (.Name x p) [.Name nv pv] [] pos) (tg := .Name nv p2) (g := gName 1) (tt := tYes) (te := tTry S k cs Y1 Y2 Y3 Y4 1) hc nd (pi_list (pe_var (pos := p3) (i := 0) h0 va d1 d2)) ok
    (fun s H C cl fp => pg_name (X := S.blk s H scope (compEnvC scope cl C S.env) fp) nd h1 (.inl l1) (.inr l1))
    (fun s H C cl fp => pts_nil)
    (fun s H C cl fp => pe_tryb (S := S.blk s H scope (compEnvC scope cl C S.env) fp) T g1 hm hk hr (pe_var (X := S.blk s H scope (compEnvC scope cl C S.env) fp) (i := 1) h1 (.inl l1) d3 d4) hdb)
  refine body.run pins s σ H Q I ?_
  refine ⟨.ref L, hσ, L, rfl, ⟨_, SqL.of hL⟩, fun D hD => ?_⟩
  have hL2 : SqL S.K (upd H D (.lst [])) L (ls.map fun l => V.ref l.f) := SqL.of (by rw [upd_ne (ne_of_none hL hD)]; exact hL)
  have ht := h D hD
  refine lc_list (K := S.K) (a := L) (xs := ls.map fun l => V.ref l.f) (fun i H' => SqL S.K H' L (ls.map fun l => V.ref l.f) ∧ tTs S.K cs Y1 Y2 Y3 Y4 L D (ls.map fun l => V.ref l.f) Q (ls.drop i) H') ⟨hL2, ht⟩ (fun i H' _ z => ?_) (fun i y H' hy z => ?_) (fun H' z => ?_)
  · exact z.1
  · obtain ⟨e2, e3⟩ := z
    rw [List.getElem?_map] at hy
    cases hl : ls[i]? with
    | none => rw [hl] at hy; cases hy
    | some l =>
      rw [hl] at hy
      obtain rfl := Option.some.inj hy
      have hi : i < ls.length := (List.getElem?_eq_some_iff.mp hl).1
      have hdr : ls.drop i = l :: ls.drop (i + 1) := by
        rw [List.drop_eq_getElem_cons hi]
        congr 1
        exact (List.getElem?_eq_some_iff.mp hl).2
      rw [hdr] at e3
      obtain ⟨ec, et⟩ := e3
      refine ⟨?_, ?_⟩
      · show ((wipe σ [1]).set 1 _).set 1 none = wipe σ [1]
        simp [wipe]
      · show tTry S k cs Y1 Y2 Y3 Y4 1 ((wipe σ [1]).set 1 (some (V.ref l.f))) H' _
        refine ⟨l.q, l.f, l.c, l.tl, ?_, hB l (List.mem_of_getElem? hl), ec, ?_⟩
        · exact List.getElem?_set_self (by rw [wipe_length]; exact hlen)
        · exact et
  · obtain ⟨e2, e3⟩ := z
    rw [List.length_map, List.drop_length] at e3
    exact e3
end
end M3
set_option Elab.async false
set_option linter.all false
set_option autoImplicit false
set_option maxRecDepth 100000
set_option maxHeartbeats 4000000
namespace M3
open PySem L2 PySem.Spec PyProof.Rows LamX L2H
section
variable {S : Cx}
theorem pe_all {k i : Nat} {gr gt : Addr} {xt x a av nv : Str} {p pv p1 p2 p3 p4 p5 p6 p7 pos lpos : Pos} {scope : Scope} {cs : List Value} {Y1 Y2 Y3 Y4 : List (Str × Pos)} {ls : L2.St → List LamR}
    {pg : Arguments} {sg : Scope} {dV kV doc pm cdv ct oc : Value} {an od : Option Addr} {osl : Array (Option Value)}
    (hT : ∀ bs, TryC S.prog S.w S.K S.mg bs k gt cs Y1 Y2 Y3 Y4) (hB : ∀ pins s σ H, Inv S pins σ H s → ∀ l ∈ ls σ, LamB S.prog S.w S.K S.mg (baseB S s H) l.q l.f l.c k l.tl)
    (hg : Gl S xt) (hm : S.mg xt = some (.ref gr)) (hk : PySem.W.keepIn S.K (.ref gr) = true)
    (lk : S.K.lookup gr = some ⟨oc, od, .func (PySem.W.fnOf xt xt pg [.Return (some (.ListComp (.Call (.Name x p1) [.Name nv p2] [] p3) [⟨.Name nv p4, .Name av p5, [], 0⟩] scope p6)) p7] sg dV kV doc pm an cdv ct), osl⟩) (hcg : PySem.W.codeIn S.K cdv xt = true)
    (hb : L2.Binds S.K (PySem.W.fnOf xt xt pg [.Return (some (.ListComp (.Call (.Name x p1) [.Name nv p2] [] p3) [⟨.Name nv p4, .Name av p5, [], 0⟩] scope p6)) p7] sg dV kV doc pm an cdv ct) [av] []) (Sg : FnScope [av, nv] [av] sg)
    (hmt : S.mg x = some (.ref gt)) (hkt : PySem.W.keepIn S.K (.ref gt) = true) (va : Vis sg av) (ok : BlkOk [av, nv] sg scope [(nv, 1)]) (g1 : (relS scope sg).names.lookup x = some .globalImplicit) (l1 : (relS scope sg).names.lookup nv = some .local)
    (hr : Room (k + 3) S.A) (he : PE S (.Name a pv) (tVar i)) (d0 : (xt == ("__debug__" : Str)) = false := by decide)
    (hdb : (x == ("__debug__" : Str)) = false := by decide) (d1 : (av == ("__debug__" : Str)) = false := by decide) (d2 : (av == ("__classdict__" : Str)) = false := by decide) (d3 : (nv == ("__debug__" : Str)) = false := by decide) (d4 : (nv == ("__classdict__" : Str)) = false := by decide) :
    PE S (.Call (.Name xt p) [.Name a pv] [] pos) (fun σ H Q => ∃ L : Addr, σ[i]? = some (some (V.ref L)) ∧ H L = some (.lst ((ls σ).map fun l => V.ref l.f)) ∧
      ∀ D, H D = none → tTs S.K cs Y1 Y2 Y3 Y4 L D ((ls σ).map fun l => V.ref l.f) Q (ls σ) (upd H D (.lst []))) := by
  refine ⟨fun pins s σ H Q I h => ?_⟩
  obtain ⟨L, hσ, hL, ht⟩ := h
  refine wpAny_Call_Name_kw (ld_glob I hg hm ?_ d0)
  refine PySem.W.callWith_K (h₀ := S.base) I.ok.mod.kin hk ?_ (by rfl) (by rfl)
  show wpAny _ _ (spliced ((false, eval (.Name a pv) S.env) :: backTo pos (starEach [] S.env))) _ _ s
  refine Calls.spliced_cons (thn (he.run pins s σ H (fun v H1 => v = .ref L ∧ H1 = H) I ⟨.ref L, hσ, rfl, rfl⟩) fun u s1 ⟨v, H1, I1, r1, q1⟩ => ?_)
  obtain ⟨ev, eH⟩ := q1
  subst ev
  rw [eH] at I1
  obtain rfl : u = Value.ref L := r1
  refine Calls.spliced_nil ⟨I1.kIn, ?_⟩
  have eB := baseB_env I1
  have rc : codeAny (model S.prog S.w) S.A (.call (.ref gr) ⟨[.ref L], []⟩) (CR C8.CX0 S.stack S.prog S.w H s1 Q C8.E0) s1 := by
    refine run_ofS (N := [av, nv]) (ps := [av]) (us := [.ref L]) (vs := [.ref L]) lk hcg Sg hr eB (hb s1 [.ref L] I1.kIn rfl) (.cons rfl .nil) rfl fun hr' => ?_
    refine ⟨_, pss_one (ps_ret (pe_tries (S := cxOf C8.CX0 S.prog S.w S.K S.mg (baseB S s1 H) [av, nv] xt sg gr cdv S.A S.stack s1 H C8.E0) (k := k) (gt := gt) (hT _) hmt hkt hr' rfl rfl Sg.nd va ok g1 l1 hdb d1 d2 d3 d4)), ?_⟩
    exact ⟨L, ls σ, rfl, (by decide : 1 < 2), hL, hB pins s1 σ H I1, ht⟩
  refine wpAny_call (codeAny_mono rc fun r s2 hq => ?_)
  cases r with
  | error e => exact (show False from hq).elim
  | ok fl =>
    cases fl with
    | ret u => exact I1.after hq
    | next => exact False.elim hq
    | brk => exact False.elim hq
    | cont => exact False.elim hq
end
end M3
set_option Elab.async false
set_option linter.all false
set_option autoImplicit false
set_option maxRecDepth 100000
set_option maxHeartbeats 4000000
namespace M3
open PySem L2 PySem.Spec PyProof.Rows LamX L2H
structure LamW where
  params : Arguments
  body : Expr
  scope : Scope
  pos : Pos
  df : Option (Int × Nat × Pos)
def LamW.e (w : LamW) : Expr := .Lambda w.params w.body w.scope w.pos
inductive Mk1 (X : Cx) (w : LamW) : Addr → Addr → List (Addr × Obj) → Prop
  | no {f c : Addr} {pm ctv : Value} (h : w.df = none) : Mk1 X w f c [(f, ldObj (X.env.qual ++ "<lambda>") w.params w.body w.scope (cloFrom X.env.cells w.scope.names []) .none pm (.ref c) ctv)]
  | yes {f c tp : Addr} {pm ctv : Value} {n : Int} {j : Nat} {dp : Pos} {tk : Nat} (h : w.df = some (n, j, dp)) :
      Mk1 X w f c [(f, ldObj (X.env.qual ++ "<lambda>") w.params w.body w.scope (cloFrom X.env.cells w.scope.names []) (.ref tp) pm (.ref c) ctv), (tp, { cls := .type "tuple", data := .seq [.int n tk].toArray })]
inductive MkS (X : Cx) : List LamW → List (Addr × Addr) → List (Addr × Obj) → Prop
  | nil : MkS X [] [] []
  | cons {w : LamW} {f c : Addr} {p : List (Addr × Obj)} {ws : List LamW} {fs : List (Addr × Addr)} {ps : List (Addr × Obj)} (h : Mk1 X w f c p) (r : MkS X ws fs ps) : MkS X (w :: ws) ((f, c) :: fs) (p ++ ps)
structure LamOk (X : Cx) (w : LamW) : Prop where
  df : defaultsOf w.params X.env = (match w.df with | none => [] | some (n, j, dp) => [eval (.Constant (.int n) j dp) X.env], [])
  free : ∀ y ∈ w.scope.names, y.2 = .free → ∃ c, X.env.cells.lookup y.1 = some c
section
variable {X : Cx} {pins : List (Addr × Obj)} {σ : L2.St} {H : Hp} {s : Shared}
theorem pins_add {pl : List (Addr × Obj)} (I : Inv X pins σ H s) (h : ∀ p ∈ pl, s.heap.get? p.1 = some p.2 ∧ H p.1 = none ∧ p.1 ≠ X.env.locals ∧ p.1 ∉ X.fs ∧ ∀ v, p.2.data ≠ .cell v) : Inv X (pins ++ pl) σ H s :=
  I.pins_of fun p hp => (List.mem_append.mp hp).elim (fun z => I.pin p (List.mem_append_right _ z)) (h p)
theorem not_fs (I : Inv X pins σ H s) {a : Addr} (n : a ∉ frs X.stack) : a ∉ X.fs := fun z => n (by
  rcases I.ok.stk with e | ⟨e, hf⟩
  · rw [e]; exact z
  · rw [e]; unfold frs; rw [List.filterMap_cons, hf]; exact List.mem_cons_of_mem _ z)
theorem not_locF (I : Inv X pins σ H s) {a : Addr} {o : Obj} {fd : FuncData} (ho : s.heap.get? a = some o) (hd : o.data = .func fd) : a ≠ X.env.locals := fun z => by
  obtain ⟨m, ⟨o', es, ep, ho', hd', _⟩, _⟩ := I.loc
  rw [z, ho'] at ho; cases ho; rw [hd'] at hd; cases hd
theorem not_locS (I : Inv X pins σ H s) {a : Addr} {o : Obj} {xs : Array Value} {n : Nat} (ho : s.heap.get? a = some o) (hd : o.data = .seq xs n) : a ≠ X.env.locals := fun z => by
  obtain ⟨m, ⟨o', es, ep, ho', hd', _⟩, _⟩ := I.loc
  rw [z, ho'] at ho; cases ho; rw [hd'] at hd; cases hd
theorem lam_made {T : List (Addr × Str)} {c P : Addr} {w : LamW} {E : Value → Shared → Prop} {Q : Value → Shared → Prop} (I : Inv X pins σ H s) (TB : TabB X.base X.mg c P) (hcode : X.env.code = .ref c)
    (hm : (P, X.env.qual ++ "<lambda>") ∈ T) (hu : ∀ p ∈ T, p.1 = P → p.2 = X.env.qual ++ "<lambda>") (hT : Tabs T H) (ok : LamOk X w)
    (h : ∀ (f c' : Addr) (pl : List (Addr × Obj)) (H1 : Hp) (s' : Shared), Inv X (pins ++ pl) σ H1 s' → ExtN H H1 → Tabs T H1 → Mk1 X w f c' pl → H1 c' = some (CodeO c' (X.env.qual ++ "<lambda>")) → Q (.ref f) s') :
    wpAny (model X.prog X.w) X.A (eval w.e X.env) Q E s := by
  obtain ⟨params, body, scope, pos, df⟩ := w
  cases df with
  | none =>
    refine lam_make2 I TB hcode hm hu hT ok.df ok.free fun f c' pm ctv H1 s' I1 x T1 hf hn hfr hc => ?_
    refine h f c' _ H1 s' (pins_add I1 fun p hp => ?_) x T1 (.no rfl (pm := pm) (ctv := ctv)) hc
    rcases List.mem_singleton.mp hp with rfl
    exact ⟨hf, hn, not_locF I1 hf rfl, not_fs I1 hfr, fun v z => by cases z⟩
  | some d =>
    obtain ⟨n, j, dp⟩ := d
    refine lam_makeD I TB hcode hm hu hT ok.df ok.free fun f c' tp pm ctv tk H1 s' I1 x T1 hf hn hfr htp hnt hft hc => ?_
    refine h f c' _ H1 s' (pins_add I1 fun p hp => ?_) x T1 (.yes rfl (pm := pm) (ctv := ctv) (tk := tk) (tp := tp)) hc
    rcases List.mem_cons.mp hp with rfl | hp
    · exact ⟨hf, hn, not_locF I1 hf rfl, not_fs I1 hfr, fun v z => by cases z⟩
    · rcases List.mem_singleton.mp hp with rfl
      exact ⟨htp, hnt, not_locS I1 htp rfl, not_fs I1 hft, fun v z => by cases z⟩
theorem lams_made {T : List (Addr × Str)} {c P : Addr} {E : Value → Shared → Prop} {pos : Pos} (TB : TabB X.base X.mg c P) (hcode : X.env.code = .ref c)
    (hm : (P, X.env.qual ++ "<lambda>") ∈ T) (hu : ∀ p ∈ T, p.1 = P → p.2 = X.env.qual ++ "<lambda>") : ∀ (ws : List LamW) {pins : List (Addr × Obj)} {H : Hp} {s : Shared} {Q : List Value → Shared → Prop}, Inv X pins σ H s → Tabs T H → (∀ w ∈ ws, LamOk X w) →
    (∀ (fs : List (Addr × Addr)) (pl : List (Addr × Obj)) (H1 : Hp) (s' : Shared), Inv X (pins ++ pl) σ H1 s' → ExtN H H1 → Tabs T H1 → MkS X ws fs pl → (∀ q ∈ fs, H1 q.2 = some (CodeO q.2 (X.env.qual ++ "<lambda>"))) → Q (fs.map fun q => .ref q.1) s') →
    wpAny (model X.prog X.w) X.A (spliced (backTo pos (starEach (ws.map LamW.e) X.env))) Q E s
  | [], pins, H, s, Q, I, hT, _, h => Calls.spliced_nil (h [] [] H s (by rw [List.append_nil]; exact I) (ExtN.refl H) hT .nil (fun q z => by cases z))
  | w :: ws, pins, H, s, Q, I, hT, ok, h => by
    show wpAny _ _ (spliced ((false, eval w.e X.env) :: backTo pos (starEach (ws.map LamW.e) X.env))) _ _ s
    refine Calls.spliced_cons (lam_made I TB hcode hm hu hT (ok w List.mem_cons_self) fun f c' pl H1 s1 I1 x1 T1 mk hc => ?_)
    refine lams_made TB hcode hm hu ws I1 T1 (fun w' hw => ok w' (List.mem_cons_of_mem _ hw)) fun fs pl2 H2 s2 I2 x2 T2 mks hcs => ?_
    refine h ((f, c') :: fs) (pl ++ pl2) H2 s2 (by rw [← List.append_assoc]; exact I2) (x1.trans x2) T2 (.cons mk mks) fun q hq => ?_
    rcases List.mem_cons.mp hq with rfl | hq
    · exact x2 _ _ hc codeO_ne
    · exact hcs q hq
end
end M3
set_option Elab.async false
set_option linter.all false
set_option autoImplicit false
set_option maxRecDepth 100000
set_option maxHeartbeats 4000000
namespace M3
open PySem L2 PySem.Spec PyProof.Rows LamX L2H
def ParOk (w : LamW) : Prop := match w.df with
  | none => w.params = ⟨[], [], none, [], [], none, []⟩
  | some _ => ∃ x1 d, w.params = ⟨[], [x1], none, [], [], none, [d]⟩ ∧ w.scope.names.lookup x1.arg = some .local
section
variable {S : Cx} {pins : List (Addr × Obj)} {σ : L2.St} {H : Hp} {s : Shared}
theorem lamB_mk {w : LamW} {f c k : Nat} {pl : List (Addr × Obj)} {t : XK → TE} (I : Inv S pins σ H s) (mk : Mk1 S w f c pl) (hp : ∀ p ∈ pl, p ∈ S.pn) (L : LamD S.env.scope w.scope S.N) (hcf : ∀ y c, S.env.cells.lookup y = some c → c ∉ frs S.stack) (par : ParOk w)
    (hbody : ∀ (A : Around) (outer : List Env) (s : Shared) (H : Hp) (E : XK), Room k (A.deeper (lamEnv S w.scope s.heap.objs.size f c)) → PE (lamCx S A outer s H E w.scope f c) w.body (t E)) :
    LamB S.prog S.w S.K S.mg (baseB S s H) (S.env.qual ++ "<lambda>") f c k (fun E H1 Q => t E σ H1 Q) := by
  have at_ : ∀ {a : Addr} {o : Obj}, (a, o) ∈ S.pn → s.heap.get? a = some o ∧ H a = none ∧ a ∉ frs S.stack := fun {a o} h => by
    obtain ⟨e, n, nL, nF, _⟩ := I.pin (a, o) (List.mem_append_left _ h)
    exact ⟨e, n, fun z => (List.mem_cons.mp (I.stkSub _ z)).elim nL nF⟩
  obtain ⟨params, body, scope, pos, df⟩ := w
  cases mk with
  | no h =>
    have h : df = none := h
    subst h
    have par : params = ⟨[], [], none, [], [], none, []⟩ := par
    subst par
    obtain ⟨e, n, nf⟩ := at_ (hp _ List.mem_cons_self)
    exact lamB_of (binds := []) I L hcf e n nf (fun s1 M A E R _ r => ld_bind0 r) (fun y hy => by cases hy) hbody
  | @yes tp pm ctv n j dp tk h =>
    have h : df = some (n, j, dp) := h
    subst h
    obtain ⟨x1, d, par, hl⟩ := (show ∃ x1 d, params = ⟨[], [x1], none, [], [], none, [d]⟩ ∧ scope.names.lookup x1.arg = some .local from par)
    subst par
    obtain ⟨e, n1, nf⟩ := at_ (hp _ List.mem_cons_self)
    obtain ⟨e2, n2, nf2⟩ := at_ (hp _ (List.mem_cons_of_mem _ List.mem_cons_self))
    refine lamB_of (binds := [(x1.arg, .int n tk)]) I L hcf e n1 nf (fun s1 M A E R keep r => ld_bind (a := "") (dV := .none) (k := 0) (keep _ _ e2 n2 nf2) r) (fun y hy => ?_) hbody
    rcases List.mem_singleton.mp hy with rfl
    exact hl
end
end M3
set_option Elab.async false
set_option linter.all false
set_option autoImplicit false
set_option maxRecDepth 100000
set_option maxHeartbeats 4000000
namespace M3
open PySem L2 PySem.Spec PyProof.Rows LamX L2H
theorem MkS.len {X : Cx} {ws : List LamW} {fs : List (Addr × Addr)} {pl : List (Addr × Obj)} (m : MkS X ws fs pl) : fs.length = ws.length := by
  induction m with
  | nil => rfl
  | cons _ _ ih => rw [List.length_cons, List.length_cons, ih]
theorem vals_refs : ∀ fs : List (Addr × Addr), Vals (fs.map fun q => V.ref q.1) (fs.map fun q => Value.ref q.1)
  | [] => .nil
  | _ :: fs => .cons rfl (vals_refs fs)
section
variable {X : Cx}
theorem pss_lams {T : List (Addr × Str)} {c P : Addr} {y : Str} {i : Nat} {py lp ap : Pos} {ws : List LamW} {rest : List Stmt} {t : List (Addr × Addr) → TS} (TB : TabB X.base X.mg c P) (hcode : X.env.code = .ref c)
    (hm : (P, X.env.qual ++ "<lambda>") ∈ T) (hu : ∀ p ∈ T, p.1 = P → p.2 = X.env.qual ++ "<lambda>") (ok : ∀ w ∈ ws, LamOk X w) (hz : ws.length ≤ 30) (hN : X.N.Nodup) (hi : X.N[i]? = some y) (hx : Loc X.env.scope y) (hf : X.fn y = true ∨ X.env.scope.names.lookup y = some .local)
    (hs : swapsWith (.List (ws.map LamW.e) lp) (some (.Name y py)) ap.line X.env = pure false)
    (hrest : ∀ (fs : List (Addr × Addr)) (pl pn : List (Addr × Obj)), MkS X ws fs pl → (∀ p ∈ pl, p ∈ pn) → PSs (X.tr pn X.xe) rest (t fs)) :
    PSs X (.Assign [.Name y py] (.List (ws.map LamW.e) lp) ap :: rest) (fun D σ H => Tabs T H ∧ ∀ (fs : List (Addr × Addr)) (H1 : Hp) (L : Addr), fs.length = ws.length → ExtN H H1 → Tabs T H1 → (∀ q ∈ fs, H1 q.2 = some (CodeO q.2 (X.env.qual ++ "<lambda>"))) → H1 L = none →
      t fs D (σ.set i (some (.ref L))) (upd H1 L (.lst (fs.map fun q => V.ref q.1)))) := by
  refine ⟨fun pins s σ H D I h => ?_⟩
  have okX := I.ok
  obtain ⟨hT, h⟩ := h
  refine wpAny_execs_cons ?_
  refine wpAny_Assign_Name (wpAny_List_spliced (lams_made TB hcode hm hu ws I hT ok fun fs pl H1 s1 I1 x1 T1 mk hc => ?_)) hs
  have hl := mk.len
  refine ⟨by rw [List.length_map, hl]; exact Nat.le_trans hz (by decide), ?_⟩
  have hn : H1 s1.heap.objs.size = none := I1.hok.fresh (Nat.le_refl _)
  have I2 := I1.laid (t' := s1.toks) (o := .lst (fs.map fun q => V.ref q.1)) (fun b u e => Heap.get?_push_of_some { cls := .type "list", data := .seq (fs.map fun q => Value.ref q.1).toArray } e) (Nat.le_refl _)
    ⟨by rw [List.length_map, hl]; exact Nat.le_trans hz (by decide), _, 0, vals_refs fs, Heap.get?_push_size _ rfl⟩
  refine store_ok (v := .ref s1.heap.objs.size) I2 hN hi hx rfl (fun s3 I3 => ?_) hf
  have J := I3.toTry X.xe
  have hp : ∀ p ∈ pl, p ∈ X.pn ++ (pins ++ pl) := fun p hp => List.mem_append_right _ (List.mem_append_right _ hp)
  refine wpAny_mono ((hrest fs pl (X.pn ++ (pins ++ pl)) mk hp).run [] s3 _ _ D J (h fs H1 _ hl x1 T1 hc hn)) (fun f s4 hsp => ?_) (fun e s4 he => he)
  cases f with
  | next =>
    obtain ⟨σ', H', J', q⟩ := hsp
    exact ⟨σ', H', (J'.ofTry okX).pins_of fun p hq => (J'.ofTry okX).pin p (List.mem_append_right _ (List.mem_append_left _ hq)), q⟩
  | brk =>
    obtain ⟨σ', H', J', q⟩ := hsp
    exact ⟨σ', H', (J'.ofTry okX).pins_of fun p hq => (J'.ofTry okX).pin p (List.mem_append_right _ (List.mem_append_left _ hq)), q⟩
  | cont =>
    obtain ⟨σ', H', J', q⟩ := hsp
    exact ⟨σ', H', (J'.ofTry okX).pins_of fun p hq => (J'.ofTry okX).pin p (List.mem_append_right _ (List.mem_append_left _ hq)), q⟩
  | ret u =>
    obtain ⟨v, σ', H', J', r, q⟩ := hsp
    exact ⟨v, σ', H', (J'.ofTry okX).pins_of fun p hq => (J'.ofTry okX).pin p (List.mem_append_right _ (List.mem_append_left _ hq)), r, q⟩
end
end M3
set_option Elab.async false
set_option linter.all false
set_option autoImplicit false
set_option maxRecDepth 100000
set_option maxHeartbeats 4000000
namespace M3
open PySem L2 PySem.Spec PyProof.Rows LamX L2H
theorem Mk1.tr {X : Cx} {pn : List (Addr × Obj)} {xe : Value → Shared → Prop} {w : LamW} {f c : Addr} {pl : List (Addr × Obj)} (m : Mk1 X w f c pl) : Mk1 (X.tr pn xe) w f c pl := by
  cases m with
  | no h => exact .no h
  | yes h => exact .yes h
theorem MkS.tr {X : Cx} {pn : List (Addr × Obj)} {xe : Value → Shared → Prop} {ws : List LamW} {fs : List (Addr × Addr)} {pl : List (Addr × Obj)} (m : MkS X ws fs pl) : MkS (X.tr pn xe) ws fs pl := by
  induction m with
  | nil => exact .nil
  | cons h _ ih => exact .cons h.tr ih
inductive LamTs (S : Cx) (k : Nat) : List LamW → List (XK → TE) → Prop
  | nil : LamTs S k [] []
  | cons {w : LamW} {t : XK → TE} {ws : List LamW} {ts : List (XK → TE)} (L : LamD S.env.scope w.scope S.N) (par : ParOk w)
      (hbody : ∀ (f c : Addr) (A : Around) (outer : List Env) (s : Shared) (H : Hp) (E : XK), Room k (A.deeper (lamEnv S w.scope s.heap.objs.size f c)) → PE (lamCx S A outer s H E w.scope f c) w.body (t E)) (r : LamTs S k ws ts) : LamTs S k (w :: ws) (t :: ts)
def lrs (q : Str) (σ : L2.St) : List (Addr × Addr) → List (XK → TE) → List LamR
  | p :: fs, t :: ts => ⟨q, p.1, p.2, fun E H Q => t E σ H Q⟩ :: lrs q σ fs ts
  | _, _ => []
section
variable {S : Cx}
theorem hB_of {k : Nat} {ws : List LamW} {fs : List (Addr × Addr)} {pl : List (Addr × Obj)} (m : MkS S ws fs pl) (hcf : ∀ y c, S.env.cells.lookup y = some c → c ∉ frs S.stack) : ∀ {ts : List (XK → TE)}, LamTs S k ws ts → (∀ p ∈ pl, p ∈ S.pn) →
    ∀ pins s σ H, Inv S pins σ H s → ∀ l ∈ lrs (S.env.qual ++ "<lambda>") σ fs ts, LamB S.prog S.w S.K S.mg (baseB S s H) l.q l.f l.c k l.tl := by
  induction m with
  | nil =>
    intro ts _ _ pins s σ H _ l hl
    cases hl
  | cons h r ih =>
    intro ts T hp pins s σ H I l hl
    cases T with
    | cons L par hbody rT =>
      rcases List.mem_cons.mp hl with rfl | hl
      · exact lamB_mk I h (fun p hq => hp p (List.mem_append_left _ hq)) L hcf par (hbody _ _)
      · exact ih rT (fun p hq => hp p (List.mem_append_right _ hq)) pins s σ H I l hl
theorem lrs_refs {q : Str} {σ : L2.St} : ∀ {fs : List (Addr × Addr)} {ts : List (XK → TE)}, fs.length = ts.length → (lrs q σ fs ts).map (fun l => V.ref l.f) = fs.map fun p => V.ref p.1
  | [], [], _ => rfl
  | p :: fs, t :: ts, h => by
    show V.ref p.1 :: (lrs q σ fs ts).map _ = V.ref p.1 :: fs.map _
    rw [lrs_refs (Nat.succ.inj h)]
  | [], _ :: _, h => by cases h
  | _ :: _, [], h => by cases h
end
end M3
set_option Elab.async false
set_option linter.all false
set_option autoImplicit false
set_option maxRecDepth 100000
set_option maxHeartbeats 4000000
namespace M3
open PySem L2 PySem.Spec PyProof.Rows LamX L2H
section
variable {c : Cf} {ρ : Sl} {m : Mm} {σ : L2.St} {H H' : Hp} {T : Tm} {G : Hp} {μ : List Addr}
theorem St3.ext2 (h : St3 c ρ m σ H T G μ) (e : Ex2 H H') : St3 c ρ m σ H' T G μ := by
  refine h.next ⟨fun a u q => ?_, h.mem.len, h.mem.nd, fun n ob q => ?_, fun a hm => ?_⟩ ⟨.refl _, .refl _, fun a u h1 h2 h3 => ⟨e _ _ h1, h2, h3⟩, fun a u h1 => ⟨u, e _ _ h1⟩⟩
  · rcases h.mem.st a u q with z | ⟨d, o, z⟩
    · exact .inl (e _ _ z)
    · exact .inr ⟨d, o, e _ _ z⟩
  · obtain ⟨a, e1, e2, e3⟩ := h.mem.ob n ob q
    exact ⟨a, e1, e2, e3.mono (.refl _) (.refl _) fun u z => e _ _ z⟩
  · obtain ⟨u, z⟩ := h.mem.th a hm
    exact ⟨u, e _ _ z⟩
theorem St3.frzN {p : Addr} {o : HO} (h : St3 c ρ m σ H T G μ) (e : Ex2 H H') (hp : H p = none) (hp' : H' p = some o) : St3 c ρ m σ H' T (upd G p o) μ := by
  have hg := h.mem.st.none hp
  have hn := h.mem.notIn hp
  have h' := h.ext2 e
  exact h.next (h'.mem.frz hp' hg hn) ⟨Ex.new hg, .refl _, fun a u h1 h2 h3 => ⟨e _ _ h1, by rw [upd_ne (ne_of_none h1 hp)]; exact h2, h3⟩, fun a u h1 => ⟨u, e _ _ h1⟩⟩
theorem ext_at {i : Nat} {a : Addr} {ps : List (Addr × HO)} (h : St3 c ρ m σ H T G μ) (e : ρ[i]? = some (.val (.ext a ps))) : σ[i]? = some (some (.ref a)) ∧ ∀ p ∈ ps, H p.1 = some p.2 := by
  obtain ⟨v, e1, r⟩ := h.slot e
  cases r with
  | ext hz =>
    refine ⟨e1, fun p hp => ?_⟩
    obtain ⟨q, n, _⟩ := hz p hp
    rcases h.mem.st _ _ q with z | ⟨d, _⟩
    · exact z
    · exact absurd d n
end
def fldOf (code : Str) : Option Str :=
  if code ∈ (["BadNumber", "BadCount", "BadText", "BadLimit"] : List Str) then some "given"
  else if code ∈ (["TooLarge", "TooMany", "Full"] : List Str) then some "most"
  else if code ∈ (["BadEvent", "BadChange", "BadCommand"] : List Str) then some "at"
  else if code ∈ (["BadName", "TakenName", "NoName"] : List Str) then some "name"
  else if code = "BadWeather" then some "state" else none
structure FldY (Y1 Y2 Y3 Y4 : List (Str × Pos)) : Prop where
  y1 : Y1.map (·.1) = (["BadNumber", "BadCount", "BadText", "BadLimit"] : List Str)
  y2 : Y2.map (·.1) = (["TooLarge", "TooMany", "Full"] : List Str)
  y3 : Y3.map (·.1) = (["BadEvent", "BadChange", "BadCommand"] : List Str)
  y4 : Y4.map (·.1) = (["BadName", "TakenName", "NoName"] : List Str)
theorem eqV_str (a b : Str) : eqV (.str a) (.str b) = decide (a = b) := by
  show (a == b) = decide (a = b)
  rw [Bool.eq_iff_iff, beq_iff_eq, decide_eq_true_eq]
theorem inNm_mem {code : Str} : ∀ {l : List (Str × Pos)}, inNm code l = decide (code ∈ l.map (·.1))
  | [] => rfl
  | x :: l => by
    have ih := inNm_mem (code := code) (l := l)
    unfold inNm inV at ih ⊢
    rw [List.map_cons, List.map_cons, List.any_cons, ih, eqV_str]
    by_cases h : code = x.1
    · subst h; simp
    · have h' : ¬ x.1 = code := fun z => h z.symm
      simp [h, h']
theorem lfOf_fld {Y1 Y2 Y3 Y4 : List (Str × Pos)} (Y : FldY Y1 Y2 Y3 Y4) {code : Str} {fs : List (Str × V)} : lfOf Y1 Y2 Y3 Y4 code fs = match fldOf code with
    | some fl => (fs.lookup fl).map fun v => [v]
    | none => some [] := by
  unfold lfOf fldOf
  simp only [inNm_mem, Y.y1, Y.y2, Y.y3, Y.y4, decide_eq_true_eq]
  by_cases a1 : code ∈ (["BadNumber", "BadCount", "BadText", "BadLimit"] : List Str)
  · rw [if_pos a1, if_pos a1]
  rw [if_neg a1, if_neg a1]
  by_cases a2 : code ∈ (["TooLarge", "TooMany", "Full"] : List Str)
  · rw [if_pos a2, if_pos a2]
  rw [if_neg a2, if_neg a2]
  by_cases a3 : code ∈ (["BadEvent", "BadChange", "BadCommand"] : List Str)
  · rw [if_pos a3, if_pos a3]
  rw [if_neg a3, if_neg a3]
  by_cases a4 : code ∈ (["BadName", "TakenName", "NoName"] : List Str)
  · rw [if_pos a4, if_pos a4]
  rw [if_neg a4, if_neg a4]
  by_cases a5 : code = "BadWeather"
  · rw [if_pos a5, if_pos a5]
  · rw [if_neg a5, if_neg a5]
def exTup (cns : List Str) : Dv → Option Dv
  | .ins cn fs => if cn ∈ cns then (match fs.lookup ("code" : Str) with
    | some (.str code) => (match fldOf code with
      | some fl => (fs.lookup fl).map fun d => .tup [.str code, d]
      | none => some (.tup [.str code]))
    | _ => none) else none
  | _ => none
theorem exTup_some {cns : List Str} {cn : Str} {fs : List (Str × Dv)} {d : Dv} (h : exTup cns (.ins cn fs) = some d) : cn ∈ cns ∧ ∃ code, fs.lookup ("code" : Str) = some (.str code) ∧ ((∃ fl dv, fldOf code = some fl ∧ fs.lookup fl = some dv ∧ d = .tup [.str code, dv]) ∨ (fldOf code = none ∧ d = .tup [.str code])) := by
  unfold exTup at h
  by_cases hc : cn ∈ cns
  · refine ⟨hc, ?_⟩
    have h := (if_pos hc).symm.trans h
    cases hk : fs.lookup ("code" : Str) with
    | none => rw [hk] at h; cases h
    | some c =>
      rw [hk] at h
      cases c with
      | str code =>
        refine ⟨code, rfl, ?_⟩
        have h : (match fldOf code with | some fl => (fs.lookup fl).map fun d => Dv.tup [.str code, d] | none => some (.tup [.str code])) = some d := h
        cases hf : fldOf code with
        | none => rw [hf] at h; exact .inr ⟨rfl, (Option.some.inj h).symm⟩
        | some fl =>
          rw [hf] at h
          have h : ((fs.lookup fl).map fun d => Dv.tup [.str code, d]) = some d := h
          obtain ⟨dv, e1, e2⟩ := Option.map_eq_some_iff.mp h
          exact .inl ⟨fl, dv, rfl, e1, e2.symm⟩
      | _ => cases h
  · have h := (if_neg hc).symm.trans h
    cases h
def mTry1 (cns : List Str) (f : ME) : Sl → Mm → Rs Dv := fun ρ m => match f ρ m with
  | .ok (.v d) m1 => .ok (.tup [.str "", d]) m1
  | .ex x m1 => (match exTup cns x with
    | some d => .ok d m1
    | none => .no)
  | _ => .no
def triesGo (cns : List Str) (ρ : Sl) : List ME → Mm → List Dv → Rs Ob
  | [], m, acc => .ok (.lst acc) m
  | f :: r, m, acc => (mTry1 cns f ρ m).bind fun d m1 => if acc.length < sizeLine then triesGo cns ρ r m1 (acc ++ [d]) else .no
open Classical in
noncomputable def mTries (cns : List Str) (i : Nat) (z : Dv) (gs : List ME) : MN := fun ρ m => if ρ[i]? = some (.val z) then triesGo cns ρ gs m [] else .no
def zOf (q : Str) (L : Addr) (fs : List (Addr × Addr)) : Dv := .ext L ((L, .lst (fs.map fun x => V.ref x.1)) :: fs.map fun x => (x.2, CodeO x.2 q))
def tryT (K : PySem.W.Frag) (mg : Str → Option Value) (f : ME) : XK → TE := fun E => tOf K mg (WF E) f
structure ClsOk (K : PySem.W.Frag) (mg : Str → Option Value) (cs : List Value) (cns : List Str) : Prop where
  ok : ∀ cn ∈ cns, ∀ C, mg cn = some (.ref C) → LfC K C ∧ PySem.W.exmAny K (.ref C) cs = some true
section
variable {K : PySem.W.Frag} {mg : Str → Option Value} {b : Bs} {ρ : Sl} {σ : L2.St} {T : Tm} {E : WX} {cs : List Value} {cns : List Str} {Y1 Y2 Y3 Y4 : List (Str × Pos)} {qn : Str} {L D : Addr} {Q : VK}
theorem tries_put {m : Mm} {H2 : Hp} {y : V} {d : Dv} {acc : List Dv} {ps : List (Addr × HO)} {xs : List V} {i : Nat} {R : Hp → Prop} (hz : ρ[i]? = some (.val (.ext L ps))) (hps : (L, HO.lst xs) ∈ ps)
    (s : S3 (b.cf K mg) ρ m σ H2 (tv y d :: (some (.ref D), .own (.lst acc)) :: T)) (zl : acc.length < sizeLine)
    (h : ∀ H3, S3 (b.cf K mg) ρ m σ H3 ((some (.ref D), .own (.lst (acc ++ [d]))) :: T) → R H3) :
    ∃ av : List V, H2 D = some (.lst av) ∧ av.length < sizeLine ∧ SqL K (upd H2 D (.lst (av ++ [y]))) L xs ∧ R (upd H2 D (.lst (av ++ [y]))) := by
  obtain ⟨G, μ, s⟩ := s
  obtain ⟨a, ea, ⟨av, hD, rl⟩, _⟩ := s.cells (some (.ref D), .own (.lst acc)) (by simp)
  cases ea
  have r := s.top
  have s1 := s.pop.putTop (o' := .lst (acc ++ [d])) (u := .lst (av ++ [y])) ⟨_, upd_same, (RepL.one r).app rl⟩
  refine ⟨av, hD, by rw [← rl.length]; exact zl, ?_, h _ ⟨G, μ, s1⟩⟩
  exact SqL.of ((ext_at s1 hz).2 _ hps)
theorem tries_go (Y : FldY Y1 Y2 Y3 Y4) (hC : ClsOk K mg cs cns) {i : Nat} {ps : List (Addr × HO)} {xs : List V} (hz : ρ[i]? = some (.val (.ext L ps))) (hps : (L, HO.lst xs) ∈ ps) : ∀ (gs : List ME) (fs : List (Addr × Addr)), fs.length = gs.length → (∀ q ∈ fs, (q.2, CodeO q.2 qn) ∈ ps) →
    ∀ (m : Mm) (acc : List Dv) (H : Hp), S3 (b.cf K mg) ρ m σ H ((some (.ref D), .own (.lst acc)) :: T) → WantN E (b.cf K mg) ρ σ T Q (triesGo cns ρ gs m acc) →
    tTs K cs Y1 Y2 Y3 Y4 L D xs Q (lrs qn σ fs (gs.map (tryT K mg))) H
  | [], [], _, _, m, acc, H, s, w => w D H s
  | f :: gs, q :: fs, hl, hc, m, acc, H, s, w => by
    have ih := tries_go Y hC hz hps gs fs (Nat.succ.inj hl) fun p hp => hc p (List.mem_cons_of_mem _ hp)
    refine ⟨?_, ?_⟩
    · obtain ⟨G, μ, s⟩ := s
      exact (ext_at s hz).2 _ (hc q List.mem_cons_self)
    refine ⟨b, ρ, m, (some (.ref D), .own (.lst acc)) :: T, s, ?_⟩
    unfold triesGo mTry1 at w
    revert w
    cases f ρ m with
    | no => exact fun w => w.elim
    | ok x m1 =>
      cases x with
      | b j => exact fun w => w.elim
      | v d =>
        intro w v H1 s1 _
        have w : WantN E (b.cf K mg) ρ σ T Q (if acc.length < sizeLine then triesGo cns ρ gs m1 (acc ++ [.tup [.str "", d]]) else .no) := w
        split at w
        · rename_i zl
          refine ⟨by show 2 ≤ sizeLine; decide, fun p hp => ?_⟩
          obtain ⟨G1, μ1, s1⟩ := s1
          have r1 := s1.top
          have s2 := s1.pop.newT (ds := [.str "", d]) (vs := [V.str "", v]) (.cons (.str _) (.one r1)) (by show 2 ≤ sizeLine; decide) hp
          exact tries_put hz hps s2 zl fun H3 s3 => ih m1 _ H3 s3 w
        · exact w.elim
    | ex x m1 =>
      intro w cls d H1 G1 μ1 s1 rx
      obtain ⟨cn, fs', C, dd, ws, rfl, rfl, hm, rfl, hG, rk⟩ := rx
      have w : WantN E (b.cf K mg) ρ σ T Q (Rs.bind (match exTup cns (.ins cn fs') with
        | some d => (.ok d m1 : Rs Dv)
        | none => .no) fun d m1 => if acc.length < sizeLine then triesGo cns ρ gs m1 (acc ++ [d]) else .no) := w
      cases he : exTup cns (.ins cn fs') with
      | none => rw [he] at w; exact w.elim
      | some d' =>
        rw [he] at w
        have w : WantN E (b.cf K mg) ρ σ T Q (if acc.length < sizeLine then triesGo cns ρ gs m1 (acc ++ [d']) else .no) := w
        split at w
        · rename_i zl
          obtain ⟨hcn, code, hcode, alt⟩ := exTup_some he
          obtain ⟨h1, h2⟩ := hC.ok cn hcn C hm
          obtain ⟨vc, e1, e2⟩ := (repK_look "code" rk).1 _ hcode
          cases e2
          have hH : H1 dd = some (.xd ws) := by
            rcases s1.mem.st _ _ hG with z | ⟨z, _⟩
            · exact z
            · exact absurd z ndX
          have fin : ∀ (ds : List Dv) (vs : List V), d' = .tup (.str code :: ds) → RepL K mg μ1 G1 ds vs → ds.length ≤ 1 → lfOf Y1 Y2 Y3 Y4 code ws = some vs → tryEx K cs Y1 Y2 Y3 Y4 (fun y H4 => ∃ acc : List V, H4 D = some (.lst acc) ∧ acc.length < sizeLine ∧ SqL K (upd H4 D (.lst (acc ++ [y]))) L xs ∧ tTs K cs Y1 Y2 Y3 Y4 L D xs Q (lrs qn σ fs (gs.map (tryT K mg))) (upd H4 D (.lst (acc ++ [y])))) (.ref C) (some dd) H1 := by
            intro ds vs ed rl zd hlf
            refine ⟨C, dd, ws, code, vs, rfl, rfl, h1, h2, hH, e1, hlf, fun H'' p x2 hp hp'' => ?_⟩
            have s2 := s1.frzN x2 hp hp''
            have hg := s1.mem.st.none hp
            subst ed
            refine tries_put hz hps ⟨_, _, s2.push (.tup (vs := .str code :: vs) upd_same (by show ds.length + 1 ≤ sizeLine; exact Nat.le_trans (Nat.succ_le_succ zd) (by decide)) (.cons (.str _) (rl.mono (Ex.new hg) (.refl _))))⟩ zl fun H3 s3 => ih m1 _ H3 s3 w
          have lf := lfOf_fld Y (code := code) (fs := ws)
          rcases alt with ⟨fl, dv, hfl, hd, ed⟩ | ⟨hfl, ed⟩
          · rw [hfl] at lf
            obtain ⟨v, e3, e4⟩ := (repK_look fl rk).1 _ hd
            refine fin [dv] [v] ed (.one e4) (Nat.le_refl _) ?_
            rw [lf]
            show (ws.lookup fl).map _ = _
            rw [e3]; rfl
          · rw [hfl] at lf
            exact fin [] [] ed .nil (Nat.zero_le _) lf
        · exact w.elim
  | [], _ :: _, hl, _, _, _, _, _, _ => by cases hl
  | _ :: _, [], hl, _, _, _, _, _, _ => by cases hl
end
theorem hcf_of {X : Cx} {pins : List (Addr × Obj)} {σ : L2.St} {H : Hp} {s : Shared} (I : Inv X pins σ H s) (hfn : ∀ y, X.fn y = true) : ∀ y c, X.env.cells.lookup y = some c → c ∉ frs X.stack := fun y c e z => by
  obtain ⟨v, o', ho', hd'⟩ := I.cell y c e
  rcases List.mem_cons.mp (I.stkSub _ z) with k | k
  · obtain ⟨m, ⟨o, es, ep, ho, hd, _⟩, _⟩ := I.loc
    rw [← k, ho'] at ho
    cases ho
    rw [hd'] at hd
    cases hd
  · obtain ⟨_, o, ho, _⟩ := I.ok.funs.mem k
    exact absurd (Nat.lt_of_lt_of_le (Heap.lt_size ho) (I.ok.cab y c (hfn y) e)) (Nat.lt_irrefl _)
theorem hB_of2 {S : Cx} {k : Nat} {ws : List LamW} {fs : List (Addr × Addr)} {pl : List (Addr × Obj)} (m : MkS S ws fs pl) (hfn : ∀ y, S.fn y = true) {ts : List (XK → TE)} (lt : LamTs S k ws ts) (hp : ∀ p ∈ pl, p ∈ S.pn) :
    ∀ pins s σ H, Inv S pins σ H s → ∀ l ∈ lrs (S.env.qual ++ "<lambda>") σ fs ts, LamB S.prog S.w S.K S.mg (baseB S s H) l.q l.f l.c k l.tl := fun pins s σ H I =>
  hB_of m (hcf_of I hfn) lt hp pins s σ H I
theorem LamTs.len {S : Cx} {k : Nat} {ws : List LamW} {ts : List (XK → TE)} (h : LamTs S k ws ts) : ws.length = ts.length := by
  induction h with
  | nil => rfl
  | cons _ _ _ _ ih => rw [List.length_cons, List.length_cons, ih]
section
variable {S : Cx}
theorem n_triesA {k i : Nat} {gr gt : Addr} {xt x a av nv : Str} {p pv p1 p2 p3 p4 p5 p6 p7 pos : Pos} {scope : Scope} {cs : List Value} {cns : List Str} {Y1 Y2 Y3 Y4 : List (Str × Pos)} {fs : List (Addr × Addr)} {gs : List ME} {q : Str} {L : Addr} {E : WX}
    {pg : Arguments} {sg : Scope} {dV kV doc pm cdv ct oc : Value} {an od : Option Addr} {osl : Array (Option Value)} (Y : FldY Y1 Y2 Y3 Y4) (hC : ClsOk S.K S.mg cs cns) (hl : fs.length = gs.length)
    (hT : ∀ bs, TryC S.prog S.w S.K S.mg bs k gt cs Y1 Y2 Y3 Y4) (hB : ∀ pins s σ H, Inv S pins σ H s → ∀ l ∈ lrs q σ fs (gs.map (tryT S.K S.mg)), LamB S.prog S.w S.K S.mg (baseB S s H) l.q l.f l.c k l.tl)
    (hg : Gl S xt) (hm : S.mg xt = some (.ref gr)) (hk : PySem.W.keepIn S.K (.ref gr) = true)
    (lk : S.K.lookup gr = some ⟨oc, od, .func (PySem.W.fnOf xt xt pg [.Return (some (.ListComp (.Call (.Name x p1) [.Name nv p2] [] p3) [⟨.Name nv p4, .Name av p5, [], 0⟩] scope p6)) p7] sg dV kV doc pm an cdv ct), osl⟩) (hcg : PySem.W.codeIn S.K cdv xt = true)
    (hb : L2.Binds S.K (PySem.W.fnOf xt xt pg [.Return (some (.ListComp (.Call (.Name x p1) [.Name nv p2] [] p3) [⟨.Name nv p4, .Name av p5, [], 0⟩] scope p6)) p7] sg dV kV doc pm an cdv ct) [av] []) (Sg : FnScope [av, nv] [av] sg)
    (hmt : S.mg x = some (.ref gt)) (hkt : PySem.W.keepIn S.K (.ref gt) = true) (va : Vis sg av) (ok : BlkOk [av, nv] sg scope [(nv, 1)]) (g1 : (relS scope sg).names.lookup x = some .globalImplicit) (l1 : (relS scope sg).names.lookup nv = some .local)
    (hr : Room (k + 3) S.A) (he : PE S (.Name a pv) (tVar i)) (d0 : (xt == ("__debug__" : Str)) = false := by decide)
    (hdb : (x == ("__debug__" : Str)) = false := by decide) (d1 : (av == ("__debug__" : Str)) = false := by decide) (d2 : (av == ("__classdict__" : Str)) = false := by decide) (d3 : (nv == ("__debug__" : Str)) = false := by decide) (d4 : (nv == ("__classdict__" : Str)) = false := by decide) :
    PN S E (.Call (.Name xt p) [.Name a pv] [] pos) (mTries cns i (zOf q L fs) gs) := by
  refine PEi (pe_all (lpos := p) (ls := fun σ => lrs q σ fs (gs.map (tryT S.K S.mg))) hT hB hg hm hk lk hcg hb Sg hmt hkt va ok g1 l1 hr he d0 hdb d1 d2 d3 d4) fun σ H Q ⟨b, ρ, m, T, s, w⟩ => ?_
  unfold mTries at w
  by_cases hz : ρ[i]? = some (.val (zOf q L fs))
  · rw [if_pos hz] at w
    obtain ⟨G, μ, s⟩ := s
    have e := ext_at s hz
    have hr2 : (lrs q σ fs (gs.map (tryT S.K S.mg))).map (fun l => V.ref l.f) = fs.map fun p => V.ref p.1 := lrs_refs (by rw [List.length_map]; exact hl)
    refine ⟨L, e.1, by rw [hr2]; exact e.2 _ List.mem_cons_self, fun D hD => ?_⟩
    rw [hr2]
    exact tries_go Y hC hz List.mem_cons_self gs fs hl (fun q hq => List.mem_cons_of_mem _ (List.mem_map.mpr ⟨q, hq, rfl⟩)) m [] _ ⟨G, μ, s.newO hD ⟨[], upd_same, .nil⟩⟩ w
  · rw [if_neg hz] at w
    exact w.elim
end
end M3
set_option Elab.async false
set_option linter.all false
set_option autoImplicit false
set_option maxRecDepth 100000
set_option maxHeartbeats 4000000
namespace M3
open PySem L2 PySem.Spec PyProof.Rows LamX L2H
def NTbl (u : HO) : Prop := ∀ ps, u ≠ .tbl ps
def ExF (G G' : Hp) : Prop := ∀ a u, G a = some u → NTbl u → G' a = some u
section
variable {K : PySem.W.Frag} {mg : Str → Option Value} {μ : List Addr} {G G' : Hp}
theorem ExF.rd {a : Addr} {u : HO} (e : ExF G G') (t : NTbl u) (h : Rd G a u) : Rd G' a u := by
  rcases h with h | ⟨o, h⟩
  · exact .inl (e _ _ h t)
  · exact .inr ⟨o, e _ _ h fun ps z => by cases z⟩
theorem ExF.sqL {a : Addr} {xs : List V} (e : ExF G G') (h : SqL K G a xs) : SqL K G' a xs := by
  rcases h with h | h
  · exact .inl (e.rd (fun ps z => by cases z) h)
  · exact .inr h
theorem ExF.sqT {a : Addr} {xs : List V} (e : ExF G G') (h : SqT K G a xs) : SqT K G' a xs := by
  rcases h with h | h
  · exact .inl (e.rd (fun ps z => by cases z) h)
  · exact .inr h
mutual
theorem Rep.monoF (e : ExF G G') : ∀ {d : Dv} {v : V}, Rep K mg μ G d v → Rep K mg μ G' d v
  | _, _, .non => .non
  | _, _, .bl b => .bl b
  | _, _, .int b => .int b
  | _, _, .str b => .str b
  | _, _, .ty b => .ty b
  | _, _, .lst s z r => .lst (e _ _ s fun ps z => by cases z) z (RepL.monoF e r)
  | _, _, .scr s => .scr (e.sqL s)
  | _, _, .tup s z r => .tup (e _ _ s fun ps z => by cases z) z (RepL.monoF e r)
  | _, _, .ktp s r => .ktp (e.sqT s) (RepL.monoF e r)
  | _, _, .dct s z r => .dct (e.rd (fun ps z => by cases z) s) z (RepK.monoF e r)
  | _, _, .lck s r => .lck (e _ _ s fun ps z => by cases z) (RepK.monoF e r)
  | _, _, .dcT s z r => .dcT (e.rd (fun ps z => by cases z) s) z (RepK.monoF e r)
  | _, _, .lckT s r => .lckT (e _ _ s fun ps z => by cases z) (RepK.monoF e r)
  | _, _, .ins c s r => .ins c (e _ _ s fun ps z => by cases z) (RepK.monoF e r)
  | _, _, .loc h => .loc h
  | _, _, .glb h r => .glb h r
  | _, _, .ext h => .ext fun p hp => ⟨e _ _ (h p hp).1 (h p hp).2.2, (h p hp).2⟩
theorem RepL.monoF (e : ExF G G') : ∀ {d : List Dv} {v : List V}, RepL K mg μ G d v → RepL K mg μ G' d v
  | _, _, .nil => .nil
  | _, _, .cons a b => .cons (Rep.monoF e a) (RepL.monoF e b)
theorem RepK.monoF (e : ExF G G') : ∀ {κ : Type} {d : List (κ × Dv)} {v : List (κ × V)}, RepK K mg μ G d v → RepK K mg μ G' d v
  | _, _, _, .nil => .nil
  | _, _, _, .cons a b => .cons (Rep.monoF e a) (RepK.monoF e b)
end
theorem obAt_monoF {H H' : Hp} {a : Addr} {o : Ob} (e : ExF G G') (n : ∀ u, o ≠ .raw u) (k : ExF H H') (h : ObAt K mg μ G H a o) : ObAt K mg μ G' H' a o := by
  cases o with
  | lst ds => obtain ⟨vs, x, r⟩ := h; exact ⟨vs, k _ _ x (fun ps z => by cases z), r.monoF e⟩
  | dct ds => obtain ⟨vs, x, r⟩ := h; exact ⟨vs, k _ _ x (fun ps z => by cases z), r.monoF e⟩
  | dcT ds => obtain ⟨vs, x, r⟩ := h; exact ⟨vs, k _ _ x (fun ps z => by cases z), r.monoF e⟩
  | ins c fs => obtain ⟨C, dx, ws, q, x, r⟩ := h; exact ⟨C, dx, ws, q, k _ _ x (fun ps z => by cases z), r.monoF e⟩
  | raw u => exact absurd rfl (n u)
theorem obAt_notX {H : Hp} {a : Addr} {o : Ob} (n : ∀ u, o ≠ .raw u) (h : ObAt K mg μ G H a o) : ∃ u, H a = some u ∧ NTbl u ∧ ∀ φ, u ≠ .ext φ := by
  cases o with
  | lst ds => obtain ⟨vs, x, r⟩ := h; exact ⟨_, x, (fun ps z => (by cases z)), (fun φ z => (by cases z))⟩
  | dct ds => obtain ⟨vs, x, r⟩ := h; exact ⟨_, x, (fun ps z => (by cases z)), (fun φ z => (by cases z))⟩
  | dcT ds => obtain ⟨vs, x, r⟩ := h; exact ⟨_, x, (fun ps z => (by cases z)), (fun φ z => (by cases z))⟩
  | ins c fs => obtain ⟨C, dx, ws, q, x, r⟩ := h; exact ⟨_, x, (fun ps z => (by cases z)), (fun φ z => (by cases z))⟩
  | raw u => exact absurd rfl (n u)
end
def okOb : Option Ob → Bool
  | none => false
  | some (.raw _) => false
  | some _ => true
def okCl : Cell → Bool
  | .own (.raw _) => false
  | _ => true
def okM (ρ : Sl) (m : Mm) : Bool := m.all okOb && ρ.all okCl
theorem okOb_raw {o : Option Ob} (h : okOb o = true) : ∃ b, o = some b ∧ ∀ u, b ≠ .raw u := by
  match o, h with
  | some (.lst _), _ => exact ⟨_, rfl, fun u z => by cases z⟩
  | some (.dct _), _ => exact ⟨_, rfl, fun u z => by cases z⟩
  | some (.dcT _), _ => exact ⟨_, rfl, fun u z => by cases z⟩
  | some (.ins _ _), _ => exact ⟨_, rfl, fun u z => by cases z⟩
theorem noT {o : Option HO} {u : HO} (h : (match o with | some (.tbl _) => none | o => o) = some u) : o = some u ∧ NTbl u := by
  cases o with
  | none => cases h
  | some w => cases w <;> first | (cases h; exact ⟨rfl, fun ps z => by cases z⟩) | cases h
theorem noT' {u : HO} (t : NTbl u) : (match some u with | some (.tbl _) => none | o => o) = some u := by
  cases u <;> first | rfl | exact absurd rfl (t _)
theorem codeO_nt {c : Addr} {q : Str} : NTbl (CodeO c q) := fun ps z => by unfold CodeO at z; cases z
open Classical in
noncomputable def gCode (G : Hp) (cs : List Addr) (qn : Str) : Hp := fun a => if a ∈ cs then some (CodeO a qn) else match G a with
  | some (.tbl _) => none
  | o => o
def gNoT (G : Hp) : Hp := fun a => match G a with
  | some (.tbl _) => none
  | o => o
open Classical in
noncomputable def codeH (H : Hp) (P : Addr) (q : Str) : Hp := fun a => if a = P ∨ H a = some (CodeO a q) then H a else none
open Classical in
noncomputable def codeG0 (G H : Hp) (q : Str) : Hp := fun a => if H a = some (CodeO a q) then G a else none
structure TabOk (P : Addr) (q : Str) (b : Bs) : Prop where
  tabs : Tabs [(P, q)] b.H0
  gP : b.G0 P = none
  nP : P ∉ b.μ0
  codes : ∀ c, b.H0 c = some (CodeO c q) → (b.G0 c = none ∨ b.G0 c = some (CodeO c q)) ∧ c ∉ b.μ0
theorem tab_at {K : PySem.W.Frag} {mg : Str → Option Value} {b : Bs} {ρ : Sl} {m : Mm} {σ : L2.St} {H : Hp} {T : Tm} {G : Hp} {μ : List Addr} {P : Addr} {q : Str} (s : St3 (b.cf K mg) ρ m σ H T G μ) (t : TabOk P q b) : Tabs [(P, q)] H ∧ G P = none ∧ P ∉ μ := by
  obtain ⟨ps, t1, t2, t3⟩ := t.tabs _ List.mem_cons_self
  obtain ⟨h1, h2, h3⟩ := s.le.prv P _ t1 t.gP t.nP
  refine ⟨fun p hp => ?_, h2, h3⟩
  rcases List.mem_singleton.mp hp with rfl
  refine ⟨ps, h1, t2, fun pos cv h => ?_⟩
  obtain ⟨c, e1, e2⟩ := t3 pos cv h
  refine ⟨c, e1, ?_⟩
  obtain ⟨g, n⟩ := t.codes c e2
  rcases g with g | g
  · exact (s.le.prv c _ e2 g n).1
  · have nd : ¬ IsDk (CodeO c q) := fun z => by unfold CodeO at z; rcases z with ⟨_, z⟩ | ⟨_, z⟩ <;> cases z
    rcases s.mem.st c _ (s.le.ex.at g nd) with z | ⟨z, _⟩
    · exact z
    · exact absurd z nd
abbrev bs0 : Bs := ⟨fun _ => none, [], fun _ => none⟩
section
variable {K : PySem.W.Frag} {mg : Str → Option Value} {b : Bs} {ρ : Sl} {m : Mm} {σ : L2.St} {H H1 : Hp} {T : Tm} {G : Hp} {μ : List Addr} {qn : Str} {fs : List (Addr × Addr)}
theorem rebase {P : Addr} {q : Str} (s : St3 (b.cf K mg) ρ m σ H T G μ) (ok : okM ρ m = true) (x : ExtN H H1) (gP : G P = none) (nP : P ∉ μ) (hT : Tabs [(P, q)] H1) :
    ∃ (b' : Bs) (G' : Hp), TabOk P q b' ∧ St3 (b'.cf K mg) ρ m σ H1 [] G' μ ∧ G' P = none := by
  have okm : ∀ o ∈ m, okOb o = true := by
    unfold okM at ok
    exact fun o ho => List.all_eq_true.mp (Bool.and_eq_true_iff.mp ok).1 o ho
  have okr : ∀ y ∈ ρ, okCl y = true := by
    unfold okM at ok
    exact fun o ho => List.all_eq_true.mp (Bool.and_eq_true_iff.mp ok).2 o ho
  have nt : ExF H H1 := fun a u e t => x a u e fun ps => t ps
  have exF : ExF G (gNoT G) := fun a u e t => by
    show (match G a with | some (.tbl _) => none | o => o) = some u
    rw [e]; exact noT' t
  have stand : Stands (gNoT G) H1 := fun a u e => by
    obtain ⟨e, t⟩ := noT e
    rcases s.mem.st a u e with z | ⟨d, o, z⟩
    · exact .inl (nt a u z t)
    · exact .inr ⟨d, o, nt a _ z fun ps z => by cases z⟩
  have noG : ∀ a, G a = none → gNoT G a = none := fun a g => by
    show (match G a with | some (.tbl _) => none | o => o) = none
    rw [g]
  have mem : MemOk K mg (gNoT G) μ H1 m := by
    refine ⟨stand, s.mem.len, s.mem.nd, fun n o e => ?_, fun a hm => ?_⟩
    · obtain ⟨a, e1, e2, e3⟩ := s.mem.ob n o e
      obtain ⟨b', eb, n⟩ := okOb_raw (okm _ (List.mem_of_getElem? e))
      cases eb
      exact ⟨a, e1, noG a e2, obAt_monoF exF n nt e3⟩
    · obtain ⟨n, hn⟩ := List.getElem?_of_mem hm
      have hl : n < m.length := by rw [← s.mem.len]; exact (List.getElem?_eq_some_iff.mp hn).1
      obtain ⟨o, eo, n2⟩ := okOb_raw (okm _ (List.getElem_mem hl))
      have e : m[n]? = some (some o) := by rw [List.getElem?_eq_getElem hl, eo]
      obtain ⟨a', e1, e2, e3⟩ := s.mem.ob n o e
      rw [hn] at e1; cases e1
      obtain ⟨u, hu⟩ := (obAt_monoF exF n2 nt e3).some
      exact ⟨u, hu⟩
  -- a number's object is no code object
  have notC : ∀ c, H1 c = some (CodeO c q) → c ∉ μ := fun c hc hm => by
    obtain ⟨n, hn⟩ := List.getElem?_of_mem hm
    have hl : n < m.length := by rw [← s.mem.len]; exact (List.getElem?_eq_some_iff.mp hn).1
    obtain ⟨o, eo, n2⟩ := okOb_raw (okm _ (List.getElem_mem hl))
    have e : m[n]? = some (some o) := by rw [List.getElem?_eq_getElem hl, eo]
    obtain ⟨a', e1, e2, e3⟩ := s.mem.ob n o e
    rw [hn] at e1; cases e1
    obtain ⟨u, e, t, ne⟩ := obAt_notX n2 e3
    have := nt _ u e t
    rw [hc] at this; cases this
    exact ne _ rfl
  have nd := s.nd
  rw [List.filterMap_append] at nd
  have nd := (List.nodup_append.mp nd).2.1
  have codeT : ∀ c, codeH H1 P q c ≠ none → codeH H1 P q c = H1 c := fun c hc => by
    unfold codeH at hc ⊢
    split
    · rfl
    · rename_i z; rw [if_neg z] at hc; exact absurd rfl hc
  have codeG : ∀ c, H1 c = some (CodeO c q) → gNoT G c = none ∨ gNoT G c = some (CodeO c q) := fun c hc => by
    cases hg : gNoT G c with
    | none => exact .inl rfl
    | some u =>
      rcases stand c u hg with z | ⟨_, o, z⟩
      · rw [hc] at z; cases z; exact .inr rfl
      · rw [hc] at z; unfold CodeO at z; cases z
  obtain ⟨ps, t1, t2, t3⟩ := hT _ List.mem_cons_self
  have cP : codeH H1 P q P = some (.tbl ps) := by
    unfold codeH; rw [if_pos (.inl rfl)]; exact t1
  have cC : ∀ c, H1 c = some (CodeO c q) → codeH H1 P q c = some (CodeO c q) := fun c hc => by
    unfold codeH; rw [if_pos (.inr hc)]; exact hc
  have cI : ∀ c u, codeH H1 P q c = some u → (c = P ∨ H1 c = some (CodeO c q)) ∧ H1 c = some u := fun c u h => by
    unfold codeH at h
    split at h
    · rename_i z; exact ⟨z, h⟩
    · cases h
  have gP' : gNoT G P = none := noG P gP
  refine ⟨⟨codeG0 (gNoT G) H1 q, [], codeH H1 P q⟩, gNoT G, ⟨fun p hp => ?_, ?_, by simp, fun c hc => ⟨?_, by simp⟩⟩, ⟨s.len, mem, ⟨fun a u e => ?_, fun n a e => by simp at e, fun a u h1 h2 _ => ?_, fun a u h1 => ⟨u, (cI a u h1).2⟩⟩, fun p hp => ?_, nd⟩, gP'⟩
  · rcases List.mem_singleton.mp hp with rfl
    refine ⟨ps, cP, t2, fun pos cv h => ?_⟩
    obtain ⟨c, e1, e2⟩ := t3 pos cv h
    exact ⟨c, e1, cC c e2⟩
  · show codeG0 (gNoT G) H1 q P = none
    unfold codeG0
    split
    · exact gP'
    · rfl
  · have h1 := (cI c _ hc).2
    show codeG0 (gNoT G) H1 q c = none ∨ codeG0 (gNoT G) H1 q c = some (CodeO c q)
    unfold codeG0
    rw [if_pos h1]; exact codeG c h1
  · have e : codeG0 (gNoT G) H1 q a = some u := e
    unfold codeG0 at e
    split at e
    · exact .inl e
    · cases e
  · obtain ⟨k1, k2⟩ := cI a u h1
    refine ⟨k2, ?_, ?_⟩
    · rcases k1 with rfl | k1
      · exact gP'
      · have h2 : codeG0 (gNoT G) H1 q a = none := h2
        unfold codeG0 at h2
        rw [if_pos k1] at h2; exact h2
    · rcases k1 with rfl | k1
      · exact nP
      · exact notC a k1
  · have hp : p ∈ σ.zip ρ := hp
    have q' := s.cells p (List.mem_append_right _ hp)
    obtain ⟨v, y⟩ := p
    cases y with
    | un => trivial
    | val d =>
      obtain ⟨v', e, r⟩ := q'
      exact ⟨v', e, Rep.monoF exF r⟩
    | own o =>
      obtain ⟨a, e, r, g, n, z⟩ := q'
      have hr := okr _ (List.of_mem_zip hp).2
      have n2 : ∀ u, o ≠ .raw u := fun u z => by rw [z] at hr; cases hr
      refine ⟨a, e, obAt_monoF exF n2 nt r, noG a g, n, ?_⟩
      show codeH H1 P q a = none
      cases hc : codeH H1 P q a with
      | none => rfl
      | some u =>
        obtain ⟨k1, k2⟩ := cI a u hc
        obtain ⟨w, e1, t, ne⟩ := obAt_notX n2 r
        have e2 := nt a w e1 t
        rcases k1 with rfl | k1
        · rw [t1] at e2; cases e2; exact absurd rfl (t _)
        · rw [k1] at e2; cases e2; exact absurd rfl (ne _)
theorem lams_st {L : Addr} {i : Nat} (s : St3 (b.cf K mg) ρ m σ H T G μ) (ok : okM ρ m = true) (x : ExtN H H1) (hc : ∀ q ∈ fs, H1 q.2 = some (CodeO q.2 qn)) (hL : H1 L = none) :
    S3 (bs0.cf K mg) (ρ.set i (.val (zOf qn L fs))) m (σ.set i (some (.ref L))) (upd H1 L (.lst (fs.map fun q => V.ref q.1))) [] := by
  have okm : ∀ o ∈ m, okOb o = true := by
    unfold okM at ok
    exact fun o ho => List.all_eq_true.mp (Bool.and_eq_true_iff.mp ok).1 o ho
  have okr : ∀ y ∈ ρ, okCl y = true := by
    unfold okM at ok
    exact fun o ho => List.all_eq_true.mp (Bool.and_eq_true_iff.mp ok).2 o ho
  have hcode : ∀ a, a ∈ fs.map (·.2) → H1 a = some (CodeO a qn) := fun a ha => by
    obtain ⟨q, hq, e⟩ := List.mem_map.mp ha
    rw [← e]; exact hc q hq
  have nt : ExF H H1 := fun a u e t => x a u e fun ps => t ps
  have atC : ∀ a, a ∈ fs.map (·.2) → gCode G (fs.map (·.2)) qn a = some (CodeO a qn) := fun a ha => if_pos ha
  have atN : ∀ a, a ∉ fs.map (·.2) → gCode G (fs.map (·.2)) qn a = (match G a with | some (.tbl _) => none | o => o) := fun a ha => if_neg ha
  have exF : ExF G (gCode G (fs.map (·.2)) qn) := fun a u e t => by
    by_cases ha : a ∈ fs.map (·.2)
    · rw [atC a ha, ← hcode a ha]
      rcases s.mem.st a u e with z | ⟨_, o, z⟩
      · exact nt a u z t
      · have := nt a _ z fun ps z => by cases z
        rw [hcode a ha] at this
        unfold CodeO at this; cases this
    · rw [atN a ha, e]; exact noT' t
  have stand : Stands (gCode G (fs.map (·.2)) qn) H1 := fun a u e => by
    by_cases ha : a ∈ fs.map (·.2)
    · rw [atC a ha] at e; cases e; exact .inl (hcode a ha)
    · rw [atN a ha] at e
      obtain ⟨e, t⟩ := noT e
      rcases s.mem.st a u e with z | ⟨d, o, z⟩
      · exact .inl (nt a u z t)
      · exact .inr ⟨d, o, nt a _ z fun ps z => by cases z⟩
  -- an object that is ours is no code object
  have free : ∀ a o, (∀ u, o ≠ .raw u) → G a = none → ObAt K mg μ G H a o → gCode G (fs.map (·.2)) qn a = none := fun a o n g ob => by
    obtain ⟨u, e, t, ne⟩ := obAt_notX n ob
    have ha : a ∉ fs.map (·.2) := fun z => by
      have := nt a u e t
      rw [hcode a z] at this
      cases this
      exact ne _ rfl
    rw [atN a ha, g]
  have mem : MemOk K mg (gCode G (fs.map (·.2)) qn) μ H1 m := by
    refine ⟨stand, s.mem.len, s.mem.nd, fun n o e => ?_, fun a hm => ?_⟩
    · obtain ⟨a, e1, e2, e3⟩ := s.mem.ob n o e
      obtain ⟨b', eb, n⟩ := okOb_raw (okm _ (List.mem_of_getElem? e))
      cases eb
      exact ⟨a, e1, free a _ n e2 e3, obAt_monoF exF n nt e3⟩
    · obtain ⟨n, hn⟩ := List.getElem?_of_mem hm
      have hl : n < m.length := by rw [← s.mem.len]; exact (List.getElem?_eq_some_iff.mp hn).1
      obtain ⟨o, eo, n2⟩ := okOb_raw (okm _ (List.getElem_mem hl))
      have e : m[n]? = some (some o) := by rw [List.getElem?_eq_getElem hl, eo]
      obtain ⟨a', e1, e2, e3⟩ := s.mem.ob n o e
      rw [hn] at e1; cases e1
      obtain ⟨u, hu⟩ := (obAt_monoF exF n2 nt e3).some
      exact ⟨u, hu⟩
  have nd := s.nd
  rw [List.filterMap_append] at nd
  have nd := (List.nodup_append.mp nd).2.1
  have le0 : Le (fun _ => none) [] (fun _ => none) (gCode G (fs.map (·.2)) qn) μ H1 := ⟨fun a u e => (by cases e), fun n a e => (by simp at e), fun a o e => (by cases e), fun a o e => (by cases e)⟩
  have s1 : St3 (bs0.cf K mg) ρ m σ H1 [] (gCode G (fs.map (·.2)) qn) μ := by
    refine ⟨s.len, mem, le0, fun p hp => ?_, nd⟩
    have hp : p ∈ σ.zip ρ := hp
    have q := s.cells p (List.mem_append_right _ hp)
    obtain ⟨v, y⟩ := p
    cases y with
    | un => trivial
    | val d =>
      obtain ⟨v', e, r⟩ := q
      exact ⟨v', e, Rep.monoF exF r⟩
    | own o =>
      obtain ⟨a, e, r, g, n, z⟩ := q
      have hr := okr _ (List.of_mem_zip hp).2
      have n2 : ∀ u, o ≠ .raw u := fun u z => by rw [z] at hr; cases hr
      exact ⟨a, e, obAt_monoF exF n2 nt r, free a o n2 g r, n, rfl⟩
  have s2 := s1.newG (o := .lst (fs.map fun q => V.ref q.1)) hL
  have s3 : St3 (bs0.cf K mg) ρ m σ (upd H1 L (.lst (fs.map fun q => V.ref q.1))) (tv (.ref L) (zOf qn L fs) :: []) _ μ := s2.push (by
    refine .ext fun p hp => ?_
    rcases List.mem_cons.mp hp with rfl | hp
    · exact ⟨upd_same, fun z => ndL z, fun qs z => by cases z⟩
    · obtain ⟨q, hq, rfl⟩ := List.mem_map.mp hp
      have hn : q.2 ≠ L := ne_of_none (hc q hq) hL
      refine ⟨by rw [upd_ne hn]; exact atC _ (List.mem_map.mpr ⟨q, hq, rfl⟩), fun z => ?_, fun qs => codeO_nt qs⟩
      unfold CodeO at z
      rcases z with ⟨_, z⟩ | ⟨_, z⟩ <;> cases z)
  exact ⟨_, μ, s3.setV⟩
end
def WantW (K : PySem.W.Frag) (mg : Str → Option Value) (P : Addr) (q : Str) (D : Ends) : RS → Prop
  | .nx ρ m => ∀ b σ H, S3 (Bs.cf b K mg) ρ m σ H [] → TabOk P q b → D.nx σ H
  | .bk ρ m => ∀ b σ H, S3 (Bs.cf b K mg) ρ m σ H [] → TabOk P q b → D.bk σ H
  | .ct ρ m => ∀ b σ H, S3 (Bs.cf b K mg) ρ m σ H [] → TabOk P q b → D.ct σ H
  | .rt d m => ∀ v H, (∃ G μ, MemOk K mg G μ H m ∧ Rep K mg μ G d v) → D.rt v H
  | _ => False
def tsW (K : PySem.W.Frag) (mg : Str → Option Value) (P : Addr) (q : Str) (f : MS) : TS := fun D σ H => ∃ (b : Bs) (ρ : Sl) (m : Mm), S3 (b.cf K mg) ρ m σ H [] ∧ TabOk P q b ∧ WantW K mg P q D (f ρ m)
abbrev PSW1 (X : Cx) (P : Addr) (st : Stmt) (f : MS) : Prop := PS X st (tsW X.K X.mg P (X.env.qual ++ "<lambda>") f)
abbrev PSW (X : Cx) (P : Addr) (st : List Stmt) (f : MS) : Prop := PSs X st (tsW X.K X.mg P (X.env.qual ++ "<lambda>") f)
theorem wantS_of {E : WX} {K : PySem.W.Frag} {mg : Str → Option Value} {P : Addr} {q : Str} {b : Bs} {D : Ends} {r : RS} (t : TabOk P q b) (w : WantW K mg P q D r) : WantS E (b.cf K mg) [] D r := by
  cases r with
  | nx ρ' m' => exact fun σ H S => w b σ H S t
  | rt d m' => exact fun v H ⟨G, μ, m1, l1, r1⟩ => w v H ⟨G, μ, m1, r1⟩
  | bk ρ' m' => exact fun σ H S => w b σ H S t
  | ct ρ' m' => exact fun σ H S => w b σ H S t
  | ex x ρ' m' => exact False.elim w
  | no => exact False.elim w
section
variable {X : Cx} {E : WX} {st : Stmt} {sts : List Stmt} {f g : MS} {P : Addr}
theorem sw1_of (h : PSx X E st f) : PSW1 X P st f :=
  PSi h fun D σ H ⟨b, ρ, m, S, t, w⟩ => ⟨b, ρ, m, [], S, wantS_of t w⟩
theorem sw_one (h : PSW1 X P st f) : PSW X P [st] f := pss_one h
theorem sw_cons1 (h : PSW1 X P st f) (hr : PSW X P sts g) : PSW X P (st :: sts) (mSeq f g) :=
  PSsi (pss_cons h hr) fun D σ H ⟨b, ρ, m, S, t, w⟩ => by
    refine ⟨b, ρ, m, S, t, ?_⟩
    unfold mSeq at w
    revert w
    cases f ρ m with
    | nx ρ' m' => exact fun w b' σ' H' S' t' => ⟨b', ρ', m', S', t', w⟩
    | rt d m' => exact id
    | bk ρ' m' => exact id
    | ct ρ' m' => exact id
    | ex x ρ' m' => exact id
    | no => exact id
theorem sw_cons (h : PSx X E st f) (hr : PSW X P sts g) : PSW X P (st :: sts) (mSeq f g) := sw_cons1 (sw1_of h) hr
theorem sw_for {tg : Expr} {is : List Nat} {gt : MG} {body : List Stmt} {fb : MS} {a : Expr} {fa : MA} {p pos pos' : Pos} (hp : PassesOwn (model X.prog X.w) X.A X.env X.xe) (hc : X.calm = true) (hgr : Gl X "range") (hm : X.mg "range" = none) (ha : PXs X E [a] fa) (hg : PGx X is tg gt) (hb : PSW X P body fb)
    (hs : starEach [a] X.env = [(false, eval a X.env)] := by rfl) (hs2 : ∀ x, foldedSetIterable (.Call (.Name "range" p) [a] [] pos) X.env x = pure x := by intro _; rfl) :
    PSW1 X P (.For tg (.Call (.Name "range" p) [a] [] pos) body [] pos') (mFor (mRng1 fa) gt fb) :=
  PSi (ps_for hp hc (pi_range1 hgr hm ha hs) hg.pg hb hs2) fun D σ H ⟨b, ρ, m, S, t, w⟩ => by
    refine ⟨b, ρ, m, [], S, ?_⟩
    unfold mFor mRng1 at w
    revert w
    cases fa ρ m with
    | no => exact fun w => w.elim
    | ex x m1 => exact fun w => w.elim
    | ok ds m1 =>
      intro w vs H1 hl ⟨G, μ, s⟩
      rw [Rs.bind_ok] at w
      have r := tvs_rep hl s
      split at w
      · rename_i j
        split at w
        · rename_i z
          rw [Rs.st_ok] at w
          cases r with
          | cons ra rb =>
            cases ra; cases rb
            refine ⟨j, rfl, z.1, z.2.1, fun i k σ H => k = (rngD 0 j.toNat).length - i ∧ i ≤ (rngD 0 j.toNat).length ∧ ∃ b ρ m, S3 (Bs.cf b X.K X.mg) ρ m σ H [] ∧ TabOk P (X.env.qual ++ "<lambda>") b ∧ WantW X.K X.mg P (X.env.qual ++ "<lambda>") D (forL gt fb ((rngD 0 j.toNat).drop i) ρ m), ⟨(rngD 0 j.toNat).length, by simp, Nat.zero_le _, b, ρ, m1, ⟨G, μ, s.pops⟩, t, by simpa using w⟩, ?_⟩
            rintro i k σ H ⟨rfl, hi, b, ρ, m, S, t, w⟩
            obtain ⟨j1, j2, j3⟩ := jok_rng (c := b.cf X.K X.mg) (lo := 0) (n := j.toNat) ρ m σ H [] i (fun p hp => hp) S
            by_cases hlt : i < (rngD 0 j.toNat).length
            · have hd : (rngD 0 j.toNat).drop i = (rngD 0 j.toNat)[i] :: (rngD 0 j.toNat).drop (i + 1) := List.drop_eq_getElem_cons hlt
              rw [hd] at w
              refine .inr ⟨j1 hlt, fun σ' H' => ∃ b' ρ' m', S3 (Bs.cf b' X.K X.mg) ρ' m' σ' H' [] ∧ TabOk P (X.env.qual ++ "<lambda>") b' ∧ WantW X.K X.mg P (X.env.qual ++ "<lambda>") D (forL gt fb ((rngD 0 j.toNat).drop (i + 1)) ρ' m'), fun σ' H' q => ⟨(rngD 0 j.toNat).length - (i + 1), by omega, rfl, hlt, q⟩, fun x H' y => ?_⟩
              have S2 := j2 _ (List.getElem?_eq_getElem hlt) x H' y
              unfold forL at w
              cases hg' : gt (rngD 0 j.toNat)[i] ρ with
              | none => rw [hg'] at w; exact w.elim
              | some ρ1 =>
                rw [hg'] at w
                refine ⟨b, ρ, m, [], _, S2, ρ1, hg', fun σ2 H2 _ S3' => ⟨b, ρ1, m, S3', t, ?_⟩⟩
                have w : WantW X.K X.mg P (X.env.qual ++ "<lambda>") D (match fb ρ1 m with
                  | .nx ρ2 m2 => forL gt fb ((rngD 0 j.toNat).drop (i + 1)) ρ2 m2
                  | .ct ρ2 m2 => forL gt fb ((rngD 0 j.toNat).drop (i + 1)) ρ2 m2
                  | .bk ρ2 m2 => .nx ρ2 m2
                  | r => r) := w
                revert w
                cases fb ρ1 m with
                | nx ρ2 m2 => exact fun w b' σ H S t' => ⟨b', ρ2, m2, S, t', w⟩
                | ct ρ2 m2 => exact fun w b' σ H S t' => ⟨b', ρ2, m2, S, t', w⟩
                | bk ρ2 m2 => exact fun w b' σ H S t' => w b' σ H S t'
                | rt d m2 => exact id
                | ex x ρ2 m2 => exact id
                | no => exact id
            · have e : i = (rngD 0 j.toNat).length := by omega
              subst e
              rw [List.drop_length] at w
              exact .inl ⟨j3 (Nat.le_refl _), w b σ H S t⟩
        · exact w.elim
      · exact w.elim
open Classical in
noncomputable def mLams (i : Nat) (g : Dv → MS) : MS := fun ρ m => if h : okM ρ m = true ∧ ∃ r : Dv × Mm, ∀ a ps, g (.ext a ps) (ρ.set i (.val (.ext a ps))) m = .rt r.1 r.2 then .rt h.2.choose.1 h.2.choose.2 else .no
theorem mLams_eq {i : Nat} {g : Dv → MS} {ρ : Sl} {m m' : Mm} {d : Dv} (ok : okM ρ m = true) (h : ∀ a ps, g (.ext a ps) (ρ.set i (.val (.ext a ps))) m = .rt d m') : mLams i g ρ m = .rt d m' := by
  unfold mLams
  have hh : okM ρ m = true ∧ ∃ r : Dv × Mm, ∀ a ps, g (.ext a ps) (ρ.set i (.val (.ext a ps))) m = .rt r.1 r.2 := ⟨ok, (d, m'), h⟩
  rw [dif_pos hh]
  have e := hh.2.choose_spec 0 []
  rw [h 0 []] at e
  exact e.symm
theorem sw_lams {c : Addr} {y : Str} {i : Nat} {py lp ap : Pos} {ws : List LamW} {rest : List Stmt} {g : Dv → MS} (TB : TabB X.base X.mg c P) (hcode : X.env.code = .ref c)
    (ok : ∀ w ∈ ws, LamOk X w) (hz : ws.length ≤ 30) (hN : X.N.Nodup) (hi : X.N[i]? = some y) (hx : Loc X.env.scope y) (hf : X.fn y = true ∨ X.env.scope.names.lookup y = some .local)
    (hs : swapsWith (.List (ws.map LamW.e) lp) (some (.Name y py)) ap.line X.env = pure false)
    (hrest : ∀ (fs : List (Addr × Addr)) (pl pn : List (Addr × Obj)) (L : Addr), MkS X ws fs pl → (∀ p ∈ pl, p ∈ pn) → PSsx (X.tr pn X.xe) (fun _ _ _ _ => False) rest (g (zOf (X.env.qual ++ "<lambda>") L fs))) :
    PSW X P (.Assign [.Name y py] (.List (ws.map LamW.e) lp) ap :: rest) (mLams i g) := by
  refine PSsi (pss_lams (T := [(P, X.env.qual ++ "<lambda>")]) (t := fun fs D σ H => ∃ L, tsOf X.K X.mg (fun _ _ _ _ => False) (g (zOf (X.env.qual ++ "<lambda>") L fs)) D σ H) TB hcode List.mem_cons_self (fun p hp _ => by rcases List.mem_singleton.mp hp with rfl; rfl) ok hz hN hi hx hf hs
    fun fs pl pn mk hp => ⟨fun pins s σ H D I ⟨L, q⟩ => (hrest fs pl pn L mk hp).run pins s σ H D I q⟩) fun D σ H ⟨b, ρ, m, S, e, w⟩ => ?_
  obtain ⟨G, μ, s⟩ := S
  refine ⟨(tab_at s e).1, fun fs H1 L hl x T1 hc hL => ?_⟩
  unfold mLams at w
  split at w
  · rename_i hh
    refine ⟨L, bs0, _, m, [], lams_st s hh.1 x hc hL, ?_⟩
    have er := hh.2.choose_spec L ((L, .lst (fs.map fun x => V.ref x.1)) :: fs.map fun x => (x.2, CodeO x.2 (X.env.qual ++ "<lambda>")))
    have er : g (zOf (X.env.qual ++ "<lambda>") L fs) (ρ.set i (.val (zOf (X.env.qual ++ "<lambda>") L fs))) m = _ := er
    rw [er]
    exact fun v H ⟨G, μ, m1, l1, r1⟩ => w v H ⟨G, μ, m1, r1⟩
  · exact w.elim
end
end M3
set_option Elab.async false
set_option linter.all false
set_option autoImplicit false
set_option maxRecDepth 100000
set_option maxHeartbeats 4000000
namespace M3
open PySem L2 PySem.Spec PyProof.Rows LamX L2H
theorem gm_dfl {S : Sg} {C f : Addr} {fd : FuncData} {ps ks : List Str} {k n : Nat} {F : MF} {md : List Dv} {mvv : List V} (ix : List Nat) (M : Mk S.K C f) (ok : Fn3 S.P S.w S.K S.mg S.base k f fd ps F)
    (KB : ∃ mv : List Value, KBn S.K fd ps (n + 1) ks (fun us ws => pick ix (us ++ (mv ++ ws))) (fun vs zs => pick ix (vs ++ (mvv ++ zs)))) (hv : ∀ μ G, RepL S.K S.mg μ G md mvv) (hl : ix.length = ps.length) (hb : ∀ i ∈ ix, i < n + 1 + (md.length + ks.length)) :
    Gm S C n ks k (fun l m => F (pick ix (l.take (n + 1) ++ (md ++ l.drop (n + 1)))) m) := by
  obtain ⟨mv, KB⟩ := KB
  refine ⟨f, M, .inl ⟨fd, ps, _, _, F, ok, KB, ⟨fun l => pick ix (l.take (n + 1) ++ (md ++ l.drop (n + 1))), fun ds m h => rfl, fun μ G ds vs h r => ⟨?_, ?_⟩⟩⟩⟩
  · rw [pick_len (fun i hi => by
      have := hb i hi
      simp only [List.length_append, List.length_take, List.length_drop]; omega), hl]
  · exact pick_rep (RepL.app (RepL.app (r.drop (n + 1)) (hv μ G)) (r.take (n + 1))) ix
def GR (S : Sg) (cn code fl : Str) : Prop := ∃ C, S.mg cn = some (.ref C) ∧ ∀ (X : Cx) (e : Expr) (p pos : Pos) (ta : TA), sg X = S → Room 1 X.A → Gl X cn → PA X [e] ta → starEach [e] X.env = (false, eval e X.env) :: starEach [] X.env → (backTo pos (starEach [] X.env)).any (·.1) = false →
  PMk X (.Call (.Name cn p) [e] [] pos) (tMkS C code fl ta)
section
variable {X : Cx} {E : WX}
theorem y_raise1 {cn code fl : Str} {fa : MA} {e : Expr} {p pos pos' : Pos} (G : GR (sg X) cn code fl) (hr : Room 1 X.A) (hc : X.calm = true) (tk : Takes X E) (hg : Gl X cn) (ha : PXs X E [e] fa) (he : starEach [e] X.env = (false, eval e X.env) :: starEach [] X.env := by rfl) (hpl : (backTo pos (starEach [] X.env)).any (·.1) = false := by rfl) :
    PSx X E (.Raise (some (.Call (.Name cn p) [e] [] pos)) none pos') (mRaise1 cn code fl fa) :=
  let ⟨_, hC, g⟩ := G
  s_raise1 hc tk hC (fun ta h => g X e p pos ta rfl hr hg h he hpl) ha
end
theorem gr_mk {P : Program} {w : World} {K : PySem.W.Frag} {mg : Str → Option Value} {base : Heap} {xn : Str} {C f cda cc : Addr} {ar : Arg} {name qual : Str} {st : Stmt} {dV kV doc pm ct : Value} {an : Option Addr} {msg code fl pn : Str} {k0 k1 : Nat} {p0 p1 p2 p3 p4 p5 q0 q1 q2 q3 r0 r1 r2 r3 : Pos}
    (hbody : defBody st = [supSt p0 p1 p2 p3 p4 p5 msg k0, codeSt ar.arg code q0 q1 q2 q3 k1, fldSt ar.arg fl pn r0 r1 r2 r3])
    (T : SupF P K C f ar name qual (defArgs st) (defBody st) (defScope st) dV kV doc pm an cda cc ct) (Y : SupE f qual (defScope st) cda cc msg k0 p0 p1 p2 p3 p4 p5)
    (iC : PySem.W.findIn K (.ref C) "__init__" = some (some (.ref f))) (tI : PySem.W.typeIn K (.ref f) = some (.type "function")) (kC : PySem.W.keepIn K (.ref C) = true) (exC : PySem.W.subIn K (.ref C) (.type "BaseException") = some true)
    (tyC : PySem.W.typeIn K (.ref C) = some (.type "type")) (mC : mg xn = some (.ref C)) (sup : mg "super" = none) (n1 : PySem.W.findIn K (.ref C) "code" = some none)
    (hbind : ∀ s x v, BindsTo s (PySem.W.ksFn name qual (defArgs st) [supSt p0 p1 p2 p3 p4 p5 msg k0, codeSt ar.arg code q0 q1 q2 q3 k1, fldSt ar.arg fl pn r0 r1 r2 r3] (defScope st) dV kV doc pm an (.ref cda) ct cc) ⟨[.ref x, v], []⟩ [(ar.arg, .ref x), (pn, v)])
    (hpn : (defScope st).names.lookup pn = some .local) (hne : pn ≠ ar.arg) (hd : (ar.arg == ("__debug__" : Str)) = false) (hd2 : (pn == ("__debug__" : Str)) = false) (hn2 : PySem.W.findIn K (.ref C) fl = some none) (hfl : fl ≠ "code") (hdb : (xn == ("__debug__" : Str)) = false)
    (sw1 : ∀ L, swapsWith (.Constant (.str code) k1 q2) (some (.Attribute (.Name ar.arg q0) "code" q1)) q3.line (PySem.W.ksEnv qual (defScope st) L f (.ref cda) cc) = pure false)
    (sw2 : ∀ L, swapsWith (.Name pn r2) (some (.Attribute (.Name ar.arg r0) fl r1)) r3.line (PySem.W.ksEnv qual (defScope st) L f (.ref cda) cc) = pure false) :
    GR ⟨P, w, K, mg, base⟩ xn code fl := by
  refine ⟨C, mC, fun X e p pos ta hX hr hg ha he hpl => ?_⟩
  rw [hbody] at T
  cases hX
  exact pmk_sup1 (k := 0) T Y ⟨iC, tI, kC, exC, tyC, mC, sup, n1⟩ hr hg hbind hpn hne hd hd2 hn2 hfl sw1 sw2 ha hdb he hpl
abbrev posL (l : List Pos) : Nat → Pos := fun n => l.getD n ⟨0, 0, 0, 0⟩
theorem parOk_no {b : Expr} {s : Scope} {p : Pos} : ParOk ⟨⟨[], [], none, [], [], none, []⟩, b, s, p, none⟩ := rfl
theorem parOk_yes {x1 : Arg} {d b : Expr} {s : Scope} {p : Pos} {z : Int × Nat × Pos} (h : s.names.lookup x1.arg = some .local) : ParOk ⟨⟨[], [x1], none, [], [], none, [d]⟩, b, s, p, some z⟩ := ⟨x1, d, rfl, h⟩
def GTr (S : Sg) (xt : Str) (k : Nat) (cns : List Str) : Prop := ∀ (X : Cx) (E : WX) (i : Nat) (a : Str) (p pv pos : Pos) (fs : List (Addr × Addr)) (gs : List ME) (q : Str) (L : Addr), sg X = S → fs.length = gs.length →
  (∀ pins s σ H, Inv X pins σ H s → ∀ l ∈ lrs q σ fs (gs.map (tryT X.K X.mg)), LamB X.prog X.w X.K X.mg (baseB X s H) l.q l.f l.c k l.tl) → Gl X xt → Room (k + 3) X.A → PE X (.Name a pv) (tVar i) →
  PN X E (.Call (.Name xt p) [.Name a pv] [] pos) (mTries cns i (zOf q L fs) gs)
theorem gtr_mk {P : Program} {w : World} {K : PySem.W.Frag} {mg : Str → Option Value} {base : Heap} {k : Nat} {gr gt g : Addr} {xt x xf av nv ask en e x1 x2 x3 : Str} {st_r st_t st_f : Stmt} {cns : List Str} {c1 c2 c3 : Value} {p1 p2 p3 p4 p5 p6 p7 : Pos} {scope : Scope} {ptl pl1 pl2 pl3 pl4 pl5 : List Pos} {Y1 Y2 Y3 Y4 : List (Str × Pos)}
    {dV kV doc pm cdv ct oc : Value} {an od : Option Addr} {osl : Array (Option Value)} {tdV tkV tdoc tpm tcd tct toc : Value} {tan tod : Option Addr} {tosl : Array (Option Value)} {rdV rkV rdoc rpm rcd rct roc : Value} {ran rod : Option Addr} {rosl : Array (Option Value)}
    (br : defBody st_r = [.Return (some (.ListComp (.Call (.Name x p1) [.Name nv p2] [] p3) [⟨.Name nv p4, .Name av p5, [], 0⟩] scope p6)) p7]) (bt : defBody st_t = tryBody ask en x1 x2 x3 xf (posL ptl)) (bf : defBody st_f = lfBody e Y1 Y2 Y3 Y4 (posL pl1) (posL pl2) (posL pl3) (posL pl4) (posL pl5))
    (Y : FldY Y1 Y2 Y3 Y4) (hC : ClsOk K mg [c1, c2, c3] cns) (hk1 : 1 ≤ k)
    (lr : K.lookup gr = some ⟨roc, rod, .func (PySem.W.fnOf xt xt (defArgs st_r) (defBody st_r) (defScope st_r) rdV rkV rdoc rpm ran rcd rct), rosl⟩) (cr : PySem.W.codeIn K rcd xt = true) (kr : PySem.W.keepIn K (.ref gr) = true) (hmr : mg xt = some (.ref gr))
    (hbr : L2.Binds K (PySem.W.fnOf xt xt (defArgs st_r) (defBody st_r) (defScope st_r) rdV rkV rdoc rpm ran rcd rct) [av] []) (Sr : FnScope [av, nv] [av] (defScope st_r)) (va : Vis (defScope st_r) av) (ok : BlkOk [av, nv] (defScope st_r) scope [(nv, 1)]) (g1 : (relS scope (defScope st_r)).names.lookup x = some .globalImplicit) (l1 : (relS scope (defScope st_r)).names.lookup nv = some .local)
    (lt : K.lookup gt = some ⟨toc, tod, .func (PySem.W.fnOf x x (defArgs st_t) (defBody st_t) (defScope st_t) tdV tkV tdoc tpm tan tcd tct), tosl⟩) (ct' : PySem.W.codeIn K tcd x = true) (kt : PySem.W.keepIn K (.ref gt) = true) (hmt : mg x = some (.ref gt))
    (hbt : L2.Binds K (PySem.W.fnOf x x (defArgs st_t) (defBody st_t) (defScope st_t) tdV tkV tdoc tpm tan tcd tct) [ask] []) (St : FnScope [ask, en] [ask] (defScope st_t)) (vask : Vis (defScope st_t) ask) (ve : (defScope st_t).names.lookup en = some .local)
    (h1 : (defScope st_t).names.lookup x1 = some .globalImplicit) (m1 : mg x1 = some c1) (h2 : (defScope st_t).names.lookup x2 = some .globalImplicit) (m2 : mg x2 = some c2) (h3 : (defScope st_t).names.lookup x3 = some .globalImplicit) (m3 : mg x3 = some c3) (gf : (defScope st_t).names.lookup xf = some .globalImplicit)
    (mf : mg xf = some (.ref g)) (kf : PySem.W.keepIn K (.ref g) = true) (lf : K.lookup g = some ⟨oc, od, .func (PySem.W.fnOf xf xf (defArgs st_f) (defBody st_f) (defScope st_f) dV kV doc pm an cdv ct), osl⟩) (cf : PySem.W.codeIn K cdv xf = true)
    (hbf : L2.Binds K (PySem.W.fnOf xf xf (defArgs st_f) (defBody st_f) (defScope st_f) dV kV doc pm an cdv ct) [e] []) (Sf : FnScope [e] [e] (defScope st_f)) (vae : Vis (defScope st_f) e)
    (z1 : Y1.length ≤ 30) (z2 : Y2.length ≤ 30) (z3 : Y3.length ≤ 30) (z4 : Y4.length ≤ 30)
    (d0 : (xt == ("__debug__" : Str)) = false := by decide) (hdb : (x == ("__debug__" : Str)) = false := by decide) (d1 : (av == ("__debug__" : Str)) = false := by decide) (d2 : (av == ("__classdict__" : Str)) = false := by decide) (d3 : (nv == ("__debug__" : Str)) = false := by decide) (d4 : (nv == ("__classdict__" : Str)) = false := by decide)
    (da : (ask == ("__debug__" : Str)) = false := by decide) (db : (ask == ("__classdict__" : Str)) = false := by decide) (de : (en == ("__debug__" : Str)) = false := by decide) (df : (en == ("__classdict__" : Str)) = false := by decide)
    (dx1 : (x1 == ("__debug__" : Str)) = false := by decide) (dx2 : (x2 == ("__debug__" : Str)) = false := by decide) (dx3 : (x3 == ("__debug__" : Str)) = false := by decide)
    (dxf : (xf == ("__debug__" : Str)) = false := by decide) (de1 : (e == ("__debug__" : Str)) = false := by decide) (de2 : (e == ("__classdict__" : Str)) = false := by decide) :
    GTr ⟨P, w, K, mg, base⟩ xt k cns := by
  rw [br] at lr hbr
  rw [bt] at lt hbt
  rw [bf] at lf hbf
  intro X E i a p pv pos fs gs q L hX hl hB hg hr he
  cases hX
  refine n_triesA (gt := gt) (gr := gr) Y hC hl (fun bs => ?_) hB hg hmr kr lr cr hbr Sr hmt kt va ok g1 l1 hr he d0 hdb d1 d2 d3 d4
  intro q' f c' tl A outer s1 H1 Q LB e0 hr' hc ht
  exact try_b LB e0 hr' lt ct' hbt St vask ve h1 m1 h2 m2 h3 m3 gf mf kf lf cf hbf Sf vae hk1 z1 z2 z3 z4 hc ht da db de df dx1 dx2 dx3 dxf de1 de2
theorem n_tries {X : Cx} {E : WX} {k i : Nat} {a xt : Str} {p pv pos : Pos} {cns : List Str} {gs : List ME} {q : Str} {L : Addr} {ws : List LamW} {fs : List (Addr × Addr)} {pl : List (Addr × Obj)} (G : GTr (sg X) xt k cns) (m : MkS X ws fs pl) (hq : q = X.env.qual ++ "<lambda>") (hfn : ∀ y, X.fn y = true) (lt : LamTs X k ws (gs.map (tryT X.K X.mg))) (hp : ∀ p ∈ pl, p ∈ X.pn)
    (hg : Gl X xt) (hr : Room (k + 3) X.A) (he : PE X (.Name a pv) (tVar i)) : PN X E (.Call (.Name xt p) [.Name a pv] [] pos) (mTries cns i (zOf q L fs) gs) := by
  subst hq
  exact G X E i a p pv pos fs gs _ L rfl (by rw [m.len, lt.len, List.length_map]) (hB_of2 m hfn lt hp) hg hr he
section
variable {X : Cx} {A : Around} {outer : List Env} {s : Shared} {H : Hp} {E : XK} {scope : Scope} {f c' : Addr}
theorem tk_lam : Takes (lamCx X A outer s H E scope f c') (WF E) := takes_of rfl rfl rfl rfl
theorem nm_lam {N : List Str} {sc fsc : Scope} (h : Nm X N sc fsc) (L : lamDB sc scope N = true) : Nm (lamCx X A outer s H E scope f c') N scope scope :=
  ⟨h.hN, h.nd, rfl, rfl, fun y e => absurd rfl ((lamD_by L).cell _ (PySem.mem_of_lookup e))⟩
theorem lamD_nm {N : List Str} {sc fsc : Scope} (h : Nm X N sc fsc) (L : lamDB sc scope N = true) : LamD X.env.scope scope X.N := by
  rw [h.hsc, h.hN]; exact lamD_by L
theorem lamOk_nm {N : List Str} {sc fsc : Scope} {w : LamW} (h : Nm X N sc fsc) (L : lamDB sc w.scope N = true) (hcl : ∀ y, sc.names.lookup y = some .cell → ∃ c, X.env.cells.lookup y = some c) (hfree : w.scope.names.all (fun y => !decide (y.2 = .free) || decide (sc.names.lookup y.1 = some .cell)) = true)
    (df : defaultsOf w.params X.env = (match w.df with | none => [] | some (n, j, dp) => [eval (.Constant (.int n) j dp) X.env], [])) : LamOk X w :=
  ⟨df, fun y hy e => hcl y.1 (by
    have := List.all_eq_true.mp hfree y hy
    rw [e] at this
    simpa using this)⟩
end
def spW (K : PySem.W.Frag) (mg : Str → Option Value) (P : Addr) (n k : Nat) (body : MS) : Sp := fun vs H Q _ => ∃ (G : Hp) (μ : List Addr) (m : Mm) (ds : List Dv), ds.length = k ∧ MemOk K mg G μ H m ∧ RepL K mg μ G ds vs ∧ H P = some (.tbl #[]) ∧ G P = none ∧ P ∉ μ ∧ (∀ c q, H c = some (CodeO c q) → (G c = none ∨ G c = some (CodeO c q)) ∧ c ∉ μ) ∧
  match body (ds.map .val ++ List.replicate (n - ds.length) .un) m with
  | .rt d m' => ∀ v H' G' μ', MemOk K mg G' μ' H' m' → Rep K mg μ' G' d v → Q v H'
  | _ => False
section
variable {P : Program} {w : World} {K : PySem.W.Frag} {mg : Str → Option Value} {base : Heap} {Pt : Addr}
theorem body3W {qual : Str} {st : Stmt} {f : Addr} {N : List Str} {n : Nat} {body : MS} {cdv : Value} {A : Around} {outer : List Env} {s : Shared} {H : Hp} {vs : List V} {Q : VK} {E : XK}
    (h : PSW (cxOf (L2.CX P w) P w K mg base N qual (defScope st) f cdv A outer s H E) Pt (defBody st) body) (q : spW K mg Pt N.length n body vs H Q E) :
    ∃ t, PSs (cxOf (L2.CX P w) P w K mg base N qual (defScope st) f cdv A outer s H E) (defBody st) t ∧ t { nx := fun _ H' => Q .non H', rt := Q } (L2.start N vs) H := by
  refine ⟨_, h, ?_⟩
  obtain ⟨G, μ, m, ds, hl, mem, r, hP, gP, nP, hC, q⟩ := q
  have hlen := r.length
  refine ⟨⟨G, μ, H⟩, ds.map .val ++ List.replicate (N.length - ds.length) .un, m, ⟨G, μ, ?_, mem, Le.refl _ _ _, ?_, ?_⟩, ⟨fun p hp => ?_, gP, nP, fun c hc => hC c _ hc⟩, ?_⟩
  · simp [L2.start, hlen]
  · intro p hp
    rw [List.nil_append] at hp
    unfold L2.start at hp
    rw [← hlen] at hp
    exact start_cells (c := (Bs.cf ⟨G, μ, H⟩ K mg)) r p hp
  · rw [List.nil_append, own_vals fun y hy o e => ?_]
    · exact List.nodup_nil
    · subst e
      rcases List.mem_append.mp hy with z | z
      · obtain ⟨d, _, e⟩ := List.mem_map.mp z; cases e
      · have := List.eq_of_mem_replicate z; cases this
  · rcases List.mem_singleton.mp hp with rfl
    exact TabS.nil hP
  · revert q
    cases body (ds.map .val ++ List.replicate (N.length - ds.length) .un) m with
    | rt d m' => exact fun q v H' ⟨G', μ', m1, r1⟩ => q v H' G' μ' m1 r1
    | nx ρ' m' => exact fun q => q.elim
    | ex x ρ' m' => exact fun q => q.elim
    | bk ρ' m' => exact fun q => q.elim
    | ct ρ' m' => exact fun q => q.elim
    | no => exact fun q => q.elim
theorem fnW {x qual : Str} {st : Stmt} {f : Addr} {N ps : List Str} {k : Nat} {body : MS} {kV doc pm cdv ct oc : Value} {an od : Option Addr} {osl : Array (Option Value)} (lk : K.lookup f = some ⟨oc, od, .func (PySem.W.fnOf x qual (defArgs st) (defBody st) (defScope st) .none kV doc pm an cdv ct), osl⟩) (hcd : PySem.W.codeIn K cdv qual = true) (S : FnScope N ps (defScope st))
    (h : ∀ (A : Around) (outer : List Env) (s : Shared) (H : Hp) (E : XK), Room k (A.deeper (envOfC qual (defScope st) s.heap.objs.size f cdv)) →
      PSW (cxOf (L2.CX P w) P w K mg base N qual (defScope st) f cdv A outer s H E) Pt (defBody st) body) : FnOk P w K mg base (L2.CX P w) (k + 1) f (PySem.W.fnOf x qual (defArgs st) (defBody st) (defScope st) .none kV doc pm an cdv ct) ps (spW K mg Pt N.length ps.length body) :=
  fn_of lk hcd S (fun vs H Q E q => by
    obtain ⟨G, μ, m, ds, hl, _, r, _⟩ := q
    rw [← r.length, hl]) fun A outer s H vs Q E hr q => body3W (h A outer s H E hr) q
end
theorem codeHdIn_rec {K : PySem.W.Frag} {c P : Addr} (h : PySem.W.codeHdIn K c P = true) : ∃ e dd vs sl, K.lookup c = some ⟨e, dd, .fields vs, sl⟩ ∧ vs[11]? = some (.ref P) := by
  unfold PySem.W.codeHdIn at h
  split at h
  · rename_i dd vs sl hk
    simp only [Bool.and_eq_true] at h
    obtain ⟨⟨⟨⟨⟨e1, _⟩, _⟩, _⟩, _⟩, _⟩ := h
    split at e1
    · rename_i P' h11
      have hP : P' = P := beq_iff_eq.mp e1
      subst hP
      exact ⟨_, _, _, _, hk, h11⟩
    · cases e1
  · cases h
theorem fin_blrt {r : RS} {m : Mm} (h : r.fin = .ok (.bl true) m) : ∃ m', r = .rt (.bl true) m' := by
  cases r <;> simp [RS.fin] at h
  · obtain ⟨rfl, rfl⟩ := h
    exact ⟨_, rfl⟩
theorem walk3W {l : PySem.W.OpenLaw} {q : Program} {loose : List Str} {XP : (Str → Option Value) → Heap → Prop} {YP : World → Heap → Prop} {d : DefRec} {Kp : Params → PySem.W.Frag} (k : Nat) (x : Str) (n : Nat) (body : MS) (hr : Room k callerA) (hn : l.most = some 63) (hdf : d.params.defaults = []) (hrec : ((recsOf q).any fun e => e.name == d.name) = true)
    (hY : ∀ (w : World) (h : Heap), YP w h → (Kp w.params).In h) (hF : ∀ ns : List Int, ns.length ≤ 63 → ∃ m, mDef n body [.scr ns] [] = .ok (.bl true) m)
    (A : ∀ (w : World) (mg : Str → Option Value) (fa : Addr) (h : Heap), (Kp w.params).In h → h.Ns mainGlobals mg → mg d.name = some (.ref fa) →
      ∃ (fd : FuncData) (c P : Addr), (∃ oc od osl, (Kp w.params).lookup fa = some ⟨oc, od, .func fd, osl⟩) ∧ fd.code = .ref c ∧ PySem.W.codeHdIn (Kp w.params) c P = true ∧ (Kp w.params).lookup P = none ∧ (∀ (s : Shared) (u : Value), BindsTo s fd ⟨[u], []⟩ [(x, u)]) ∧
        ∀ base : Heap, (Kp w.params).In base → base.Ns mainGlobals mg → TabB base mg c P → FnOk l.prog w (Kp w.params) mg base (L2.CX l.prog w) k fa fd [x] (spW (Kp w.params) mg P n 1 body)) :
    PySem.W.WalkO q loose XP YP l.row.toRowW d [] (fun f vs => PySem.call f vs) := by
  refine walk_ofOwn (n := 63) (k := k) (x := x) (CX := fun w => L2.CX l.prog w) hn (by decide) hdf hr hrec hY (fun w mg fa h Y KX GG hmg own => ?_) fun w H s e s' => ?_
  · obtain ⟨fd, c, P, ⟨oc, od, osl, lk⟩, hc, hcd, hPK, hb, F⟩ := A w mg fa h KX GG hmg
    obtain ⟨e, dd, vs, sl, k4, k5⟩ := codeHdIn_rec hcd
    have hT := own c P _ fd e dd vs sl lk rfl hc k4 k5
    refine ⟨fd, [(c, P)], spW (Kp w.params) mg P n 1 body, fun p hp => ?_, fun p hp => ?_, fun p hp => ?_, hb, fun H a ns hl _ hTab hS => ?_, fun base k1 k2 k3 => F base k1 k2 (k3 _ List.mem_cons_self)⟩
    · rcases List.mem_singleton.mp hp with rfl; exact hT
    · rcases List.mem_singleton.mp hp with rfl; exact hPK
    · rcases List.mem_singleton.mp hp with rfl; exact PySem.W.codeHd_of_K KX hcd
    · have hP := hTab (c, P) List.mem_cons_self
      obtain ⟨m, e⟩ := hF ns hl
      obtain ⟨m', e⟩ := fin_blrt e
      have exG : ∀ (b : Addr) (u : HO), H b = some u → NTbl u → (if b = P then none else H b) = some u := fun b u hb t => by
        have : b ≠ P := fun z => by rw [z, hP] at hb; cases hb; exact t _ rfl
        rw [if_neg this]; exact hb
      refine ⟨fun b => if b = P then none else H b, [], [], [.scr ns], rfl, ⟨fun b u hb => ?_, rfl, fun i j a e => by simp at e, fun n o e => by simp at e, fun a h => by simp at h⟩, .cons (.scr (ExF.sqL (G := H) exG hS)) .nil, hP, if_pos rfl, by simp, fun c q hc => ⟨?_, by simp⟩, ?_⟩
      · split at hb
        · cases hb
        · exact .inl hb
      · by_cases hb : c = P
        · exact .inl (if_pos hb)
        · exact .inr ((if_neg hb).trans hc)
      · rw [e]
        intro v H' G' μ' _ r
        cases r; rfl
  · rintro ⟨a, B, H', cls, d, z⟩
    simp at z
end M3
set_option Elab.async false
set_option linter.all false
set_option autoImplicit false
set_option maxRecDepth 100000
set_option maxHeartbeats 4000000
namespace M3
open PySem L2 PySem.Spec PyProof.Rows LamX L2H
section
variable {S : Cx}
theorem pe_try1 {k : Nat} {gt c P : Addr} {x : Str} {p lpos pos : Pos} {body : Expr} {scope : Scope} {cs : List Value} {Y1 Y2 Y3 Y4 : List (Str × Pos)} {t : XK → TE} (hT : ∀ bs, TryC S.prog S.w S.K S.mg bs k gt cs Y1 Y2 Y3 Y4) (TB : TabB S.base S.mg c P) (hcode : S.env.code = .ref c)
    (hg : Gl S x) (hm : S.mg x = some (.ref gt)) (hk : PySem.W.keepIn S.K (.ref gt) = true) (hr : Room (k + 2) S.A) (hfn : ∀ y, S.fn y = true) (L : LamD S.env.scope scope S.N) (hfree : ∀ y ∈ scope.names, y.2 = .free → ∃ c, S.env.cells.lookup y.1 = some c)
    (hbody : ∀ (f c : Addr) (A : Around) (outer : List Env) (s : Shared) (H : Hp) (E : XK), Room k (A.deeper (lamEnv S scope s.heap.objs.size f c)) → PE (lamCx S A outer s H E scope f c) body (t E)) (hdb : (x == ("__debug__" : Str)) = false := by decide) :
    PE S (.Call (.Name x p) [.Lambda ⟨[], [], none, [], [], none, []⟩ body scope lpos] [] pos) (fun σ H Q => Tabs [(P, S.env.qual ++ "<lambda>")] H ∧ ∀ H1, ExtN H H1 → Tabs [(P, S.env.qual ++ "<lambda>")] H1 → t (tryEx S.K cs Y1 Y2 Y3 Y4 Q) σ H1 (tryOk Q)) := by
  refine ⟨fun pins s σ H Q I h => ?_⟩
  obtain ⟨hTab, h⟩ := h
  refine wpAny_Call_Name_kw (ld_glob I hg hm ?_ hdb)
  refine PySem.W.callWith_K (h₀ := S.base) I.ok.mod.kin hk ?_ (by rfl) (by rfl)
  show wpAny _ _ (spliced ((false, eval (.Lambda ⟨[], [], none, [], [], none, []⟩ body scope lpos) S.env) :: backTo pos (starEach [] S.env))) _ _ s
  refine Calls.spliced_cons (lam_make2 (T := [(P, S.env.qual ++ "<lambda>")]) I TB hcode List.mem_cons_self (fun p hp _ => by rcases List.mem_singleton.mp hp with rfl; rfl) hTab (by rfl) hfree fun f c' pm ctv H1 s1 I1 x1 T1 hf hn hfr hc => ?_)
  refine Calls.spliced_nil ⟨I1.kIn, ?_⟩
  have LB : LamB S.prog S.w S.K S.mg (baseB S s1 H1) (S.env.qual ++ "<lambda>") f c' k (fun E H1 Q => t E σ H1 Q) :=
    lamB_of (binds := []) (dV := .none) (pm := pm) (ctv := ctv) (params := ⟨[], [], none, [], [], none, []⟩) (body := body) I1 L (hcf_of I1 hfn) hf hn hfr (fun s1 M A E R _ r => ld_bind0 r) (fun y hy => by cases hy) (hbody f c')
  have rc := hT (baseB S s1 H1) (S.env.qual ++ "<lambda>") f c' _ S.A S.stack s1 H1 Q LB (baseB_env I1) hr hc (h H1 x1 T1)
  refine wpAny_call (codeAny_mono rc fun r s2 hq => ?_)
  cases r with
  | error e => exact (show False from hq).elim
  | ok fl =>
    cases fl with
    | ret u => exact I1.after hq
    | next => exact False.elim hq
    | brk => exact False.elim hq
    | cont => exact False.elim hq
end
theorem lamFree_nm {X : Cx} {sc scope : Scope} (hcl : ∀ y, sc.names.lookup y = some .cell → ∃ c, X.env.cells.lookup y = some c) (hfree : scope.names.all (fun y => !decide (y.2 = .free) || decide (sc.names.lookup y.1 = some .cell)) = true) : ∀ y ∈ scope.names, y.2 = .free → ∃ c, X.env.cells.lookup y.1 = some c := fun y hy e => hcl y.1 (by
    have := List.all_eq_true.mp hfree y hy
    rw [e] at this
    simpa using this)
def GT1 (S : Sg) (x : Str) (k : Nat) (cns : List Str) : Prop := ∃ (gt : Addr) (cs : List Value) (Y1 Y2 Y3 Y4 : List (Str × Pos)), (∀ bs, TryC S.P S.w S.K S.mg bs k gt cs Y1 Y2 Y3 Y4) ∧ S.mg x = some (.ref gt) ∧ PySem.W.keepIn S.K (.ref gt) = true ∧ FldY Y1 Y2 Y3 Y4 ∧ ClsOk S.K S.mg cs cns
theorem gt1_mk {P : Program} {w : World} {K : PySem.W.Frag} {mg : Str → Option Value} {base : Heap} {k : Nat} {gt g : Addr} {x xf ask en e x1 x2 x3 : Str} {st_t st_f : Stmt} {cns : List Str} {c1 c2 c3 : Value} {ptl pl1 pl2 pl3 pl4 pl5 : List Pos} {Y1 Y2 Y3 Y4 : List (Str × Pos)}
    {dV kV doc pm cdv ct oc : Value} {an od : Option Addr} {osl : Array (Option Value)} {tdV tkV tdoc tpm tcd tct toc : Value} {tan tod : Option Addr} {tosl : Array (Option Value)}
    (bt : defBody st_t = tryBody ask en x1 x2 x3 xf (posL ptl)) (bf : defBody st_f = lfBody e Y1 Y2 Y3 Y4 (posL pl1) (posL pl2) (posL pl3) (posL pl4) (posL pl5))
    (Y : FldY Y1 Y2 Y3 Y4) (hC : ClsOk K mg [c1, c2, c3] cns) (hk1 : 1 ≤ k)
    (lt : K.lookup gt = some ⟨toc, tod, .func (PySem.W.fnOf x x (defArgs st_t) (defBody st_t) (defScope st_t) tdV tkV tdoc tpm tan tcd tct), tosl⟩) (ct' : PySem.W.codeIn K tcd x = true) (kt : PySem.W.keepIn K (.ref gt) = true) (hmt : mg x = some (.ref gt))
    (hbt : L2.Binds K (PySem.W.fnOf x x (defArgs st_t) (defBody st_t) (defScope st_t) tdV tkV tdoc tpm tan tcd tct) [ask] []) (St : FnScope [ask, en] [ask] (defScope st_t)) (vask : Vis (defScope st_t) ask) (ve : (defScope st_t).names.lookup en = some .local)
    (h1 : (defScope st_t).names.lookup x1 = some .globalImplicit) (m1 : mg x1 = some c1) (h2 : (defScope st_t).names.lookup x2 = some .globalImplicit) (m2 : mg x2 = some c2) (h3 : (defScope st_t).names.lookup x3 = some .globalImplicit) (m3 : mg x3 = some c3) (gf : (defScope st_t).names.lookup xf = some .globalImplicit)
    (mf : mg xf = some (.ref g)) (kf : PySem.W.keepIn K (.ref g) = true) (lf : K.lookup g = some ⟨oc, od, .func (PySem.W.fnOf xf xf (defArgs st_f) (defBody st_f) (defScope st_f) dV kV doc pm an cdv ct), osl⟩) (cf : PySem.W.codeIn K cdv xf = true)
    (hbf : L2.Binds K (PySem.W.fnOf xf xf (defArgs st_f) (defBody st_f) (defScope st_f) dV kV doc pm an cdv ct) [e] []) (Sf : FnScope [e] [e] (defScope st_f)) (vae : Vis (defScope st_f) e)
    (z1 : Y1.length ≤ 30) (z2 : Y2.length ≤ 30) (z3 : Y3.length ≤ 30) (z4 : Y4.length ≤ 30)
    (da : (ask == ("__debug__" : Str)) = false := by decide) (db : (ask == ("__classdict__" : Str)) = false := by decide) (de : (en == ("__debug__" : Str)) = false := by decide) (df : (en == ("__classdict__" : Str)) = false := by decide)
    (dx1 : (x1 == ("__debug__" : Str)) = false := by decide) (dx2 : (x2 == ("__debug__" : Str)) = false := by decide) (dx3 : (x3 == ("__debug__" : Str)) = false := by decide)
    (dxf : (xf == ("__debug__" : Str)) = false := by decide) (de1 : (e == ("__debug__" : Str)) = false := by decide) (de2 : (e == ("__classdict__" : Str)) = false := by decide) :
    GT1 ⟨P, w, K, mg, base⟩ x k cns := by
  rw [bt] at lt hbt
  rw [bf] at lf hbf
  refine ⟨gt, _, _, _, _, _, fun bs => ?_, hmt, kt, Y, hC⟩
  intro q' f c' tl A outer s1 H1 Q LB e0 hr' hc ht
  exact try_b LB e0 hr' lt ct' hbt St vask ve h1 m1 h2 m2 h3 m3 gf mf kf lf cf hbf Sf vae hk1 z1 z2 z3 z4 hc ht da db de df dx1 dx2 dx3 dxf de1 de2
section
variable {K : PySem.W.Frag} {mg : Str → Option Value} {b : Bs} {ρ : Sl} {σ : L2.St} {T : Tm} {cs : List Value} {cns : List Str} {Y1 Y2 Y3 Y4 : List (Str × Pos)}
theorem try1_want (Y : FldY Y1 Y2 Y3 Y4) (hC : ClsOk K mg cs cns) {f : ME} {m : Mm} {H : Hp} {Q : VK} {R : Dv → Mm → Prop} (s : S3 (b.cf K mg) ρ m σ H T) (w : match mTry1 cns f ρ m with
    | .ok d m1 => R d m1
    | _ => False) (hQ : ∀ d m1, R d m1 → ∀ v H', S3 (b.cf K mg) ρ m1 σ H' (tv v d :: T) → Q v H') : tryT K mg f (tryEx K cs Y1 Y2 Y3 Y4 Q) σ H (tryOk Q) := by
  refine ⟨b, ρ, m, T, s, ?_⟩
  unfold mTry1 at w
  revert w
  cases f ρ m with
  | no => exact fun w => w.elim
  | ok x m1 =>
    cases x with
    | b j => exact fun w => w.elim
    | v d =>
      intro w v H1 ⟨G1, μ1, s1⟩ _
      have r1 := s1.top
      refine ⟨by show 2 ≤ sizeLine; decide, fun p hp => hQ _ _ w _ _ (s1.pop.newT (ds := [.str "", d]) (vs := [V.str "", v]) (.cons (.str _) (.one r1)) (by show 2 ≤ sizeLine; decide) hp)⟩
  | ex x m1 =>
    intro w cls d H1 G1 μ1 s1 rx
    obtain ⟨cn, fs', C, dd, ws, rfl, rfl, hm, rfl, hG, rk⟩ := rx
    cases he : exTup cns (.ins cn fs') with
    | none =>
      have w : (match (match exTup cns (.ins cn fs') with | some d => (.ok d m1 : Rs Dv) | none => .no) with | .ok d m1 => R d m1 | _ => False) := w
      rw [he] at w; exact w.elim
    | some d' =>
      have w : (match (match exTup cns (.ins cn fs') with | some d => (.ok d m1 : Rs Dv) | none => .no) with | .ok d m1 => R d m1 | _ => False) := w
      rw [he] at w
      have w : R d' m1 := w
      obtain ⟨hcn, code, hcode, alt⟩ := exTup_some he
      obtain ⟨h1, h2⟩ := hC.ok cn hcn C hm
      obtain ⟨vc, e1, e2⟩ := (repK_look "code" rk).1 _ hcode
      cases e2
      have hH : H1 dd = some (.xd ws) := by
        rcases s1.mem.st _ _ hG with z | ⟨z, _⟩
        · exact z
        · exact absurd z ndX
      have fin : ∀ (ds : List Dv) (vs : List V), d' = .tup (.str code :: ds) → RepL K mg μ1 G1 ds vs → ds.length ≤ 1 → lfOf Y1 Y2 Y3 Y4 code ws = some vs → tryEx K cs Y1 Y2 Y3 Y4 Q (.ref C) (some dd) H1 := by
        intro ds vs ed rl zd hlf
        refine ⟨C, dd, ws, code, vs, rfl, rfl, h1, h2, hH, e1, hlf, fun H'' p x2 hp hp'' => ?_⟩
        have s2 := s1.frzN x2 hp hp''
        have hg := s1.mem.st.none hp
        subst ed
        exact hQ _ _ w _ _ ⟨_, _, s2.push (.tup (vs := .str code :: vs) upd_same (by show ds.length + 1 ≤ sizeLine; exact Nat.le_trans (Nat.succ_le_succ zd) (by decide)) (.cons (.str _) (rl.mono (Ex.new hg) (.refl _))))⟩
      have lf := lfOf_fld Y (code := code) (fs := ws)
      rcases alt with ⟨fl, dv, hfl, hd, ed⟩ | ⟨hfl, ed⟩
      · rw [hfl] at lf
        obtain ⟨v, e3, e4⟩ := (repK_look fl rk).1 _ hd
        refine fin [dv] [v] ed (.one e4) (Nat.le_refl _) ?_
        rw [lf]
        show (ws.lookup fl).map _ = _
        rw [e3]; rfl
      · rw [hfl] at lf
        exact fin [] [] ed .nil (Nat.zero_le _) lf
end
def mIfTry (cns : List Str) (f : ME) (g : Sl → Mm → Ar → Ar → Rs Ar) (f2 : ME) (fa fb : MS) : MS := fun ρ m => if okM ρ m = true then (match mTry1 cns f ρ m with
    | .ok d m1 => (match (f2 ρ m1).bind fun y m2 => g ρ m2 (.v d) y with
      | .ok (.v (.bl k)) m3 => if k = true then fa ρ m3 else fb ρ m3
      | _ => .no)
    | _ => .no) else .no
section
variable {X : Cx} {P c : Addr}
theorem sw_iftry {k : Nat} {x : Str} {p lpos pos cp ip : Pos} {body tupE : Expr} {scope : Scope} {op : CmpOp} {r : R2} {g : Sl → Mm → Ar → Ar → Rs Ar} {sa sb : List Stmt} {cns : List Str} {f f2 : ME} {fa fb : MS} (G : GT1 (sg X) x k cns) (TB : TabB X.base X.mg c P) (hcode : X.env.code = .ref c)
    (hg : Gl X x) (hr : Room (k + 2) X.A) (hfn : ∀ y, X.fn y = true) (L : LamD X.env.scope scope X.N) (hfree : ∀ y ∈ scope.names, y.2 = .free → ∃ c, X.env.cells.lookup y.1 = some c)
    (hbody : ∀ (f' c : Addr) (A : Around) (outer : List Env) (s : Shared) (H : Hp) (E : XK), Room k (A.deeper (lamEnv X scope s.heap.objs.size f' c)) → PE (lamCx X A outer s H E scope f' c) body (tryT X.K X.mg f E))
    (ho : OpR X (compareOp op) r) (hs : OpS X.K X.mg (fun _ _ _ _ => False) r g) (h2 : PX X (fun _ _ _ _ => False) tupE f2) (hm : behindInMarks op tupE = false) (ha : PSsx X (fun _ _ _ _ => False) sa fa) (hb : PSsx X (fun _ _ _ _ => False) sb fb) (hdb : (x == ("__debug__" : Str)) = false := by decide) :
    PSW1 X P (.If (.Compare (.Call (.Name x p) [.Lambda ⟨[], [], none, [], [], none, []⟩ body scope lpos] [] pos) [op] [tupE] cp) sa sb ip) (mIfTry cns f g f2 fa fb) := by
  obtain ⟨gt, cs, Y1, Y2, Y3, Y4, hT, hmx, hk, Y, hC⟩ := G
  refine PSi (ps_if (pt_cmpR ho (pe_try1 hT TB hcode hg hmx hk hr hfn L hfree hbody hdb) h2 hm) ha hb) fun D σ H ⟨b, ρ, m, S, t, w⟩ => ?_
  unfold mIfTry at w
  by_cases ok : okM ρ m = true
  · rw [if_pos ok] at w
    obtain ⟨G, μ, s⟩ := S
    obtain ⟨t1, t2, t3⟩ := tab_at s t
    refine ⟨t1, fun H1 x1 T1 => ?_⟩
    obtain ⟨b', G', tb, s', _⟩ := rebase s ok x1 t2 t3 T1
    refine try1_want (b := b') (T := []) (R := fun d m1 => WantW X.K X.mg P (X.env.qual ++ "<lambda>") D (match (f2 ρ m1).bind fun y m2 => g ρ m2 (.v d) y with
      | .ok (.v (.bl k)) m3 => if k = true then fa ρ m3 else fb ρ m3
      | _ => .no)) Y hC ⟨G', μ, s'⟩ ?_ (fun d m1 w v H2 S2 => ?_)
    · revert w
      cases mTry1 cns f ρ m with
      | ok d m1 => exact id
      | ex x m1 => exact fun w => w.elim
      | no => exact fun w => w.elim
    · refine ⟨b', ρ, m1, [tv v d], S2, ?_⟩
      revert w
      cases f2 ρ m1 with
      | no => exact fun w => w.elim
      | ex x m2 => exact fun w => w.elim
      | ok y m2 =>
        intro w u H3 ⟨G3, μ3, s3⟩ hb3
        have w : WantW X.K X.mg P (X.env.qual ++ "<lambda>") D (match g ρ m2 (.v d) y with
          | .ok (.v (.bl k)) m3 => if k = true then fa ρ m3 else fb ρ m3
          | _ => .no) := w
        refine hs b' ρ m2 σ H3 [] G3 μ3 v u (.v d) y _ (St3.pops (S := tva u y) s3).pop (St3.pops (S := tva u y) s3).top (s3.ar (S := [tv v d]) hb3) ?_
        revert w
        cases g ρ m2 (.v d) y with
        | no => exact fun w => w.elim
        | ex x m3 => exact fun w => w.elim
        | ok z m3 =>
          cases z with
          | b j => exact fun w => w.elim
          | v z =>
            cases z with
            | bl kk =>
              intro w v4 H4 S4 _
              obtain ⟨G4, μ4, s4⟩ := S4
              have r4 := s4.top
              cases r4
              refine ⟨kk, rfl, ?_⟩
              cases kk with
              | true => exact ⟨b', ρ, m3, [], ⟨G4, μ4, s4.pop⟩, wantS_of tb w⟩
              | false => exact ⟨b', ρ, m3, [], ⟨G4, μ4, s4.pop⟩, wantS_of tb w⟩
            | _ => exact fun w => w.elim
  · rw [if_neg ok] at w
    exact w.elim
end
end M3
set_option Elab.async false
set_option linter.all false
set_option autoImplicit false
set_option maxRecDepth 100000
set_option maxHeartbeats 2000000
namespace M3
open PySem L2
section
variable {ρ : Sl} {m m1 : Mm} {fa fb fc f : ME} {g : Sl → Mm → Ar → Ar → Rs Ar} {g' : Sl → Mm → Ar → Ar → Rs Ar} {u : Sl → Mm → Ar → Rs Ar} {un : Sl → Mm → Ar → Rs Ob} {x y : Ar} {d d' : Dv} {ds es : List Dv} {a b : MS} {t t' : MB} {i j n k : Nat} {o o' : Ob} {cn fn mn : Str} {F : MF} {fs fk : MA} {it : MI} {tg : MG} {tgs : MGs} {vs : List Nat} {kk : Bool}
def kV (i : Nat) (m : Mm) : Option Cell → Rs Ar
  | some (.val d) => .ok (.v d) m
  | some (.own _) => .ok (.b i) m
  | _ => .no
theorem e_var : mVar i ρ m = kV i m ρ[i]? := by
  unfold mVar kV; cases ρ[i]? with
  | none => rfl
  | some c => cases c <;> rfl
theorem kV_val : kV i m (some (.val d)) = .ok (.v d) m := rfl
theorem kV_own : kV i m (some (.own o)) = .ok (.b i) m := rfl
theorem e_c : mC d ρ m = .ok (.v d) m := rfl
def kU (u : Sl → Mm → Ar → Rs Ar) (ρ : Sl) (r : Rs Ar) : Rs Ar := r.bind fun x m => u ρ m x
theorem e_un : mUn u fa ρ m = kU u ρ (fa ρ m) := rfl
theorem kU_ok : kU u ρ (.ok x m) = u ρ m x := rfl
theorem kU_ex : kU u ρ (.ex d m) = .ex d m := rfl
def kUN (u : Sl → Mm → Ar → Rs Ob) (ρ : Sl) (r : Rs Ar) : Rs Ob := r.bind fun x m => u ρ m x
theorem e_unN : mUnN un fa ρ m = kUN un ρ (fa ρ m) := rfl
theorem kUN_ok : kUN un ρ (.ok x m) = un ρ m x := rfl
theorem kUN_ex : kUN un ρ (.ex d m) = .ex d m := rfl
def kB1 (g : Sl → Mm → Ar → Ar → Rs Ar) (ρ : Sl) (x : Ar) (r : Rs Ar) : Rs Ar := r.bind fun y m => g ρ m x y
def kB2 (g : Sl → Mm → Ar → Ar → Rs Ar) (fb : ME) (ρ : Sl) (r : Rs Ar) : Rs Ar := r.bind fun x m1 => (fb ρ m1).bind fun y m2 => g ρ m2 x y
theorem e_bin : mBin g fa fb ρ m = kB2 g fb ρ (fa ρ m) := rfl
theorem kB2_ok : kB2 g fb ρ (.ok x m) = kB1 g ρ x (fb ρ m) := rfl
theorem kB2_ex : kB2 g fb ρ (.ex d m) = .ex d m := rfl
theorem kB1_ok : kB1 g ρ x (.ok y m) = g ρ m x y := rfl
theorem kB1_ex : kB1 g ρ x (.ex d m) = .ex d m := rfl
def kTr (ρ : Sl) (r : Rs Ar) : Rs Bool := r.bind fun x m1 => match truOf ρ m1 x with
  | some k => .ok k m1
  | none => .no
def kT1 (m : Mm) : Option Bool → Rs Bool
  | some k => .ok k m
  | none => .no
theorem e_tru : mTru fa ρ m = kTr ρ (fa ρ m) := rfl
theorem kTr_ok : kTr ρ (.ok x m) = kT1 m (truOf ρ m x) := rfl
theorem kTr_ex : kTr ρ (.ex d m) = .ex d m := rfl
theorem kT1_some : kT1 m (some kk) = .ok kk m := rfl
def kIB (r : Rs Ar) : Rs Bool := r.bind fun x m1 => match x with
  | .v (.bl k) => .ok k m1
  | _ => .no
theorem e_isB : mIsB fa ρ m = kIB (fa ρ m) := rfl
theorem kIB_ok : kIB (.ok (.v (.bl kk)) m) = .ok kk m := rfl
theorem kIB_ex : kIB (.ex d m) = .ex d m := rfl
def kNt (r : Rs Bool) : Rs Bool := r.bind fun k m1 => .ok (!k) m1
theorem e_not : mNot t ρ m = kNt (t ρ m) := rfl
theorem kNt_ok : kNt (.ok kk m) = .ok (!kk) m := rfl
theorem kNt_ex : kNt (.ex d m) = .ex d m := rfl
def kAB (t : MB) (ρ : Sl) (r : Rs Bool) : Rs Bool := r.bind fun k m1 => if k = true then t ρ m1 else .ok false m1
theorem e_andB : mAndB t t' ρ m = kAB t' ρ (t ρ m) := rfl
theorem kAB_t : kAB t ρ (.ok true m) = t ρ m := rfl
theorem kAB_f : kAB t ρ (.ok false m) = .ok false m := rfl
theorem kAB_ex : kAB t ρ (.ex d m) = .ex d m := rfl
def kOB (t : MB) (ρ : Sl) (r : Rs Bool) : Rs Bool := r.bind fun k m1 => if k = true then .ok true m1 else t ρ m1
theorem e_orB : mOrB t t' ρ m = kOB t' ρ (t ρ m) := rfl
theorem kOB_t : kOB t ρ (.ok true m) = .ok true m := rfl
theorem kOB_f : kOB t ρ (.ok false m) = t ρ m := rfl
theorem kOB_ex : kOB t ρ (.ex d m) = .ex d m := rfl
def kAV (f : ME) (ρ : Sl) (r : Rs Ar) : Rs Ar := r.bind fun x m1 => match truOf ρ m1 x with
  | some k => if k = true then f ρ m1 else .ok x m1
  | none => .no
def kAV1 (f : ME) (ρ : Sl) (m : Mm) (x : Ar) : Option Bool → Rs Ar
  | some k => if k = true then f ρ m else .ok x m
  | none => .no
theorem e_andV : mAndV fa fb ρ m = kAV fb ρ (fa ρ m) := rfl
theorem kAV_ok : kAV f ρ (.ok x m) = kAV1 f ρ m x (truOf ρ m x) := rfl
theorem kAV_ex : kAV f ρ (.ex d m) = .ex d m := rfl
theorem kAV1_t : kAV1 f ρ m x (some true) = f ρ m := rfl
theorem kAV1_f : kAV1 f ρ m x (some false) = .ok x m := rfl
def kOV (f : ME) (ρ : Sl) (r : Rs Ar) : Rs Ar := r.bind fun x m1 => match truOf ρ m1 x with
  | some k => if k = true then .ok x m1 else f ρ m1
  | none => .no
def kOV1 (f : ME) (ρ : Sl) (m : Mm) (x : Ar) : Option Bool → Rs Ar
  | some k => if k = true then .ok x m else f ρ m
  | none => .no
theorem e_orV : mOrV fa fb ρ m = kOV fb ρ (fa ρ m) := rfl
theorem kOV_ok : kOV f ρ (.ok x m) = kOV1 f ρ m x (truOf ρ m x) := rfl
theorem kOV_ex : kOV f ρ (.ex d m) = .ex d m := rfl
theorem kOV1_t : kOV1 f ρ m x (some true) = .ok x m := rfl
theorem kOV1_f : kOV1 f ρ m x (some false) = f ρ m := rfl
def kNV (ρ : Sl) (r : Rs Ar) : Rs Ar := r.bind fun x m1 => match truOf ρ m1 x with
  | some k => .ok (.v (.bl (!k))) m1
  | none => .no
def kNV1 (m : Mm) : Option Bool → Rs Ar
  | some k => .ok (.v (.bl (!k))) m
  | none => .no
theorem e_notV : mNotV fa ρ m = kNV ρ (fa ρ m) := rfl
theorem kNV_ok : kNV ρ (.ok x m) = kNV1 m (truOf ρ m x) := rfl
theorem kNV_ex : kNV ρ (.ex d m) = .ex d m := rfl
theorem kNV1_some : kNV1 m (some kk) = .ok (.v (.bl (!kk))) m := rfl
def kIf (f g : ME) (ρ : Sl) (r : Rs Bool) : Rs Ar := r.bind fun k m1 => if k = true then f ρ m1 else g ρ m1
theorem e_if : mIf t fa fb ρ m = kIf fa fb ρ (t ρ m) := rfl
theorem kIf_t : kIf fa fb ρ (.ok true m) = fa ρ m := rfl
theorem kIf_f : kIf fa fb ρ (.ok false m) = fb ρ m := rfl
theorem kIf_ex : kIf fa fb ρ (.ex d m) = .ex d m := rfl
def kC3 (g' : Sl → Mm → Ar → Ar → Rs Ar) (fc : ME) (ρ : Sl) (y : Ar) (r : Rs Ar) : Rs Ar := r.bind fun z m3 => match z with
  | .v (.bl k) => if k = true then (fc ρ m3).bind fun w m4 => g' ρ m4 y w else .ok (.v (.bl false)) m3
  | _ => .no
def kC2 (g g' : Sl → Mm → Ar → Ar → Rs Ar) (fc : ME) (ρ : Sl) (x : Ar) (r : Rs Ar) : Rs Ar := r.bind fun y m2 => kC3 g' fc ρ y (g ρ m2 x y)
def kC1 (g g' : Sl → Mm → Ar → Ar → Rs Ar) (fb fc : ME) (ρ : Sl) (r : Rs Ar) : Rs Ar := r.bind fun x m1 => kC2 g g' fc ρ x (fb ρ m1)
theorem e_chain : mChain g g' fa fb fc ρ m = kC1 g g' fb fc ρ (fa ρ m) := rfl
theorem kC1_ok : kC1 g g' fb fc ρ (.ok x m) = kC2 g g' fc ρ x (fb ρ m) := rfl
theorem kC2_ok : kC2 g g' fc ρ x (.ok y m) = kC3 g' fc ρ y (g ρ m x y) := rfl
theorem kC3_t : kC3 g' fc ρ y (.ok (.v (.bl true)) m) = kB1 g' ρ y (fc ρ m) := rfl
theorem kC3_f : kC3 g' fc ρ y (.ok (.v (.bl false)) m) = .ok (.v (.bl false)) m := rfl
def kFl1 (cn f : Str) (m : Mm) : Option (Str × List (Str × Dv)) → Rs Ar
  | some (c', fs) => if c' = cn then match fs.lookup f with
    | some d => .ok (.v d) m
    | none => .no
    else .no
  | none => .no
def kFl (cn f : Str) (ρ : Sl) (r : Rs Ar) : Rs Ar := r.bind fun x m1 => kFl1 cn f m1 (insOf ρ m1 x)
theorem e_fld : mFld cn fn fa ρ m = kFl cn fn ρ (fa ρ m) := by
  unfold mFld kFl; congr 1
theorem kFl_ok : kFl cn fn ρ (.ok x m) = kFl1 cn fn m (insOf ρ m x) := rfl
theorem kFl_ex : kFl cn fn ρ (.ex d m) = .ex d m := rfl
def kFl2 (m : Mm) : Option Dv → Rs Ar
  | some d => .ok (.v d) m
  | none => .no
theorem kFl1_some {ps : List (Str × Dv)} : kFl1 cn fn m (some (cn, ps)) = kFl2 m (ps.lookup fn) := by
  unfold kFl1; simp only [if_true]; cases ps.lookup fn <;> rfl
theorem kFl2_some : kFl2 m (some d) = .ok (.v d) m := rfl
theorem lk_ne {a b : Str} {r : List (Str × Dv)} (h : (a == b) = false) : List.lookup a ((b, d) :: r) = List.lookup a r := by simp [List.lookup, h]
theorem lk_eq {a : Str} {r : List (Str × Dv)} : List.lookup a ((a, d) :: r) = some d := by simp [List.lookup]
theorem e_nil : mNil ρ m = .ok [] m := rfl
def kCs2 (d : Dv) (r : Rs (List Dv)) : Rs (List Dv) := r.bind fun ds m2 => .ok (d :: ds) m2
def kCs1 (fs : MA) (ρ : Sl) (r : Rs Ar) : Rs (List Dv) := r.bind fun x m1 => match x with
  | .v d => kCs2 d (fs ρ m1)
  | .b _ => .no
theorem e_cons : mCons f fs ρ m = kCs1 fs ρ (f ρ m) := rfl
theorem kCs1_v : kCs1 fs ρ (.ok (.v d) m) = kCs2 d (fs ρ m) := rfl
theorem kCs1_ex : kCs1 fs ρ (.ex d m) = .ex d m := rfl
theorem kCs2_ok : kCs2 d (.ok ds m) = .ok (d :: ds) m := rfl
theorem kCs2_ex : kCs2 d (.ex d' m) = .ex d' m := rfl
def kTp (r : Rs (List Dv)) : Rs Ar := r.bind fun ds m1 => if ds.length ≤ sizeLine then .ok (.v (.tup ds)) m1 else .no
theorem e_tup : mTup fs ρ m = kTp (fs ρ m) := rfl
theorem kTp_ok (h : ds.length ≤ 16777216) : kTp (.ok ds m) = .ok (.v (.tup ds)) m := if_pos h
theorem kTp_ex : kTp (.ex d m) = .ex d m := rfl
def kLs (r : Rs (List Dv)) : Rs Ob := r.bind fun ds m1 => if ds.length ≤ sizeLine then .ok (.lst ds) m1 else .no
theorem e_lst : mLst fs ρ m = kLs (fs ρ m) := rfl
theorem kLs_ok (h : ds.length ≤ 16777216) : kLs (.ok ds m) = .ok (.lst ds) m := if_pos h
theorem kLs_ex : kLs (.ex d m) = .ex d m := rfl
def kFr (r : Rs Ob) : Rs Ar := r.bind fun o m1 => if obZ o = true then .ok (.v (obD o)) m1 else .no
theorem e_frz {p : MN} : mFrz p ρ m = kFr (p ρ m) := rfl
theorem kFr_lst (h : ds.length ≤ 16777216) : kFr (.ok (.lst ds) m) = .ok (.v (.lst ds)) m := by unfold kFr; rw [Rs.bind_ok, if_pos (show obZ (.lst ds) = true from decide_eq_true h)]; rfl
theorem kFr_dct {kvs : List (Key × Dv)} (h : kvs.length ≤ 16777216) : kFr (.ok (.dct kvs) m) = .ok (.v (.dct kvs)) m := by unfold kFr; rw [Rs.bind_ok, if_pos (show obZ (.dct kvs) = true from decide_eq_true h)]; rfl
theorem kFr_dcT {kvs : List (List Key × Dv)} (h : kvs.length ≤ 16777216) : kFr (.ok (.dcT kvs) m) = .ok (.v (.dcT kvs)) m := by unfold kFr; rw [Rs.bind_ok, if_pos (show obZ (.dcT kvs) = true from decide_eq_true h)]; rfl
theorem kFr_ins {ps : List (Str × Dv)} : kFr (.ok (.ins cn ps) m) = .ok (.v (.ins cn ps)) m := rfl
theorem kFr_ex : kFr (.ex d m) = .ex d m := rfl
def kCB (q : Sl → Mm → List Dv → Rs Ar) (ρ : Sl) (r : Rs (List Dv)) : Rs Ar := r.bind fun ds m1 => q ρ m1 ds
theorem e_cb {q : Sl → Mm → List Dv → Rs Ar} : mCB q fs ρ m = kCB q ρ (fs ρ m) := rfl
theorem kCB_ok {q : Sl → Mm → List Dv → Rs Ar} : kCB q ρ (.ok ds m) = q ρ m ds := rfl
theorem kCB_ex {q : Sl → Mm → List Dv → Rs Ar} : kCB q ρ (.ex d m) = .ex d m := rfl
theorem rsA_ok : rsA (.ok d m) = .ok (.v d) m := rfl
theorem rsA_ex : rsA (.ex d m) = .ex d m := rfl
def kCa (n : Nat) (F : MF) (r : Rs (List Dv)) : Rs Ar := r.bind fun ds m1 => if ds.length = n then rsA (F ds m1) else .no
theorem e_call : mCall n F fs ρ m = kCa n F (fs ρ m) := rfl
theorem kCa_ok (h : ds.length = n) : kCa n F (.ok ds m) = rsA (F ds m) := by unfold kCa; rw [Rs.bind_ok, if_pos h]
theorem kCa_ex : kCa n F (.ex d m) = .ex d m := rfl
def kMe3 (n : Nat) (F : MF) (d : Dv) (r : Rs (List Dv)) : Rs Ar := r.bind fun ds m2 => if ds.length + 1 = n then rsA (F (d :: ds) m2) else .no
def kMe2 (cn mn : Str) (n : Nat) (F : MF) (fs : MA) (ρ : Sl) (m : Mm) (d : Dv) : Option (Str × List (Str × Dv)) → Rs Ar
  | some (c', fl) => if c' = cn ∧ fl.lookup mn = none then kMe3 n F d (fs ρ m) else .no
  | none => .no
def kMe1 (cn mn : Str) (n : Nat) (F : MF) (fs : MA) (ρ : Sl) (r : Rs Ar) : Rs Ar := r.bind fun x m1 => match x with
  | .v d => kMe2 cn mn n F fs ρ m1 d (insOf ρ m1 (.v d))
  | .b _ => .no
theorem e_meth : mMeth cn mn n F fa fs ρ m = kMe1 cn mn n F fs ρ (fa ρ m) := by
  unfold mMeth kMe1; congr 1
theorem kMe1_v : kMe1 cn mn n F fs ρ (.ok (.v d) m) = kMe2 cn mn n F fs ρ m d (insOf ρ m (.v d)) := rfl
theorem kMe1_ex : kMe1 cn mn n F fs ρ (.ex d m) = .ex d m := rfl
def kMe2' (n : Nat) (F : MF) (fs : MA) (ρ : Sl) (m : Mm) (d : Dv) : Option Dv → Rs Ar
  | none => kMe3 n F d (fs ρ m)
  | some _ => .no
theorem kMe2_some {ps : List (Str × Dv)} : kMe2 cn mn n F fs ρ m d (some (cn, ps)) = kMe2' n F fs ρ m d (ps.lookup mn) := by
  unfold kMe2
  simp only []
  cases h : ps.lookup mn with
  | none => simp [kMe2']
  | some x => simp [kMe2']
theorem kMe2'_none : kMe2' n F fs ρ m d none = kMe3 n F d (fs ρ m) := rfl
theorem kMe3_ok (h : ds.length + 1 = n) : kMe3 n F d (.ok ds m) = rsA (F (d :: ds) m) := by unfold kMe3; rw [Rs.bind_ok, if_pos h]
theorem kMe3_ex : kMe3 n F d (.ex d' m) = .ex d' m := rfl
def kPr2 : Rs Dv → Rs Ar
  | .ok r m2 => .ok (.v r) m2
  | _ => .no
def kPr1 (cn : Str) (F : MF) (m : Mm) (d : Dv) : Option (Str × List (Str × Dv)) → Rs Ar
  | some (c', fl) => if c' = cn then kPr2 (F [d] m) else .no
  | none => .no
def kPr (cn : Str) (F : MF) (ρ : Sl) (r : Rs Ar) : Rs Ar := r.bind fun x m1 => match x with
  | .v d => kPr1 cn F m1 d (insOf ρ m1 (.v d))
  | .b _ => .no
theorem e_prop : mProp cn F fa ρ m = kPr cn F ρ (fa ρ m) := by
  unfold mProp kPr kPr1 kPr2; rfl
theorem kPr_v : kPr cn F ρ (.ok (.v d) m) = kPr1 cn F m d (insOf ρ m (.v d)) := rfl
theorem kPr_ex : kPr cn F ρ (.ex d m) = .ex d m := rfl
theorem kPr1_some {ps : List (Str × Dv)} : kPr1 cn F m d (some (cn, ps)) = kPr2 (F [d] m) := by unfold kPr1; exact if_pos rfl
theorem kPr2_ok : kPr2 (.ok d m) = .ok (.v d) m := rfl
theorem i_ins {ps : List (Str × Dv)} : insOf ρ m (.v (.ins cn ps)) = some (cn, ps) := rfl
def kMk (cn : Str) (n : Nat) (F : MF) (r : Rs (List Dv)) : Rs Ob := r.bind fun ds m1 => if ds.length + 1 = n ∧ pureL ds = true then mkEnd m1 (F (.loc 0 :: ds) [some (.ins cn [])]) else .no
theorem e_make : mMake cn n F fs ρ m = kMk cn n F (fs ρ m) := rfl
theorem kMk_ok (h : ds.length + 1 = n) (h2 : pureL ds = true) : kMk cn n F (.ok ds m) = mkEnd m (F (.loc 0 :: ds) [some (.ins cn [])]) := by unfold kMk; rw [Rs.bind_ok, if_pos ⟨h, h2⟩]
theorem kMk_ex : kMk cn n F (.ex d m) = .ex d m := rfl
theorem mkEnd_ok (h : pureO o = true) : mkEnd m (.ok .non [some o]) = .ok o m := by unfold mkEnd; exact if_pos h
def kAr2 (n k : Nat) (ds : List Dv) (r : Rs (List Dv)) : Rs (List Dv) := r.bind fun es m2 => if ds.length = n ∧ es.length = k then .ok (ds ++ es) m2 else .no
def kAr1 (n k : Nat) (fk : MA) (ρ : Sl) (r : Rs (List Dv)) : Rs (List Dv) := r.bind fun ds m1 => kAr2 n k ds (fk ρ m1)
theorem e_args : mArgs n k fs fk ρ m = kAr1 n k fk ρ (fs ρ m) := rfl
theorem kAr1_ok : kAr1 n k fk ρ (.ok ds m) = kAr2 n k ds (fk ρ m) := rfl
theorem kAr1_ex : kAr1 n k fk ρ (.ex d m) = .ex d m := rfl
theorem kAr2_ok (h : ds.length = n) (h2 : es.length = k) : kAr2 n k ds (.ok es m) = .ok (ds ++ es) m := by unfold kAr2; rw [Rs.bind_ok, if_pos ⟨h, h2⟩]
theorem kAr2_ex : kAr2 n k ds (.ex d m) = .ex d m := rfl
def kLo (r : Rs Ob) : Rs Ar := r.bind fun o m1 => .ok (.v (.loc m1.length)) (m1 ++ [some o])
theorem e_loc {p : MN} : mLoc p ρ m = kLo (p ρ m) := rfl
theorem kLo_ok : kLo (.ok o m) = .ok (.v (.loc m.length)) (m ++ [some o]) := rfl
def kSl3 (ρ : Sl) (x : Ar) (lo : Option Int) (r : Rs (Option Int)) : Rs Ar := r.bind fun hi m3 => gSl ρ m3 x lo hi
def kSl2 (fh : MO) (ρ : Sl) (x : Ar) (r : Rs (Option Int)) : Rs Ar := r.bind fun lo m2 => kSl3 ρ x lo (fh ρ m2)
def kSl1 (fl fh : MO) (ρ : Sl) (r : Rs Ar) : Rs Ar := r.bind fun x m1 => kSl2 fh ρ x (fl ρ m1)
theorem e_sl {fl fh : MO} : mSl fa fl fh ρ m = kSl1 fl fh ρ (fa ρ m) := rfl
theorem kSl1_ok {fl fh : MO} : kSl1 fl fh ρ (.ok x m) = kSl2 fh ρ x (fl ρ m) := rfl
theorem kSl1_ex {fl fh : MO} : kSl1 fl fh ρ (.ex d m) = .ex d m := rfl
theorem kSl2_ok {fh : MO} {lo : Option Int} : kSl2 fh ρ x (.ok lo m) = kSl3 ρ x lo (fh ρ m) := rfl
theorem kSl3_ok {lo hi : Option Int} : kSl3 ρ x lo (.ok hi m) = gSl ρ m x lo hi := rfl
theorem e_o0 : mO0 ρ m = .ok none m := rfl
def kO1 (r : Rs Ar) : Rs (Option Int) := r.bind fun x m1 => match x with
  | .v (.int i) => .ok (some i) m1
  | _ => .no
theorem e_o1 : mO1 fa ρ m = kO1 (fa ρ m) := rfl
theorem kO1_ok {z : Int} : kO1 (.ok (.v (.int z)) m) = .ok (some z) m := rfl
def kS0 (q : Str → Sl → Mm → Rs Ar) (ρ : Sl) (r : Rs Ar) : Rs Ar := r.bind fun x m1 => match x with
  | .v (.str a) => q a ρ m1
  | _ => .no
theorem e_s0 {q : Str → Sl → Mm → Rs Ar} : mS0 q fa ρ m = kS0 q ρ (fa ρ m) := rfl
theorem kS0_ok {q : Str → Sl → Mm → Rs Ar} {z : Str} : kS0 q ρ (.ok (.v (.str z)) m) = q z ρ m := rfl
def kS12 (q : Str → Sl → Mm → Ar → Rs Ar) (ρ : Sl) (a : Str) (r : Rs Ar) : Rs Ar := r.bind fun y m2 => q a ρ m2 y
def kS11 (q : Str → Sl → Mm → Ar → Rs Ar) (fb : ME) (ρ : Sl) (r : Rs Ar) : Rs Ar := r.bind fun x m1 => match x with
  | .v (.str a) => kS12 q ρ a (fb ρ m1)
  | _ => .no
theorem e_s1 {q : Str → Sl → Mm → Ar → Rs Ar} : mS1 q fa fb ρ m = kS11 q fb ρ (fa ρ m) := rfl
theorem kS11_ok {q : Str → Sl → Mm → Ar → Rs Ar} {z : Str} : kS11 q fb ρ (.ok (.v (.str z)) m) = kS12 q ρ z (fb ρ m) := rfl
theorem kS12_ok {q : Str → Sl → Mm → Ar → Rs Ar} {z : Str} : kS12 q ρ z (.ok x m) = q z ρ m x := rfl
def kFm (r : Rs Ar) : Rs Ar := r.bind fun x m1 => match x with
  | .v (.str y) => if y.length ≤ sizeLine then .ok (.v (.str y)) m1 else .no
  | .v (.int i) => if i.natAbs.log2 < 1920 then .ok (.v (.str (toString i))) m1 else .no
  | _ => .no
theorem e_fmt : mFmt fa ρ m = kFm (fa ρ m) := rfl
theorem kFm_str {z : Str} (h : z.length ≤ 16777216) : kFm (.ok (.v (.str z)) m) = .ok (.v (.str z)) m := by unfold kFm; rw [Rs.bind_ok]; exact if_pos h
theorem kFm_int {z : Int} (h : z.natAbs.log2 < 1920) : kFm (.ok (.v (.int z)) m) = .ok (.v (.str (toString z))) m := by unfold kFm; rw [Rs.bind_ok]; exact if_pos h
def kJ1 (fl : List ME) (acc : Str) (ρ : Sl) (r : Rs Ar) : Rs Str := r.bind fun x m1 => match x with
  | .v (.str y) => if (acc ++ y).length ≤ sizeLine then jsM fl (acc ++ y) ρ m1 else .no
  | _ => .no
theorem e_jsM {fl : List ME} {acc : Str} : jsM (f :: fl) acc ρ m = kJ1 fl acc ρ (f ρ m) := rfl
theorem e_jsN {acc : Str} : jsM [] acc ρ m = .ok acc m := rfl
theorem kJ1_ok {fl : List ME} {acc z : Str} (h : (acc ++ z).length ≤ 16777216) : kJ1 fl acc ρ (.ok (.v (.str z)) m) = jsM fl (acc ++ z) ρ m := by unfold kJ1; rw [Rs.bind_ok]; exact if_pos h
def kJs (r : Rs Str) : Rs Ar := r.bind fun s m1 => .ok (.v (.str s)) m1
theorem e_js {fl : List ME} : mJs fl ρ m = kJs (jsM fl Str.empty ρ m) := rfl
theorem kJs_ok {z : Str} : kJs (.ok z m) = .ok (.v (.str z)) m := rfl
def kG3 (ρ : Sl) (x : Ar) (y : Dv) (r : Rs Ar) : Rs Ar := r.bind fun z m3 => match z with
  | .v d => match dlook ρ m3 x (.v y) with
    | some (some r) => .ok (.v r) m3
    | some none => .ok (.v d) m3
    | none => .no
  | .b _ => .no
def kG3' (m : Mm) (d : Dv) : Option (Option Dv) → Rs Ar
  | some (some r) => .ok (.v r) m
  | some none => .ok (.v d) m
  | none => .no
def kG2 (fb : ME) (ρ : Sl) (x : Ar) (r : Rs Ar) : Rs Ar := r.bind fun y m2 => match y with
  | .v yd => kG3 ρ x yd (fb ρ m2)
  | .b _ => .no
def kG1 (fa fb : ME) (ρ : Sl) (r : Rs Ar) : Rs Ar := r.bind fun x m1 => if isDct ρ m1 x = true then kG2 fb ρ x (fa ρ m1) else .no
theorem e_get2 : mGet2 fa fb fc ρ m = kG1 fb fc ρ (fa ρ m) := by
  unfold mGet2 kG1; congr 1
theorem kG1_ok (h : isDct ρ m x = true) : kG1 fa fb ρ (.ok x m) = kG2 fb ρ x (fa ρ m) := by unfold kG1; rw [Rs.bind_ok, if_pos h]
theorem kG2_ok : kG2 fb ρ x (.ok (.v d) m) = kG3 ρ x d (fb ρ m) := rfl
theorem kG3_ok : kG3 ρ x d' (.ok (.v d) m) = kG3' m d (dlook ρ m x (.v d')) := rfl
theorem kG3_s : kG3' m d (some (some d')) = .ok (.v d') m := rfl
theorem kG3_n : kG3' m d (some none) = .ok (.v d) m := rfl
def kSq (b : MS) : RS → RS
  | .nx ρ m => b ρ m
  | .rt d m => .rt d m
  | .bk ρ m => .bk ρ m
  | .ct ρ m => .ct ρ m
  | .ex x ρ m => .ex x ρ m
  | .no => .no
theorem e_seq : mSeq a b ρ m = kSq b (a ρ m) := by unfold mSeq kSq; cases a ρ m <;> rfl
theorem kSq_nx : kSq b (.nx ρ m) = b ρ m := rfl
theorem kSq_rt : kSq b (.rt d m) = .rt d m := rfl
theorem kSq_bk : kSq b (.bk ρ m) = .bk ρ m := rfl
theorem kSq_ct : kSq b (.ct ρ m) = .ct ρ m := rfl
theorem kSq_ex : kSq b (.ex d ρ m) = .ex d ρ m := rfl
theorem e_next : mNext ρ m = .nx ρ m := rfl
theorem e_break : mBreak ρ m = .bk ρ m := rfl
theorem e_cont : mCont ρ m = .ct ρ m := rfl
def kIS (a b : MS) (ρ : Sl) (r : Rs Bool) : RS := r.st ρ fun k m1 => if k = true then a ρ m1 else b ρ m1
theorem e_ifS : mIfS t a b ρ m = kIS a b ρ (t ρ m) := rfl
theorem kIS_t : kIS a b ρ (.ok true m) = a ρ m := rfl
theorem kIS_f : kIS a b ρ (.ok false m) = b ρ m := rfl
theorem kIS_ex : kIS a b ρ (.ex d m) = .ex d ρ m := rfl
def kG (m : Mm) : Option Sl → RS
  | some ρ => .nx ρ m
  | none => .no
theorem kG_some : kG m (some ρ) = .nx ρ m := rfl
def kAs (tg : MG) (ρ : Sl) (r : Rs Ar) : RS := r.st ρ fun x m1 => match x with
  | .v d => kG m1 (tg d ρ)
  | .b _ => .no
theorem e_asg : mAsg fa tg ρ m = kAs tg ρ (fa ρ m) := by
  unfold mAsg kAs kG; rfl
theorem kAs_v : kAs tg ρ (.ok (.v d) m) = kG m (tg d ρ) := rfl
theorem kAs_ex : kAs tg ρ (.ex d m) = .ex d ρ m := rfl
theorem e_gn : mGn i d ρ = some (ρ.set i (.val d)) := rfl
theorem e_gnil : mGnil [] ρ = some ρ := rfl
def kGc (tgs : MGs) (ds : List Dv) : Option Sl → Option Sl
  | some ρ => tgs ds ρ
  | none => none
theorem e_gcons : mGcons tg tgs (d :: ds) ρ = kGc tgs ds (tg d ρ) := by
  unfold mGcons kGc
  first | rfl | (simp only []; cases tg d ρ <;> rfl) | simp only []
theorem kGc_some : kGc tgs ds (some ρ) = tgs ds ρ := rfl
theorem e_gt (h : ds.length = n) : mGt n tgs (.tup ds) ρ = tgs ds ρ := by unfold mGt tupOf; exact if_pos h
theorem e_gtk (h : ds.length = n) : mGt n tgs (.ktp ds) ρ = tgs ds ρ := by unfold mGt tupOf; exact if_pos h
def kAO (i : Nat) (ρ : Sl) (r : Rs Ob) : RS := r.st ρ fun o m1 => .nx (ρ.set i (.own o)) m1
theorem e_asgO {p : MN} : mAsgO i p ρ m = kAO i ρ (p ρ m) := rfl
theorem kAO_ok : kAO i ρ (.ok o m) = .nx (ρ.set i (.own o)) m := rfl
theorem kAO_ex : kAO i ρ (.ex d m) = .ex d ρ m := rfl
def kEx (ρ : Sl) (r : Rs Ar) : RS := r.st ρ fun _ m1 => .nx ρ m1
theorem e_expr : mExpr fa ρ m = kEx ρ (fa ρ m) := rfl
theorem kEx_ok : kEx ρ (.ok x m) = .nx ρ m := rfl
theorem kEx_ex : kEx ρ (.ex d m) = .ex d ρ m := rfl
def kRt (ρ : Sl) (r : Rs Ar) : RS := r.st ρ fun x m1 => match x with
  | .v d => .rt d m1
  | .b _ => .no
theorem e_ret : mRet fa ρ m = kRt ρ (fa ρ m) := rfl
theorem kRt_v : kRt ρ (.ok (.v d) m) = .rt d m := rfl
theorem kRt_ex : kRt ρ (.ex d m) = .ex d ρ m := rfl
theorem e_retN : mRetN ρ m = .rt .non m := rfl
def kFz (i : Nat) (a : MS) (ρ : Sl) (m : Mm) : Option Cell → RS
  | some (.own o) => if obZ o = true then a (ρ.set i (.val (obD o))) m else .no
  | _ => a ρ m
theorem e_fz : mFz i a ρ m = kFz i a ρ m ρ[i]? := by unfold mFz kFz; cases ρ[i]? with
  | none => rfl
  | some c => cases c <;> rfl
theorem kFz_lst (h : ds.length ≤ 16777216) : kFz i a ρ m (some (.own (.lst ds))) = a (ρ.set i (.val (.lst ds))) m := by unfold kFz; exact if_pos (decide_eq_true h)
theorem kFz_dct {kvs : List (Key × Dv)} (h : kvs.length ≤ 16777216) : kFz i a ρ m (some (.own (.dct kvs))) = a (ρ.set i (.val (.dct kvs))) m := by unfold kFz; exact if_pos (decide_eq_true h)
theorem kFz_val : kFz i a ρ m (some (.val d)) = a ρ m := rfl
theorem kFz_un : kFz i a ρ m (some .un) = a ρ m := rfl
theorem fin_nx : (RS.nx ρ m).fin = .ok .non m := rfl
theorem fin_rt : (RS.rt d m).fin = .ok d m := rfl
theorem fin_ex : (RS.ex d ρ m).fin = .ex d m := rfl
def kFo (tg : MG) (a : MS) (ρ : Sl) (r : Rs (List Dv)) : RS := r.st ρ fun ds m1 => forL tg a ds ρ m1
theorem e_for : mFor it tg a ρ m = kFo tg a ρ (it ρ m) := rfl
theorem kFo_ok : kFo tg a ρ (.ok ds m) = forL tg a ds ρ m := rfl
theorem kFo_ex : kFo tg a ρ (.ex d m) = .ex d ρ m := rfl
def kF2 (tg : MG) (a : MS) (ds : List Dv) : RS → RS
  | .nx ρ m => forL tg a ds ρ m
  | .ct ρ m => forL tg a ds ρ m
  | .bk ρ m => .nx ρ m
  | .rt d m => .rt d m
  | .ex x ρ m => .ex x ρ m
  | .no => .no
def kF1 (tg : MG) (a : MS) (ds : List Dv) (m : Mm) : Option Sl → RS
  | some ρ => kF2 tg a ds (a ρ m)
  | none => .no
theorem e_forN : forL tg a [] ρ m = .nx ρ m := rfl
theorem e_forC : forL tg a (d :: ds) ρ m = kF1 tg a ds m (tg d ρ) := by
  show (match tg d ρ with | none => _ | some ρ1 => _) = _
  unfold kF1
  cases tg d ρ with
  | none => rfl
  | some ρ1 => unfold kF2; simp only []; cases a ρ1 m <;> rfl
theorem kF1_some : kF1 tg a ds m (some ρ) = kF2 tg a ds (a ρ m) := rfl
theorem kF2_nx : kF2 tg a ds (.nx ρ m) = forL tg a ds ρ m := rfl
theorem kF2_ct : kF2 tg a ds (.ct ρ m) = forL tg a ds ρ m := rfl
theorem kF2_bk : kF2 tg a ds (.bk ρ m) = .nx ρ m := rfl
theorem kF2_rt : kF2 tg a ds (.rt d m) = .rt d m := rfl
theorem kF2_ex : kF2 tg a ds (.ex d ρ m) = .ex d ρ m := rfl
def kW2 (t : MB) (a : MS) (n : Nat) : RS → RS
  | .nx ρ m => whileN t a n ρ m
  | .ct ρ m => whileN t a n ρ m
  | .bk ρ m => .nx ρ m
  | .rt d m => .rt d m
  | .ex x ρ m => .ex x ρ m
  | .no => .no
def kW1 (t : MB) (a : MS) (n : Nat) (ρ : Sl) : Rs Bool → RS
  | .ok k m => if k = true then kW2 t a n (a ρ m) else .nx ρ m
  | .ex x m => .ex x ρ m
  | .no => .no
theorem kW1_t : kW1 t a n ρ (.ok true m) = kW2 t a n (a ρ m) := rfl
theorem kW1_f : kW1 t a n ρ (.ok false m) = .nx ρ m := rfl
theorem kW1_ex : kW1 t a n ρ (.ex d m) = .ex d ρ m := rfl
theorem kW2_nx : kW2 t a n (.nx ρ m) = whileN t a n ρ m := rfl
theorem kW2_ct : kW2 t a n (.ct ρ m) = whileN t a n ρ m := rfl
theorem kW2_bk : kW2 t a n (.bk ρ m) = .nx ρ m := rfl
theorem kW2_rt : kW2 t a n (.rt d m) = .rt d m := rfl
theorem kW2_ex : kW2 t a n (.ex d ρ m) = .ex d ρ m := rfl
def kIA (r : Rs Ar) : Rs (List Dv) := r.bind fun x m1 => match itOf x with
  | some ds => .ok ds m1
  | none => .no
def kI1 (m : Mm) : Option (List Dv) → Rs (List Dv)
  | some ds => .ok ds m
  | none => .no
theorem e_itA : mItA fa ρ m = kIA (fa ρ m) := rfl
theorem kIA_ok : kIA (.ok x m) = kI1 m (itOf x) := rfl
theorem kIA_ex : kIA (.ex d m) = .ex d m := rfl
theorem kI1_some : kI1 m (some ds) = .ok ds m := rfl
def kIE (r : Rs Ar) : Rs (List Dv) := r.bind fun x m1 => match enOf x with
  | some ds => .ok (numD ds) m1
  | none => .no
def kI2 (m : Mm) : Option (List Dv) → Rs (List Dv)
  | some ds => .ok (numD ds) m
  | none => .no
theorem e_en : mEn fa ρ m = kIE (fa ρ m) := rfl
theorem kIE_ok : kIE (.ok x m) = kI2 m (enOf x) := rfl
theorem kI2_some : kI2 m (some ds) = .ok (numD ds) m := rfl
theorem it_lst : itOf (.v (.lst ds)) = some ds := rfl
theorem it_tup : itOf (.v (.tup ds)) = some ds := rfl
theorem it_ktp (h : ds.length ≤ 16777216) : itOf (.v (.ktp ds)) = some ds := if_pos h
theorem it_dct {kvs : List (Key × Dv)} : itOf (.v (.dct kvs)) = some (kvs.map fun p => kD p.1) := rfl
theorem en_lst : enOf (.v (.lst ds)) = some ds := rfl
theorem en_tup : enOf (.v (.tup ds)) = some ds := rfl
def kR1 (r : Rs (List Dv)) : Rs (List Dv) := r.bind fun ds m1 => match ds with
  | [.int j] => if -(2 ^ 62) ≤ j ∧ j < 2 ^ 62 ∧ j.toNat ≤ sizeLine then .ok (rngD 0 j.toNat) m1 else .no
  | _ => .no
theorem e_rng1 : mRng1 fs ρ m = kR1 (fs ρ m) := rfl
theorem kR1_ok {z : Int} (h : 0 ≤ z) (h2 : z ≤ 16777216) : kR1 (.ok [.int z] m) = .ok (rngD 0 z.toNat) m := by
  unfold kR1; rw [Rs.bind_ok]; exact if_pos ⟨by omega, by omega, by show z.toNat ≤ 16777216; omega⟩
def kR2 (r : Rs (List Dv)) : Rs (List Dv) := r.bind fun ds m1 => match ds with
  | [.int i, .int j] => if (-(2 ^ 62) ≤ i ∧ i < 2 ^ 62 ∧ -(2 ^ 62) ≤ j ∧ j < 2 ^ 62) ∧ (j - i).toNat ≤ sizeLine then .ok (rngD i (j - i).toNat) m1 else .no
  | _ => .no
theorem e_rng2 : mRng2 fs ρ m = kR2 (fs ρ m) := rfl
theorem kR2_ok {z w : Int} (h : -1000000 ≤ z ∧ z ≤ 1000000) (h2 : -1000000 ≤ w ∧ w ≤ 1000000) : kR2 (.ok [.int z, .int w] m) = .ok (rngD z (w - z).toNat) m := by
  unfold kR2; rw [Rs.bind_ok]; exact if_pos ⟨by omega, by show (w - z).toNat ≤ 16777216; omega⟩
theorem w_1 : wipeR ρ [i] = ρ.set i .un := rfl
theorem w_2 : wipeR ρ [i, j] = (ρ.set j .un).set i .un := rfl
theorem w_3 {l : Nat} : wipeR ρ [i, j, l] = ((ρ.set l .un).set j .un).set i .un := rfl
theorem e_yes : mYes ρ m = .ok true m := rfl
def kLc2 : Rs (List Dv) → Rs Ob
  | .ok ys m2 => .ok (.lst ys) m2
  | _ => .no
def kLc1 (vs : List Nat) (tg : MG) (t : MB) (f : ME) (ρ : Sl) (r : Rs (List Dv)) : Rs Ob := r.bind fun ds m1 => kLc2 (lcL tg t f (wipeR ρ vs) ds m1)
theorem e_lc : mLc vs it tg t f ρ m = kLc1 vs tg t f ρ (it ρ m) := by
  unfold mLc kLc1; congr 1
theorem kLc1_ok : kLc1 vs tg t f ρ (.ok ds m) = kLc2 (lcL tg t f (wipeR ρ vs) ds m) := rfl
theorem kLc1_ex : kLc1 vs tg t f ρ (.ex d m) = .ex d m := rfl
theorem kLc2_ok : kLc2 (.ok ds m) = .ok (.lst ds) m := rfl
def kl4 (y : Dv) : Rs (List Dv) → Rs (List Dv)
  | .ok ys m3 => .ok (y :: ys) m3
  | _ => .no
def kl3 (tg : MG) (t : MB) (f : ME) (ρ : Sl) (ds : List Dv) : Rs Ar → Rs (List Dv)
  | .ok (.v y) m2 => kl4 y (lcL tg t f ρ ds m2)
  | _ => .no
def kl2 (tg : MG) (t : MB) (f : ME) (ρ ρ1 : Sl) (ds : List Dv) : Rs Bool → Rs (List Dv)
  | .ok k m1 => if k = true then kl3 tg t f ρ ds (f ρ1 m1) else lcL tg t f ρ ds m1
  | _ => .no
def kl1 (tg : MG) (t : MB) (f : ME) (ρ : Sl) (ds : List Dv) (m : Mm) : Option Sl → Rs (List Dv)
  | none => .no
  | some ρ1 => kl2 tg t f ρ ρ1 ds (t ρ1 m)
theorem e_lcN : lcL tg t f ρ [] m = .ok [] m := rfl
theorem e_lcC : lcL tg t f ρ (d :: ds) m = kl1 tg t f ρ ds m (tg d ρ) := by
  show (match tg d ρ with | none => _ | some ρ1 => _) = _
  unfold kl1
  cases tg d ρ with
  | none => rfl
  | some ρ1 =>
    simp only []
    unfold kl2
    cases t ρ1 m with
    | no => rfl
    | ex x m => rfl
    | ok k m1 =>
      cases k with
      | false => rfl
      | true =>
        simp only [if_true]
        unfold kl3
        cases f ρ1 m1 with
        | no => rfl
        | ex x m => rfl
        | ok y m2 =>
          cases y with
          | b i => rfl
          | v y =>
            simp only []
            unfold kl4
            cases lcL tg t f ρ ds m2 <;> rfl
theorem kl1_some {ρ1 : Sl} : kl1 tg t f ρ ds m (some ρ1) = kl2 tg t f ρ ρ1 ds (t ρ1 m) := rfl
theorem kl2_t {ρ1 : Sl} : kl2 tg t f ρ ρ1 ds (.ok true m) = kl3 tg t f ρ ds (f ρ1 m) := rfl
theorem kl2_f {ρ1 : Sl} : kl2 tg t f ρ ρ1 ds (.ok false m) = lcL tg t f ρ ds m := rfl
theorem kl3_ok : kl3 tg t f ρ ds (.ok (.v d) m) = kl4 d (lcL tg t f ρ ds m) := rfl
theorem kl4_ok : kl4 d (.ok ds m) = .ok (d :: ds) m := rfl
theorem lcL_map {α : Type} {e : α → Dv} {p : α → Bool} {h : α → Dv} : ∀ {xs : List α}, (∀ z ∈ xs, ∃ ρ1, tg (e z) ρ = some ρ1 ∧ t ρ1 m = .ok (p z) m ∧ (p z = true → f ρ1 m = .ok (.v (h z)) m)) → lcL tg t f ρ (xs.map e) m = .ok ((xs.filter p).map h) m
  | [], _ => rfl
  | z :: xs, H => by
    obtain ⟨ρ1, h1, h2, h3⟩ := H z (by simp)
    have ih := lcL_map (xs := xs) (fun w hw => H w (by simp [hw]))
    rw [List.map_cons, e_lcC, h1, kl1_some, h2, List.filter_cons]
    cases hp : p z with
    | false => rw [kl2_f, ih]; simp
    | true => rw [kl2_t, h3 hp, kl3_ok, ih]; simp [kl4_ok]
theorem lcL_all {α : Type} {e : α → Dv} {h : α → Dv} {xs : List α} (H : ∀ z ∈ xs, ∃ ρ1, tg (e z) ρ = some ρ1 ∧ t ρ1 m = .ok true m ∧ f ρ1 m = .ok (.v (h z)) m) : lcL tg t f ρ (xs.map e) m = .ok (xs.map h) m := by
  have := lcL_map (p := fun _ => true) (h := h) (fun z hz => let ⟨r, a, b, c⟩ := H z hz; ⟨r, a, b, fun _ => c⟩)
  rw [this, List.filter_eq_self.mpr (fun _ _ => rfl)]
def kMb : Option Cell → Option Ob
  | some (.own o) => some o
  | _ => none
def kMo : Option (Option Ob) → Option Ob
  | some (some o) => some o
  | _ => none
theorem mb_b : mobOf ρ m (.b i) = kMb ρ[i]? := rfl
theorem kMb_some : kMb (some (.own o)) = some o := rfl
theorem mb_l : mobOf ρ m (.v (.loc n)) = kMo m[n]? := rfl
theorem kMo_some : kMo (some (some o)) = some o := rfl
theorem mp_b : mobPut ρ m (.b i) o = some (ρ.set i (.own o), m) := rfl
theorem mp_loc : mobPut ρ m (.v (.loc n)) o = some (ρ, m.set n (some o)) := rfl
def kM6 (k : Dv → Sl → Mm → RS) (d : Dv) : Option (Sl × Mm) → RS
  | some (ρ', m') => k d ρ' m'
  | none => .no
def kM5 (k : Dv → Sl → Mm → RS) (ρ : Sl) (m : Mm) (x : Ar) : Option (Ob × Dv) → RS
  | some (o', d) => kM6 k d (mobPut ρ m x o')
  | none => .no
def kM4 (g : Ob → List Dv → Option (Ob × Dv)) (k : Dv → Sl → Mm → RS) (ρ : Sl) (m : Mm) (x : Ar) (ds : List Dv) : Option Ob → RS
  | some o2 => kM5 k ρ m x (g o2 ds)
  | none => .no
def kM3 (g : Ob → List Dv → Option (Ob × Dv)) (k : Dv → Sl → Mm → RS) (ρ : Sl) (x : Ar) (r : Rs (List Dv)) : RS := r.st ρ fun ds m2 => kM4 g k ρ m2 x ds (mobOf ρ m2 x)
def kM2 (t : String) (g : Ob → List Dv → Option (Ob × Dv)) (fs : MA) (k : Dv → Sl → Mm → RS) (ρ : Sl) (m : Mm) (x : Ar) : Option Ob → RS
  | some o => if tyOb t o = true then kM3 g k ρ x (fs ρ m) else .no
  | none => .no
def kM1 (t : String) (g : Ob → List Dv → Option (Ob × Dv)) (fs : MA) (k : Dv → Sl → Mm → RS) (ρ : Sl) (r : Rs Ar) : RS := r.st ρ fun x m1 => kM2 t g fs k ρ m1 x (mobOf ρ m1 x)
def mutK : Dv → Sl → Mm → RS := fun _ ρ m => .nx ρ m
theorem mutK_ap : mutK d ρ m = .nx ρ m := rfl
def mutA (i : Nat) : Dv → Sl → Mm → RS := fun d ρ m => .nx (ρ.set i (.val d)) m
theorem mutA_ap : mutA i d ρ m = .nx (ρ.set i (.val d)) m := rfl
theorem mutK_eq {ty : String} {q : Ob → List Dv → Option (Ob × Dv)} {k : Dv → Sl → Mm → RS} : mMutK ty q fa fs k ρ m = kM1 ty q fs k ρ (fa ρ m) := rfl
theorem e_mut {ty : String} {q : Ob → List Dv → Option (Ob × Dv)} : mMut ty q fa fs ρ m = kM1 ty q fs mutK ρ (fa ρ m) := mutK_eq
theorem e_mutA {ty : String} {q : Ob → List Dv → Option (Ob × Dv)} : mMutA ty q fa fs i ρ m = kM1 ty q fs (mutA i) ρ (fa ρ m) := mutK_eq
theorem kM1_ok {ty : String} {q : Ob → List Dv → Option (Ob × Dv)} {k : Dv → Sl → Mm → RS} : kM1 ty q fs k ρ (.ok x m) = kM2 ty q fs k ρ m x (mobOf ρ m x) := rfl
theorem kM2_lst {q : Ob → List Dv → Option (Ob × Dv)} {k : Dv → Sl → Mm → RS} : kM2 "list" q fs k ρ m x (some (.lst ds)) = kM3 q k ρ x (fs ρ m) := by
  show (if tyOb "list" (.lst ds) = true then kM3 q k ρ x (fs ρ m) else .no) = _
  exact if_pos (by simp [tyOb])
theorem kM2_dct {q : Ob → List Dv → Option (Ob × Dv)} {k : Dv → Sl → Mm → RS} {kvs : List (Key × Dv)} : kM2 "dict" q fs k ρ m x (some (.dct kvs)) = kM3 q k ρ x (fs ρ m) := by
  show (if tyOb "dict" (.dct kvs) = true then kM3 q k ρ x (fs ρ m) else .no) = _
  exact if_pos (by simp [tyOb])
theorem kM3_ok {q : Ob → List Dv → Option (Ob × Dv)} {k : Dv → Sl → Mm → RS} : kM3 q k ρ x (.ok ds m) = kM4 q k ρ m x ds (mobOf ρ m x) := rfl
theorem kM3_ex {q : Ob → List Dv → Option (Ob × Dv)} {k : Dv → Sl → Mm → RS} : kM3 q k ρ x (.ex d m) = .ex d ρ m := rfl
theorem kM4_some {q : Ob → List Dv → Option (Ob × Dv)} {k : Dv → Sl → Mm → RS} : kM4 q k ρ m x ds (some o) = kM5 k ρ m x (q o ds) := rfl
theorem kM5_some {k : Dv → Sl → Mm → RS} : kM5 k ρ m x (some (o, d)) = kM6 k d (mobPut ρ m x o) := rfl
theorem kM6_some {k : Dv → Sl → Mm → RS} : kM6 k d (some (ρ, m)) = k d ρ m := rfl
theorem g_app (h : ds.length < 16777216) : gApp (.lst ds) [d] = some (.lst (ds ++ [d]), .non) := if_pos h
theorem g_ins {z : Int} (h : ds.length < 16777216) (h2 : 0 ≤ z) (h3 : z < 16777216) : gIns (.lst ds) [.int z, d] = some (.lst (ds.take z.toNat ++ [d] ++ ds.drop z.toNat), .non) := if_pos ⟨h, h2, by omega⟩
def kX6 : Option (Sl × Mm) → RS
  | some (ρ', m') => .nx ρ' m'
  | none => .no
def kX5 (ρ : Sl) (m : Mm) (x : Ar) : Option Ob → RS
  | some o' => kX6 (mobPut ρ m x o')
  | none => .no
def kX4 (ρ : Sl) (m : Mm) (x : Ar) (i d : Dv) : Option Ob → RS
  | some o => kX5 ρ m x (gSetIx o i d)
  | none => .no
def kX3 (ρ : Sl) (d : Dv) (x : Ar) (r : Rs Ar) : RS := r.st ρ fun y m2 => match y with
  | .b _ => .no
  | .v i => kX4 ρ m2 x i d (mobOf ρ m2 x)
def kX2 (fi : ME) (ρ : Sl) (d : Dv) (r : Rs Ar) : RS := r.st ρ fun x m1 => kX3 ρ d x (fi ρ m1)
def kX1 (fo fi : ME) (ρ : Sl) (r : Rs Ar) : RS := r.st ρ fun z m0 => match z with
  | .b _ => .no
  | .v d => kX2 fi ρ d (fo ρ m0)
theorem e_setIx : mSetIx fa fb fc ρ m = kX1 fb fc ρ (fa ρ m) := rfl
theorem kX1_v : kX1 fb fc ρ (.ok (.v d) m) = kX2 fc ρ d (fb ρ m) := rfl
theorem kX1_ex : kX1 fb fc ρ (.ex d m) = .ex d ρ m := rfl
theorem kX2_ok : kX2 fc ρ d (.ok x m) = kX3 ρ d x (fc ρ m) := rfl
theorem kX3_v : kX3 ρ d x (.ok (.v d') m) = kX4 ρ m x d' d (mobOf ρ m x) := rfl
theorem kX4_some : kX4 ρ m x d' d (some o) = kX5 ρ m x (gSetIx o d' d) := rfl
theorem kX5_some : kX5 ρ m x (some o) = kX6 (mobPut ρ m x o) := rfl
theorem kX6_some : kX6 (some (ρ, m)) = .nx ρ m := rfl
def kS3 : Option (Sl × Mm) → RS
  | some (ρ', m') => .nx ρ' m'
  | none => .no
def kS2 (cn f : Str) (ρ : Sl) (m : Mm) (d : Dv) (x : Ar) : Option Ob → RS
  | some (.ins c' fs) => if c' = cn ∧ fs.length < 1000 then kS3 (mobPut ρ m x (.ins c' (fput f d fs))) else .no
  | _ => .no
def kS1b (cn f : Str) (ρ : Sl) (d : Dv) (r : Rs Ar) : RS := r.st ρ fun x m1 => kS2 cn f ρ m1 d x (mobOf ρ m1 x)
def kS1a (cn f : Str) (fo : ME) (ρ : Sl) (r : Rs Ar) : RS := r.st ρ fun z m0 => match z with
  | .b _ => .no
  | .v d => kS1b cn f ρ d (fo ρ m0)
theorem e_stF : mStF cn fn fa fb ρ m = kS1a cn fn fb ρ (fa ρ m) := rfl
theorem kS1a_v : kS1a cn fn fb ρ (.ok (.v d) m) = kS1b cn fn ρ d (fb ρ m) := rfl
theorem kS1a_ex : kS1a cn fn fb ρ (.ex d m) = .ex d ρ m := rfl
theorem kS1b_ok : kS1b cn fn ρ d (.ok x m) = kS2 cn fn ρ m d x (mobOf ρ m x) := rfl
theorem kS2_ins {ps : List (Str × Dv)} (h : ps.length < 1000) : kS2 cn fn ρ m d x (some (.ins cn ps)) = kS3 (mobPut ρ m x (.ins cn (fput fn d ps))) := if_pos ⟨rfl, h⟩
theorem kS3_some : kS3 (some (ρ, m)) = .nx ρ m := rfl
def kAu2 (i : Nat) (q : Int → Int → Int) (z : Int) (ρ : Sl) (r : Rs Ar) : RS := r.st ρ fun x m1 => match x with
  | .v (.int b) => .nx (ρ.set i (.val (.int (q z b)))) m1
  | _ => .no
def kAu (i : Nat) (q : Int → Int → Int) (f : ME) (ρ : Sl) (m : Mm) : Option Cell → RS
  | some (.val (.int a)) => kAu2 i q a ρ (f ρ m)
  | _ => .no
theorem e_aug {q : Int → Int → Int} : mAug i q f ρ m = kAu i q f ρ m ρ[i]? := by
  unfold mAug kAu
  cases ρ[i]? with
  | none => rfl
  | some c => cases c with
    | val d => cases d <;> rfl
    | _ => rfl
theorem kAu_some {q : Int → Int → Int} {z : Int} : kAu i q f ρ m (some (.val (.int z))) = kAu2 i q z ρ (f ρ m) := rfl
theorem kAu2_ok {q : Int → Int → Int} {z w : Int} : kAu2 i q z ρ (.ok (.v (.int w)) m) = .nx (ρ.set i (.val (.int (q z w)))) m := rfl
theorem e_cnil : mCNil ρ m = .ok [] m := rfl
def kC2b (c : Cell) (r : Rs (List Cell)) : Rs (List Cell) := r.bind fun ys m2 => .ok (c :: ys) m2
def kCv (p : MC) (ρ : Sl) (r : Rs Ar) : Rs (List Cell) := r.bind fun x m1 => match x with
  | .v d => kC2b (.val d) (p ρ m1)
  | .b _ => .no
def kCo (p : MC) (ρ : Sl) (r : Rs Ob) : Rs (List Cell) := r.bind fun o m1 => kC2b (.own o) (p ρ m1)
theorem e_cv {p : MC} : mCV f p ρ m = kCv p ρ (f ρ m) := rfl
theorem e_co {p : MC} {q : MN} : mCO q p ρ m = kCo p ρ (q ρ m) := rfl
theorem kCv_v {p : MC} : kCv p ρ (.ok (.v d) m) = kC2b (.val d) (p ρ m) := rfl
theorem kCo_ok {p : MC} : kCo p ρ (.ok o m) = kC2b (.own o) (p ρ m) := rfl
theorem kC2b_ok {c : Cell} {ys : List Cell} : kC2b c (.ok ys m) = .ok (c :: ys) m := rfl
def kPa (i j : Nat) (ρ : Sl) (r : Rs (List Cell)) : RS := r.st ρ fun ys m1 => match ys with
  | [x, y] => if isUn x = false ∧ isUn y = false then .nx ((ρ.set i x).set j y) m1 else .no
  | _ => .no
theorem e_par {p : MC} : mPar i j p ρ m = kPa i j ρ (p ρ m) := rfl
theorem kPa_vv : kPa i j ρ (.ok [.val d, .val d'] m) = .nx ((ρ.set i (.val d)).set j (.val d')) m := rfl
theorem kPa_vo : kPa i j ρ (.ok [.val d, .own o] m) = .nx ((ρ.set i (.val d)).set j (.own o)) m := rfl
theorem kPa_ov : kPa i j ρ (.ok [.own o, .val d] m) = .nx ((ρ.set i (.own o)).set j (.val d)) m := rfl
theorem kPa_oo : kPa i j ρ (.ok [.own o, .own o'] m) = .nx ((ρ.set i (.own o)).set j (.own o')) m := rfl
def kDc2 : Rs (List (Key × Dv)) → Rs Ob
  | .ok ys m2 => .ok (.dct ys) m2
  | _ => .no
def kDc1 (vs : List Nat) (tg : MG) (t : MB) (fa fb : ME) (ρ : Sl) (r : Rs (List Dv)) : Rs Ob := r.bind fun ds m1 => kDc2 (dcL tg t fa fb (wipeR ρ vs) ds [] m1)
theorem e_dc : mDc vs it tg t fa fb ρ m = kDc1 vs tg t fa fb ρ (it ρ m) := by
  unfold mDc kDc1; congr 1
theorem kDc1_ok : kDc1 vs tg t fa fb ρ (.ok ds m) = kDc2 (dcL tg t fa fb (wipeR ρ vs) ds [] m) := rfl
theorem kDc2_ok {ys : List (Key × Dv)} : kDc2 (.ok ys m) = .ok (.dct ys) m := rfl
def kSs2 : Rs (List Dv) → Rs Ob
  | .ok ys m2 => match intsD ys with
    | some ns => .ok (.lst ((sortU ns).map .int)) m2
    | none => .no
  | _ => .no
def kSs1 (vs : List Nat) (tg : MG) (t : MB) (f : ME) (ρ : Sl) (r : Rs (List Dv)) : Rs Ob := r.bind fun ds m1 => if ds.length < 64 then kSs2 (lcL tg t f (wipeR ρ vs) ds m1) else .no
theorem e_ssc : mSortSc vs it tg t f ρ m = kSs1 vs tg t f ρ (it ρ m) := by
  unfold mSortSc kSs1; congr 1
theorem kSs1_ok (h : ds.length < 64) : kSs1 vs tg t f ρ (.ok ds m) = kSs2 (lcL tg t f (wipeR ρ vs) ds m) := by unfold kSs1; rw [Rs.bind_ok, if_pos h]
theorem intsD_map : ∀ ns : List Int, intsD (ns.map .int) = some ns
  | [] => rfl
  | n :: ns => by simp [intsD, intsD_map ns]
theorem kSs2_ok {ns : List Int} : kSs2 (.ok (ns.map .int) m) = .ok (.lst ((sortU ns).map .int)) m := by unfold kSs2; simp only [intsD_map]
end
end M3
set_option Elab.async false
set_option linter.all false
set_option autoImplicit false
set_option maxRecDepth 100000
set_option maxHeartbeats 2000000
namespace M3
open PySem L2
section
variable {ρ : Sl} {m : Mm} {x y : Ar} {d d' : Dv} {ds es : List Dv} {i j : Int} {s z : Str} {p q : Bool} {k n : Nat} {kvs : List (Key × Dv)} {cn : Str} {ps : List (Str × Dv)}
def kOL : Option Cell → Option (List Dv)
  | some (.own (.lst ds)) => some ds
  | _ => none
theorem lo_lst : lstOf ρ m (.v (.lst ds)) = some ds := rfl
theorem lo_tup : lstOf ρ m (.v (.tup ds)) = none := rfl
theorem lo_ktp : lstOf ρ m (.v (.ktp ds)) = none := rfl
theorem lo_str : lstOf ρ m (.v (.str s)) = none := rfl
theorem lo_int : lstOf ρ m (.v (.int i)) = none := rfl
theorem lo_b : lstOf ρ m (.b k) = kOL ρ[k]? := rfl
theorem kOL_some : kOL (some (.own (.lst ds))) = some ds := rfl
def kML : Option (Option Ob) → Option (List Dv)
  | some (some (.lst ds)) => some ds
  | _ => none
theorem lo_loc : lstOf ρ m (.v (.loc k)) = kML m[k]? := rfl
theorem kML_some : kML (some (some (.lst ds))) = some ds := rfl
def kIL : Option (Option Ob) → Option (Str × List (Str × Dv))
  | some (some (.ins c fs)) => some (c, fs)
  | _ => none
theorem i_loc : insOf ρ m (.v (.loc k)) = kIL m[k]? := rfl
theorem kIL_some : kIL (some (some (.ins cn ps))) = some (cn, ps) := rfl
def kIO : Option Cell → Option (Str × List (Str × Dv))
  | some (.own (.ins c fs)) => some (c, fs)
  | _ => none
theorem i_b : insOf ρ m (.b k) = kIO ρ[k]? := rfl
theorem kIO_some : kIO (some (.own (.ins cn ps))) = some (cn, ps) := rfl
theorem fp_nil {f : Str} : fput f d [] = [(f, d)] := rfl
theorem fp_ne {f g : Str} {r : List (Str × Dv)} (h : (g == f) = false) : fput f d ((g, d') :: r) = (g, d') :: fput f d r := by
  show (if g = f then _ else _) = _
  rw [if_neg (by simpa using h)]
theorem so_lst : seqOf ρ m (.v (.lst ds)) = some ds := rfl
theorem so_tup : seqOf ρ m (.v (.tup ds)) = some ds := rfl
theorem so_ktp : seqOf ρ m (.v (.ktp ds)) = some ds := rfl
theorem so_b : seqOf ρ m (.b k) = kOL ρ[k]? := by unfold seqOf; rw [lo_b]; cases kOL ρ[k]? <;> rfl
theorem so_loc : seqOf ρ m (.v (.loc k)) = kML m[k]? := by unfold seqOf; rw [lo_loc]; cases kML m[k]? <;> rfl
theorem g_int0 {g : Int → Int → Dv} : gInt0 g ρ m (.v (.int i)) (.v (.int j)) = .ok (.v (g i j)) m := rfl
theorem g_neg {g : Int → Dv} : gUn g ρ m (.v (.int i)) = .ok (.v (g i)) m := rfl
theorem log_lt {x : Int} (h : x.natAbs < 2 ^ 64) : x.natAbs.log2 < 64 := by
  by_cases hx : x.natAbs = 0
  · rw [hx]; decide
  · exact (Nat.log2_lt hx).mpr h
theorem g_fdiv (h : 0 < j) (h2 : j < 18446744073709551616) : gFdiv ρ m (.v (.int i)) (.v (.int j)) = .ok (.v (.int (i / j))) m := by
  have hl := log_lt (x := j) (by omega)
  exact if_pos ⟨h, by omega⟩
theorem g_mod (h : 0 < j) : gMod ρ m (.v (.int i)) (.v (.int j)) = .ok (.v (.int (i % j))) m := if_pos h
theorem g_mul (h : -18446744073709551616 < j ∧ j < 18446744073709551616) : gMul ρ m (.v (.int i)) (.v (.int j)) = .ok (.v (.int (i * j))) m := if_pos (.inr (.inr ⟨by omega, by omega⟩))
theorem g_pow18 : gPow ρ m (.v (.int 10)) (.v (.int 18)) = .ok (.v (.int 1000000000000000000)) m := rfl
theorem g_pow9 : gPow ρ m (.v (.int 10)) (.v (.int 9)) = .ok (.v (.int 1000000000)) m := rfl
theorem g_pow12 : gPow ρ m (.v (.int 10)) (.v (.int 12)) = .ok (.v (.int 1000000000000)) m := rfl
theorem g_add_i : gAdd ρ m (.v (.int i)) (.v (.int j)) = .ok (.v (.int (i + j))) m := rfl
theorem g_add_s (h : s.length + z.length ≤ 16777216) : gAdd ρ m (.v (.str s)) (.v (.str z)) = .ok (.v (.str (s ++ z))) m := if_pos h
theorem g_add_l (h : ds.length + es.length ≤ 16777216) : gAdd ρ m (.v (.lst ds)) (.v (.lst es)) = .ok (.v (.lst (ds ++ es))) m := if_pos h
theorem g_add_t (h : ds.length + es.length ≤ 16777216) (h2 : ds.isEmpty = false) : gAdd ρ m (.v (.tup ds)) (.v (.tup es)) = .ok (.v (.tup (ds ++ es))) m := if_pos ⟨h2, h⟩
theorem g_mul_l (h : 0 ≤ j) (h2 : j < 1000) (h3 : ds.length < 1000) : gMul ρ m (.v (.lst ds)) (.v (.int j)) = .ok (.v (.lst (List.replicate j.toNat ds).flatten)) m := by
  refine if_pos ⟨by omega, by omega, ?_⟩
  show ds.length * j.toNat ≤ 16777216
  have : ds.length * j.toNat ≤ 1000 * 1000 := Nat.mul_le_mul (by omega) (by omega)
  omega
theorem g_eq_i : gEq ρ m (.v (.int i)) (.v (.int j)) = .ok (.v (.bl (i == j))) m := by
  show Rs.ok (Ar.v (.bl (decide (V.int i = V.int j)))) m = _; rw [dec_int]
theorem g_ne_i : gNe ρ m (.v (.int i)) (.v (.int j)) = .ok (.v (.bl (!(i == j)))) m := by
  show Rs.ok (Ar.v (.bl (!decide (V.int i = V.int j)))) m = _; rw [dec_int]
theorem g_eq_s : gEq ρ m (.v (.str s)) (.v (.str z)) = .ok (.v (.bl (s == z))) m := by
  show Rs.ok (Ar.v (.bl (decide (V.str s = V.str z)))) m = _; rw [dec_str]
theorem g_ne_s : gNe ρ m (.v (.str s)) (.v (.str z)) = .ok (.v (.bl (!(s == z)))) m := by
  show Rs.ok (Ar.v (.bl (!decide (V.str s = V.str z)))) m = _; rw [dec_str]
theorem g_eq_b : gEq ρ m (.v (.bl p)) (.v (.bl q)) = .ok (.v (.bl (p == q))) m := by
  show Rs.ok (Ar.v (.bl (decide (V.bl p = V.bl q)))) m = _; rw [dec_bl]
theorem g_ne_b : gNe ρ m (.v (.bl p)) (.v (.bl q)) = .ok (.v (.bl (!(p == q)))) m := by
  show Rs.ok (Ar.v (.bl (!decide (V.bl p = V.bl q)))) m = _; rw [dec_bl]
theorem g_eq_si : gEq ρ m (.v (.str s)) (.v (.int i)) = .ok (.v (.bl false)) m := by
  show Rs.ok (Ar.v (.bl (decide (V.str s = V.int i)))) m = _; rw [decide_eq_false (fun h => nomatch h)]
theorem g_eq_py {P Q : PyData} (h1 : aV x = none ∨ aV y = none) (h2 : pyOf ρ m x = some P) (h3 : pyOf ρ m y = some Q) (h4 : SeqAt.shaped P = true) (h5 : SeqAt.shaped Q = true) : gEq ρ m x y = .ok (.v (.bl (PyData.eqv P Q))) m := by
  unfold gEq eqOf
  rcases h1 with h1 | h1
  · rw [h1]; simp only [h2, h3, h4, h5, and_self, if_true]
  · rw [h1]
    cases aV x <;> simp only [h2, h3, h4, h5, and_self, if_true]
theorem g_ne_py {P Q : PyData} (h1 : aV x = none ∨ aV y = none) (h2 : pyOf ρ m x = some P) (h3 : pyOf ρ m y = some Q) (h4 : SeqAt.shaped P = true) (h5 : SeqAt.shaped Q = true) : gNe ρ m x y = .ok (.v (.bl (!PyData.eqv P Q))) m := by
  unfold gNe eqOf
  rcases h1 with h1 | h1
  · rw [h1]; simp only [h2, h3, h4, h5, and_self, if_true]
  · rw [h1]
    cases aV x <;> simp only [h2, h3, h4, h5, and_self, if_true]
theorem g_is_non : gIsN false ρ m (.v .non) (.v .non) = .ok (.v (.bl true)) m := rfl
theorem g_isnt_non : gIsN true ρ m (.v .non) (.v .non) = .ok (.v (.bl false)) m := rfl
theorem g_is_bl : gIsN false ρ m (.v (.bl p)) (.v .non) = .ok (.v (.bl false)) m := rfl
theorem g_isnt_bl : gIsN true ρ m (.v (.bl p)) (.v .non) = .ok (.v (.bl true)) m := rfl
theorem g_is_int : gIsN false ρ m (.v (.int i)) (.v .non) = .ok (.v (.bl false)) m := rfl
theorem g_isnt_int : gIsN true ρ m (.v (.int i)) (.v .non) = .ok (.v (.bl true)) m := rfl
theorem g_is_str : gIsN false ρ m (.v (.str s)) (.v .non) = .ok (.v (.bl false)) m := rfl
theorem g_isnt_str : gIsN true ρ m (.v (.str s)) (.v .non) = .ok (.v (.bl true)) m := rfl
theorem g_is_lst : gIsN false ρ m (.v (.lst ds)) (.v .non) = .ok (.v (.bl false)) m := rfl
theorem g_isnt_lst : gIsN true ρ m (.v (.lst ds)) (.v .non) = .ok (.v (.bl true)) m := rfl
theorem g_is_tup : gIsN false ρ m (.v (.tup ds)) (.v .non) = .ok (.v (.bl false)) m := rfl
theorem g_isnt_tup : gIsN true ρ m (.v (.tup ds)) (.v .non) = .ok (.v (.bl true)) m := rfl
theorem g_is_ktp : gIsN false ρ m (.v (.ktp ds)) (.v .non) = .ok (.v (.bl false)) m := rfl
theorem g_isnt_ktp : gIsN true ρ m (.v (.ktp ds)) (.v .non) = .ok (.v (.bl true)) m := rfl
theorem g_is_ins : gIsN false ρ m (.v (.ins cn ps)) (.v .non) = .ok (.v (.bl false)) m := rfl
theorem g_isnt_ins : gIsN true ρ m (.v (.ins cn ps)) (.v .non) = .ok (.v (.bl true)) m := rfl
theorem tr_non : truOf ρ m (.v .non) = some false := rfl
theorem tr_bl : truOf ρ m (.v (.bl p)) = some p := rfl
theorem tr_int : truOf ρ m (.v (.int i)) = some (i != 0) := rfl
theorem tr_lst : truOf ρ m (.v (.lst ds)) = some (!ds.isEmpty) := rfl
theorem tr_tup : truOf ρ m (.v (.tup ds)) = some (!ds.isEmpty) := rfl
theorem g_len_l : gLen ρ m (.v (.lst ds)) = .ok (.v (.int (ds.length : Nat))) m := rfl
theorem g_len_t : gLen ρ m (.v (.tup ds)) = .ok (.v (.int (ds.length : Nat))) m := rfl
theorem g_len_k : gLen ρ m (.v (.ktp ds)) = .ok (.v (.int (ds.length : Nat))) m := rfl
def kLn (m : Mm) : Option (List Dv) → Rs Ar
  | some ds => .ok (.v (.int (ds.length : Nat))) m
  | none => .no
theorem g_len_b : gLen ρ m (.b k) = kLn m (kOL ρ[k]?) := by
  unfold gLen lenOf; simp only []; rw [so_b]; cases kOL ρ[k]? <;> rfl
theorem kLn_some : kLn m (some ds) = .ok (.v (.int (ds.length : Nat))) m := rfl
theorem g_len_s (h : s.length ≤ 16777216) : gLen ρ m (.v (.str s)) = .ok (.v (.int (s.length : Nat))) m := by
  unfold gLen lenOf; simp only []; rw [if_pos (show s.length ≤ sizeLine from h)]
def kIx (m : Mm) : Option Dv → Rs Ar
  | some d => .ok (.v d) m
  | none => .no
theorem kIx_some : kIx m (some d) = .ok (.v d) m := rfl
theorem g_ix_l : gIx ρ m (.v (.lst ds)) (.v (.int i)) = kIx m (atI ds i) := by
  unfold gIx; show (match atI ds i with | some d => _ | none => _) = _; unfold kIx; cases atI ds i <;> rfl
theorem g_ix_t : gIx ρ m (.v (.tup ds)) (.v (.int i)) = kIx m (atI ds i) := by
  unfold gIx; show (match atI ds i with | some d => _ | none => _) = _; unfold kIx; cases atI ds i <;> rfl
theorem g_ix_k : gIx ρ m (.v (.ktp ds)) (.v (.int i)) = kIx m (atI ds i) := by
  unfold gIx; show (match atI ds i with | some d => _ | none => _) = _; unfold kIx; cases atI ds i <;> rfl
def kIl (m : Mm) (i : Int) : Option (Option Ob) → Rs Ar
  | some (some (.lst ds)) => kIx m (atI ds i)
  | some (some (.dct kvs)) => kIx m (dget kvs (.inl i))
  | _ => .no
theorem kIl_some : kIl m i (some (some (.lst ds))) = kIx m (atI ds i) := rfl
theorem g_ix_loc : gIx ρ m (.v (.loc k)) (.v (.int i)) = kIl m i m[k]? := by
  unfold gIx dlook dctOf dcTOf keyOf tkeyOf seqOf lstOf tupOf kIl kIx
  simp only [keyD]
  cases m[k]? with
  | none => rfl
  | some o =>
    cases o with
    | none => rfl
    | some o =>
      cases o with
      | lst ds => first | rfl | (simp only []; cases atI ds i <;> rfl) | simp only []
      | dct kvs => first | rfl | (simp only []; cases dget kvs (.inl i) <;> rfl) | simp only []
      | _ => rfl
def kIb (m : Mm) (i : Int) : Option Cell → Rs Ar
  | some (.own (.lst ds)) => kIx m (atI ds i)
  | some (.own (.dct kvs)) => kIx m (dget kvs (.inl i))
  | _ => .no
theorem kIb_lst : kIb m i (some (.own (.lst ds))) = kIx m (atI ds i) := rfl
theorem kIb_dct : kIb m i (some (.own (.dct kvs))) = kIx m (dget kvs (.inl i)) := rfl
theorem g_ix_b : gIx ρ m (.b k) (.v (.int i)) = kIb m i ρ[k]? := by
  unfold gIx dlook dctOf dcTOf keyOf tkeyOf seqOf lstOf tupOf kIb kIx
  simp only [keyD]
  cases ρ[k]? with
  | none => rfl
  | some o =>
    cases o with
    | own o =>
      cases o with
      | lst ds => first | rfl | (simp only []; cases atI ds i <;> rfl) | simp only []
      | dct kvs => first | rfl | (simp only []; cases dget kvs (.inl i) <;> rfl) | simp only []
      | _ => rfl
    | _ => rfl
theorem g_ix_ds : gIx ρ m (.v (.dct kvs)) (.v (.str s)) = kIx m (dget kvs (.inr s)) := by
  unfold gIx; show (match some (dget kvs (.inr s)) with | some (some d) => _ | some none => _ | none => _) = _
  unfold kIx; cases dget kvs (.inr s) <;> rfl
theorem g_ix_di : gIx ρ m (.v (.dct kvs)) (.v (.int i)) = kIx m (dget kvs (.inl i)) := by
  unfold gIx; show (match some (dget kvs (.inl i)) with | some (some d) => _ | some none => _ | none => _) = _
  unfold kIx; cases dget kvs (.inl i) <;> rfl
theorem at_nat {α : Type} {xs : List α} {k : Nat} : atI xs ((k : Nat) : Int) = xs[k]? := by
  unfold atI ixN
  rw [if_pos (Int.natCast_nonneg k)]
  by_cases h : k < xs.length
  · rw [if_pos (by omega)]; rfl
  · rw [if_neg (by omega), List.getElem?_eq_none (by omega)]; rfl
theorem at_0 {α : Type} {a : α} {xs : List α} : atI (a :: xs) 0 = some a := at_nat (k := 0)
theorem at_1 {α : Type} {a b : α} {xs : List α} : atI (a :: b :: xs) 1 = some b := at_nat (k := 1)
theorem at_2 {α : Type} {a b c : α} {xs : List α} : atI (a :: b :: c :: xs) 2 = some c := at_nat (k := 2)
theorem at_3 {α : Type} {a b c d : α} {xs : List α} : atI (a :: b :: c :: d :: xs) 3 = some d := at_nat (k := 3)
theorem at_4 {α : Type} {a b c d e : α} {xs : List α} : atI (a :: b :: c :: d :: e :: xs) 4 = some e := at_nat (k := 4)
theorem ix_0 {n : Nat} : ixN (n + 1) 0 = some 0 := by unfold ixN; rw [if_pos (by omega), if_pos (by omega)]; rfl
theorem ix_1 {n : Nat} : ixN (n + 2) 1 = some 1 := by unfold ixN; rw [if_pos (by omega), if_pos (by omega)]; rfl
theorem ix_2 {n : Nat} : ixN (n + 3) 2 = some 2 := by unfold ixN; rw [if_pos (by omega), if_pos (by omega)]; rfl
theorem ix_3 {n : Nat} : ixN (n + 4) 3 = some 3 := by unfold ixN; rw [if_pos (by omega), if_pos (by omega)]; rfl
theorem ix_4 {n : Nat} : ixN (n + 5) 4 = some 4 := by unfold ixN; rw [if_pos (by omega), if_pos (by omega)]; rfl
def kSx (ds : List Dv) (d : Dv) : Option Nat → Option Ob
  | some j => some (.lst (ds.set j d))
  | none => none
theorem s_ix : gSetIx (.lst ds) (.int i) d = kSx ds d (ixN ds.length i) := by
  unfold gSetIx kSx
  first | rfl | (simp only []; cases ixN ds.length i <;> rfl) | simp only []
theorem kSx_some : kSx ds d (some k) = some (.lst (ds.set k d)) := rfl
theorem s_dct_s (h : kvs.length < 16777216) : gSetIx (.dct kvs) (.str s) d = some (.dct (dput kvs (.inr s) d)) := if_pos h
theorem s_dct_i (h : kvs.length < 16777216) : gSetIx (.dct kvs) (.int i) d = some (.dct (dput kvs (.inl i) d)) := if_pos h
theorem kG1_d {fa fb : ME} : kG1 fa fb ρ (.ok (.v (.dct kvs)) m) = kG2 fb ρ (.v (.dct kvs)) (fa ρ m) := kG1_ok rfl
theorem kG1_dT {fa fb : ME} {kts : List (List Key × Dv)} : kG1 fa fb ρ (.ok (.v (.dcT kts)) m) = kG2 fb ρ (.v (.dcT kts)) (fa ρ m) := kG1_ok rfl
theorem dl_s : dlook ρ m (.v (.dct kvs)) (.v (.str s)) = some (dget kvs (.inr s)) := rfl
theorem dl_i : dlook ρ m (.v (.dct kvs)) (.v (.int i)) = some (dget kvs (.inl i)) := rfl
def kIn (neg : Bool) (m : Mm) : Option Bool → Rs Ar
  | some k => .ok (.v (.bl (if neg = true then !k else k))) m
  | none => .no
theorem g_in {neg : Bool} : gIn neg ρ m x y = kIn neg m (inOf ρ m x y) := by unfold gIn kIn; cases inOf ρ m x y <;> rfl
theorem kIn_f : kIn false m (some p) = .ok (.v (.bl p)) m := rfl
theorem kIn_t : kIn true m (some p) = .ok (.v (.bl (!p))) m := rfl
theorem vOfs_str : ∀ xs : List Str, vOfs (xs.map .str) = some (xs.map V.str)
  | [] => rfl
  | x :: xs => by simp only [List.map_cons, vOfs, vOf, vOfs_str xs]
theorem vOfs_int : ∀ xs : List Int, vOfs (xs.map .int) = some (xs.map V.int)
  | [] => rfl
  | x :: xs => by simp only [List.map_cons, vOfs, vOf, vOfs_int xs]
theorem inV_str : ∀ xs : List Str, inV (.str s) (xs.map V.str) = xs.any (· == s)
  | [] => rfl
  | x :: xs => by
    have ih := inV_str xs
    unfold inV at ih ⊢
    rw [List.map_cons, List.any_cons, List.any_cons, ih]; rfl
theorem inV_int : ∀ xs : List Int, inV (.int i) (xs.map V.int) = xs.any (· == i)
  | [] => rfl
  | x :: xs => by
    have ih := inV_int xs
    unfold inV at ih ⊢
    rw [List.map_cons, List.any_cons, List.any_cons, ih]; rfl
theorem flat_str (xs : List Str) : (xs.map V.str).all flatV = true := by simp [flatV]
theorem flat_int (xs : List Int) : (xs.map V.int).all flatV = true := by simp [flatV]
theorem in_str_l {xs : List Str} : inOf ρ m (.v (.str s)) (.v (.lst (xs.map .str))) = some (xs.any (· == s)) := by
  show (match some (V.str s), (some (xs.map Dv.str)).bind vOfs with | some v, some vs => _ | _, _ => _) = _
  simp only [Option.bind_some, vOfs_str, flat_str, flatV, and_self, if_true, inV_str]
theorem in_str_t {xs : List Str} : inOf ρ m (.v (.str s)) (.v (.tup (xs.map .str))) = some (xs.any (· == s)) := by
  show (match some (V.str s), (some (xs.map Dv.str)).bind vOfs with | some v, some vs => _ | _, _ => _) = _
  simp only [Option.bind_some, vOfs_str, flat_str, flatV, and_self, if_true, inV_str]
theorem in_str_k {xs : List Str} : inOf ρ m (.v (.str s)) (.v (.ktp (xs.map .str))) = some (xs.any (· == s)) := by
  show (match some (V.str s), (some (xs.map Dv.str)).bind vOfs with | some v, some vs => _ | _, _ => _) = _
  simp only [Option.bind_some, vOfs_str, flat_str, flatV, and_self, if_true, inV_str]
theorem in_int_l {xs : List Int} : inOf ρ m (.v (.int i)) (.v (.lst (xs.map .int))) = some (xs.any (· == i)) := by
  show (match some (V.int i), (some (xs.map Dv.int)).bind vOfs with | some v, some vs => _ | _, _ => _) = _
  simp only [Option.bind_some, vOfs_int, flat_int, flatV, and_self, if_true, inV_int]
theorem in_dct_s : inOf ρ m (.v (.str s)) (.v (.dct kvs)) = some (dget kvs (.inr s)).isSome := rfl
theorem in_dct_i : inOf ρ m (.v (.int i)) (.v (.dct kvs)) = some (dget kvs (.inl i)).isSome := rfl
theorem g_sl_l {lo hi : Option Int} (h : ds.length ≤ 16777216) : gSl ρ m (.v (.lst ds)) lo hi = .ok (.v (.lst (cutD ds lo hi))) m := by
  unfold gSl; rw [lo_lst]; exact if_pos h
theorem g_sl_t {lo hi : Option Int} : gSl ρ m (.v (.tup ds)) lo hi = .ok (.v (.tup (cutD ds lo hi))) m := rfl
theorem g_sl_scr {ns : List Int} {lo hi : Option Int} (h : ns.length ≤ 16777216) : gSl ρ m (.v (.scr ns)) lo hi = .ok (.v (.lst (cutD (ns.map .int) lo hi))) m := if_pos h
def kSb (m : Mm) (lo hi : Option Int) : Option (List Dv) → Rs Ar
  | some ds => if ds.length ≤ sizeLine then .ok (.v (.lst (cutD ds lo hi))) m else .no
  | none => .no
theorem g_sl_b {lo hi : Option Int} : gSl ρ m (.b k) lo hi = kSb m lo hi (kOL ρ[k]?) := by
  unfold gSl kSb
  first | (rw [lo_b]; done) | (rw [lo_b]; cases kOL ρ[k]? <;> rfl)
theorem kSb_some {lo hi : Option Int} (h : ds.length ≤ 16777216) : kSb m lo hi (some ds) = .ok (.v (.lst (cutD ds lo hi))) m := if_pos h
theorem cut_take : cutD ds none (some ((k : Nat) : Int)) = ds.take k := by
  unfold cutD; rw [HT.sIx_none, HT.sIx_nat, List.drop_zero, Nat.sub_zero]
  by_cases h : k ≤ ds.length
  · rw [Nat.min_eq_left h]
  · rw [Nat.min_eq_right (by omega), List.take_length, List.take_of_length_le (by omega)]
theorem cut_drop : cutD ds (some ((k : Nat) : Int)) none = ds.drop k := by
  unfold cutD; rw [HT.sIx_none, HT.sIx_nat]
  by_cases h : k ≤ ds.length
  · rw [Nat.min_eq_left h, List.take_of_length_le (by simp)]
  · rw [Nat.min_eq_right (by omega), Nat.sub_self, List.take_zero, List.drop_eq_nil_of_le (by omega)]
theorem g_list_l : gList ρ m (.v (.lst ds)) = .ok (.lst ds) m := rfl
theorem g_list_t : gList ρ m (.v (.tup ds)) = .ok (.lst ds) m := rfl
theorem g_list_k : gList ρ m (.v (.ktp ds)) = .ok (.lst ds) m := rfl
theorem g_list_s {ns : List Int} : gList ρ m (.v (.scr ns)) = .ok (.lst (ns.map .int)) m := rfl
def kGl (m : Mm) : Option (List Dv) → Rs Ob
  | some ds => .ok (.lst ds) m
  | none => .no
theorem g_list_b : gList ρ m (.b k) = kGl m (kOL ρ[k]?) := by unfold gList allOf; simp only []; rw [so_b]; cases kOL ρ[k]? <;> rfl
theorem kGl_some : kGl m (some ds) = .ok (.lst ds) m := rfl
theorem g_tup_l (h : ds.length ≤ 16777216) : gTuple ρ m (.v (.lst ds)) = .ok (.v (.tup ds)) m := by unfold gTuple; rw [lo_lst]; exact if_pos h
theorem g_tup_t : gTuple ρ m (.v (.tup ds)) = .ok (.v (.tup ds)) m := rfl
theorem g_int1 : gInt1 ρ m (.v (.int i)) = .ok (.v (.int i)) m := rfl
theorem g_str1 (h : i.natAbs.log2 < 1920) : gStr1 ρ m (.v (.int i)) = .ok (.v (.str (toString i))) m := if_pos h
theorem blsD_map {α : Type} {q : α → Bool} : ∀ xs : List α, blsD (xs.map fun z => .bl (q z)) = some (xs.map q)
  | [] => rfl
  | x :: xs => by simp [blsD, blsD_map xs]
theorem intsD_mp {α : Type} {q : α → Int} : ∀ xs : List α, intsD (xs.map fun z => .int (q z)) = some (xs.map q)
  | [] => rfl
  | x :: xs => by simp [intsD, intsD_mp xs]
theorem strsD_mp {α : Type} {q : α → Str} : ∀ xs : List α, strsD (xs.map fun z => .str (q z)) = some (xs.map q)
  | [] => rfl
  | x :: xs => by simp [strsD, strsD_mp xs]
theorem g_all {α : Type} {q : α → Bool} {xs : List α} : gAll ρ m (.v (.lst (xs.map fun z => .bl (q z)))) = .ok (.v (.bl (xs.all q))) m := by
  unfold gAll gOnL; rw [lo_lst, Option.bind_some, blsD_map]; simp only [List.all_map]; rfl
theorem g_any {α : Type} {q : α → Bool} {xs : List α} : gAny ρ m (.v (.lst (xs.map fun z => .bl (q z)))) = .ok (.v (.bl (xs.any q))) m := by
  unfold gAny gOnL; rw [lo_lst, Option.bind_some, blsD_map]; simp only [List.any_map]; rfl
theorem g_sum {α : Type} {q : α → Int} {xs : List α} : gSum ρ m (.v (.lst (xs.map fun z => .int (q z)))) = .ok (.v (.int (xs.map q).sum)) m := by
  unfold gSum gOnL; rw [lo_lst, Option.bind_some, intsD_mp]
theorem g_join_l {α : Type} {q : α → Str} {xs : List α} (h : ((xs.map q).map (·.length)).sum + (xs.map q).length * s.length ≤ 16777216) : gJoin s ρ m (.v (.lst (xs.map fun z => .str (q z)))) = .ok (.v (.str (Txt.join s (xs.map q)))) m := by
  unfold gJoin; rw [so_lst, Option.bind_some, strsD_mp]; exact if_pos h
theorem isi_lst_list : gIsi ρ m [(.lst ds), .ty "list"] = .ok (.v (.bl true)) m := by simp [gIsi, tyD, okT, isT]
theorem isi_lst_tuple : gIsi ρ m [(.lst ds), .ty "tuple"] = .ok (.v (.bl false)) m := by simp [gIsi, tyD, okT, isT]
theorem isi_lst_bool : gIsi ρ m [(.lst ds), .ty "bool"] = .ok (.v (.bl false)) m := by simp [gIsi, tyD, okT, isT]
theorem isi_lst_int : gIsi ρ m [(.lst ds), .ty "int"] = .ok (.v (.bl false)) m := by simp [gIsi, tyD, okT, isT]
theorem isi_lst_str : gIsi ρ m [(.lst ds), .ty "str"] = .ok (.v (.bl false)) m := by simp [gIsi, tyD, okT, isT]
theorem isi_lst_dict : gIsi ρ m [(.lst ds), .ty "dict"] = .ok (.v (.bl false)) m := by simp [gIsi, tyD, okT, isT]
theorem isi_lst_lt : gIsi ρ m [(.lst ds), .tup [.ty "list", .ty "tuple"]] = .ok (.v (.bl true)) m := by simp [gIsi, tyD, tysD, okT, isT]
theorem isi_tup_list : gIsi ρ m [(.tup ds), .ty "list"] = .ok (.v (.bl false)) m := by simp [gIsi, tyD, okT, isT]
theorem isi_tup_tuple : gIsi ρ m [(.tup ds), .ty "tuple"] = .ok (.v (.bl true)) m := by simp [gIsi, tyD, okT, isT]
theorem isi_tup_bool : gIsi ρ m [(.tup ds), .ty "bool"] = .ok (.v (.bl false)) m := by simp [gIsi, tyD, okT, isT]
theorem isi_tup_int : gIsi ρ m [(.tup ds), .ty "int"] = .ok (.v (.bl false)) m := by simp [gIsi, tyD, okT, isT]
theorem isi_tup_str : gIsi ρ m [(.tup ds), .ty "str"] = .ok (.v (.bl false)) m := by simp [gIsi, tyD, okT, isT]
theorem isi_tup_dict : gIsi ρ m [(.tup ds), .ty "dict"] = .ok (.v (.bl false)) m := by simp [gIsi, tyD, okT, isT]
theorem isi_tup_lt : gIsi ρ m [(.tup ds), .tup [.ty "list", .ty "tuple"]] = .ok (.v (.bl true)) m := by simp [gIsi, tyD, tysD, okT, isT]
theorem isi_ktp_list : gIsi ρ m [(.ktp ds), .ty "list"] = .ok (.v (.bl false)) m := by simp [gIsi, tyD, okT, isT]
theorem isi_ktp_tuple : gIsi ρ m [(.ktp ds), .ty "tuple"] = .ok (.v (.bl true)) m := by simp [gIsi, tyD, okT, isT]
theorem isi_ktp_bool : gIsi ρ m [(.ktp ds), .ty "bool"] = .ok (.v (.bl false)) m := by simp [gIsi, tyD, okT, isT]
theorem isi_ktp_int : gIsi ρ m [(.ktp ds), .ty "int"] = .ok (.v (.bl false)) m := by simp [gIsi, tyD, okT, isT]
theorem isi_ktp_str : gIsi ρ m [(.ktp ds), .ty "str"] = .ok (.v (.bl false)) m := by simp [gIsi, tyD, okT, isT]
theorem isi_ktp_dict : gIsi ρ m [(.ktp ds), .ty "dict"] = .ok (.v (.bl false)) m := by simp [gIsi, tyD, okT, isT]
theorem isi_ktp_lt : gIsi ρ m [(.ktp ds), .tup [.ty "list", .ty "tuple"]] = .ok (.v (.bl true)) m := by simp [gIsi, tyD, tysD, okT, isT]
theorem isi_bl_list : gIsi ρ m [(.bl p), .ty "list"] = .ok (.v (.bl false)) m := by simp [gIsi, tyD, okT, isT]
theorem isi_bl_tuple : gIsi ρ m [(.bl p), .ty "tuple"] = .ok (.v (.bl false)) m := by simp [gIsi, tyD, okT, isT]
theorem isi_bl_bool : gIsi ρ m [(.bl p), .ty "bool"] = .ok (.v (.bl true)) m := by simp [gIsi, tyD, okT, isT]
theorem isi_bl_int : gIsi ρ m [(.bl p), .ty "int"] = .ok (.v (.bl true)) m := by simp [gIsi, tyD, okT, isT]
theorem isi_bl_str : gIsi ρ m [(.bl p), .ty "str"] = .ok (.v (.bl false)) m := by simp [gIsi, tyD, okT, isT]
theorem isi_bl_dict : gIsi ρ m [(.bl p), .ty "dict"] = .ok (.v (.bl false)) m := by simp [gIsi, tyD, okT, isT]
theorem isi_bl_lt : gIsi ρ m [(.bl p), .tup [.ty "list", .ty "tuple"]] = .ok (.v (.bl false)) m := by simp [gIsi, tyD, tysD, okT, isT]
theorem isi_int_list : gIsi ρ m [(.int i), .ty "list"] = .ok (.v (.bl false)) m := by simp [gIsi, tyD, okT, isT]
theorem isi_int_tuple : gIsi ρ m [(.int i), .ty "tuple"] = .ok (.v (.bl false)) m := by simp [gIsi, tyD, okT, isT]
theorem isi_int_bool : gIsi ρ m [(.int i), .ty "bool"] = .ok (.v (.bl false)) m := by simp [gIsi, tyD, okT, isT]
theorem isi_int_int : gIsi ρ m [(.int i), .ty "int"] = .ok (.v (.bl true)) m := by simp [gIsi, tyD, okT, isT]
theorem isi_int_str : gIsi ρ m [(.int i), .ty "str"] = .ok (.v (.bl false)) m := by simp [gIsi, tyD, okT, isT]
theorem isi_int_dict : gIsi ρ m [(.int i), .ty "dict"] = .ok (.v (.bl false)) m := by simp [gIsi, tyD, okT, isT]
theorem isi_int_lt : gIsi ρ m [(.int i), .tup [.ty "list", .ty "tuple"]] = .ok (.v (.bl false)) m := by simp [gIsi, tyD, tysD, okT, isT]
theorem isi_str_list : gIsi ρ m [(.str s), .ty "list"] = .ok (.v (.bl false)) m := by simp [gIsi, tyD, okT, isT]
theorem isi_str_tuple : gIsi ρ m [(.str s), .ty "tuple"] = .ok (.v (.bl false)) m := by simp [gIsi, tyD, okT, isT]
theorem isi_str_bool : gIsi ρ m [(.str s), .ty "bool"] = .ok (.v (.bl false)) m := by simp [gIsi, tyD, okT, isT]
theorem isi_str_int : gIsi ρ m [(.str s), .ty "int"] = .ok (.v (.bl false)) m := by simp [gIsi, tyD, okT, isT]
theorem isi_str_str : gIsi ρ m [(.str s), .ty "str"] = .ok (.v (.bl true)) m := by simp [gIsi, tyD, okT, isT]
theorem isi_str_dict : gIsi ρ m [(.str s), .ty "dict"] = .ok (.v (.bl false)) m := by simp [gIsi, tyD, okT, isT]
theorem isi_str_lt : gIsi ρ m [(.str s), .tup [.ty "list", .ty "tuple"]] = .ok (.v (.bl false)) m := by simp [gIsi, tyD, tysD, okT, isT]
theorem isi_non_list : gIsi ρ m [.non, .ty "list"] = .ok (.v (.bl false)) m := by simp [gIsi, tyD, okT, isT]
theorem isi_non_tuple : gIsi ρ m [.non, .ty "tuple"] = .ok (.v (.bl false)) m := by simp [gIsi, tyD, okT, isT]
theorem isi_non_bool : gIsi ρ m [.non, .ty "bool"] = .ok (.v (.bl false)) m := by simp [gIsi, tyD, okT, isT]
theorem isi_non_int : gIsi ρ m [.non, .ty "int"] = .ok (.v (.bl false)) m := by simp [gIsi, tyD, okT, isT]
theorem isi_non_str : gIsi ρ m [.non, .ty "str"] = .ok (.v (.bl false)) m := by simp [gIsi, tyD, okT, isT]
theorem isi_non_dict : gIsi ρ m [.non, .ty "dict"] = .ok (.v (.bl false)) m := by simp [gIsi, tyD, okT, isT]
theorem isi_non_lt : gIsi ρ m [.non, .tup [.ty "list", .ty "tuple"]] = .ok (.v (.bl false)) m := by simp [gIsi, tyD, tysD, okT, isT]
theorem isi_dct_list : gIsi ρ m [(.dct kvs), .ty "list"] = .ok (.v (.bl false)) m := by simp [gIsi, tyD, okT, isT]
theorem isi_dct_tuple : gIsi ρ m [(.dct kvs), .ty "tuple"] = .ok (.v (.bl false)) m := by simp [gIsi, tyD, okT, isT]
theorem isi_dct_bool : gIsi ρ m [(.dct kvs), .ty "bool"] = .ok (.v (.bl false)) m := by simp [gIsi, tyD, okT, isT]
theorem isi_dct_int : gIsi ρ m [(.dct kvs), .ty "int"] = .ok (.v (.bl false)) m := by simp [gIsi, tyD, okT, isT]
theorem isi_dct_str : gIsi ρ m [(.dct kvs), .ty "str"] = .ok (.v (.bl false)) m := by simp [gIsi, tyD, okT, isT]
theorem isi_dct_dict : gIsi ρ m [(.dct kvs), .ty "dict"] = .ok (.v (.bl true)) m := by simp [gIsi, tyD, okT, isT]
theorem isi_dct_lt : gIsi ρ m [(.dct kvs), .tup [.ty "list", .ty "tuple"]] = .ok (.v (.bl false)) m := by simp [gIsi, tyD, tysD, okT, isT]
end
end M3
set_option Elab.async false
set_option linter.all false
set_option autoImplicit false
set_option maxRecDepth 100000
set_option maxHeartbeats 2000000
namespace M3
open PySem L2
section
variable {ρ : Sl} {m : Mm} {f : ME} {fs : MA} {x : Ar} {d : Dv} {ds es : List Dv} {c : MCase} {cs : List MCase} {z y : Str} {i : Int} {n k : Nat} {ps : List PItem} {bs : List (Nat × Dv)} {o : Ob} {b : MS} {t : MB} {lo hi : Option Int}
def kSt3 (ds : List Dv) (r : Rs (List Dv)) : Rs (List Dv) := r.bind fun es m2 => .ok (ds ++ es) m2
def kSt2 (fs : MA) (ρ : Sl) (m : Mm) : Option (List Dv) → Rs (List Dv)
  | some ds => kSt3 ds (fs ρ m)
  | none => .no
def kSt1 (fs : MA) (ρ : Sl) (r : Rs Ar) : Rs (List Dv) := r.bind fun x m1 => match x with
  | .v d => kSt2 fs ρ m1 (seqOf ρ m1 (.v d))
  | .b _ => .no
theorem e_star : mStar f fs ρ m = kSt1 fs ρ (f ρ m) := by
  unfold mStar kSt1 kSt2
  rfl
theorem kSt1_v : kSt1 fs ρ (.ok (.v d) m) = kSt2 fs ρ m (seqOf ρ m (.v d)) := rfl
theorem kSt2_some : kSt2 fs ρ m (some ds) = kSt3 ds (fs ρ m) := rfl
theorem kSt3_ok : kSt3 ds (.ok es m) = .ok (ds ++ es) m := rfl
def kMa (cs : List MCase) (ρ : Sl) (r : Rs Ar) : RS := r.st ρ fun x m1 => match x with
  | .v d => mCases cs d ρ m1
  | .b _ => .no
theorem e_match : mMatch f cs ρ m = kMa cs ρ (f ρ m) := rfl
theorem kMa_v : kMa cs ρ (.ok (.v d) m) = mCases cs d ρ m := rfl
theorem e_casesN : mCases [] d ρ m = .nx ρ m := rfl
def kMg (b : MS) (cs : List MCase) (d : Dv) (ρ : Sl) (r : Rs Bool) : RS := r.st ρ fun k m2 => if k = true then b ρ m2 else mCases cs d ρ m2
def kMh (g : Option MB) (b : MS) (cs : List MCase) (d : Dv) (ρ : Sl) (m : Mm) : RS := match g with
  | none => b ρ m
  | some t => kMg b cs d ρ (t ρ m)
def kMf (g : Option MB) (b : MS) (cs : List MCase) (d : Dv) (ρ : Sl) (m : Mm) : Option (Option (List (Nat × Dv))) → RS
  | none => .no
  | some none => mCases cs d ρ m
  | some (some bs) => kMh g b cs d (bindD bs ρ) m
def kMe (ps : List PItem) (g : Option MB) (b : MS) (cs : List MCase) (d : Dv) (ρ : Sl) (m : Mm) : Option (List Dv) → RS
  | none => .no
  | some ds => if ds.length = ps.length then kMf g b cs d ρ m (eachD ps ds) else mCases cs d ρ m
theorem e_casesC {g : Option MB} : mCases (⟨ps, g, b⟩ :: cs) d ρ m = kMe ps g b cs d ρ m (seqOf ρ m (.v d)) := by
  show (match seqOf ρ m (.v d) with | none => _ | some ds => _) = _
  cases seqOf ρ m (.v d) with
  | none => rfl
  | some ds =>
    simp only [kMe]
    by_cases h : ds.length = ps.length
    · rw [if_pos h, if_pos h]
      cases eachD ps ds with
      | none => rfl
      | some r =>
        cases r with
        | none => rfl
        | some bs =>
          unfold kMf kMh
          cases g <;> rfl
    · rw [if_neg h, if_neg h]
theorem kMe_ne {g : Option MB} (h : ds.length ≠ ps.length) : kMe ps g b cs d ρ m (some ds) = mCases cs d ρ m := if_neg h
theorem kMe_eq {g : Option MB} (h : ds.length = ps.length) : kMe ps g b cs d ρ m (some ds) = kMf g b cs d ρ m (eachD ps ds) := if_pos h
theorem kMf_n {g : Option MB} : kMf g b cs d ρ m (some none) = mCases cs d ρ m := rfl
theorem kMf_s {g : Option MB} : kMf g b cs d ρ m (some (some bs)) = kMh g b cs d (bindD bs ρ) m := rfl
theorem kMh_n : kMh none b cs d ρ m = b ρ m := rfl
theorem kMh_s : kMh (some t) b cs d ρ m = kMg b cs d ρ (t ρ m) := rfl
theorem kMg_t : kMg b cs d ρ (.ok true m) = b ρ m := rfl
theorem kMg_f : kMg b cs d ρ (.ok false m) = mCases cs d ρ m := rfl
theorem ea_nil : eachD [] [] = some (some []) := rfl
theorem ea_lit_eq : eachD (.lit z :: ps) (.str z :: ds) = eachD ps ds := if_pos rfl
theorem ea_lit_ne (h : (y == z) = false) : eachD (.lit z :: ps) (.str y :: ds) = some none := if_neg (by simpa using h)
theorem ea_lit_int : eachD (.lit z :: ps) (.int i :: ds) = some none := rfl
def kEc (i : Nat) (d : Dv) : Option (Option (List (Nat × Dv))) → Option (Option (List (Nat × Dv)))
  | some (some bs) => some (some ((i, d) :: bs))
  | r => r
theorem ea_cap : eachD (.cap n :: ps) (d :: ds) = kEc n d (eachD ps ds) := rfl
theorem kEc_s : kEc n d (some (some bs)) = some (some ((n, d) :: bs)) := rfl
theorem kEc_n : kEc n d (some none) = some none := rfl
theorem bd_nil : bindD [] ρ = ρ := rfl
theorem bd_cons : bindD ((n, d) :: bs) ρ = bindD bs (ρ.set n (.val d)) := rfl
theorem e_own : mOwnE f ρ m = ownEnd m.length (f ρ m) := rfl
theorem own_ok (h : memLow m.length m = true) (h2 : lowO m.length o = true) : ownEnd m.length (.ok (.v (.loc m.length)) (m ++ [some o])) = .ok o m := by
  show (if m.length = m.length ∧ (m ++ [some o]).length = m.length + 1 then ownE2 m.length (m ++ [some o]) (m ++ [some o])[m.length]? else .no) = _
  rw [if_pos ⟨rfl, by simp⟩, List.getElem?_append_right (Nat.le_refl _)]
  simp only [Nat.sub_self, List.getElem?_cons_zero]
  show (if memLow m.length ((m ++ [some o]).take m.length) = true ∧ lowO m.length o = true then Rs.ok o ((m ++ [some o]).take m.length) else .no) = _
  rw [List.take_left' rfl, if_pos ⟨h, h2⟩]
def kSn (m : Mm) (lo hi : Option Int) : Option (List Dv) → Rs Ob
  | some ds => .ok (.lst (cutD ds lo hi)) m
  | none => .no
def kSn3 (ρ : Sl) (x : Ar) (lo : Option Int) (r : Rs (Option Int)) : Rs Ob := r.bind fun hi m3 => kSn m3 lo hi (lstOf ρ m3 x)
def kSn2 (fh : MO) (ρ : Sl) (x : Ar) (r : Rs (Option Int)) : Rs Ob := r.bind fun lo m2 => kSn3 ρ x lo (fh ρ m2)
def kSn1 (fl fh : MO) (ρ : Sl) (r : Rs Ar) : Rs Ob := r.bind fun x m1 => kSn2 fh ρ x (fl ρ m1)
theorem e_slN {fl fh : MO} : mSlN f fl fh ρ m = kSn1 fl fh ρ (f ρ m) := by
  unfold mSlN kSn1 kSn2 kSn3 gSlN kSn
  rfl
theorem kSn1_ok {fl fh : MO} : kSn1 fl fh ρ (.ok x m) = kSn2 fh ρ x (fl ρ m) := rfl
theorem kSn2_ok {fh : MO} : kSn2 fh ρ x (.ok lo m) = kSn3 ρ x lo (fh ρ m) := rfl
theorem kSn3_ok : kSn3 ρ x lo (.ok hi m) = kSn m lo hi (lstOf ρ m x) := rfl
theorem kSn_some : kSn m lo hi (some ds) = .ok (.lst (cutD ds lo hi)) m := rfl
def kZi (r : Rs (List Dv)) : Rs (List Dv) := r.bind fun ds m1 => match ds with
  | [.lst xs, .lst ys] => if xs.length ≤ sizeLine then .ok (zipD xs ys) m1 else .no
  | _ => .no
theorem e_zip : mZipL fs ρ m = kZi (fs ρ m) := rfl
theorem kZi_ok (h : ds.length ≤ 16777216) : kZi (.ok [.lst ds, .lst es] m) = .ok (zipD ds es) m := if_pos h
def kRv (m : Mm) : Option (List Dv) → Rs Ob
  | some ds => .ok (.lst ds.reverse) m
  | none => .no
def kRv1 (ρ : Sl) (r : Rs Ar) : Rs Ob := r.bind fun x m1 => kRv m1 (lstOf ρ m1 x)
theorem e_rev : mRevN f ρ m = kRv1 ρ (f ρ m) := by unfold mRevN kRv1 kRv; rfl
theorem kRv1_ok : kRv1 ρ (.ok x m) = kRv m (lstOf ρ m x) := rfl
theorem kRv_some : kRv m (some ds) = .ok (.lst ds.reverse) m := rfl
def kKd (neg : List Str) (m : Mm) (z : Str) : Option Dv → Rs Ar
  | some _ => .ok (.v (.bl true)) m
  | none => if neg.contains z = true then .ok (.v (.bl false)) m else .no
theorem g_inKd {nm : Str} {kvs : List (Str × Dv)} {neg : List Str} : gInKd nm kvs neg ρ m (.v (.str z)) (.v (.glb nm)) = kKd neg m z (kvs.lookup z) := by
  unfold gInKd kKd
  simp only [if_true]
  all_goals first | rfl | (cases kvs.lookup z <;> rfl)
theorem kKd_s {neg : List Str} : kKd neg m z (some d) = .ok (.v (.bl true)) m := rfl
theorem g_ixKd {nm : Str} {kvs : List (Str × Dv)} : gIxKd nm kvs ρ m (.v (.glb nm)) (.v (.str z)) = kIx m (kvs.lookup z) := by
  unfold gIxKd kIx
  simp only [if_true]
  all_goals first | rfl | (cases kvs.lookup z <;> rfl)
end
section
variable {ρ : Sl} {m : Mm} {i j l : Nat} {p : MC} {d1 d2 d3 : Dv} {o1 : Ob}
def kPa3 (i j l : Nat) (ρ : Sl) (r : Rs (List Cell)) : RS := r.st ρ fun ys m1 => match ys with
  | [x, y, z] => if isUn x = false ∧ isUn y = false ∧ isUn z = false then .nx (((ρ.set i x).set j y).set l z) m1 else .no
  | _ => .no
theorem e_par3 : mPar3 i j l p ρ m = kPa3 i j l ρ (p ρ m) := rfl
theorem kPa3_vvv : kPa3 i j l ρ (.ok [.val d1, .val d2, .val d3] m) = .nx (((ρ.set i (.val d1)).set j (.val d2)).set l (.val d3)) m := rfl
theorem kPa3_ovv : kPa3 i j l ρ (.ok [.own o1, .val d2, .val d3] m) = .nx (((ρ.set i (.own o1)).set j (.val d2)).set l (.val d3)) m := rfl
end
section
variable {ρ : Sl} {m : Mm} {t a b : MB} {k : Bool}
def kIfB (a b : MB) (ρ : Sl) (r : Rs Bool) : Rs Bool := r.bind fun k m1 => if k = true then a ρ m1 else b ρ m1
theorem e_ifB : mIfB t a b ρ m = kIfB a b ρ (t ρ m) := rfl
theorem kIfB_t : kIfB a b ρ (.ok true m) = a ρ m := rfl
theorem kIfB_f : kIfB a b ρ (.ok false m) = b ρ m := rfl
end
theorem g_str2i {ρ : Sl} {m : Mm} {i : Int} (h : i.natAbs.log2 < 1920) : gStr2 ρ m (.v (.int i)) = .ok (.v (.str (toString i))) m := if_pos h
theorem g_str2s {ρ : Sl} {m : Mm} {z : Str} : gStr2 ρ m (.v (.str z)) = .ok (.v (.str z)) m := rfl
section
variable {ρ : Sl} {m : Mm} {r ds : List Dv} {b : Bool} {i : Int} {z : Str} {kvs : List (Key × Dv)} {k : Nat}
theorem isiM_non {c : Dv} : gIsiM ρ m [(.non), c] = gIsi ρ m [(.non), c] := by cases c <;> rfl
theorem isiM_bl {c : Dv} : gIsiM ρ m [(.bl b), c] = gIsi ρ m [(.bl b), c] := by cases c <;> rfl
theorem isiM_int {c : Dv} : gIsiM ρ m [(.int i), c] = gIsi ρ m [(.int i), c] := by cases c <;> rfl
theorem isiM_str {c : Dv} : gIsiM ρ m [(.str z), c] = gIsi ρ m [(.str z), c] := by cases c <;> rfl
theorem isiM_lst {c : Dv} : gIsiM ρ m [(.lst ds), c] = gIsi ρ m [(.lst ds), c] := by cases c <;> rfl
theorem isiM_tup {c : Dv} : gIsiM ρ m [(.tup ds), c] = gIsi ρ m [(.tup ds), c] := by cases c <;> rfl
theorem isiM_ktp {c : Dv} : gIsiM ρ m [(.ktp ds), c] = gIsi ρ m [(.ktp ds), c] := by cases c <;> rfl
theorem isiM_dct {c : Dv} : gIsiM ρ m [(.dct kvs), c] = gIsi ρ m [(.dct kvs), c] := by cases c <;> rfl
end
section
variable {ρ : Sl} {m : Mm} {cn : Str} {F : MF} {ps qs : List (Str × Dv)} {z : Str} {b : Bool} {d : Dv}
theorem g_eqO_i : gEqO cn F ρ m (.v (.ins cn ps)) (.v (.ins cn qs)) = kPr2 (F [.ins cn ps, .ins cn qs] m) := by
  show (if cn = cn ∧ okD cn (.ins cn qs) = true then _ else _) = _
  rw [if_pos ⟨rfl, by simp [okD]⟩]; unfold kPr2; cases F [.ins cn ps, .ins cn qs] m <;> rfl
theorem g_eqO_s : gEqO cn F ρ m (.v (.ins cn ps)) (.v (.str z)) = kPr2 (F [.ins cn ps, .str z] m) := by
  show (if cn = cn ∧ okD cn (.str z) = true then _ else _) = _
  rw [if_pos ⟨rfl, rfl⟩]; unfold kPr2; cases F [.ins cn ps, .str z] m <;> rfl
def kNe2 : Rs Dv → Rs Ar
  | .ok (.bl r) m2 => .ok (.v (.bl (!r))) m2
  | _ => .no
theorem kNe2_ok : kNe2 (.ok (.bl b) m) = .ok (.v (.bl (!b))) m := rfl
theorem g_neO_i : gNeO cn F ρ m (.v (.ins cn ps)) (.v (.ins cn qs)) = kNe2 (F [.ins cn ps, .ins cn qs] m) := by
  show (if cn = cn ∧ okD cn (.ins cn qs) = true then _ else _) = _
  rw [if_pos ⟨rfl, by simp [okD]⟩]; unfold kNe2; split <;> (first | rfl | (rename_i h; split <;> simp_all))
def kRp2 : Rs Dv → Rs Ar
  | .ok (.str r) m2 => .ok (.v (.str r)) m2
  | _ => .no
theorem kRp2_ok : kRp2 (.ok (.str z) m) = .ok (.v (.str z)) m := rfl
theorem g_repr : gRepr cn F ρ m (.v (.ins cn ps)) = kRp2 (F [.ins cn ps] m) := by
  show (if cn = cn then _ else _) = _
  rw [if_pos rfl]; unfold kRp2; split <;> (first | rfl | (rename_i h; split <;> simp_all))
theorem g_isiO_i : gIsiO cn ρ m [.ins cn ps, .glb cn] = .ok (.v (.bl true)) m := if_pos ⟨rfl, rfl⟩
theorem g_isiO_s : gIsiO cn ρ m [.str z, .glb cn] = .ok (.v (.bl false)) m := if_pos rfl
end
section
variable {ρ : Sl} {m : Mm} {b : MS} {d : Dv} {t : String} {g : Ob → List Dv → Option (Ob × Dv)} {fo : MN} {fa : MA} {ds es : List Dv} {o : Ob} {p : Ob × Dv}
def kTy : RS → RS
  | .ex _ _ _ => .no
  | r => r
theorem e_try0 : mTry0 b ρ m = kTy (b ρ m) := by unfold mTry0 kTy; rfl
theorem kTy_nx : kTy (.nx ρ m) = .nx ρ m := rfl
theorem kTy_rt : kTy (.rt d m) = .rt d m := rfl
def kD4 (ρ : Sl) (m : Mm) : Option (Ob × Dv) → RS
  | some _ => .nx ρ m
  | none => .no
def kD3 (g : Ob → List Dv → Option (Ob × Dv)) (ρ : Sl) (o : Ob) (r : Rs (List Dv)) : RS := r.st ρ fun ds m2 => kD4 ρ m2 (g o ds)
def kD1 (t : String) (g : Ob → List Dv → Option (Ob × Dv)) (fa : MA) (ρ : Sl) (r : Rs Ob) : RS := r.st ρ fun o m1 => if tyOb t o = true then kD3 g ρ o (fa ρ m1) else .no
theorem e_mutD : mMutD t g fo fa ρ m = kD1 t g fa ρ (fo ρ m) := rfl
theorem kD1_lst : kD1 "list" g fa ρ (.ok (.lst ds) m) = kD3 g ρ (.lst ds) (fa ρ m) := by
  show (if tyOb "list" (.lst ds) = true then kD3 g ρ (.lst ds) (fa ρ m) else .no) = _
  exact if_pos (by simp [tyOb])
theorem kD3_ok : kD3 g ρ o (.ok es m) = kD4 ρ m (g o es) := rfl
theorem kD4_some : kD4 ρ m (some p) = .nx ρ m := rfl
end
theorem e_gl {n : Nat} {tgs : MGs} {ds : List Dv} {ρ : Sl} (h : ds.length = n) : mGl n tgs (.lst ds) ρ = tgs ds ρ := by unfold mGl; exact if_pos h
end M3
set_option Elab.async false
set_option linter.all false
set_option autoImplicit false
set_option maxRecDepth 100000
set_option maxHeartbeats 2000000
namespace M3
open PySem L2
section
variable {ρ ρ' : Sl} {m m' : Mm} {f fo fi fa fb : ME} {fs : MA} {x y : Ar} {d d' : Dv} {ds es : List Dv} {z : Str} {i j : Int} {n k : Nat} {o o' : Ob} {b : MS} {t : MB} {cn fn : Str} {F : MF} {kvs : List (Key × Dv)}
theorem e_dct0 : mDct0 ρ m = .ok (.dct []) m := rfl
def kDs2 (k : Key) (d : Dv) : Rs (List (Key × Dv)) → Rs (List (Key × Dv))
  | .ok kvs m2 => .ok ((k, d) :: kvs) m2
  | _ => .no
def kDs1 (k : Key) (r : List (Key × ME)) (ρ : Sl) : Rs Ar → Rs (List (Key × Dv))
  | .ok (.v d) m1 => kDs2 k d (dspL r ρ m1)
  | _ => .no
theorem e_dspN : dspL [] ρ m = .ok [] m := rfl
theorem e_dspC {kk : Key} {r : List (Key × ME)} : dspL ((kk, f) :: r) ρ m = kDs1 kk r ρ (f ρ m) := by
  show (match f ρ m with | .ok (.v d) m1 => _ | _ => _) = _
  cases f ρ m with
  | ok x m1 =>
    cases x with
    | v d =>
      show (match dspL r ρ m1 with | .ok kvs m2 => _ | _ => _) = kDs2 kk d (dspL r ρ m1)
      cases dspL r ρ m1 <;> rfl
    | b i => rfl
  | _ => rfl
theorem kDs1_v {kk : Key} {r : List (Key × ME)} : kDs1 kk r ρ (.ok (.v d) m) = kDs2 kk d (dspL r ρ m) := rfl
theorem kDs2_ok {kk : Key} : kDs2 kk d (.ok kvs m) = .ok ((kk, d) :: kvs) m := rfl
def kDp : Rs (List (Key × Dv)) → Rs Ob
  | .ok kvs m1 => if kvs.length ≤ 15 then .ok (.dct (mergeD [] kvs)) m1 else .no
  | _ => .no
theorem e_dsp {r : List (Key × ME)} : mDsp r ρ m = kDp (dspL r ρ m) := by unfold mDsp kDp; rfl
theorem kDp_ok (h : kvs.length ≤ 15) : kDp (.ok kvs m) = .ok (.dct (mergeD [] kvs)) m := if_pos h
def kMz (t : String) (g : Ob → List Dv → Option (Ob × Dv)) (ρ : Sl) (r : Rs Ob) : RS := r.st ρ fun o m1 => if tyOb t o = true then kD4 ρ m1 (g o []) else .no
theorem e_mutD0 {t : String} {g : Ob → List Dv → Option (Ob × Dv)} {fo : MN} : mMutD0 t g fo ρ m = kMz t g ρ (fo ρ m) := by
  unfold mMutD0 kMz kD4; rfl
theorem kMz_lst {g : Ob → List Dv → Option (Ob × Dv)} : kMz "list" g ρ (.ok (.lst ds) m) = kD4 ρ m (g (.lst ds) []) := by
  unfold kMz; rw [Rs.st_ok]; exact if_pos rfl
theorem g_clr : gClear (.lst ds) [] = some (.lst [], .non) := rfl
theorem g_dupd {more : List (Key × Dv)} (h : kvs.length + more.length ≤ 16777216) : gDUpd (.dct kvs) [.dct more] = some (.dct (mergeD kvs more), .non) := if_pos h
def kDq (kvs : List (Key × Dv)) (k : Key) (d : Dv) : Option Dv → Option (Ob × Dv)
  | some x => some (.dct (dropD kvs k), x)
  | none => some (.dct kvs, d)
theorem g_dpop_i : gDPop (.dct kvs) [.int i, d] = kDq kvs (.inl i) d (dget kvs (.inl i)) := by
  show (match dget kvs (.inl i) with | some x => _ | none => _) = _
  cases dget kvs (.inl i) <;> rfl
theorem kDq_s : kDq kvs (.inl i) d (some d') = some (.dct (dropD kvs (.inl i)), d') := rfl
theorem kDq_n : kDq kvs (.inl i) d none = some (.dct kvs, d) := rfl
def kFg5 : Option (Sl × Mm) → RS
  | some (ρ', m') => .nx ρ' m'
  | none => .no
def kFg4 (cn f : Str) (v : Int) (ρ : Sl) (m2 : Mm) (x : Ar) : Option Ob → RS
  | some (.ins c2 fs2) => if c2 = cn ∧ fs2.length < 1000 then kFg5 (mobPut ρ m2 x (.ins c2 (fput f (.int v) fs2))) else .no
  | _ => .no
def kFg3 (cn f : Str) (g : Int → Int → Int) (i : Int) (ρ : Sl) (x : Ar) (r : Rs Ar) : RS := r.st ρ fun y m2 => match y with
  | .v (.int j) => kFg4 cn f (g i j) ρ m2 x (mobOf ρ m2 x)
  | _ => .no
def kFg2 (cn f : Str) (g : Int → Int → Int) (fv : ME) (ρ : Sl) (m1 : Mm) (x : Ar) : Option Dv → RS
  | some (.int i) => kFg3 cn f g i ρ x (fv ρ m1)
  | _ => .no
def kFg1 (cn f : Str) (g : Int → Int → Int) (fv : ME) (ρ : Sl) (m1 : Mm) (x : Ar) : Option Ob → RS
  | some (.ins c' fs) => if c' = cn then kFg2 cn f g fv ρ m1 x (fs.lookup f) else .no
  | _ => .no
def kFg (cn f : Str) (g : Int → Int → Int) (fv : ME) (ρ : Sl) (r : Rs Ar) : RS := r.st ρ fun x m1 => kFg1 cn f g fv ρ m1 x (mobOf ρ m1 x)
theorem e_fldaug {g : Int → Int → Int} : mFldAug cn fn g fo fa ρ m = kFg cn fn g fa ρ (fo ρ m) := by
  unfold mFldAug kFg
  cases fo ρ m with
  | no => rfl
  | ex x m1 => rfl
  | ok x m1 =>
    rw [Rs.st_ok, Rs.st_ok]
    cases mobOf ρ m1 x with
    | none => rfl
    | some oo =>
      cases oo with
      | ins c' ps =>
        show (if c' = cn then _ else _) = (if c' = cn then _ else _)
        congr 1
      | _ => rfl
theorem kFg_ok {g : Int → Int → Int} : kFg cn fn g fa ρ (.ok x m) = kFg1 cn fn g fa ρ m x (mobOf ρ m x) := rfl
theorem kFg1_ins {g : Int → Int → Int} {ps : List (Str × Dv)} : kFg1 cn fn g fa ρ m x (some (.ins cn ps)) = kFg2 cn fn g fa ρ m x (ps.lookup fn) := if_pos rfl
theorem kFg2_int {g : Int → Int → Int} : kFg2 cn fn g fa ρ m x (some (.int i)) = kFg3 cn fn g i ρ x (fa ρ m) := rfl
theorem kFg3_ok {g : Int → Int → Int} : kFg3 cn fn g i ρ x (.ok (.v (.int j)) m) = kFg4 cn fn (g i j) ρ m x (mobOf ρ m x) := rfl
theorem kFg4_ins {ps : List (Str × Dv)} (h : ps.length < 1000) : kFg4 cn fn i ρ m x (some (.ins cn ps)) = kFg5 (mobPut ρ m x (.ins cn (fput fn (.int i) ps))) := if_pos ⟨rfl, h⟩
theorem kFg5_some : kFg5 (some (ρ, m)) = .nx ρ m := rfl
def kAt2 : RS → RS
  | .nx ρ m => .nx ρ m
  | _ => .no
def kAt (gs : List MT) (ρ : Sl) (r : Rs (List Dv)) : RS := r.st ρ fun ds m1 => if ds.length ≤ sizeLine ∧ ds.length = gs.length then kAt2 (seqT gs ds ρ m1) else .no
theorem e_asgT {gs : List MT} : mAsgT fs gs ρ m = kAt gs ρ (fs ρ m) := by unfold mAsgT kAt kAt2; rfl
theorem kAt_ok {gs : List MT} (h : ds.length ≤ 16777216) (h2 : ds.length = gs.length) : kAt gs ρ (.ok ds m) = kAt2 (seqT gs ds ρ m) := by unfold kAt; rw [Rs.st_ok]; exact if_pos ⟨h, h2⟩
theorem kAt2_nx : kAt2 (.nx ρ m) = .nx ρ m := rfl
def kSt (gs : List MT) (ds : List Dv) : RS → RS
  | .nx ρ m => seqT gs ds ρ m
  | _ => .no
theorem e_seqTN : seqT [] [] ρ m = .nx ρ m := rfl
theorem e_seqTC {g : MT} {gs : List MT} : seqT (g :: gs) (d :: ds) ρ m = kSt gs ds (g d ρ m) := by
  show (match g d ρ m with | .nx ρ' m' => _ | _ => _) = _
  cases g d ρ m <;> rfl
theorem kSt_nx {gs : List MT} : kSt gs ds (.nx ρ m) = seqT gs ds ρ m := rfl
def kT2 (ρ : Sl) (d : Dv) (x : Ar) : Rs Ar → RS
  | .ok (.v i) m2 => kX4 ρ m2 x i d (mobOf ρ m2 x)
  | _ => .no
def kTs (fi : ME) (ρ : Sl) (d : Dv) : Rs Ar → RS
  | .ok x m1 => kT2 ρ d x (fi ρ m1)
  | _ => .no
theorem e_tsub : mTSub fo fi d ρ m = kTs fi ρ d (fo ρ m) := by
  unfold mTSub kTs
  cases fo ρ m with
  | ok x m1 =>
    show (match fi ρ m1 with | .ok (.v i) m2 => _ | _ => _) = kT2 ρ d x (fi ρ m1)
    cases fi ρ m1 with
    | ok y m2 =>
      cases y with
      | v yi =>
        show (match mobOf ρ m2 x with | some o => _ | none => _) = kX4 ρ m2 x yi d (mobOf ρ m2 x)
        cases mobOf ρ m2 x with
        | none => rfl
        | some o =>
          show (match gSetIx o yi d with | some o' => _ | none => _) = kX5 ρ m2 x (gSetIx o yi d)
          cases gSetIx o yi d with
          | none => rfl
          | some o' =>
            show (match mobPut ρ m2 x o' with | some (ρ', m') => _ | none => _) = kX6 (mobPut ρ m2 x o')
            cases mobPut ρ m2 x o' <;> rfl
      | b i => rfl
    | _ => rfl
  | _ => rfl
theorem kTs_ok : kTs fi ρ d (.ok x m) = kT2 ρ d x (fi ρ m) := rfl
theorem kT2_v : kT2 ρ d x (.ok (.v d') m) = kX4 ρ m x d' d (mobOf ρ m x) := rfl
def kTf1 (cn f : Str) (ρ : Sl) (d : Dv) (m1 : Mm) (x : Ar) : Option Ob → RS
  | some (.ins c' fs) => if c' = cn ∧ fs.length < 1000 then kFg5 (mobPut ρ m1 x (.ins c' (fput f d fs))) else .no
  | _ => .no
def kTf (cn f : Str) (ρ : Sl) (d : Dv) : Rs Ar → RS
  | .ok x m1 => kTf1 cn f ρ d m1 x (mobOf ρ m1 x)
  | _ => .no
theorem e_tfld : mTFld cn fn fo d ρ m = kTf cn fn ρ d (fo ρ m) := by
  unfold mTFld kTf
  cases fo ρ m with
  | ok x m1 =>
    show (match mobOf ρ m1 x with | some (.ins c' fs) => _ | _ => _) = kTf1 cn fn ρ d m1 x (mobOf ρ m1 x)
    cases mobOf ρ m1 x with
    | none => rfl
    | some oo =>
      cases oo with
      | ins c' ps =>
        show (if c' = cn ∧ ps.length < 1000 then _ else _) = (if c' = cn ∧ ps.length < 1000 then _ else _)
        congr 1
      | _ => rfl
  | _ => rfl
theorem kTf_ok : kTf cn fn ρ d (.ok x m) = kTf1 cn fn ρ d m x (mobOf ρ m x) := rfl
theorem kTf1_ins {ps : List (Str × Dv)} (h : ps.length < 1000) : kTf1 cn fn ρ d m x (some (.ins cn ps)) = kFg5 (mobPut ρ m x (.ins cn (fput fn d ps))) := if_pos ⟨rfl, h⟩
theorem e_gs2 {g : MGs} (h : ds.length ≤ 16777216) : mGs2 g (.tup (d :: ds)) ρ = g [d, .lst ds] ρ := by unfold mGs2; exact if_pos h
def kIt (r : Rs Ar) : Rs (List Dv) := r.bind fun x m1 => match x with
  | .v (.dct kvs) => .ok (kvs.map fun p => .tup [kD p.1, p.2]) m1
  | _ => .no
theorem e_items : mItems f ρ m = kIt (f ρ m) := rfl
theorem kIt_ok : kIt (.ok (.v (.dct kvs)) m) = .ok (kvs.map fun p => .tup [kD p.1, p.2]) m := rfl
def kLn2 : Rs Dv → Rs Ar
  | .ok (.int z) m2 => if 0 ≤ z ∧ z < 2 ^ 63 then .ok (.v (.int z)) m2 else .no
  | _ => .no
def kLn1 (cn : Str) (F : MF) (m : Mm) (d : Dv) : Option (Str × List (Str × Dv)) → Rs Ar
  | some (c', _) => if c' = cn then kLn2 (F [d] m) else .no
  | none => .no
theorem g_lenO : gLenO cn F ρ m (.v d) = kLn1 cn F m d (insOf ρ m (.v d)) := by
  unfold gLenO kLn1 kLn2
  rfl
theorem kLn1_s {ps : List (Str × Dv)} : kLn1 cn F m d (some (cn, ps)) = kLn2 (F [d] m) := if_pos rfl
theorem kLn2_ok (h : 0 ≤ i) (h2 : i < 9223372036854775808) : kLn2 (.ok (.int i) m) = .ok (.v (.int i)) m := if_pos ⟨h, h2⟩
def kIo2 (neg : Bool) : Rs Dv → Rs Ar
  | .ok (.bl r) m2 => .ok (.v (.bl (xor neg r))) m2
  | _ => .no
def kIo1 (cn : Str) (neg : Bool) (F : MF) (m : Mm) (d d2 : Dv) : Option (Str × List (Str × Dv)) → Rs Ar
  | some (c', _) => if c' = cn then kIo2 neg (F [d2, d] m) else .no
  | none => .no
theorem g_inO {neg : Bool} : gInO cn neg F ρ m (.v d) (.v d') = kIo1 cn neg F m d d' (insOf ρ m (.v d')) := by
  unfold gInO kIo1 kIo2
  rfl
theorem kIo1_s {neg : Bool} {ps : List (Str × Dv)} : kIo1 cn neg F m d d' (some (cn, ps)) = kIo2 neg (F [d', d] m) := if_pos rfl
theorem kIo2_f {r : Bool} : kIo2 false (.ok (.bl r) m) = .ok (.v (.bl r)) m := by unfold kIo2; simp
theorem kIo2_t {r : Bool} : kIo2 true (.ok (.bl r) m) = .ok (.v (.bl (!r))) m := by unfold kIo2; simp
def kLp1 (n : Nat) (m1 : Mm) : Option (Option Ob) → Rs (List Dv × (Mm → Prop))
  | some (some (.lst ds)) => if ds.length ≤ sizeLine then .ok (ds, fun m => m[n]? = some (some (.lst ds))) m1 else .no
  | _ => .no
def kLp (r : Rs Ar) : Rs (List Dv × (Mm → Prop)) := r.bind fun x m1 => match x with
  | .v (.loc n) => kLp1 n m1 m1[n]?
  | _ => .no
theorem e_itL : mItL f ρ m = kLp (f ρ m) := by unfold mItL kLp kLp1; rfl
theorem kLp_ok : kLp (.ok (.v (.loc n)) m) = kLp1 n m m[n]? := rfl
theorem kLp1_ok (h : ds.length ≤ 16777216) : kLp1 n m (some (some (.lst ds))) = .ok (ds, fun m => m[n]? = some (some (.lst ds))) m := if_pos h
noncomputable def kLq (vs : List Nat) (g : MG) (t : MB) (f : ME) (ρ : Sl) (r : Rs (List Dv × (Mm → Prop))) : Rs Ob := r.bind fun dp m1 => kLc2 (lcLP dp.2 g t f (wipeR ρ vs) dp.1 m1)
theorem e_lcP {vs : List Nat} {it : MIP} {g : MG} : mLcP vs it g t f ρ m = kLq vs g t f ρ (it ρ m) := by
  unfold mLcP kLq
  congr 1
theorem kLq_ok {vs : List Nat} {g : MG} {P : Mm → Prop} : kLq vs g t f ρ (.ok (ds, P) m) = kLc2 (lcLP P g t f (wipeR ρ vs) ds m) := rfl
theorem g_listD : gListD ρ m (.v (.dct kvs)) = .ok (.lst (kvs.map fun p => kD p.1)) m := rfl
theorem g_dict_d : gDict ρ m (.v (.dct kvs)) = .ok (.dct kvs) m := rfl
end
end M3
set_option Elab.async false
set_option linter.all false
set_option autoImplicit false
set_option maxRecDepth 100000
set_option maxHeartbeats 2000000
namespace M3
open PySem L2 PySem.Spec PyProof.Rows
section
variable {ρ : Sl} {m : Mm} {ds : List Dv} {cn : Str} {n j : Nat} {F : MF} {fa : MA}
def kMkL (cn : Str) (n : Nat) (F : MF) (r : Rs (List Dv)) : Rs Ar := r.bind fun ds m1 => if ds.length + 1 = n then mkEndL m1.length (F (.loc m1.length :: ds) (m1 ++ [some (.ins cn [])])) else .no
theorem e_makeL : mMakeL cn n F fa ρ m = kMkL cn n F (fa ρ m) := rfl
theorem kMkL_ok (h : ds.length + 1 = n) : kMkL cn n F (.ok ds m) = mkEndL m.length (F (.loc m.length :: ds) (m ++ [some (.ins cn [])])) := by unfold kMkL; rw [Rs.bind_ok]; exact if_pos h
theorem e_starF (h : ds.length ≤ 16777216) : starF j F ds m = F (ds.take j ++ [.tup (ds.drop j)]) m := if_pos h
theorem g_lenD {kvs : List (Key × Dv)} : gLenD ρ m (.v (.dct kvs)) = .ok (.v (.int (kvs.length : Nat))) m := rfl
end
end M3
set_option Elab.async false
set_option linter.all false
set_option autoImplicit false
set_option maxRecDepth 100000
set_option maxHeartbeats 2000000
namespace M3
open PySem L2 PySem.Spec PyProof.Rows
section
variable {ρ : Sl} {m : Mm} {ds : List Dv} {d x : Dv} {cn code fl : Str} {cns : List Str} {f : ME} {fa : MA} {gs : List ME} {acc : List Dv} {i : Nat} {z : Dv} {o : Option Ob}
def kRs (cn code fl : Str) (ρ : Sl) (r : Rs (List Dv)) : RS := r.st ρ fun ds m1 => match ds with
  | [d] => .ex (excV cn code fl d) ρ m1
  | _ => .no
theorem e_raise1 : mRaise1 cn code fl fa ρ m = kRs cn code fl ρ (fa ρ m) := rfl
theorem kRs_ok : kRs cn code fl ρ (.ok [d] m) = .ex (excV cn code fl d) ρ m := rfl
theorem mkEnd_ex (h : pureD x = true) : mkEnd m (.ex x [o]) = .ex x m := if_pos h
def kTz (cns : List Str) : Rs Ar → Rs Dv
  | .ok (.v d) m1 => .ok (.tup [.str "", d]) m1
  | .ex x m1 => (match exTup cns x with
    | some d => .ok d m1
    | none => .no)
  | _ => .no
def kTg (cns : List Str) (ρ : Sl) (r : List ME) (acc : List Dv) (q : Rs Dv) : Rs Ob := q.bind fun d m1 => if acc.length < sizeLine then triesGo cns ρ r m1 (acc ++ [d]) else .no
theorem e_tries (h : ρ[i]? = some (.val z)) : mTries cns i z gs ρ m = triesGo cns ρ gs m [] := if_pos h
theorem tg_nil : triesGo cns ρ [] m acc = .ok (.lst acc) m := rfl
theorem tg_cons : triesGo cns ρ (f :: gs) m acc = kTg cns ρ gs acc (kTz cns (f ρ m)) := rfl
theorem kTz_v : kTz cns (.ok (.v d) m) = .ok (.tup [.str "", d]) m := rfl
theorem kTz_ex (h : exTup cns x = some d) : kTz cns (.ex x m) = .ok d m := by
  show (match exTup cns x with | some d => (.ok d m : Rs Dv) | none => .no) = _
  rw [h]
theorem kTg_ok (h : acc.length < 16777216) : kTg cns ρ gs acc (.ok d m) = triesGo cns ρ gs m (acc ++ [d]) := if_pos h
def okMr : Sl → Bool := fun ρ => ρ.all okCl
def okMm : Mm → Bool := fun m => m.all okOb
theorem okr_nil : okMr [] = true := rfl
theorem okr_val {ρ : Sl} : okMr (.val d :: ρ) = okMr ρ := by show (true && okMr ρ) = okMr ρ; rw [Bool.true_and]
theorem okr_un {ρ : Sl} : okMr (.un :: ρ) = okMr ρ := by show (true && okMr ρ) = okMr ρ; rw [Bool.true_and]
theorem okr_c {ρ : Sl} {c : Cell} (h : okCl c = true) : okMr (c :: ρ) = okMr ρ := by show (okCl c && okMr ρ) = okMr ρ; rw [h, Bool.true_and]
def kOk (b : Bool) (x : RS) : RS := if b = true then x else .no
theorem kOk_t {x : RS} : kOk true x = x := if_pos rfl
def kYi (fa fb : MS) (ρ : Sl) : Rs Ar → RS
  | .ok (.v (.bl k)) m3 => if k = true then fa ρ m3 else fb ρ m3
  | _ => .no
def kYt (g : Sl → Mm → Ar → Ar → Rs Ar) (f2 : ME) (fa fb : MS) (ρ : Sl) : Rs Dv → RS
  | .ok d m1 => kYi fa fb ρ (kB1 g ρ (.v d) (f2 ρ m1))
  | _ => .no
theorem e_iftry {g : Sl → Mm → Ar → Ar → Rs Ar} {f2 : ME} {fa fb : MS} : mIfTry cns f g f2 fa fb ρ m = kOk (okMm m && okMr ρ) (kYt g f2 fa fb ρ (kTz cns (f ρ m))) := rfl
theorem kYt_ok {g : Sl → Mm → Ar → Ar → Rs Ar} {f2 : ME} {fa fb : MS} : kYt g f2 fa fb ρ (.ok d m) = kYi fa fb ρ (kB1 g ρ (.v d) (f2 ρ m)) := rfl
theorem kYi_t {fa fb : MS} : kYi fa fb ρ (.ok (.v (.bl true)) m) = fa ρ m := rfl
theorem kYi_f {fa fb : MS} : kYi fa fb ρ (.ok (.v (.bl false)) m) = fb ρ m := rfl
end
end M3
set_option Elab.async false
set_option linter.all false
set_option autoImplicit false
set_option maxRecDepth 100000
set_option maxHeartbeats 4000000
namespace G
open PySem L2 M3
def k_Band : Dv := .glb "Band"
def k_MOST_AGE : Dv := .int 59
def k_MOST_BANDS : Dv := .int 4
def k_MOST_HEIGHT : Dv := .int 6
def k_MOST_MANY : Dv := .int 20
def k_Wish : Dv := .glb "Wish"
noncomputable def sx1_l_pull : MS := (mIfS (mIsB (mBin gGe (mVar 2) (mBin gPow (mC (.int 10)) (mC (.int 18))))) (mSetIx (mVar 2) (mVar 0) (mC (.int 2))) (mSetIx (mBin gMod (mUn gInt1 (mBin gAdd (mBin gAdd (mBin gMul (mBin gIx (mVar 0) (mC (.int 3))) (mC (.int 44017))) (mBin gMul (mBin gMod (mUn gInt1 (mVar 2)) (mC (.int 2147483543))) (mC (.int 51341)))) (mC (.int 29)))) (mC (.int 2147483579))) (mVar 0) (mC (.int 3))))
theorem sx1_l_pull_e {ρ : Sl} {m : Mm} : sx1_l_pull ρ m = (mIfS (mIsB (mBin gGe (mVar 2) (mBin gPow (mC (.int 10)) (mC (.int 18))))) (mSetIx (mVar 2) (mVar 0) (mC (.int 2))) (mSetIx (mBin gMod (mUn gInt1 (mBin gAdd (mBin gAdd (mBin gMul (mBin gIx (mVar 0) (mC (.int 3))) (mC (.int 44017))) (mBin gMul (mBin gMod (mUn gInt1 (mVar 2)) (mC (.int 2147483543))) (mC (.int 51341)))) (mC (.int 29)))) (mC (.int 2147483579))) (mVar 0) (mC (.int 3)))) ρ m := rfl
noncomputable def sx2_l_pull : MS := (mSeq (mSetIx (mBin gAdd (mBin gIx (mVar 0) (mC (.int 1))) (mC (.int 1))) (mVar 0) (mC (.int 1))) sx1_l_pull)
theorem sx2_l_pull_e {ρ : Sl} {m : Mm} : sx2_l_pull ρ m = (mSeq (mSetIx (mBin gAdd (mBin gIx (mVar 0) (mC (.int 1))) (mC (.int 1))) (mVar 0) (mC (.int 1))) sx1_l_pull) ρ m := rfl
noncomputable def sx3_l_pull : MS := (mRet (mVar 3))
theorem sx3_l_pull_e {ρ : Sl} {m : Mm} : sx3_l_pull ρ m = (mRet (mVar 3)) ρ m := rfl
noncomputable def sx4_l_pull : MS := (mSeq (mSetIx (mBin gFdiv (mBin gIx (mVar 0) (mC (.int 2))) (mVar 1)) (mVar 0) (mC (.int 2))) sx3_l_pull)
theorem sx4_l_pull_e {ρ : Sl} {m : Mm} : sx4_l_pull ρ m = (mSeq (mSetIx (mBin gFdiv (mBin gIx (mVar 0) (mC (.int 2))) (mVar 1)) (mVar 0) (mC (.int 2))) sx3_l_pull) ρ m := rfl
noncomputable def sx5_l_pull : MS := (mRet (mBin gMod (mUn gInt1 (mBin gAdd (mBin gFdiv (mBin gIx (mVar 0) (mC (.int 3))) (mC (.int 71))) (mBin gMul (mBin gMod (mUn gInt1 (mBin gIx (mVar 0) (mC (.int 3)))) (mC (.int 7919))) (mC (.int 59))))) (mVar 1)))
theorem sx5_l_pull_e {ρ : Sl} {m : Mm} : sx5_l_pull ρ m = (mRet (mBin gMod (mUn gInt1 (mBin gAdd (mBin gFdiv (mBin gIx (mVar 0) (mC (.int 3))) (mC (.int 71))) (mBin gMul (mBin gMod (mUn gInt1 (mBin gIx (mVar 0) (mC (.int 3)))) (mC (.int 7919))) (mC (.int 59))))) (mVar 1))) ρ m := rfl
noncomputable def sx6_l_pull : MS := (mSeq (mSetIx (mBin gMod (mUn gInt1 (mBin gAdd (mBin gAdd (mBin gAdd (mBin gMul (mVar 4) (mVar 4)) (mBin gMul (mVar 4) (mC (.int 33029)))) (mBin gMul (mBin gIx (mVar 0) (mC (.int 4))) (mC (.int 1299709)))) (mC (.int 91229)))) (mC (.int 2147483579))) (mVar 0) (mC (.int 3))) sx5_l_pull)
theorem sx6_l_pull_e {ρ : Sl} {m : Mm} : sx6_l_pull ρ m = (mSeq (mSetIx (mBin gMod (mUn gInt1 (mBin gAdd (mBin gAdd (mBin gAdd (mBin gMul (mVar 4) (mVar 4)) (mBin gMul (mVar 4) (mC (.int 33029)))) (mBin gMul (mBin gIx (mVar 0) (mC (.int 4))) (mC (.int 1299709)))) (mC (.int 91229)))) (mC (.int 2147483579))) (mVar 0) (mC (.int 3))) sx5_l_pull) ρ m := rfl
noncomputable def sx7_l_pull : MS := (mSeq (mAsg (mBin gIx (mVar 0) (mC (.int 3))) (mGn 4)) sx6_l_pull)
theorem sx7_l_pull_e {ρ : Sl} {m : Mm} : sx7_l_pull ρ m = (mSeq (mAsg (mBin gIx (mVar 0) (mC (.int 3))) (mGn 4)) sx6_l_pull) ρ m := rfl
noncomputable def sx8_l_pull : MS := (mSeq (mSetIx (mBin gAdd (mBin gIx (mVar 0) (mC (.int 4))) (mC (.int 1))) (mVar 0) (mC (.int 4))) sx7_l_pull)
theorem sx8_l_pull_e {ρ : Sl} {m : Mm} : sx8_l_pull ρ m = (mSeq (mSetIx (mBin gAdd (mBin gIx (mVar 0) (mC (.int 4))) (mC (.int 1))) (mVar 0) (mC (.int 4))) sx7_l_pull) ρ m := rfl
noncomputable def sx9_l_pull : MS := (mSeq (mIfS (mIsB (mBin gGt (mBin gIx (mVar 0) (mC (.int 2))) (mC (.int 0)))) (mSeq (mAsg (mBin gMod (mUn gInt1 (mBin gIx (mVar 0) (mC (.int 2)))) (mVar 1)) (mGn 3)) sx4_l_pull) mNext) sx8_l_pull)
theorem sx9_l_pull_e {ρ : Sl} {m : Mm} : sx9_l_pull ρ m = (mSeq (mIfS (mIsB (mBin gGt (mBin gIx (mVar 0) (mC (.int 2))) (mC (.int 0)))) (mSeq (mAsg (mBin gMod (mUn gInt1 (mBin gIx (mVar 0) (mC (.int 2)))) (mVar 1)) (mGn 3)) sx4_l_pull) mNext) sx8_l_pull) ρ m := rfl
noncomputable def b_l_pull : MS := (mSeq (mIfS (mAndB (mIsB (mBin gEq (mBin gIx (mVar 0) (mC (.int 2))) (mC (.int 0)))) (mIsB (mBin gLt (mBin gIx (mVar 0) (mC (.int 1))) (mUn gLen (mBin gIx (mVar 0) (mC (.int 0))))))) (mSeq (mAsg (mBin gIx (mBin gIx (mVar 0) (mC (.int 0))) (mBin gIx (mVar 0) (mC (.int 1)))) (mGn 2)) sx2_l_pull) mNext) sx9_l_pull)
theorem b_l_pull_e {ρ : Sl} {m : Mm} : b_l_pull ρ m = (mSeq (mIfS (mAndB (mIsB (mBin gEq (mBin gIx (mVar 0) (mC (.int 2))) (mC (.int 0)))) (mIsB (mBin gLt (mBin gIx (mVar 0) (mC (.int 1))) (mUn gLen (mBin gIx (mVar 0) (mC (.int 0))))))) (mSeq (mAsg (mBin gIx (mBin gIx (mVar 0) (mC (.int 0))) (mBin gIx (mVar 0) (mC (.int 1)))) (mGn 2)) sx2_l_pull) mNext) sx9_l_pull) ρ m := rfl
noncomputable def m_l_pull : MF := mDef 5 b_l_pull
theorem u_l_pull {a0 a1 : Dv} {m : Mm} : m_l_pull [a0, a1] m = (b_l_pull [.val a0, .val a1, .un, .un, .un] m).fin := rfl
noncomputable def b_l_any : MS := (mRet (mBin gIx (mVar 1) (mCall 2 m_l_pull (mCons (mVar 0) (mCons (mUn gLen (mVar 1)) mNil)))))
theorem b_l_any_e {ρ : Sl} {m : Mm} : b_l_any ρ m = (mRet (mBin gIx (mVar 1) (mCall 2 m_l_pull (mCons (mVar 0) (mCons (mUn gLen (mVar 1)) mNil))))) ρ m := rfl
noncomputable def m_l_any : MF := mDef 2 b_l_any
theorem u_l_any {a0 a1 : Dv} {m : Mm} : m_l_any [a0, a1] m = (b_l_any [.val a0, .val a1] m).fin := rfl
noncomputable def ct1_l_holds : MB := (mAndB (mTru (mVar 3)) (mIsB (mChain gLe gLe (mBin gIx (mVar 0) (mC (.int 0))) (mVar 2) (mBin gIx (mVar 0) (mC (.int 1))))))
theorem ct1_l_holds_e {ρ : Sl} {m : Mm} : ct1_l_holds ρ m = (mAndB (mTru (mVar 3)) (mIsB (mChain gLe gLe (mBin gIx (mVar 0) (mC (.int 0))) (mVar 2) (mBin gIx (mVar 0) (mC (.int 1)))))) ρ m := rfl
noncomputable def b_l_holds : MS := (mRet (mBin gGe (mUn gLen (mFrz (mLc [2, 3] (mItA (mVar 1)) (mGt 2 (mGcons (mGn 2) (mGcons (mGn 3) mGnil))) ct1_l_holds (mVar 2)))) (mBin gIx (mVar 0) (mC (.int 2)))))
theorem b_l_holds_e {ρ : Sl} {m : Mm} : b_l_holds ρ m = (mRet (mBin gGe (mUn gLen (mFrz (mLc [2, 3] (mItA (mVar 1)) (mGt 2 (mGcons (mGn 2) (mGcons (mGn 3) mGnil))) ct1_l_holds (mVar 2)))) (mBin gIx (mVar 0) (mC (.int 2))))) ρ m := rfl
noncomputable def m_l_holds : MF := mDef 4 b_l_holds
theorem u_l_holds {a0 a1 : Dv} {m : Mm} : m_l_holds [a0, a1] m = (b_l_holds [.val a0, .val a1, .un, .un] m).fin := rfl
noncomputable def ce1_l_granted : ME := (mTup (mCons (mVar 2) (mCons (mC (.bl true)) mNil)))
theorem ce1_l_granted_e {ρ : Sl} {m : Mm} : ce1_l_granted ρ m = (mTup (mCons (mVar 2) (mCons (mC (.bl true)) mNil))) ρ m := rfl
noncomputable def ce2_l_granted : ME := (mCall 2 m_l_holds (mCons (mVar 3) (mCons (mFrz (mLc [2] (mItA (mVar 1)) (mGn 2) mYes ce1_l_granted)) mNil)))
theorem ce2_l_granted_e {ρ : Sl} {m : Mm} : ce2_l_granted ρ m = (mCall 2 m_l_holds (mCons (mVar 3) (mCons (mFrz (mLc [2] (mItA (mVar 1)) (mGn 2) mYes ce1_l_granted)) mNil))) ρ m := rfl
noncomputable def b_l_granted : MS := (mRet (mUn gAll (mFrz (mLc [3] (mItA (mVar 0)) (mGn 3) mYes ce2_l_granted))))
theorem b_l_granted_e {ρ : Sl} {m : Mm} : b_l_granted ρ m = (mRet (mUn gAll (mFrz (mLc [3] (mItA (mVar 0)) (mGn 3) mYes ce2_l_granted)))) ρ m := rfl
noncomputable def m_l_granted : MF := mDef 4 b_l_granted
theorem u_l_granted {a0 a1 : Dv} {m : Mm} : m_l_granted [a0, a1] m = (b_l_granted [.val a0, .val a1, .un, .un] m).fin := rfl
noncomputable def ce1_l_height : ME := (mBin gIx (mVar 1) (mC (.int 1)))
theorem ce1_l_height_e {ρ : Sl} {m : Mm} : ce1_l_height ρ m = (mBin gIx (mVar 1) (mC (.int 1))) ρ m := rfl
noncomputable def b_l_height : MS := (mRet (mUn gMax (mFrz (mLc [1] (mItA (mVar 0)) (mGn 1) mYes ce1_l_height))))
theorem b_l_height_e {ρ : Sl} {m : Mm} : b_l_height ρ m = (mRet (mUn gMax (mFrz (mLc [1] (mItA (mVar 0)) (mGn 1) mYes ce1_l_height)))) ρ m := rfl
noncomputable def m_l_height : MF := mDef 2 b_l_height
theorem u_l_height {a0 : Dv} {m : Mm} : m_l_height [a0] m = (b_l_height [.val a0, .un] m).fin := rfl
noncomputable def ce1_l_like (mself : MF) : ME := (mCall 2 mself (mCons (mBin gIx (mVar 0) (mVar 2)) (mCons (mBin gIx (mVar 1) (mVar 2)) mNil)))
theorem ce1_l_like_e {mself : MF} {ρ : Sl} {m : Mm} : ce1_l_like mself ρ m = (mCall 2 mself (mCons (mBin gIx (mVar 0) (mVar 2)) (mCons (mBin gIx (mVar 1) (mVar 2)) mNil))) ρ m := rfl
noncomputable def sx1_l_like (mself : MF) : MS := (mRet (mAndV (mBin gEq (mUn gLen (mVar 0)) (mUn gLen (mVar 1))) (mUn gAll (mFrz (mLc [2] (mRng1 (mCons (mUn gLen (mVar 1)) mNil)) (mGn 2) mYes (ce1_l_like mself))))))
theorem sx1_l_like_e {mself : MF} {ρ : Sl} {m : Mm} : sx1_l_like mself ρ m = (mRet (mAndV (mBin gEq (mUn gLen (mVar 0)) (mUn gLen (mVar 1))) (mUn gAll (mFrz (mLc [2] (mRng1 (mCons (mUn gLen (mVar 1)) mNil)) (mGn 2) mYes (ce1_l_like mself)))))) ρ m := rfl
noncomputable def sx2_l_like : MS := (mRet (mAndV (mBin gEq (mCB gIsiM (mCons (mVar 0) (mCons (mC (.ty "str")) mNil))) (mCB gIsiM (mCons (mVar 1) (mCons (mC (.ty "str")) mNil)))) (mBin gEq (mVar 0) (mVar 1))))
theorem sx2_l_like_e {ρ : Sl} {m : Mm} : sx2_l_like ρ m = (mRet (mAndV (mBin gEq (mCB gIsiM (mCons (mVar 0) (mCons (mC (.ty "str")) mNil))) (mCB gIsiM (mCons (mVar 1) (mCons (mC (.ty "str")) mNil)))) (mBin gEq (mVar 0) (mVar 1)))) ρ m := rfl
noncomputable def sx3_l_like : MS := (mSeq (mIfS (mOrB (mIsB (mBin gNe (mCB gIsiM (mCons (mVar 0) (mCons (mC (.ty "bool")) mNil))) (mCB gIsiM (mCons (mVar 1) (mCons (mC (.ty "bool")) mNil))))) (mIsB (mBin gNe (mCB gIsiM (mCons (mVar 0) (mCons (mC (.ty "int")) mNil))) (mCB gIsiM (mCons (mVar 1) (mCons (mC (.ty "int")) mNil)))))) (mRet (mC (.bl false))) mNext) sx2_l_like)
theorem sx3_l_like_e {ρ : Sl} {m : Mm} : sx3_l_like ρ m = (mSeq (mIfS (mOrB (mIsB (mBin gNe (mCB gIsiM (mCons (mVar 0) (mCons (mC (.ty "bool")) mNil))) (mCB gIsiM (mCons (mVar 1) (mCons (mC (.ty "bool")) mNil))))) (mIsB (mBin gNe (mCB gIsiM (mCons (mVar 0) (mCons (mC (.ty "int")) mNil))) (mCB gIsiM (mCons (mVar 1) (mCons (mC (.ty "int")) mNil)))))) (mRet (mC (.bl false))) mNext) sx2_l_like) ρ m := rfl
noncomputable def sx4_l_like (mself : MF) : MS := (mSeq (mIfS (mTru (mCB gIsiM (mCons (mVar 1) (mCons (mTup (mCons (mC (.ty "list")) (mCons (mC (.ty "tuple")) mNil))) mNil)))) (mSeq (mIfS (mOrB (mIsB (mBin gNe (mCB gIsiM (mCons (mVar 0) (mCons (mC (.ty "list")) mNil))) (mCB gIsiM (mCons (mVar 1) (mCons (mC (.ty "list")) mNil))))) (mIsB (mBin gNe (mCB gIsiM (mCons (mVar 0) (mCons (mC (.ty "tuple")) mNil))) (mCB gIsiM (mCons (mVar 1) (mCons (mC (.ty "tuple")) mNil)))))) (mRet (mC (.bl false))) mNext) (sx1_l_like mself)) mNext) sx3_l_like)
theorem sx4_l_like_e {mself : MF} {ρ : Sl} {m : Mm} : sx4_l_like mself ρ m = (mSeq (mIfS (mTru (mCB gIsiM (mCons (mVar 1) (mCons (mTup (mCons (mC (.ty "list")) (mCons (mC (.ty "tuple")) mNil))) mNil)))) (mSeq (mIfS (mOrB (mIsB (mBin gNe (mCB gIsiM (mCons (mVar 0) (mCons (mC (.ty "list")) mNil))) (mCB gIsiM (mCons (mVar 1) (mCons (mC (.ty "list")) mNil))))) (mIsB (mBin gNe (mCB gIsiM (mCons (mVar 0) (mCons (mC (.ty "tuple")) mNil))) (mCB gIsiM (mCons (mVar 1) (mCons (mC (.ty "tuple")) mNil)))))) (mRet (mC (.bl false))) mNext) (sx1_l_like mself)) mNext) sx3_l_like) ρ m := rfl
noncomputable def b_l_like (mself : MF) : MS := (mSeq (mIfS (mOrB (mIsB (mBin (gIsN false) (mVar 0) (mC .non))) (mIsB (mBin (gIsN false) (mVar 1) (mC .non)))) (mRet (mAndV (mBin (gIsN false) (mVar 0) (mC .non)) (mBin (gIsN false) (mVar 1) (mC .non)))) mNext) (sx4_l_like mself))
theorem b_l_like_e {mself : MF} {ρ : Sl} {m : Mm} : b_l_like mself ρ m = (mSeq (mIfS (mOrB (mIsB (mBin (gIsN false) (mVar 0) (mC .non))) (mIsB (mBin (gIsN false) (mVar 1) (mC .non)))) (mRet (mAndV (mBin (gIsN false) (mVar 0) (mC .non)) (mBin (gIsN false) (mVar 1) (mC .non)))) mNext) (sx4_l_like mself)) ρ m := rfl
noncomputable def mf_l_like : Nat → MF
  | 0 => mDef 3 mNoS
  | n + 1 => mDef 3 (b_l_like (mf_l_like n))
noncomputable def m_l_like : MF := mf_l_like 12
theorem u_l_like {a0 a1 : Dv} {m : Mm} {n : Nat} : mf_l_like (n + 1) [a0, a1] m = (b_l_like (mf_l_like n) [.val a0, .val a1, .un] m).fin := rfl
noncomputable def b_check_number : MS := (mIfS (mNot (mIsB (mChain gLe gLe (mVar 1) (mVar 0) (mVar 2)))) (mRaise1 "BadNumber" "BadNumber" "given" (mCons (mVar 0) mNil)) mNext)
theorem b_check_number_e {ρ : Sl} {m : Mm} : b_check_number ρ m = (mIfS (mNot (mIsB (mChain gLe gLe (mVar 1) (mVar 0) (mVar 2)))) (mRaise1 "BadNumber" "BadNumber" "given" (mCons (mVar 0) mNil)) mNext) ρ m := rfl
noncomputable def m_check_number : MF := mDef 3 b_check_number
theorem u_check_number {a0 a1 a2 : Dv} {m : Mm} : m_check_number [a0, a1, a2] m = (b_check_number [.val a0, .val a1, .val a2] m).fin := rfl
noncomputable def sx1_Band_DinitD : MS := (mStF "Band" "own_text" (mJs [(mFmt (mVar 1)), (mC (.str " ")), (mFmt (mVar 2)), (mC (.str " ")), (mFmt (mVar 3))]) (mVar 0))
theorem sx1_Band_DinitD_e {ρ : Sl} {m : Mm} : sx1_Band_DinitD ρ m = (mStF "Band" "own_text" (mJs [(mFmt (mVar 1)), (mC (.str " ")), (mFmt (mVar 2)), (mC (.str " ")), (mFmt (mVar 3))]) (mVar 0)) ρ m := rfl
noncomputable def sx2_Band_DinitD : MS := (mSeq (mStF "Band" "own_many" (mVar 3) (mVar 0)) sx1_Band_DinitD)
theorem sx2_Band_DinitD_e {ρ : Sl} {m : Mm} : sx2_Band_DinitD ρ m = (mSeq (mStF "Band" "own_many" (mVar 3) (mVar 0)) sx1_Band_DinitD) ρ m := rfl
noncomputable def sx3_Band_DinitD : MS := (mSeq (mStF "Band" "own_high" (mVar 2) (mVar 0)) sx2_Band_DinitD)
theorem sx3_Band_DinitD_e {ρ : Sl} {m : Mm} : sx3_Band_DinitD ρ m = (mSeq (mStF "Band" "own_high" (mVar 2) (mVar 0)) sx2_Band_DinitD) ρ m := rfl
noncomputable def sx4_Band_DinitD : MS := (mSeq (mStF "Band" "own_low" (mVar 1) (mVar 0)) sx3_Band_DinitD)
theorem sx4_Band_DinitD_e {ρ : Sl} {m : Mm} : sx4_Band_DinitD ρ m = (mSeq (mStF "Band" "own_low" (mVar 1) (mVar 0)) sx3_Band_DinitD) ρ m := rfl
noncomputable def sx5_Band_DinitD : MS := (mSeq (mExpr (mCall 3 m_check_number (mCons (mVar 3) (mCons (mC (.int 1)) (mCons (mC k_MOST_MANY) mNil))))) sx4_Band_DinitD)
theorem sx5_Band_DinitD_e {ρ : Sl} {m : Mm} : sx5_Band_DinitD ρ m = (mSeq (mExpr (mCall 3 m_check_number (mCons (mVar 3) (mCons (mC (.int 1)) (mCons (mC k_MOST_MANY) mNil))))) sx4_Band_DinitD) ρ m := rfl
noncomputable def sx6_Band_DinitD : MS := (mSeq (mExpr (mCall 3 m_check_number (mCons (mVar 2) (mCons (mVar 1) (mCons (mC k_MOST_AGE) mNil))))) sx5_Band_DinitD)
theorem sx6_Band_DinitD_e {ρ : Sl} {m : Mm} : sx6_Band_DinitD ρ m = (mSeq (mExpr (mCall 3 m_check_number (mCons (mVar 2) (mCons (mVar 1) (mCons (mC k_MOST_AGE) mNil))))) sx5_Band_DinitD) ρ m := rfl
noncomputable def b_Band_DinitD : MS := (mSeq (mExpr (mCall 3 m_check_number (mCons (mVar 1) (mCons (mC (.int 0)) (mCons (mC k_MOST_AGE) mNil))))) sx6_Band_DinitD)
theorem b_Band_DinitD_e {ρ : Sl} {m : Mm} : b_Band_DinitD ρ m = (mSeq (mExpr (mCall 3 m_check_number (mCons (mVar 1) (mCons (mC (.int 0)) (mCons (mC k_MOST_AGE) mNil))))) sx6_Band_DinitD) ρ m := rfl
noncomputable def m_Band_DinitD : MF := mDef 4 b_Band_DinitD
theorem u_Band_DinitD {a0 a1 a2 a3 : Dv} {m : Mm} : m_Band_DinitD [a0, a1, a2, a3] m = (b_Band_DinitD [.val a0, .val a1, .val a2, .val a3] m).fin := rfl
noncomputable def m_Band_DinitD_3 : MF := fun l m => m_Band_DinitD (pick [0, 1, 2, 3] (l.take 3 ++ ([.int 1] ++ l.drop 3))) m
noncomputable def m_Band_DinitD_3_many : MF := fun l m => m_Band_DinitD (pick [0, 1, 2, 3] l) m
noncomputable def b_l_made_band : MS := (mRet (mFrz (mMake "Band" 4 m_Band_DinitD_3_many (mArgs 2 1 (mCons (mBin gIx (mVar 0) (mC (.int 0))) (mCons (mBin gIx (mVar 0) (mC (.int 1))) mNil)) (mCons (mBin gIx (mVar 0) (mC (.int 2))) mNil)))))
theorem b_l_made_band_e {ρ : Sl} {m : Mm} : b_l_made_band ρ m = (mRet (mFrz (mMake "Band" 4 m_Band_DinitD_3_many (mArgs 2 1 (mCons (mBin gIx (mVar 0) (mC (.int 0))) (mCons (mBin gIx (mVar 0) (mC (.int 1))) mNil)) (mCons (mBin gIx (mVar 0) (mC (.int 2))) mNil))))) ρ m := rfl
noncomputable def m_l_made_band : MF := mDef 1 b_l_made_band
theorem u_l_made_band {a0 : Dv} {m : Mm} : m_l_made_band [a0] m = (b_l_made_band [.val a0] m).fin := rfl
noncomputable def lp1_l_mixed : MS := (mMut "list" gIns (mVar 2) (mCons (mCall 2 m_l_pull (mCons (mVar 0) (mCons (mBin gAdd (mUn gLen (mVar 2)) (mC (.int 1))) mNil))) (mCons (mVar 3) mNil)))
theorem lp1_l_mixed_e {ρ : Sl} {m : Mm} : lp1_l_mixed ρ m = (mMut "list" gIns (mVar 2) (mCons (mCall 2 m_l_pull (mCons (mVar 0) (mCons (mBin gAdd (mUn gLen (mVar 2)) (mC (.int 1))) mNil))) (mCons (mVar 3) mNil))) ρ m := rfl
noncomputable def sx1_l_mixed : MS := (mFz 2 (mRet (mVar 2)))
theorem sx1_l_mixed_e {ρ : Sl} {m : Mm} : sx1_l_mixed ρ m = (mFz 2 (mRet (mVar 2))) ρ m := rfl
noncomputable def sx2_l_mixed : MS := (mSeq (mFor (mItA (mVar 1)) (mGn 3) lp1_l_mixed) sx1_l_mixed)
theorem sx2_l_mixed_e {ρ : Sl} {m : Mm} : sx2_l_mixed ρ m = (mSeq (mFor (mItA (mVar 1)) (mGn 3) lp1_l_mixed) sx1_l_mixed) ρ m := rfl
noncomputable def b_l_mixed : MS := (mSeq (mAsgO 2 (mLst mNil)) sx2_l_mixed)
theorem b_l_mixed_e {ρ : Sl} {m : Mm} : b_l_mixed ρ m = (mSeq (mAsgO 2 (mLst mNil)) sx2_l_mixed) ρ m := rfl
noncomputable def m_l_mixed : MF := mDef 4 b_l_mixed
theorem u_l_mixed {a0 a1 : Dv} {m : Mm} : m_l_mixed [a0, a1] m = (b_l_mixed [.val a0, .val a1, .un, .un] m).fin := rfl
noncomputable def b_l_opened : MS := (mRet (mLoc (mLst (mCons (mFrz (mUnN gList (mSl (mVar 0) mO0 (mO1 (mC (.int 63)))))) (mCons (mC (.int 0)) (mCons (mC (.int 0)) (mCons (mC (.int 5794)) (mCons (mC (.int 0)) mNil))))))))
theorem b_l_opened_e {ρ : Sl} {m : Mm} : b_l_opened ρ m = (mRet (mLoc (mLst (mCons (mFrz (mUnN gList (mSl (mVar 0) mO0 (mO1 (mC (.int 63)))))) (mCons (mC (.int 0)) (mCons (mC (.int 0)) (mCons (mC (.int 5794)) (mCons (mC (.int 0)) mNil)))))))) ρ m := rfl
noncomputable def m_l_opened : MF := mDef 1 b_l_opened
theorem u_l_opened {a0 : Dv} {m : Mm} : m_l_opened [a0] m = (b_l_opened [.val a0] m).fin := rfl
noncomputable def sx1_l_wish : MS := (mMut "list" gApp (mVar 1) (mCons (mTup (mCons (mVar 3) (mCons (mBin gAdd (mVar 3) (mCall 2 m_l_pull (mCons (mVar 0) (mCons (mBin gSub (mC (.int 5)) (mVar 3)) mNil)))) (mCons (mBin gAdd (mC (.int 1)) (mCall 2 m_l_any (mCons (mVar 0) (mCons (mFrz (mLst (mCons (mC (.int 0)) (mCons (mC (.int 0)) (mCons (mC (.int 0)) (mCons (mC (.int 0)) (mCons (mC (.int 1)) mNil))))))) mNil)))) mNil)))) mNil))
theorem sx1_l_wish_e {ρ : Sl} {m : Mm} : sx1_l_wish ρ m = (mMut "list" gApp (mVar 1) (mCons (mTup (mCons (mVar 3) (mCons (mBin gAdd (mVar 3) (mCall 2 m_l_pull (mCons (mVar 0) (mCons (mBin gSub (mC (.int 5)) (mVar 3)) mNil)))) (mCons (mBin gAdd (mC (.int 1)) (mCall 2 m_l_any (mCons (mVar 0) (mCons (mFrz (mLst (mCons (mC (.int 0)) (mCons (mC (.int 0)) (mCons (mC (.int 0)) (mCons (mC (.int 0)) (mCons (mC (.int 1)) mNil))))))) mNil)))) mNil)))) mNil)) ρ m := rfl
noncomputable def lp1_l_wish : MS := (mSeq (mAsg (mCall 2 m_l_pull (mCons (mVar 0) (mCons (mC (.int 4)) mNil))) (mGn 3)) sx1_l_wish)
theorem lp1_l_wish_e {ρ : Sl} {m : Mm} : lp1_l_wish ρ m = (mSeq (mAsg (mCall 2 m_l_pull (mCons (mVar 0) (mCons (mC (.int 4)) mNil))) (mGn 3)) sx1_l_wish) ρ m := rfl
noncomputable def sx2_l_wish : MS := (mFz 1 (mRet (mVar 1)))
theorem sx2_l_wish_e {ρ : Sl} {m : Mm} : sx2_l_wish ρ m = (mFz 1 (mRet (mVar 1))) ρ m := rfl
noncomputable def sx3_l_wish : MS := (mSeq (mFor (mRng1 (mCons (mBin gAdd (mC (.int 1)) (mCall 2 m_l_pull (mCons (mVar 0) (mCons (mC (.int 2)) mNil)))) mNil)) (mGn 2) lp1_l_wish) sx2_l_wish)
theorem sx3_l_wish_e {ρ : Sl} {m : Mm} : sx3_l_wish ρ m = (mSeq (mFor (mRng1 (mCons (mBin gAdd (mC (.int 1)) (mCall 2 m_l_pull (mCons (mVar 0) (mCons (mC (.int 2)) mNil)))) mNil)) (mGn 2) lp1_l_wish) sx2_l_wish) ρ m := rfl
noncomputable def b_l_wish : MS := (mSeq (mAsgO 1 (mLst mNil)) sx3_l_wish)
theorem b_l_wish_e {ρ : Sl} {m : Mm} : b_l_wish ρ m = (mSeq (mAsgO 1 (mLst mNil)) sx3_l_wish) ρ m := rfl
noncomputable def m_l_wish : MF := mDef 4 b_l_wish
theorem u_l_wish {a0 : Dv} {m : Mm} : m_l_wish [a0] m = (b_l_wish [.val a0, .un, .un, .un] m).fin := rfl
noncomputable def b_Wish_bands : MS := (mRet (mLoc (mUnN gList (mFld "Wish" "own_bands" (mVar 0)))))
theorem b_Wish_bands_e {ρ : Sl} {m : Mm} : b_Wish_bands ρ m = (mRet (mLoc (mUnN gList (mFld "Wish" "own_bands" (mVar 0))))) ρ m := rfl
noncomputable def m_Wish_bands : MF := mDef 1 b_Wish_bands
theorem u_Wish_bands {a0 : Dv} {m : Mm} : m_Wish_bands [a0] m = (b_Wish_bands [.val a0] m).fin := rfl
noncomputable def ct1_Band_holds : MB := (mAndB (mTru (mVar 4)) (mIsB (mChain gLe gLe (mFld "Band" "own_low" (mVar 0)) (mVar 3) (mFld "Band" "own_high" (mVar 0)))))
theorem ct1_Band_holds_e {ρ : Sl} {m : Mm} : ct1_Band_holds ρ m = (mAndB (mTru (mVar 4)) (mIsB (mChain gLe gLe (mFld "Band" "own_low" (mVar 0)) (mVar 3) (mFld "Band" "own_high" (mVar 0))))) ρ m := rfl
noncomputable def sx1_Band_holds : MS := (mRet (mBin gGe (mUn gLen (mVar 2)) (mFld "Band" "own_many" (mVar 0))))
theorem sx1_Band_holds_e {ρ : Sl} {m : Mm} : sx1_Band_holds ρ m = (mRet (mBin gGe (mUn gLen (mVar 2)) (mFld "Band" "own_many" (mVar 0)))) ρ m := rfl
noncomputable def b_Band_holds : MS := (mSeq (mAsg (mFrz (mLc [3, 4] (mItA (mVar 1)) (mGt 2 (mGcons (mGn 3) (mGcons (mGn 4) mGnil))) ct1_Band_holds (mVar 3))) (mGn 2)) sx1_Band_holds)
theorem b_Band_holds_e {ρ : Sl} {m : Mm} : b_Band_holds ρ m = (mSeq (mAsg (mFrz (mLc [3, 4] (mItA (mVar 1)) (mGt 2 (mGcons (mGn 3) (mGcons (mGn 4) mGnil))) ct1_Band_holds (mVar 3))) (mGn 2)) sx1_Band_holds) ρ m := rfl
noncomputable def m_Band_holds : MF := mDef 5 b_Band_holds
theorem u_Band_holds {a0 a1 : Dv} {m : Mm} : m_Band_holds [a0, a1] m = (b_Band_holds [.val a0, .val a1, .un, .un, .un] m).fin := rfl
noncomputable def ce1_Wish_holds : ME := (mTup (mCons (mVar 3) (mCons (mC (.bl true)) mNil)))
theorem ce1_Wish_holds_e {ρ : Sl} {m : Mm} : ce1_Wish_holds ρ m = (mTup (mCons (mVar 3) (mCons (mC (.bl true)) mNil))) ρ m := rfl
noncomputable def ce2_Wish_holds : ME := (mMeth "Band" "holds" 2 m_Band_holds (mVar 4) (mCons (mVar 2) mNil))
theorem ce2_Wish_holds_e {ρ : Sl} {m : Mm} : ce2_Wish_holds ρ m = (mMeth "Band" "holds" 2 m_Band_holds (mVar 4) (mCons (mVar 2) mNil)) ρ m := rfl
noncomputable def sx1_Wish_holds : MS := (mRet (mUn gAll (mFrz (mLc [4] (mItA (mFld "Wish" "own_bands" (mVar 0))) (mGn 4) mYes ce2_Wish_holds))))
theorem sx1_Wish_holds_e {ρ : Sl} {m : Mm} : sx1_Wish_holds ρ m = (mRet (mUn gAll (mFrz (mLc [4] (mItA (mFld "Wish" "own_bands" (mVar 0))) (mGn 4) mYes ce2_Wish_holds)))) ρ m := rfl
noncomputable def b_Wish_holds : MS := (mSeq (mAsg (mFrz (mLc [3] (mItA (mVar 1)) (mGn 3) mYes ce1_Wish_holds)) (mGn 2)) sx1_Wish_holds)
theorem b_Wish_holds_e {ρ : Sl} {m : Mm} : b_Wish_holds ρ m = (mSeq (mAsg (mFrz (mLc [3] (mItA (mVar 1)) (mGn 3) mYes ce1_Wish_holds)) (mGn 2)) sx1_Wish_holds) ρ m := rfl
noncomputable def m_Wish_holds : MF := mDef 5 b_Wish_holds
theorem u_Wish_holds {a0 a1 : Dv} {m : Mm} : m_Wish_holds [a0, a1] m = (b_Wish_holds [.val a0, .val a1, .un, .un, .un] m).fin := rfl
noncomputable def m_Wish_holds_1_ages : MF := fun l m => m_Wish_holds (pick [0, 1] l) m
noncomputable def b_Band_high : MS := (mRet (mFld "Band" "own_high" (mVar 0)))
theorem b_Band_high_e {ρ : Sl} {m : Mm} : b_Band_high ρ m = (mRet (mFld "Band" "own_high" (mVar 0))) ρ m := rfl
noncomputable def m_Band_high : MF := mDef 1 b_Band_high
theorem u_Band_high {a0 : Dv} {m : Mm} : m_Band_high [a0] m = (b_Band_high [.val a0] m).fin := rfl
noncomputable def lp1_Wish_DinitD : MS := (mIfS (mIsB (mBin gGt (mProp "Band" m_Band_high (mVar 2)) (mC k_MOST_HEIGHT))) (mRaise1 "BadNumber" "BadNumber" "given" (mCons (mProp "Band" m_Band_high (mVar 2)) mNil)) mNext)
theorem lp1_Wish_DinitD_e {ρ : Sl} {m : Mm} : lp1_Wish_DinitD ρ m = (mIfS (mIsB (mBin gGt (mProp "Band" m_Band_high (mVar 2)) (mC k_MOST_HEIGHT))) (mRaise1 "BadNumber" "BadNumber" "given" (mCons (mProp "Band" m_Band_high (mVar 2)) mNil)) mNext) ρ m := rfl
noncomputable def sx1_Wish_DinitD : MS := (mStF "Wish" "own_bands" (mFrz (mUnN gList (mVar 1))) (mVar 0))
theorem sx1_Wish_DinitD_e {ρ : Sl} {m : Mm} : sx1_Wish_DinitD ρ m = (mStF "Wish" "own_bands" (mFrz (mUnN gList (mVar 1))) (mVar 0)) ρ m := rfl
noncomputable def sx2_Wish_DinitD : MS := (mSeq (mFor (mItA (mVar 1)) (mGn 2) lp1_Wish_DinitD) sx1_Wish_DinitD)
theorem sx2_Wish_DinitD_e {ρ : Sl} {m : Mm} : sx2_Wish_DinitD ρ m = (mSeq (mFor (mItA (mVar 1)) (mGn 2) lp1_Wish_DinitD) sx1_Wish_DinitD) ρ m := rfl
noncomputable def b_Wish_DinitD : MS := (mSeq (mIfS (mNot (mIsB (mChain gLe gLe (mC (.int 1)) (mUn gLen (mVar 1)) (mC k_MOST_BANDS)))) (mRaise1 "BadCount" "BadCount" "given" (mCons (mUn gLen (mVar 1)) mNil)) mNext) sx2_Wish_DinitD)
theorem b_Wish_DinitD_e {ρ : Sl} {m : Mm} : b_Wish_DinitD ρ m = (mSeq (mIfS (mNot (mIsB (mChain gLe gLe (mC (.int 1)) (mUn gLen (mVar 1)) (mC k_MOST_BANDS)))) (mRaise1 "BadCount" "BadCount" "given" (mCons (mUn gLen (mVar 1)) mNil)) mNext) sx2_Wish_DinitD) ρ m := rfl
noncomputable def m_Wish_DinitD : MF := mDef 3 b_Wish_DinitD
theorem u_Wish_DinitD {a0 a1 : Dv} {m : Mm} : m_Wish_DinitD [a0, a1] m = (b_Wish_DinitD [.val a0, .val a1, .un] m).fin := rfl
noncomputable def m_Wish_DinitD_v1 : MF := starF 1 m_Wish_DinitD
noncomputable def m_Wish_DinitD_v2 : MF := starF 1 m_Wish_DinitD
noncomputable def m_Wish_DinitD_v3 : MF := starF 1 m_Wish_DinitD
noncomputable def m_Wish_DinitD_v4 : MF := starF 1 m_Wish_DinitD
noncomputable def m_Wish_DinitD_v5 : MF := starF 1 m_Wish_DinitD
noncomputable def m_Wish_DinitD_v6 : MF := starF 1 m_Wish_DinitD
noncomputable def b_Band_DeqD : MS := (mRet (mAndV (mCB (gIsiO "Band") (mCons (mVar 1) (mCons (mC k_Band) mNil))) (mBin gEq (mFld "Band" "own_text" (mVar 0)) (mFld "Band" "own_text" (mVar 1)))))
theorem b_Band_DeqD_e {ρ : Sl} {m : Mm} : b_Band_DeqD ρ m = (mRet (mAndV (mCB (gIsiO "Band") (mCons (mVar 1) (mCons (mC k_Band) mNil))) (mBin gEq (mFld "Band" "own_text" (mVar 0)) (mFld "Band" "own_text" (mVar 1))))) ρ m := rfl
noncomputable def m_Band_DeqD : MF := mDef 2 b_Band_DeqD
theorem u_Band_DeqD {a0 a1 : Dv} {m : Mm} : m_Band_DeqD [a0, a1] m = (b_Band_DeqD [.val a0, .val a1] m).fin := rfl
noncomputable def b_Wish_DeqD : MS := (mRet (mAndV (mCB (gIsiO "Wish") (mCons (mVar 1) (mCons (mC k_Wish) mNil))) (mBin (gEqL "Band" m_Band_DeqD) (mFld "Wish" "own_bands" (mVar 0)) (mFld "Wish" "own_bands" (mVar 1)))))
theorem b_Wish_DeqD_e {ρ : Sl} {m : Mm} : b_Wish_DeqD ρ m = (mRet (mAndV (mCB (gIsiO "Wish") (mCons (mVar 1) (mCons (mC k_Wish) mNil))) (mBin (gEqL "Band" m_Band_DeqD) (mFld "Wish" "own_bands" (mVar 0)) (mFld "Wish" "own_bands" (mVar 1))))) ρ m := rfl
noncomputable def m_Wish_DeqD : MF := mDef 2 b_Wish_DeqD
theorem u_Wish_DeqD {a0 a1 : Dv} {m : Mm} : m_Wish_DeqD [a0, a1] m = (b_Wish_DeqD [.val a0, .val a1] m).fin := rfl
noncomputable def b_Wish_DlenD : MS := (mRet (mUn gLen (mFld "Wish" "own_bands" (mVar 0))))
theorem b_Wish_DlenD_e {ρ : Sl} {m : Mm} : b_Wish_DlenD ρ m = (mRet (mUn gLen (mFld "Wish" "own_bands" (mVar 0)))) ρ m := rfl
noncomputable def m_Wish_DlenD : MF := mDef 1 b_Wish_DlenD
theorem u_Wish_DlenD {a0 : Dv} {m : Mm} : m_Wish_DlenD [a0] m = (b_Wish_DlenD [.val a0] m).fin := rfl
noncomputable def b_Band_text : MS := (mRet (mFld "Band" "own_text" (mVar 0)))
theorem b_Band_text_e {ρ : Sl} {m : Mm} : b_Band_text ρ m = (mRet (mFld "Band" "own_text" (mVar 0))) ρ m := rfl
noncomputable def m_Band_text : MF := mDef 1 b_Band_text
theorem u_Band_text {a0 : Dv} {m : Mm} : m_Band_text [a0] m = (b_Band_text [.val a0] m).fin := rfl
noncomputable def ce1_Wish_DreprD : ME := (mProp "Band" m_Band_text (mVar 1))
theorem ce1_Wish_DreprD_e {ρ : Sl} {m : Mm} : ce1_Wish_DreprD ρ m = (mProp "Band" m_Band_text (mVar 1)) ρ m := rfl
noncomputable def b_Wish_DreprD : MS := (mRet (mJs [(mC (.str "Wish(")), (mFmt (mS1 gJoin (mC (.str ", ")) (mFrz (mLc [1] (mItA (mFld "Wish" "own_bands" (mVar 0))) (mGn 1) mYes ce1_Wish_DreprD)))), (mC (.str ")"))]))
theorem b_Wish_DreprD_e {ρ : Sl} {m : Mm} : b_Wish_DreprD ρ m = (mRet (mJs [(mC (.str "Wish(")), (mFmt (mS1 gJoin (mC (.str ", ")) (mFrz (mLc [1] (mItA (mFld "Wish" "own_bands" (mVar 0))) (mGn 1) mYes ce1_Wish_DreprD)))), (mC (.str ")"))])) ρ m := rfl
noncomputable def m_Wish_DreprD : MF := mDef 2 b_Wish_DreprD
theorem u_Wish_DreprD {a0 : Dv} {m : Mm} : m_Wish_DreprD [a0] m = (b_Wish_DreprD [.val a0, .un] m).fin := rfl
noncomputable def ce1_Wish_height : ME := (mProp "Band" m_Band_high (mVar 1))
theorem ce1_Wish_height_e {ρ : Sl} {m : Mm} : ce1_Wish_height ρ m = (mProp "Band" m_Band_high (mVar 1)) ρ m := rfl
noncomputable def b_Wish_height : MS := (mRet (mUn gMax (mFrz (mLc [1] (mItA (mFld "Wish" "own_bands" (mVar 0))) (mGn 1) mYes ce1_Wish_height))))
theorem b_Wish_height_e {ρ : Sl} {m : Mm} : b_Wish_height ρ m = (mRet (mUn gMax (mFrz (mLc [1] (mItA (mFld "Wish" "own_bands" (mVar 0))) (mGn 1) mYes ce1_Wish_height)))) ρ m := rfl
noncomputable def m_Wish_height : MF := mDef 2 b_Wish_height
theorem u_Wish_height {a0 : Dv} {m : Mm} : m_Wish_height [a0] m = (b_Wish_height [.val a0, .un] m).fin := rfl
noncomputable def ce1_law : ME := (mCall 1 m_l_made_band (mCons (mVar 13) mNil))
theorem ce1_law_e {ρ : Sl} {m : Mm} : ce1_law ρ m = (mCall 1 m_l_made_band (mCons (mVar 13) mNil)) ρ m := rfl
noncomputable def ce2_law : ME := (mUn gStr2 (mVar 14))
theorem ce2_law_e {ρ : Sl} {m : Mm} : ce2_law ρ m = (mUn gStr2 (mVar 14)) ρ m := rfl
noncomputable def ce3_law : ME := (mS1 gJoin (mC (.str " ")) (mFrz (mLc [14] (mItA (mVar 15)) (mGn 14) mYes ce2_law)))
theorem ce3_law_e {ρ : Sl} {m : Mm} : ce3_law ρ m = (mS1 gJoin (mC (.str " ")) (mFrz (mLc [14] (mItA (mVar 15)) (mGn 14) mYes ce2_law))) ρ m := rfl
noncomputable def ce4_law : ME := (mProp "Band" m_Band_text (mVar 13))
theorem ce4_law_e {ρ : Sl} {m : Mm} : ce4_law ρ m = (mProp "Band" m_Band_text (mVar 13)) ρ m := rfl
noncomputable def ct1_law : MB := (mIsB (mBin gGt (mCall 2 m_l_pull (mCons (mVar 1) (mCons (mC (.int 3)) mNil))) (mC (.int 0))))
theorem ct1_law_e {ρ : Sl} {m : Mm} : ct1_law ρ m = (mIsB (mBin gGt (mCall 2 m_l_pull (mCons (mVar 1) (mCons (mC (.int 3)) mNil))) (mC (.int 0)))) ρ m := rfl
noncomputable def lm1_law : ME := (mFrz (mMake "Wish" 4 m_Wish_DinitD_v4 (mCons (mBin gIx (mVar 4) (mC (.int 0))) (mCons (mFrz (mMake "Band" 3 m_Band_DinitD_3 (mCons (mC (.int 3)) (mCons (mVar 5) mNil)))) (mCons (mFrz (mMake "Band" 3 m_Band_DinitD_3 (mCons (mC (.int 0)) (mCons (mC (.int 40)) mNil)))) mNil)))))
theorem lm1_law_e {ρ : Sl} {m : Mm} : lm1_law ρ m = (mFrz (mMake "Wish" 4 m_Wish_DinitD_v4 (mCons (mBin gIx (mVar 4) (mC (.int 0))) (mCons (mFrz (mMake "Band" 3 m_Band_DinitD_3 (mCons (mC (.int 3)) (mCons (mVar 5) mNil)))) (mCons (mFrz (mMake "Band" 3 m_Band_DinitD_3 (mCons (mC (.int 0)) (mCons (mC (.int 40)) mNil)))) mNil))))) ρ m := rfl
noncomputable def sx1_law : MS := (mIfTry ["BadNumber", "BadCount"] lm1_law gNe (mTup (mCons (mC (.str "BadNumber")) (mCons (mVar 5) mNil))) (mRet (mC (.bl false))) mNext)
theorem sx1_law_e {ρ : Sl} {m : Mm} : sx1_law ρ m = (mIfTry ["BadNumber", "BadCount"] lm1_law gNe (mTup (mCons (mC (.str "BadNumber")) (mCons (mVar 5) mNil))) (mRet (mC (.bl false))) mNext) ρ m := rfl
noncomputable def sx2_law : MS := (mSeq (mIfS (mNot (mTru (mCall 2 m_l_like (mCons (mVar 11) (mCons (mFrz (mLst (mCons (mC (.bl false)) (mCons (mAndV (mBin gEq (mUn gLen (mVar 7)) (mC (.int 2))) (mBin (gEqO "Band" m_Band_DeqD) (mBin gIx (mVar 4) (mC (.int 0))) (mBin gIx (mVar 4) (mC (.int 1))))) (mCons (mC (.bl false)) (mCons (mC (.bl true)) mNil)))))) mNil))))) (mRet (mC (.bl false))) mNext) sx1_law)
theorem sx2_law_e {ρ : Sl} {m : Mm} : sx2_law ρ m = (mSeq (mIfS (mNot (mTru (mCall 2 m_l_like (mCons (mVar 11) (mCons (mFrz (mLst (mCons (mC (.bl false)) (mCons (mAndV (mBin gEq (mUn gLen (mVar 7)) (mC (.int 2))) (mBin (gEqO "Band" m_Band_DeqD) (mBin gIx (mVar 4) (mC (.int 0))) (mBin gIx (mVar 4) (mC (.int 1))))) (mCons (mC (.bl false)) (mCons (mC (.bl true)) mNil)))))) mNil))))) (mRet (mC (.bl false))) mNext) sx1_law) ρ m := rfl
noncomputable def sx3_law : MS := (mSeq (mAsg (mFrz (mLst (mCons (mBin (gEqO "Wish" m_Wish_DeqD) (mVar 6) (mFrz (mMake "Wish" 2 m_Wish_DinitD_v2 (mCons (mBin gIx (mVar 4) (mC (.int 0))) mNil)))) (mCons (mBin (gEqO "Wish" m_Wish_DeqD) (mVar 6) (mFrz (mMake "Wish" 3 m_Wish_DinitD_v3 (mCons (mBin gIx (mVar 4) (mC (.int 1))) (mCons (mBin gIx (mVar 4) (mC (.int 0))) mNil))))) (mCons (mBin (gEqO "Wish" m_Wish_DeqD) (mVar 6) (mVar 8)) (mCons (mBin gEq (mUn gLen (mFrz (mOwnE (mMeth "Wish" "bands" 1 m_Wish_bands (mVar 6) mNil)))) (mUn gLen (mVar 7))) mNil)))))) (mGn 11)) sx2_law)
theorem sx3_law_e {ρ : Sl} {m : Mm} : sx3_law ρ m = (mSeq (mAsg (mFrz (mLst (mCons (mBin (gEqO "Wish" m_Wish_DeqD) (mVar 6) (mFrz (mMake "Wish" 2 m_Wish_DinitD_v2 (mCons (mBin gIx (mVar 4) (mC (.int 0))) mNil)))) (mCons (mBin (gEqO "Wish" m_Wish_DeqD) (mVar 6) (mFrz (mMake "Wish" 3 m_Wish_DinitD_v3 (mCons (mBin gIx (mVar 4) (mC (.int 1))) (mCons (mBin gIx (mVar 4) (mC (.int 0))) mNil))))) (mCons (mBin (gEqO "Wish" m_Wish_DeqD) (mVar 6) (mVar 8)) (mCons (mBin gEq (mUn gLen (mFrz (mOwnE (mMeth "Wish" "bands" 1 m_Wish_bands (mVar 6) mNil)))) (mUn gLen (mVar 7))) mNil)))))) (mGn 11)) sx2_law) ρ m := rfl
noncomputable def sx4_law : MS := (mSeq (mIfS (mNot (mTru (mCall 2 m_l_like (mCons (mFrz (mLst (mCons (mMeth "Wish" "holds" 2 m_Wish_holds (mVar 6) (mCons (mVar 10) mNil)) (mCons (mMeth "Wish" "holds" 2 m_Wish_holds_1_ages (mVar 6) (mArgs 0 1 mNil (mCons (mUn gTuple (mVar 10)) mNil))) mNil)))) (mCons (mBin gMul (mFrz (mLst (mCons (mCall 2 m_l_granted (mCons (mVar 7) (mCons (mVar 10) mNil))) mNil))) (mC (.int 2))) mNil))))) (mRet (mC (.bl false))) mNext) sx3_law)
theorem sx4_law_e {ρ : Sl} {m : Mm} : sx4_law ρ m = (mSeq (mIfS (mNot (mTru (mCall 2 m_l_like (mCons (mFrz (mLst (mCons (mMeth "Wish" "holds" 2 m_Wish_holds (mVar 6) (mCons (mVar 10) mNil)) (mCons (mMeth "Wish" "holds" 2 m_Wish_holds_1_ages (mVar 6) (mArgs 0 1 mNil (mCons (mUn gTuple (mVar 10)) mNil))) mNil)))) (mCons (mBin gMul (mFrz (mLst (mCons (mCall 2 m_l_granted (mCons (mVar 7) (mCons (mVar 10) mNil))) mNil))) (mC (.int 2))) mNil))))) (mRet (mC (.bl false))) mNext) sx3_law) ρ m := rfl
noncomputable def sx5_law : MS := (mSeq (mAsg (mFrz (mLc [16] (mItA (mCall 2 m_l_mixed (mCons (mVar 1) (mCons (mFrz (mLstR (mC (.int 9)))) mNil)))) (mGn 16) ct1_law (mVar 16))) (mGn 10)) sx4_law)
theorem sx5_law_e {ρ : Sl} {m : Mm} : sx5_law ρ m = (mSeq (mAsg (mFrz (mLc [16] (mItA (mCall 2 m_l_mixed (mCons (mVar 1) (mCons (mFrz (mLstR (mC (.int 9)))) mNil)))) (mGn 16) ct1_law (mVar 16))) (mGn 10)) sx4_law) ρ m := rfl
noncomputable def sx6_law : MS := (mSeq (mMutD0 "list" gClear (mOwnE (mMeth "Wish" "bands" 1 m_Wish_bands (mVar 6) mNil))) sx5_law)
theorem sx6_law_e {ρ : Sl} {m : Mm} : sx6_law ρ m = (mSeq (mMutD0 "list" gClear (mOwnE (mMeth "Wish" "bands" 1 m_Wish_bands (mVar 6) mNil))) sx5_law) ρ m := rfl
noncomputable def sx7_law : MS := (mSeq (mIfS (mNot (mTru (mCall 2 m_l_like (mCons (mVar 9) (mCons (mFrz (mLst (mCons (mFrz (mLc [13] (mItA (mSl (mVar 4) mO0 (mO1 (mUn gLen (mVar 7))))) (mGn 13) mYes ce4_law)) (mCons (mCall 1 m_l_height (mCons (mVar 7) mNil)) (mCons (mUn gLen (mVar 7)) (mCons (mVar 8) mNil)))))) mNil))))) (mRet (mC (.bl false))) mNext) sx6_law)
theorem sx7_law_e {ρ : Sl} {m : Mm} : sx7_law ρ m = (mSeq (mIfS (mNot (mTru (mCall 2 m_l_like (mCons (mVar 9) (mCons (mFrz (mLst (mCons (mFrz (mLc [13] (mItA (mSl (mVar 4) mO0 (mO1 (mUn gLen (mVar 7))))) (mGn 13) mYes ce4_law)) (mCons (mCall 1 m_l_height (mCons (mVar 7) mNil)) (mCons (mUn gLen (mVar 7)) (mCons (mVar 8) mNil)))))) mNil))))) (mRet (mC (.bl false))) mNext) sx6_law) ρ m := rfl
noncomputable def sx8_law : MS := (mSeq (mAsg (mFrz (mLst (mCons (mFrz (mLc [13] (mItA (mFrz (mOwnE (mMeth "Wish" "bands" 1 m_Wish_bands (mVar 6) mNil)))) (mGn 13) mYes ce4_law)) (mCons (mProp "Wish" m_Wish_height (mVar 6)) (mCons (mUn (gLenO "Wish" m_Wish_DlenD) (mVar 6)) (mCons (mUn (gRepr "Wish" m_Wish_DreprD) (mVar 6)) mNil)))))) (mGn 9)) sx7_law)
theorem sx8_law_e {ρ : Sl} {m : Mm} : sx8_law ρ m = (mSeq (mAsg (mFrz (mLst (mCons (mFrz (mLc [13] (mItA (mFrz (mOwnE (mMeth "Wish" "bands" 1 m_Wish_bands (mVar 6) mNil)))) (mGn 13) mYes ce4_law)) (mCons (mProp "Wish" m_Wish_height (mVar 6)) (mCons (mUn (gLenO "Wish" m_Wish_DlenD) (mVar 6)) (mCons (mUn (gRepr "Wish" m_Wish_DreprD) (mVar 6)) mNil)))))) (mGn 9)) sx7_law) ρ m := rfl
noncomputable def sx9_law : MS := (mSeq (mAsg (mBin gAdd (mBin gAdd (mC (.str "Wish(")) (mS1 gJoin (mC (.str ", ")) (mFrz (mLc [15] (mItA (mVar 7)) (mGn 15) mYes ce3_law)))) (mC (.str ")"))) (mGn 8)) sx8_law)
theorem sx9_law_e {ρ : Sl} {m : Mm} : sx9_law ρ m = (mSeq (mAsg (mBin gAdd (mBin gAdd (mC (.str "Wish(")) (mS1 gJoin (mC (.str ", ")) (mFrz (mLc [15] (mItA (mVar 7)) (mGn 15) mYes ce3_law)))) (mC (.str ")"))) (mGn 8)) sx8_law) ρ m := rfl
noncomputable def sx10_law : MS := (mSeq (mIfS (mIsB (mBin gEq (mUn gLen (mVar 3)) (mC (.int 4)))) (mPar 6 7 (mCV (mFrz (mMake "Wish" 5 m_Wish_DinitD_v5 (mCons (mBin gIx (mVar 4) (mC (.int 0))) (mCons (mBin gIx (mVar 4) (mC (.int 1))) (mCons (mBin gIx (mVar 4) (mC (.int 2))) (mCons (mBin gIx (mVar 4) (mC (.int 3))) mNil)))))) (mCV (mVar 3) mCNil))) mNext) sx9_law)
theorem sx10_law_e {ρ : Sl} {m : Mm} : sx10_law ρ m = (mSeq (mIfS (mIsB (mBin gEq (mUn gLen (mVar 3)) (mC (.int 4)))) (mPar 6 7 (mCV (mFrz (mMake "Wish" 5 m_Wish_DinitD_v5 (mCons (mBin gIx (mVar 4) (mC (.int 0))) (mCons (mBin gIx (mVar 4) (mC (.int 1))) (mCons (mBin gIx (mVar 4) (mC (.int 2))) (mCons (mBin gIx (mVar 4) (mC (.int 3))) mNil)))))) (mCV (mVar 3) mCNil))) mNext) sx9_law) ρ m := rfl
noncomputable def sx11_law : MS := (mSeq (mIfS (mIsB (mBin gEq (mUn gLen (mVar 3)) (mC (.int 3)))) (mPar 6 7 (mCV (mFrz (mMake "Wish" 4 m_Wish_DinitD_v4 (mCons (mBin gIx (mVar 4) (mC (.int 0))) (mCons (mBin gIx (mVar 4) (mC (.int 1))) (mCons (mBin gIx (mVar 4) (mC (.int 2))) mNil))))) (mCV (mVar 3) mCNil))) mNext) sx10_law)
theorem sx11_law_e {ρ : Sl} {m : Mm} : sx11_law ρ m = (mSeq (mIfS (mIsB (mBin gEq (mUn gLen (mVar 3)) (mC (.int 3)))) (mPar 6 7 (mCV (mFrz (mMake "Wish" 4 m_Wish_DinitD_v4 (mCons (mBin gIx (mVar 4) (mC (.int 0))) (mCons (mBin gIx (mVar 4) (mC (.int 1))) (mCons (mBin gIx (mVar 4) (mC (.int 2))) mNil))))) (mCV (mVar 3) mCNil))) mNext) sx10_law) ρ m := rfl
noncomputable def sx12_law : MS := (mSeq (mAsg (mSl (mVar 3) mO0 (mO1 (mC (.int 2)))) (mGn 7)) sx11_law)
theorem sx12_law_e {ρ : Sl} {m : Mm} : sx12_law ρ m = (mSeq (mAsg (mSl (mVar 3) mO0 (mO1 (mC (.int 2)))) (mGn 7)) sx11_law) ρ m := rfl
noncomputable def sx13_law : MS := (mSeq (mAsg (mFrz (mMake "Wish" 3 m_Wish_DinitD_v3 (mCons (mBin gIx (mVar 4) (mC (.int 0))) (mCons (mBin gIx (mVar 4) (mC (.int 1))) mNil)))) (mGn 6)) sx12_law)
theorem sx13_law_e {ρ : Sl} {m : Mm} : sx13_law ρ m = (mSeq (mAsg (mFrz (mMake "Wish" 3 m_Wish_DinitD_v3 (mCons (mBin gIx (mVar 4) (mC (.int 0))) (mCons (mBin gIx (mVar 4) (mC (.int 1))) mNil)))) (mGn 6)) sx12_law) ρ m := rfl
noncomputable def sx14_law : MS := (mSeq (mPar 4 5 (mCV (mFrz (mLc [13] (mItA (mVar 3)) (mGn 13) mYes ce1_law)) (mCV (mCall 2 m_l_any (mCons (mVar 1) (mCons (mFrz (mLst (mCons (mC (.int 7)) (mCons (mC (.int 59)) mNil)))) mNil))) mCNil))) sx13_law)
theorem sx14_law_e {ρ : Sl} {m : Mm} : sx14_law ρ m = (mSeq (mPar 4 5 (mCV (mFrz (mLc [13] (mItA (mVar 3)) (mGn 13) mYes ce1_law)) (mCV (mCall 2 m_l_any (mCons (mVar 1) (mCons (mFrz (mLst (mCons (mC (.int 7)) (mCons (mC (.int 59)) mNil)))) mNil))) mCNil))) sx13_law) ρ m := rfl
noncomputable def lp1_law : MS := (mSeq (mAsg (mBin gAdd (mCall 1 m_l_wish (mCons (mVar 1) mNil)) (mCall 1 m_l_wish (mCons (mVar 1) mNil))) (mGn 3)) sx14_law)
theorem lp1_law_e {ρ : Sl} {m : Mm} : lp1_law ρ m = (mSeq (mAsg (mBin gAdd (mCall 1 m_l_wish (mCons (mVar 1) mNil)) (mCall 1 m_l_wish (mCons (mVar 1) mNil))) (mGn 3)) sx14_law) ρ m := rfl
noncomputable def lm2_law : ME := (mFrz (mMake "Wish" 1 m_Wish_DinitD_v1 mNil))
theorem lm2_law_e {ρ : Sl} {m : Mm} : lm2_law ρ m = (mFrz (mMake "Wish" 1 m_Wish_DinitD_v1 mNil)) ρ m := rfl
noncomputable def lm3_law : ME := (mFrz (mMake "Wish" 6 m_Wish_DinitD_v6 (mCons (mBin gIx (mVar 4) (mC (.int 0))) (mCons (mBin gIx (mVar 4) (mC (.int 0))) (mCons (mBin gIx (mVar 4) (mC (.int 0))) (mCons (mBin gIx (mVar 4) (mC (.int 0))) (mCons (mFrz (mMake "Band" 3 m_Band_DinitD_3 (mCons (mC (.int 0)) (mCons (mC (.int 9)) mNil)))) mNil)))))))
theorem lm3_law_e {ρ : Sl} {m : Mm} : lm3_law ρ m = (mFrz (mMake "Wish" 6 m_Wish_DinitD_v6 (mCons (mBin gIx (mVar 4) (mC (.int 0))) (mCons (mBin gIx (mVar 4) (mC (.int 0))) (mCons (mBin gIx (mVar 4) (mC (.int 0))) (mCons (mBin gIx (mVar 4) (mC (.int 0))) (mCons (mFrz (mMake "Band" 3 m_Band_DinitD_3 (mCons (mC (.int 0)) (mCons (mC (.int 9)) mNil)))) mNil))))))) ρ m := rfl
noncomputable def sx15_law : MS := (mLams 12 (fun zl => (mRet (mAndV (mBin gEq (mFrz (mTries ["BadNumber", "BadCount"] 12 zl [lm2_law, lm3_law])) (mFrz (mLst (mCons (mTup (mCons (mC (.str "BadCount")) (mCons (mC (.int 0)) mNil))) (mCons (mTup (mCons (mC (.str "BadCount")) (mCons (mC (.int 5)) mNil))) mNil))))) (mBin gEq (mProp "Wish" m_Wish_height (mFrz (mMake "Wish" 2 m_Wish_DinitD_v2 (mCons (mFrz (mMake "Band" 3 m_Band_DinitD_3 (mCons (mC (.int 6)) (mCons (mC (.int 6)) mNil)))) mNil)))) (mC (.int 6)))))))
theorem sx15_law_e {ρ : Sl} {m : Mm} : sx15_law ρ m = (mLams 12 (fun zl => (mRet (mAndV (mBin gEq (mFrz (mTries ["BadNumber", "BadCount"] 12 zl [lm2_law, lm3_law])) (mFrz (mLst (mCons (mTup (mCons (mC (.str "BadCount")) (mCons (mC (.int 0)) mNil))) (mCons (mTup (mCons (mC (.str "BadCount")) (mCons (mC (.int 5)) mNil))) mNil))))) (mBin gEq (mProp "Wish" m_Wish_height (mFrz (mMake "Wish" 2 m_Wish_DinitD_v2 (mCons (mFrz (mMake "Band" 3 m_Band_DinitD_3 (mCons (mC (.int 6)) (mCons (mC (.int 6)) mNil)))) mNil)))) (mC (.int 6))))))) ρ m := rfl
noncomputable def sx16_law : MS := (mSeq (mFor (mRng1 (mCons (mC (.int 5)) mNil)) (mGn 2) lp1_law) sx15_law)
theorem sx16_law_e {ρ : Sl} {m : Mm} : sx16_law ρ m = (mSeq (mFor (mRng1 (mCons (mC (.int 5)) mNil)) (mGn 2) lp1_law) sx15_law) ρ m := rfl
noncomputable def b_law : MS := (mSeq (mAsg (mCall 1 m_l_opened (mCons (mVar 0) mNil)) (mGn 1)) sx16_law)
theorem b_law_e {ρ : Sl} {m : Mm} : b_law ρ m = (mSeq (mAsg (mCall 1 m_l_opened (mCons (mVar 0) mNil)) (mGn 1)) sx16_law) ρ m := rfl
noncomputable def m_law : MF := mDef 17 b_law
theorem u_law {a0 : Dv} {m : Mm} : m_law [a0] m = (b_law [.val a0, .un, .un, .un, .un, .un, .un, .un, .un, .un, .un, .un, .un, .un, .un, .un, .un] m).fin := rfl
end G
set_option Elab.async false
set_option linter.all false
set_option autoImplicit false
set_option maxRecDepth 100000
set_option maxHeartbeats 4000000
namespace G
open PySem L2 M3 PySem.Spec PyProof.Rows
def top (i : Nat) : Stmt := PySem.Challenge.pw_copyweather_k39_wishes_told.main.body.getD i (.Pass ⟨0, 0, 0, 0⟩)
abbrev s_BadCount_DinitD : Stmt := (inClass (top 4) 0)
abbrev s_BadNumber_DinitD : Stmt := (inClass (top 3) 0)
abbrev s_l_fields : Stmt := (top 23)
theorem sc_l_fields : FnScope ["_law_e"] ["_law_e"] (defScope s_l_fields) := ⟨rfl, rfl, rfl, by decide +kernel, rfl, by decide +kernel, by decide +kernel⟩
abbrev s_l_try : Stmt := (top 24)
theorem sc_l_try : FnScope ["_law_ask", "_law_e"] ["_law_ask"] (defScope s_l_try) := ⟨rfl, rfl, rfl, by decide +kernel, rfl, by decide +kernel, by decide +kernel⟩
abbrev s_l_tries : Stmt := (top 25)
theorem sc_l_tries : FnScope ["_law_asks", "_law_ask"] ["_law_asks"] (defScope s_l_tries) := ⟨rfl, rfl, rfl, by decide +kernel, rfl, by decide +kernel, by decide +kernel⟩
abbrev s_l_pull : Stmt := (top 19)
theorem sc_l_pull : FnScope ["_law_bag", "_law_many_z", "_law_cell", "_law_digit", "_law_seed"] ["_law_bag", "_law_many_z"] (defScope s_l_pull) := ⟨rfl, rfl, rfl, by decide +kernel, rfl, by decide +kernel, by decide +kernel⟩
structure T_l_pull (S : Sg) : Prop where
  tr : True
  z_int : S.mg "int" = none
  z_len : S.mg "len" = none
theorem w_l_pull {X : Cx} {E : WX} (h0 : Nm X ["_law_bag", "_law_many_z", "_law_cell", "_law_digit", "_law_seed"] (defScope s_l_pull) (defScope s_l_pull)) (tk : Takes X E) (hp : PassesOwn (model X.prog X.w) X.A X.env X.xe) (hr : Room 0 X.A) (T : T_l_pull (sg X)) : PSsx X E (defBody s_l_pull) (b_l_pull) := by
  have hu1 := hu1_of hr
  have hu64 := hu64_of hr
  have hu65 := hu65_of hr
  exact (s_cons (s_if (b_w (bw_and (b_cmp (OpR.or op_eq (op_eqD (by exact hu64))) opS_eq (x_ix (ix_U (by exact hu1)) opS_ix (x_var (h0.ix rfl) (h0.vis (by decide +kernel))) x_int (fun _ _ => rfl)) x_int (by rfl)) (bw_one (b_cmp op_lt (opS_I0 fun _ _ => rfl) (x_ix (ix_U (by exact hu1)) opS_ix (x_var (h0.ix rfl) (h0.vis (by decide +kernel))) x_int (fun _ _ => rfl)) (x_B1 call_len unS_len (h0.gl (by decide +kernel)) T.z_len bt_len (x_ix (ix_U (by exact hu1)) opS_ix (x_var (h0.ix rfl) (h0.vis (by decide +kernel))) x_int (fun _ _ => rfl))) (by rfl))))) (s_cons (s_set h0.ndX (h0.ix rfl) (h0.lo (by decide +kernel)) (h0.fl (by decide +kernel)) (x_ix (ix_U (by exact hu1)) opS_ix (x_ix (ix_U (by exact hu1)) opS_ix (x_var (h0.ix rfl) (h0.vis (by decide +kernel))) x_int (fun _ _ => rfl)) (x_ix (ix_U (by exact hu1)) opS_ix (x_var (h0.ix rfl) (h0.vis (by decide +kernel))) x_int (fun _ _ => rfl)) (fun _ _ => rfl))) (s_cons (s_setix hu1 (x_bin op_addU opS_add (x_ix (ix_U (by exact hu1)) opS_ix (x_var (h0.ix rfl) (h0.vis (by decide +kernel))) x_int (fun _ _ => rfl)) x_int) (x_var (h0.ix rfl) (h0.vis (by decide +kernel))) x_int) (s_one (s_if (b_cmp op_ge (opS_I0 fun _ _ => rfl) (x_var (h0.ix rfl) (h0.vis (by decide +kernel))) (x_bin op_pow (opS_I fun _ _ => rfl) x_int x_int) (by rfl)) (s_one (s_setix hu1 (x_var (h0.ix rfl) (h0.vis (by decide +kernel))) (x_var (h0.ix rfl) (h0.vis (by decide +kernel))) x_int)) (s_one (s_setix hu1 (x_bin op_mod (opS_I fun _ _ => rfl) (x_T1 call_int1U unS_int1 (h0.gl (by decide +kernel)) T.z_int bt_int (x_bin op_addU opS_add (x_bin op_addU opS_add (x_bin (OpR.or op_mulX op_rep) opS_mul (x_ix (ix_U (by exact hu1)) opS_ix (x_var (h0.ix rfl) (h0.vis (by decide +kernel))) x_int (fun _ _ => rfl)) x_int) (x_bin (OpR.or op_mulX op_rep) opS_mul (x_bin op_mod (opS_I fun _ _ => rfl) (x_T1 call_int1U unS_int1 (h0.gl (by decide +kernel)) T.z_int bt_int (x_var (h0.ix rfl) (h0.vis (by decide +kernel)))) x_int) x_int)) x_int)) x_int) (x_var (h0.ix rfl) (h0.vis (by decide +kernel))) x_int)))))) s_nil) (s_cons (s_if (b_cmp op_gt (opS_I0 fun _ _ => rfl) (x_ix (ix_U (by exact hu1)) opS_ix (x_var (h0.ix rfl) (h0.vis (by decide +kernel))) x_int (fun _ _ => rfl)) x_int (by rfl)) (s_cons (s_set h0.ndX (h0.ix rfl) (h0.lo (by decide +kernel)) (h0.fl (by decide +kernel)) (x_bin op_mod (opS_I fun _ _ => rfl) (x_T1 call_int1U unS_int1 (h0.gl (by decide +kernel)) T.z_int bt_int (x_ix (ix_U (by exact hu1)) opS_ix (x_var (h0.ix rfl) (h0.vis (by decide +kernel))) x_int (fun _ _ => rfl))) (x_var (h0.ix rfl) (h0.vis (by decide +kernel))))) (s_cons (s_setix hu1 (x_bin op_fdivW (opS_I fun _ _ => rfl) (x_ix (ix_U (by exact hu1)) opS_ix (x_var (h0.ix rfl) (h0.vis (by decide +kernel))) x_int (fun _ _ => rfl)) (x_var (h0.ix rfl) (h0.vis (by decide +kernel)))) (x_var (h0.ix rfl) (h0.vis (by decide +kernel))) x_int) (s_one (s_ret (x_var (h0.ix rfl) (h0.vis (by decide +kernel))))))) s_nil) (s_cons (s_setix hu1 (x_bin op_addU opS_add (x_ix (ix_U (by exact hu1)) opS_ix (x_var (h0.ix rfl) (h0.vis (by decide +kernel))) x_int (fun _ _ => rfl)) x_int) (x_var (h0.ix rfl) (h0.vis (by decide +kernel))) x_int) (s_cons (s_set h0.ndX (h0.ix rfl) (h0.lo (by decide +kernel)) (h0.fl (by decide +kernel)) (x_ix (ix_U (by exact hu1)) opS_ix (x_var (h0.ix rfl) (h0.vis (by decide +kernel))) x_int (fun _ _ => rfl))) (s_cons (s_setix hu1 (x_bin op_mod (opS_I fun _ _ => rfl) (x_T1 call_int1U unS_int1 (h0.gl (by decide +kernel)) T.z_int bt_int (x_bin op_addU opS_add (x_bin op_addU opS_add (x_bin op_addU opS_add (x_bin (OpR.or op_mulX op_rep) opS_mul (x_var (h0.ix rfl) (h0.vis (by decide +kernel))) (x_var (h0.ix rfl) (h0.vis (by decide +kernel)))) (x_bin (OpR.or op_mulX op_rep) opS_mul (x_var (h0.ix rfl) (h0.vis (by decide +kernel))) x_int)) (x_bin (OpR.or op_mulX op_rep) opS_mul (x_ix (ix_U (by exact hu1)) opS_ix (x_var (h0.ix rfl) (h0.vis (by decide +kernel))) x_int (fun _ _ => rfl)) x_int)) x_int)) x_int) (x_var (h0.ix rfl) (h0.vis (by decide +kernel))) x_int) (s_one (s_ret (x_bin op_mod (opS_I fun _ _ => rfl) (x_T1 call_int1U unS_int1 (h0.gl (by decide +kernel)) T.z_int bt_int (x_bin op_addU opS_add (x_bin op_fdivW (opS_I fun _ _ => rfl) (x_ix (ix_U (by exact hu1)) opS_ix (x_var (h0.ix rfl) (h0.vis (by decide +kernel))) x_int (fun _ _ => rfl)) x_int) (x_bin (OpR.or op_mulX op_rep) opS_mul (x_bin op_mod (opS_I fun _ _ => rfl) (x_T1 call_int1U unS_int1 (h0.gl (by decide +kernel)) T.z_int bt_int (x_ix (ix_U (by exact hu1)) opS_ix (x_var (h0.ix rfl) (h0.vis (by decide +kernel))) x_int (fun _ _ => rfl))) x_int) x_int))) (x_var (h0.ix rfl) (h0.vis (by decide +kernel)))))))))))
abbrev s_l_any : Stmt := (top 20)
theorem sc_l_any : FnScope ["_law_bag", "_law_things"] ["_law_bag", "_law_things"] (defScope s_l_any) := ⟨rfl, rfl, rfl, by decide +kernel, rfl, by decide +kernel, by decide +kernel⟩
structure T_l_any (S : Sg) : Prop where
  tr : True
  F_l_pull : GF S "_law_pull" 2 [] 1 m_l_pull
  z_len : S.mg "len" = none
theorem w_l_any {X : Cx} {E : WX} (h0 : Nm X ["_law_bag", "_law_things"] (defScope s_l_any) (defScope s_l_any)) (tk : Takes X E) (hp : PassesOwn (model X.prog X.w) X.A X.env X.xe) (hr : Room 1 X.A) (T : T_l_any (sg X)) : PSsx X E (defBody s_l_any) (b_l_any) := by
  have hu1 := hu1_of hr
  have hu64 := hu64_of hr
  have hu65 := hu65_of hr
  exact (s_one (s_ret (x_ix (ix_U (by exact hu1)) opS_ix (x_var (h0.ix rfl) (h0.vis (by decide +kernel))) (y_fn T.F_l_pull (hr.mono (by decide)) tk (h0.gl (by decide +kernel)) (xs_cons (x_var (h0.ix rfl) (h0.vis (by decide +kernel))) (xs_cons (x_B1 call_len unS_len (h0.gl (by decide +kernel)) T.z_len bt_len (x_var (h0.ix rfl) (h0.vis (by decide +kernel)))) xs_nil rfl) rfl) (argsOk1 rfl rfl rfl rfl) (fun h => nomatch h)) (fun _ _ => rfl))))
abbrev s_l_holds : Stmt := (top 26)
theorem sc_l_holds : FnScope ["_law_band", "_law_copies", "_law_age", "_law_good"] ["_law_band", "_law_copies"] (defScope s_l_holds) := ⟨rfl, rfl, rfl, by decide +kernel, rfl, by decide +kernel, by decide +kernel⟩
structure T_l_holds (S : Sg) : Prop where
  tr : True
  z_len : S.mg "len" = none
theorem w_l_holds {X : Cx} {E : WX} (h0 : Nm X ["_law_band", "_law_copies", "_law_age", "_law_good"] (defScope s_l_holds) (defScope s_l_holds)) (tk : Takes X E) (hp : PassesOwn (model X.prog X.w) X.A X.env X.xe) (hr : Room 0 X.A) (T : T_l_holds (sg X)) : PSsx X E (defBody s_l_holds) (b_l_holds) := by
  have hu1 := hu1_of hr
  have hu64 := hu64_of hr
  have hu65 := hu65_of hr
  exact (s_one (s_ret (x_cmp op_ge (opS_I0 fun _ _ => rfl) (x_B1 call_len unS_len (h0.gl (by decide +kernel)) T.z_len bt_len (x_frz (n_lc (own := [("_law_age", 2), ("_law_good", 3)]) h0.calm h0.ndX (i_any (x_var (h0.ix rfl) (h0.vis (by decide +kernel)))) (h0.ok (by decide +kernel)) (by decide) (fun s1 H1 C1 l1 f1 => (g_tup (h0.blk s1 H1 C1 l1 f1).calm (gs_cons (g_name (h0.blk s1 H1 C1 l1 f1).ndX ((h0.blk s1 H1 C1 l1 f1).ix rfl) ((h0.blk s1 H1 C1 l1 f1).lo (by decide +kernel)) ((h0.blk s1 H1 C1 l1 f1).fl (by decide +kernel))) (gs_cons (g_name (h0.blk s1 H1 C1 l1 f1).ndX ((h0.blk s1 H1 C1 l1 f1).ix rfl) ((h0.blk s1 H1 C1 l1 f1).lo (by decide +kernel)) ((h0.blk s1 H1 C1 l1 f1).fl (by decide +kernel))) gs_nil)))) (fun s1 H1 C1 l1 f1 => (bs_one (b_w (bw_and (b_tru (x_var ((h0.blk s1 H1 C1 l1 f1).ix rfl) ((h0.blk s1 H1 C1 l1 f1).vis (by decide +kernel))) (fun _ => rfl)) (bw_one (b_chain op_le op_le (opS_I0 fun _ _ => rfl) (opS_I0 fun _ _ => rfl) (x_ix (ix_U (by exact hu1)) opS_ix (x_var ((h0.blk s1 H1 C1 l1 f1).ix rfl) ((h0.blk s1 H1 C1 l1 f1).vis (by decide +kernel))) x_int (fun _ _ => rfl)) (x_var ((h0.blk s1 H1 C1 l1 f1).ix rfl) ((h0.blk s1 H1 C1 l1 f1).vis (by decide +kernel))) (x_ix (ix_U (by exact hu1)) opS_ix (x_var ((h0.blk s1 H1 C1 l1 f1).ix rfl) ((h0.blk s1 H1 C1 l1 f1).vis (by decide +kernel))) x_int (fun _ _ => rfl)) (by rfl))))))) (fun s1 H1 C1 l1 f1 => (x_var ((h0.blk s1 H1 C1 l1 f1).ix rfl) ((h0.blk s1 H1 C1 l1 f1).vis (by decide +kernel))))))) (x_ix (ix_U (by exact hu1)) opS_ix (x_var (h0.ix rfl) (h0.vis (by decide +kernel))) x_int (fun _ _ => rfl)) (by rfl))))
abbrev s_l_granted : Stmt := (top 30)
theorem sc_l_granted : FnScope ["_law_wish_here", "_law_ages_z", "_law_age", "_law_band"] ["_law_wish_here", "_law_ages_z"] (defScope s_l_granted) := ⟨rfl, rfl, rfl, by decide +kernel, rfl, by decide +kernel, by decide +kernel⟩
structure T_l_granted (S : Sg) : Prop where
  tr : True
  F_l_holds : GF S "_law_holds" 2 [] 1 m_l_holds
  z_all : S.mg "all" = none
theorem w_l_granted {X : Cx} {E : WX} (h0 : Nm X ["_law_wish_here", "_law_ages_z", "_law_age", "_law_band"] (defScope s_l_granted) (defScope s_l_granted)) (tk : Takes X E) (hp : PassesOwn (model X.prog X.w) X.A X.env X.xe) (hr : Room 1 X.A) (T : T_l_granted (sg X)) : PSsx X E (defBody s_l_granted) (b_l_granted) := by
  have hu1 := hu1_of hr
  have hu64 := hu64_of hr
  have hu65 := hu65_of hr
  exact (s_one (s_ret (x_B1 (cr_all h0.calm) unS_all (h0.gl (by decide +kernel)) T.z_all bt_all (x_frz (n_lc (own := [("_law_band", 3)]) h0.calm h0.ndX (i_any (x_var (h0.ix rfl) (h0.vis (by decide +kernel)))) (h0.ok (by decide +kernel)) (by decide) (fun s1 H1 C1 l1 f1 => (g_name (h0.blk s1 H1 C1 l1 f1).ndX ((h0.blk s1 H1 C1 l1 f1).ix rfl) ((h0.blk s1 H1 C1 l1 f1).lo (by decide +kernel)) ((h0.blk s1 H1 C1 l1 f1).fl (by decide +kernel)))) (fun s1 H1 C1 l1 f1 => bs_nil) (fun s1 H1 C1 l1 f1 => (y_fn (by exact T.F_l_holds) (hr.mono (by decide)) tk_blk ((h0.blk s1 H1 C1 l1 f1).gl (by decide +kernel)) (xs_cons (x_var ((h0.blk s1 H1 C1 l1 f1).ix rfl) ((h0.blk s1 H1 C1 l1 f1).vis (by decide +kernel))) (xs_cons (x_frz (n_lc (own := [("_law_age", 2)]) (h0.blk s1 H1 C1 l1 f1).calm (h0.blk s1 H1 C1 l1 f1).ndX (i_any (x_var ((h0.blk s1 H1 C1 l1 f1).ix rfl) ((h0.blk s1 H1 C1 l1 f1).vis (by decide +kernel)))) ((h0.blk s1 H1 C1 l1 f1).ok (by decide +kernel)) (by decide) (fun s2 H2 C2 l2 f2 => (g_name ((h0.blk s1 H1 C1 l1 f1).blk s2 H2 C2 l2 f2).ndX (((h0.blk s1 H1 C1 l1 f1).blk s2 H2 C2 l2 f2).ix rfl) (((h0.blk s1 H1 C1 l1 f1).blk s2 H2 C2 l2 f2).lo (by decide +kernel)) (((h0.blk s1 H1 C1 l1 f1).blk s2 H2 C2 l2 f2).fl (by decide +kernel)))) (fun s2 H2 C2 l2 f2 => bs_nil) (fun s2 H2 C2 l2 f2 => (x_tup (xs_cons (x_var (((h0.blk s1 H1 C1 l1 f1).blk s2 H2 C2 l2 f2).ix rfl) (((h0.blk s1 H1 C1 l1 f1).blk s2 H2 C2 l2 f2).vis (by decide +kernel))) (xs_cons x_bl xs_nil rfl) rfl))))) xs_nil rfl) rfl) (argsOk1 rfl rfl rfl rfl) (fun h => nomatch h))))))))
abbrev s_l_height : Stmt := (top 29)
theorem sc_l_height : FnScope ["_law_wish_here", "_law_band"] ["_law_wish_here"] (defScope s_l_height) := ⟨rfl, rfl, rfl, by decide +kernel, rfl, by decide +kernel, by decide +kernel⟩
structure T_l_height (S : Sg) : Prop where
  tr : True
  z_max : S.mg "max" = none
theorem w_l_height {X : Cx} {E : WX} (h0 : Nm X ["_law_wish_here", "_law_band"] (defScope s_l_height) (defScope s_l_height)) (tk : Takes X E) (hp : PassesOwn (model X.prog X.w) X.A X.env X.xe) (hr : Room 0 X.A) (T : T_l_height (sg X)) : PSsx X E (defBody s_l_height) (b_l_height) := by
  have hu1 := hu1_of hr
  have hu64 := hu64_of hr
  have hu65 := hu65_of hr
  exact (s_one (s_ret (x_B1 (cr_max h0.calm) unS_max (h0.gl (by decide +kernel)) T.z_max bt_max (x_frz (n_lc (own := [("_law_band", 1)]) h0.calm h0.ndX (i_any (x_var (h0.ix rfl) (h0.vis (by decide +kernel)))) (h0.ok (by decide +kernel)) (by decide) (fun s1 H1 C1 l1 f1 => (g_name (h0.blk s1 H1 C1 l1 f1).ndX ((h0.blk s1 H1 C1 l1 f1).ix rfl) ((h0.blk s1 H1 C1 l1 f1).lo (by decide +kernel)) ((h0.blk s1 H1 C1 l1 f1).fl (by decide +kernel)))) (fun s1 H1 C1 l1 f1 => bs_nil) (fun s1 H1 C1 l1 f1 => (x_ix (ix_U (by exact hu1)) opS_ix (x_var ((h0.blk s1 H1 C1 l1 f1).ix rfl) ((h0.blk s1 H1 C1 l1 f1).vis (by decide +kernel))) x_int (fun _ _ => rfl))))))))
abbrev s_l_like : Stmt := (top 22)
theorem sc_l_like : FnScope ["_law_found", "_law_due", "_law_k"] ["_law_found", "_law_due"] (defScope s_l_like) := ⟨rfl, rfl, rfl, by decide +kernel, rfl, by decide +kernel, by decide +kernel⟩
structure T_l_like (S : Sg) (kself : Nat) (mself : MF) : Prop where
  tr : True
  F_l_like : GF S "_law_like" 2 [] kself mself
  z_all : S.mg "all" = none
  z_bool : S.mg "bool" = none
  z_int : S.mg "int" = none
  z_isinstance : S.mg "isinstance" = none
  z_len : S.mg "len" = none
  z_list : S.mg "list" = none
  z_range : S.mg "range" = none
  z_str : S.mg "str" = none
  z_tuple : S.mg "tuple" = none
theorem w_l_like {X : Cx} {E : WX} {kself : Nat} {mself : MF} (hrs : Room kself X.A) (h0 : Nm X ["_law_found", "_law_due", "_law_k"] (defScope s_l_like) (defScope s_l_like)) (tk : Takes X E) (hp : PassesOwn (model X.prog X.w) X.A X.env X.xe) (hr : Room 0 X.A) (T : T_l_like (sg X) kself mself) : PSsx X E (defBody s_l_like) (b_l_like mself) := by
  have hu1 := hu1_of hr
  have hu64 := hu64_of hr
  have hu65 := hu65_of hr
  exact (s_cons (s_if (b_w (bw_or (b_cmp op_isN opS_isN (x_var (h0.ix rfl) (h0.vis (by decide +kernel))) x_non (by rfl)) (bw_one (b_cmp op_isN opS_isN (x_var (h0.ix rfl) (h0.vis (by decide +kernel))) x_non (by rfl))))) (s_one (s_ret (x_and (x_cmp op_isN opS_isN (x_var (h0.ix rfl) (h0.vis (by decide +kernel))) x_non (by rfl)) (x_one (x_cmp op_isN opS_isN (x_var (h0.ix rfl) (h0.vis (by decide +kernel))) x_non (by rfl)))))) s_nil) (s_cons (s_if (b_tru (x_callB call_isiU callS_isiM (h0.gl (by decide +kernel)) T.z_isinstance bt_isinstance (xs_cons (x_var (h0.ix rfl) (h0.vis (by decide +kernel))) (xs_cons (x_tup (xs_cons (x_ty (h0.gl (by decide +kernel)) T.z_list bt_list) (xs_cons (x_ty (h0.gl (by decide +kernel)) T.z_tuple bt_tuple) xs_nil rfl) rfl)) xs_nil rfl) rfl)) (fun _ => rfl)) (s_cons (s_if (b_w (bw_or (b_cmp (OpR.or op_ne (op_neD (by exact hu64))) opS_ne (x_callB call_isiU callS_isiM (h0.gl (by decide +kernel)) T.z_isinstance bt_isinstance (xs_cons (x_var (h0.ix rfl) (h0.vis (by decide +kernel))) (xs_cons (x_ty (h0.gl (by decide +kernel)) T.z_list bt_list) xs_nil rfl) rfl)) (x_callB call_isiU callS_isiM (h0.gl (by decide +kernel)) T.z_isinstance bt_isinstance (xs_cons (x_var (h0.ix rfl) (h0.vis (by decide +kernel))) (xs_cons (x_ty (h0.gl (by decide +kernel)) T.z_list bt_list) xs_nil rfl) rfl)) (by rfl)) (bw_one (b_cmp (OpR.or op_ne (op_neD (by exact hu64))) opS_ne (x_callB call_isiU callS_isiM (h0.gl (by decide +kernel)) T.z_isinstance bt_isinstance (xs_cons (x_var (h0.ix rfl) (h0.vis (by decide +kernel))) (xs_cons (x_ty (h0.gl (by decide +kernel)) T.z_tuple bt_tuple) xs_nil rfl) rfl)) (x_callB call_isiU callS_isiM (h0.gl (by decide +kernel)) T.z_isinstance bt_isinstance (xs_cons (x_var (h0.ix rfl) (h0.vis (by decide +kernel))) (xs_cons (x_ty (h0.gl (by decide +kernel)) T.z_tuple bt_tuple) xs_nil rfl) rfl)) (by rfl))))) (s_one (s_ret x_bl)) s_nil) (s_one (s_ret (x_and (x_cmp (OpR.or op_eq (op_eqD (by exact hu64))) opS_eq (x_B1 call_len unS_len (h0.gl (by decide +kernel)) T.z_len bt_len (x_var (h0.ix rfl) (h0.vis (by decide +kernel)))) (x_B1 call_len unS_len (h0.gl (by decide +kernel)) T.z_len bt_len (x_var (h0.ix rfl) (h0.vis (by decide +kernel)))) (by rfl)) (x_one (x_B1 (cr_all h0.calm) unS_all (h0.gl (by decide +kernel)) T.z_all bt_all (x_frz (n_lc (own := [("_law_k", 2)]) h0.calm h0.ndX (i_range1 (h0.gl (by decide +kernel)) T.z_range (xs_cons (x_B1 call_len unS_len (h0.gl (by decide +kernel)) T.z_len bt_len (x_var (h0.ix rfl) (h0.vis (by decide +kernel)))) xs_nil rfl)) (h0.ok (by decide +kernel)) (by decide) (fun s1 H1 C1 l1 f1 => (g_name (h0.blk s1 H1 C1 l1 f1).ndX ((h0.blk s1 H1 C1 l1 f1).ix rfl) ((h0.blk s1 H1 C1 l1 f1).lo (by decide +kernel)) ((h0.blk s1 H1 C1 l1 f1).fl (by decide +kernel)))) (fun s1 H1 C1 l1 f1 => bs_nil) (fun s1 H1 C1 l1 f1 => (y_fn (by exact T.F_l_like) hrs tk_blk ((h0.blk s1 H1 C1 l1 f1).gl (by decide +kernel)) (xs_cons (x_ix (ix_U (by exact hu1)) opS_ix (x_var ((h0.blk s1 H1 C1 l1 f1).ix rfl) ((h0.blk s1 H1 C1 l1 f1).vis (by decide +kernel))) (x_var ((h0.blk s1 H1 C1 l1 f1).ix rfl) ((h0.blk s1 H1 C1 l1 f1).vis (by decide +kernel))) (fun _ _ => rfl)) (xs_cons (x_ix (ix_U (by exact hu1)) opS_ix (x_var ((h0.blk s1 H1 C1 l1 f1).ix rfl) ((h0.blk s1 H1 C1 l1 f1).vis (by decide +kernel))) (x_var ((h0.blk s1 H1 C1 l1 f1).ix rfl) ((h0.blk s1 H1 C1 l1 f1).vis (by decide +kernel))) (fun _ _ => rfl)) xs_nil rfl) rfl) (argsOk1 rfl rfl rfl rfl) (fun h => nomatch h))))))))))) s_nil) (s_cons (s_if (b_w (bw_or (b_cmp (OpR.or op_ne (op_neD (by exact hu64))) opS_ne (x_callB call_isiU callS_isiM (h0.gl (by decide +kernel)) T.z_isinstance bt_isinstance (xs_cons (x_var (h0.ix rfl) (h0.vis (by decide +kernel))) (xs_cons (x_ty (h0.gl (by decide +kernel)) T.z_bool bt_bool) xs_nil rfl) rfl)) (x_callB call_isiU callS_isiM (h0.gl (by decide +kernel)) T.z_isinstance bt_isinstance (xs_cons (x_var (h0.ix rfl) (h0.vis (by decide +kernel))) (xs_cons (x_ty (h0.gl (by decide +kernel)) T.z_bool bt_bool) xs_nil rfl) rfl)) (by rfl)) (bw_one (b_cmp (OpR.or op_ne (op_neD (by exact hu64))) opS_ne (x_callB call_isiU callS_isiM (h0.gl (by decide +kernel)) T.z_isinstance bt_isinstance (xs_cons (x_var (h0.ix rfl) (h0.vis (by decide +kernel))) (xs_cons (x_ty (h0.gl (by decide +kernel)) T.z_int bt_int) xs_nil rfl) rfl)) (x_callB call_isiU callS_isiM (h0.gl (by decide +kernel)) T.z_isinstance bt_isinstance (xs_cons (x_var (h0.ix rfl) (h0.vis (by decide +kernel))) (xs_cons (x_ty (h0.gl (by decide +kernel)) T.z_int bt_int) xs_nil rfl) rfl)) (by rfl))))) (s_one (s_ret x_bl)) s_nil) (s_one (s_ret (x_and (x_cmp (OpR.or op_eq (op_eqD (by exact hu64))) opS_eq (x_callB call_isiU callS_isiM (h0.gl (by decide +kernel)) T.z_isinstance bt_isinstance (xs_cons (x_var (h0.ix rfl) (h0.vis (by decide +kernel))) (xs_cons (x_ty (h0.gl (by decide +kernel)) T.z_str bt_str) xs_nil rfl) rfl)) (x_callB call_isiU callS_isiM (h0.gl (by decide +kernel)) T.z_isinstance bt_isinstance (xs_cons (x_var (h0.ix rfl) (h0.vis (by decide +kernel))) (xs_cons (x_ty (h0.gl (by decide +kernel)) T.z_str bt_str) xs_nil rfl) rfl)) (by rfl)) (x_one (x_cmp (OpR.or op_eq (op_eqD (by exact hu64))) opS_eq (x_var (h0.ix rfl) (h0.vis (by decide +kernel))) (x_var (h0.ix rfl) (h0.vis (by decide +kernel))) (by rfl)))))))))
abbrev s_check_number : Stmt := (top 8)
theorem sc_check_number : FnScope ["number", "least", "most"] ["number", "least", "most"] (defScope s_check_number) := ⟨rfl, rfl, rfl, by decide +kernel, rfl, by decide +kernel, by decide +kernel⟩
structure T_check_number (S : Sg) : Prop where
  tr : True
  R_BadNumber : GR S "BadNumber" "BadNumber" "given"
theorem w_check_number {X : Cx} {E : WX} (h0 : Nm X ["number", "least", "most"] (defScope s_check_number) (defScope s_check_number)) (tk : Takes X E) (hp : PassesOwn (model X.prog X.w) X.A X.env X.xe) (hr : Room 1 X.A) (T : T_check_number (sg X)) : PSsx X E (defBody s_check_number) (b_check_number) := by
  have hu1 := hu1_of hr
  have hu64 := hu64_of hr
  have hu65 := hu65_of hr
  exact (s_one (s_if (b_not (b_chain op_le op_le (opS_I0 fun _ _ => rfl) (opS_I0 fun _ _ => rfl) (x_var (h0.ix rfl) (h0.vis (by decide +kernel))) (x_var (h0.ix rfl) (h0.vis (by decide +kernel))) (x_var (h0.ix rfl) (h0.vis (by decide +kernel))) (by rfl))) (s_one (y_raise1 T.R_BadNumber (hr.mono (by decide)) h0.calm tk (h0.gl (by decide +kernel)) (xs_cons (x_var (h0.ix rfl) (h0.vis (by decide +kernel))) xs_nil rfl))) s_nil))
abbrev s_Band_DinitD : Stmt := (inClass (top 16) 0)
theorem sc_Band_DinitD : FnScope ["self", "low", "high", "many"] ["self", "low", "high", "many"] (defScope s_Band_DinitD) := ⟨rfl, rfl, rfl, by decide +kernel, rfl, by decide +kernel, by decide +kernel⟩
structure T_Band_DinitD (S : Sg) : Prop where
  tr : True
  A_Band_own_high : GA S "Band" "own_high"
  A_Band_own_low : GA S "Band" "own_low"
  A_Band_own_many : GA S "Band" "own_many"
  A_Band_own_text : GA S "Band" "own_text"
  F_check_number : GF S "check_number" 3 [] 2 m_check_number
  K_MOST_AGE : GK S "MOST_AGE" k_MOST_AGE
  K_MOST_MANY : GK S "MOST_MANY" k_MOST_MANY
theorem w_Band_DinitD {X : Cx} {E : WX} (h0 : Nm X ["self", "low", "high", "many"] (defScope s_Band_DinitD) (defScope s_Band_DinitD)) (tk : Takes X E) (hp : PassesOwn (model X.prog X.w) X.A X.env X.xe) (hr : Room 2 X.A) (T : T_Band_DinitD (sg X)) : PSsx X E (defBody s_Band_DinitD) (b_Band_DinitD) := by
  have hu1 := hu1_of hr
  have hu64 := hu64_of hr
  have hu65 := hu65_of hr
  exact (s_cons (s_expr (y_fn T.F_check_number (hr.mono (by decide)) tk (h0.gl (by decide +kernel)) (xs_cons (x_var (h0.ix rfl) (h0.vis (by decide +kernel))) (xs_cons x_int (xs_cons (y_con T.K_MOST_AGE (h0.gl (by decide +kernel))) xs_nil rfl) rfl) rfl) (argsOk1 rfl rfl rfl rfl) (fun h => nomatch h))) (s_cons (s_expr (y_fn T.F_check_number (hr.mono (by decide)) tk (h0.gl (by decide +kernel)) (xs_cons (x_var (h0.ix rfl) (h0.vis (by decide +kernel))) (xs_cons (x_var (h0.ix rfl) (h0.vis (by decide +kernel))) (xs_cons (y_con T.K_MOST_AGE (h0.gl (by decide +kernel))) xs_nil rfl) rfl) rfl) (argsOk1 rfl rfl rfl rfl) (fun h => nomatch h))) (s_cons (s_expr (y_fn T.F_check_number (hr.mono (by decide)) tk (h0.gl (by decide +kernel)) (xs_cons (x_var (h0.ix rfl) (h0.vis (by decide +kernel))) (xs_cons x_int (xs_cons (y_con T.K_MOST_MANY (h0.gl (by decide +kernel))) xs_nil rfl) rfl) rfl) (argsOk1 rfl rfl rfl rfl) (fun h => nomatch h))) (s_cons (y_set T.A_Band_own_low (x_var (h0.ix rfl) (h0.vis (by decide +kernel))) (x_var (h0.ix rfl) (h0.vis (by decide +kernel)))) (s_cons (y_set T.A_Band_own_high (x_var (h0.ix rfl) (h0.vis (by decide +kernel))) (x_var (h0.ix rfl) (h0.vis (by decide +kernel)))) (s_cons (y_set T.A_Band_own_many (x_var (h0.ix rfl) (h0.vis (by decide +kernel))) (x_var (h0.ix rfl) (h0.vis (by decide +kernel)))) (s_one (y_set T.A_Band_own_text (x_var (h0.ix rfl) (h0.vis (by decide +kernel))) (x_js (.cons (x_fmt (x_var (h0.ix rfl) (h0.vis (by decide +kernel)))) (.cons x_str (.cons (x_fmt (x_var (h0.ix rfl) (h0.vis (by decide +kernel)))) (.cons x_str (.cons (x_fmt (x_var (h0.ix rfl) (h0.vis (by decide +kernel)))) .nil))))))))))))))
abbrev s_l_made_band : Stmt := (top 27)
theorem sc_l_made_band : FnScope ["_law_band"] ["_law_band"] (defScope s_l_made_band) := ⟨rfl, rfl, rfl, by decide +kernel, rfl, by decide +kernel, by decide +kernel⟩
structure T_l_made_band (S : Sg) : Prop where
  tr : True
  N_Band_DinitD_3_many : GN S "Band" 2 ["many"] 3 m_Band_DinitD_3_many
theorem w_l_made_band {X : Cx} {E : WX} (h0 : Nm X ["_law_band"] (defScope s_l_made_band) (defScope s_l_made_band)) (tk : Takes X E) (hp : PassesOwn (model X.prog X.w) X.A X.env X.xe) (hr : Room 4 X.A) (T : T_l_made_band (sg X)) : PSsx X E (defBody s_l_made_band) (b_l_made_band) := by
  have hu1 := hu1_of hr
  have hu64 := hu64_of hr
  have hu65 := hu65_of hr
  exact (s_one (s_ret (x_frz (y_mkK T.N_Band_DinitD_3_many (hr.mono (by decide)) tk (h0.gl (by decide +kernel)) (xs_cons (x_ix (ix_U (by exact hu1)) opS_ix (x_var (h0.ix rfl) (h0.vis (by decide +kernel))) x_int (fun _ _ => rfl)) (xs_cons (x_ix (ix_U (by exact hu1)) opS_ix (x_var (h0.ix rfl) (h0.vis (by decide +kernel))) x_int (fun _ _ => rfl)) xs_nil rfl) rfl) (xk_cons (x_ix (ix_U (by exact hu1)) opS_ix (x_var (h0.ix rfl) (h0.vis (by decide +kernel))) x_int (fun _ _ => rfl)) xk_nil) (argsOk1 rfl rfl rfl rfl) (fun h => nomatch h)))))
abbrev s_l_mixed : Stmt := (top 21)
theorem sc_l_mixed : FnScope ["_law_bag", "_law_things", "_law_found", "_law_thing"] ["_law_bag", "_law_things"] (defScope s_l_mixed) := ⟨rfl, rfl, rfl, by decide +kernel, rfl, by decide +kernel, by decide +kernel⟩
structure T_l_mixed (S : Sg) : Prop where
  tr : True
  F_l_pull : GF S "_law_pull" 2 [] 1 m_l_pull
  z_len : S.mg "len" = none
theorem w_l_mixed {X : Cx} {E : WX} (h0 : Nm X ["_law_bag", "_law_things", "_law_found", "_law_thing"] (defScope s_l_mixed) (defScope s_l_mixed)) (tk : Takes X E) (hp : PassesOwn (model X.prog X.w) X.A X.env X.xe) (hr : Room 1 X.A) (T : T_l_mixed (sg X)) : PSsx X E (defBody s_l_mixed) (b_l_mixed) := by
  have hu1 := hu1_of hr
  have hu64 := hu64_of hr
  have hu65 := hu65_of hr
  exact (s_cons (s_setO h0.ndX (h0.ix rfl) (h0.lo (by decide +kernel)) (h0.fl (by decide +kernel)) (n_lst xs_nil)) (s_cons (s_for hp h0.calm (i_any (x_var (h0.ix rfl) (h0.vis (by decide +kernel)))) (g_name h0.ndX (h0.ix rfl) (h0.lo (by decide +kernel)) (h0.fl (by decide +kernel))) (s_one (s_mut PySem.F.plainAttrs_list PySem.F.slot_list_insert PySem.F.type_list_insert mt_insert mut_ins (x_var (h0.ix rfl) (h0.vis (by decide +kernel))) (xs_cons (y_fn T.F_l_pull (hr.mono (by decide)) tk (h0.gl (by decide +kernel)) (xs_cons (x_var (h0.ix rfl) (h0.vis (by decide +kernel))) (xs_cons (x_bin op_addU opS_add (x_B1 call_len unS_len (h0.gl (by decide +kernel)) T.z_len bt_len (x_var (h0.ix rfl) (h0.vis (by decide +kernel)))) x_int) xs_nil rfl) rfl) (argsOk1 rfl rfl rfl rfl) (fun h => nomatch h)) (xs_cons (x_var (h0.ix rfl) (h0.vis (by decide +kernel))) xs_nil rfl) rfl)))) (s_one (s_fz (s_ret (x_var (h0.ix rfl) (h0.vis (by decide +kernel))))))))
abbrev s_l_opened : Stmt := (top 18)
theorem sc_l_opened : FnScope ["_law_script"] ["_law_script"] (defScope s_l_opened) := ⟨rfl, rfl, rfl, by decide +kernel, rfl, by decide +kernel, by decide +kernel⟩
structure T_l_opened (S : Sg) : Prop where
  tr : True
  z_list : S.mg "list" = none
theorem w_l_opened {X : Cx} {E : WX} (h0 : Nm X ["_law_script"] (defScope s_l_opened) (defScope s_l_opened)) (tk : Takes X E) (hp : PassesOwn (model X.prog X.w) X.A X.env X.xe) (hr : Room 0 X.A) (T : T_l_opened (sg X)) : PSsx X E (defBody s_l_opened) (b_l_opened) := by
  have hu1 := hu1_of hr
  have hu64 := hu64_of hr
  have hu65 := hu65_of hr
  exact (s_one (s_ret (x_loc (n_lst (xs_cons (x_frz (n_T1 call_list_of unN_list (h0.gl (by decide +kernel)) T.z_list bt_list (x_sl (x_var (h0.ix rfl) (h0.vis (by decide +kernel))) o_none (o_some x_int)))) (xs_cons x_int (xs_cons x_int (xs_cons x_int (xs_cons x_int xs_nil rfl) rfl) rfl) rfl) rfl)))))
abbrev s_l_wish : Stmt := (top 28)
theorem sc_l_wish : FnScope ["_law_bag", "_law_found", "_law_k", "_law_low"] ["_law_bag"] (defScope s_l_wish) := ⟨rfl, rfl, rfl, by decide +kernel, rfl, by decide +kernel, by decide +kernel⟩
structure T_l_wish (S : Sg) : Prop where
  tr : True
  F_l_any : GF S "_law_any" 2 [] 2 m_l_any
  F_l_pull : GF S "_law_pull" 2 [] 1 m_l_pull
  z_range : S.mg "range" = none
theorem w_l_wish {X : Cx} {E : WX} (h0 : Nm X ["_law_bag", "_law_found", "_law_k", "_law_low"] (defScope s_l_wish) (defScope s_l_wish)) (tk : Takes X E) (hp : PassesOwn (model X.prog X.w) X.A X.env X.xe) (hr : Room 2 X.A) (T : T_l_wish (sg X)) : PSsx X E (defBody s_l_wish) (b_l_wish) := by
  have hu1 := hu1_of hr
  have hu64 := hu64_of hr
  have hu65 := hu65_of hr
  exact (s_cons (s_setO h0.ndX (h0.ix rfl) (h0.lo (by decide +kernel)) (h0.fl (by decide +kernel)) (n_lst xs_nil)) (s_cons (s_for hp h0.calm (i_range1 (h0.gl (by decide +kernel)) T.z_range (xs_cons (x_bin op_addU opS_add x_int (y_fn T.F_l_pull (hr.mono (by decide)) tk (h0.gl (by decide +kernel)) (xs_cons (x_var (h0.ix rfl) (h0.vis (by decide +kernel))) (xs_cons x_int xs_nil rfl) rfl) (argsOk1 rfl rfl rfl rfl) (fun h => nomatch h))) xs_nil rfl)) (g_name h0.ndX (h0.ix rfl) (h0.lo (by decide +kernel)) (h0.fl (by decide +kernel))) (s_cons (s_set h0.ndX (h0.ix rfl) (h0.lo (by decide +kernel)) (h0.fl (by decide +kernel)) (y_fn T.F_l_pull (hr.mono (by decide)) tk (h0.gl (by decide +kernel)) (xs_cons (x_var (h0.ix rfl) (h0.vis (by decide +kernel))) (xs_cons x_int xs_nil rfl) rfl) (argsOk1 rfl rfl rfl rfl) (fun h => nomatch h))) (s_one (s_mut PySem.F.plainAttrs_list PySem.F.slot_list_append PySem.F.type_list_append mt_append mut_app (x_var (h0.ix rfl) (h0.vis (by decide +kernel))) (xs_cons (x_tup (xs_cons (x_var (h0.ix rfl) (h0.vis (by decide +kernel))) (xs_cons (x_bin op_addU opS_add (x_var (h0.ix rfl) (h0.vis (by decide +kernel))) (y_fn T.F_l_pull (hr.mono (by decide)) tk (h0.gl (by decide +kernel)) (xs_cons (x_var (h0.ix rfl) (h0.vis (by decide +kernel))) (xs_cons (x_bin op_sub (opS_I0 fun _ _ => rfl) x_int (x_var (h0.ix rfl) (h0.vis (by decide +kernel)))) xs_nil rfl) rfl) (argsOk1 rfl rfl rfl rfl) (fun h => nomatch h))) (xs_cons (x_bin op_addU opS_add x_int (y_fn T.F_l_any (hr.mono (by decide)) tk (h0.gl (by decide +kernel)) (xs_cons (x_var (h0.ix rfl) (h0.vis (by decide +kernel))) (xs_cons (x_frz (n_lst (xs_cons x_int (xs_cons x_int (xs_cons x_int (xs_cons x_int (xs_cons x_int xs_nil rfl) rfl) rfl) rfl) rfl))) xs_nil rfl) rfl) (argsOk1 rfl rfl rfl rfl) (fun h => nomatch h))) xs_nil rfl) rfl) rfl)) xs_nil rfl))))) (s_one (s_fz (s_ret (x_var (h0.ix rfl) (h0.vis (by decide +kernel))))))))
abbrev s_Wish_bands : Stmt := (inClass (top 12) 1)
theorem sc_Wish_bands : FnScope ["self"] ["self"] (defScope s_Wish_bands) := ⟨rfl, rfl, rfl, by decide +kernel, rfl, by decide +kernel, by decide +kernel⟩
structure T_Wish_bands (S : Sg) : Prop where
  tr : True
  A_Wish_own_bands : GA S "Wish" "own_bands"
  z_list : S.mg "list" = none
theorem w_Wish_bands {X : Cx} {E : WX} (h0 : Nm X ["self"] (defScope s_Wish_bands) (defScope s_Wish_bands)) (tk : Takes X E) (hp : PassesOwn (model X.prog X.w) X.A X.env X.xe) (hr : Room 0 X.A) (T : T_Wish_bands (sg X)) : PSsx X E (defBody s_Wish_bands) (b_Wish_bands) := by
  have hu1 := hu1_of hr
  have hu64 := hu64_of hr
  have hu65 := hu65_of hr
  exact (s_one (s_ret (x_loc (n_T1 call_list_of unN_list (h0.gl (by decide +kernel)) T.z_list bt_list (y_fld T.A_Wish_own_bands (x_var (h0.ix rfl) (h0.vis (by decide +kernel))))))))
abbrev s_Band_holds : Stmt := (inClass (top 16) 5)
theorem sc_Band_holds : FnScope ["self", "copies", "good", "age", "is_good"] ["self", "copies"] (defScope s_Band_holds) := ⟨rfl, rfl, rfl, by decide +kernel, rfl, by decide +kernel, by decide +kernel⟩
structure T_Band_holds (S : Sg) : Prop where
  tr : True
  A_Band_own_high : GA S "Band" "own_high"
  A_Band_own_low : GA S "Band" "own_low"
  A_Band_own_many : GA S "Band" "own_many"
  z_len : S.mg "len" = none
theorem w_Band_holds {X : Cx} {E : WX} (h0 : Nm X ["self", "copies", "good", "age", "is_good"] (defScope s_Band_holds) (defScope s_Band_holds)) (tk : Takes X E) (hp : PassesOwn (model X.prog X.w) X.A X.env X.xe) (hr : Room 0 X.A) (T : T_Band_holds (sg X)) : PSsx X E (defBody s_Band_holds) (b_Band_holds) := by
  have hu1 := hu1_of hr
  have hu64 := hu64_of hr
  have hu65 := hu65_of hr
  exact (s_cons (s_setLc (own := [("age", 3), ("is_good", 4)]) h0.calm h0.ndX (h0.ix rfl) (h0.lk (by decide +kernel)) (h0.sw rfl (by decide +kernel) rfl (by decide +kernel)) (i_any (x_var (h0.ix rfl) (h0.vis (by decide +kernel)))) (h0.ok (by decide +kernel)) (by decide) (fun s1 H1 C1 l1 f1 => (g_tup (h0.blk s1 H1 C1 l1 f1).calm (gs_cons (g_name (h0.blk s1 H1 C1 l1 f1).ndX ((h0.blk s1 H1 C1 l1 f1).ix rfl) ((h0.blk s1 H1 C1 l1 f1).lo (by decide +kernel)) ((h0.blk s1 H1 C1 l1 f1).fl (by decide +kernel))) (gs_cons (g_name (h0.blk s1 H1 C1 l1 f1).ndX ((h0.blk s1 H1 C1 l1 f1).ix rfl) ((h0.blk s1 H1 C1 l1 f1).lo (by decide +kernel)) ((h0.blk s1 H1 C1 l1 f1).fl (by decide +kernel))) gs_nil)))) (fun s1 H1 C1 l1 f1 => (bs_one (b_w (bw_and (b_tru (x_var ((h0.blk s1 H1 C1 l1 f1).ix rfl) ((h0.blk s1 H1 C1 l1 f1).vis (by decide +kernel))) (fun _ => rfl)) (bw_one (b_chain op_le op_le (opS_I0 fun _ _ => rfl) (opS_I0 fun _ _ => rfl) (y_fld (by exact T.A_Band_own_low) (x_var ((h0.blk s1 H1 C1 l1 f1).ix rfl) ((h0.blk s1 H1 C1 l1 f1).vis (by decide +kernel)))) (x_var ((h0.blk s1 H1 C1 l1 f1).ix rfl) ((h0.blk s1 H1 C1 l1 f1).vis (by decide +kernel))) (y_fld (by exact T.A_Band_own_high) (x_var ((h0.blk s1 H1 C1 l1 f1).ix rfl) ((h0.blk s1 H1 C1 l1 f1).vis (by decide +kernel)))) (by rfl))))))) (fun s1 H1 C1 l1 f1 => (x_var ((h0.blk s1 H1 C1 l1 f1).ix rfl) ((h0.blk s1 H1 C1 l1 f1).vis (by decide +kernel))))) (s_one (s_ret (x_cmp op_ge (opS_I0 fun _ _ => rfl) (x_B1 call_len unS_len (h0.gl (by decide +kernel)) T.z_len bt_len (x_var (h0.ix rfl) (h0.vis (by decide +kernel)))) (y_fld T.A_Band_own_many (x_var (h0.ix rfl) (h0.vis (by decide +kernel)))) (by rfl)))))
abbrev s_Wish_holds : Stmt := (inClass (top 12) 3)
theorem sc_Wish_holds : FnScope ["self", "ages", "copies", "age", "band"] ["self", "ages"] (defScope s_Wish_holds) := ⟨rfl, rfl, rfl, by decide +kernel, rfl, by decide +kernel, by decide +kernel⟩
structure T_Wish_holds (S : Sg) : Prop where
  tr : True
  A_Wish_own_bands : GA S "Wish" "own_bands"
  M_Band_holds : GM S "Band" "holds" 1 [] 1 m_Band_holds
  z_all : S.mg "all" = none
theorem w_Wish_holds {X : Cx} {E : WX} (h0 : Nm X ["self", "ages", "copies", "age", "band"] (defScope s_Wish_holds) (defScope s_Wish_holds)) (tk : Takes X E) (hp : PassesOwn (model X.prog X.w) X.A X.env X.xe) (hr : Room 1 X.A) (T : T_Wish_holds (sg X)) : PSsx X E (defBody s_Wish_holds) (b_Wish_holds) := by
  have hu1 := hu1_of hr
  have hu64 := hu64_of hr
  have hu65 := hu65_of hr
  exact (s_cons (s_set h0.ndX (h0.ix rfl) (h0.lo (by decide +kernel)) (h0.fl (by decide +kernel)) (x_frz (n_lc (own := [("age", 3)]) h0.calm h0.ndX (i_any (x_var (h0.ix rfl) (h0.vis (by decide +kernel)))) (h0.ok (by decide +kernel)) (by decide) (fun s2 H2 C2 l2 f2 => (g_name (h0.blk s2 H2 C2 l2 f2).ndX ((h0.blk s2 H2 C2 l2 f2).ix rfl) ((h0.blk s2 H2 C2 l2 f2).lo (by decide +kernel)) ((h0.blk s2 H2 C2 l2 f2).fl (by decide +kernel)))) (fun s2 H2 C2 l2 f2 => bs_nil) (fun s2 H2 C2 l2 f2 => (x_tup (xs_cons (x_var ((h0.blk s2 H2 C2 l2 f2).ix rfl) ((h0.blk s2 H2 C2 l2 f2).vis (by decide +kernel))) (xs_cons x_bl xs_nil rfl) rfl))))) (hs := h0.swE (by rfl))) (s_one (s_ret (x_B1 (cr_all h0.calm) unS_all (h0.gl (by decide +kernel)) T.z_all bt_all (x_frz (n_lc (own := [("band", 4)]) h0.calm h0.ndX (i_any (y_fld T.A_Wish_own_bands (x_var (h0.ix rfl) (h0.vis (by decide +kernel))))) (h0.ok (by decide +kernel)) (by decide) (fun s3 H3 C3 l3 f3 => (g_name (h0.blk s3 H3 C3 l3 f3).ndX ((h0.blk s3 H3 C3 l3 f3).ix rfl) ((h0.blk s3 H3 C3 l3 f3).lo (by decide +kernel)) ((h0.blk s3 H3 C3 l3 f3).fl (by decide +kernel)))) (fun s3 H3 C3 l3 f3 => bs_nil) (fun s3 H3 C3 l3 f3 => (y_me (by exact T.M_Band_holds) (hr.mono (by decide)) tk_blk (x_var ((h0.blk s3 H3 C3 l3 f3).ix rfl) ((h0.blk s3 H3 C3 l3 f3).vis (by decide +kernel))) (xs_cons (x_var ((h0.blk s3 H3 C3 l3 f3).ix rfl) ((h0.blk s3 H3 C3 l3 f3).vis (by decide +kernel))) xs_nil rfl) (argsOk1 rfl rfl rfl rfl) (fun h => nomatch h)))))))))
abbrev s_Band_high : Stmt := (inClass (top 16) 2)
theorem sc_Band_high : FnScope ["self"] ["self"] (defScope s_Band_high) := ⟨rfl, rfl, rfl, by decide +kernel, rfl, by decide +kernel, by decide +kernel⟩
structure T_Band_high (S : Sg) : Prop where
  tr : True
  A_Band_own_high : GA S "Band" "own_high"
theorem w_Band_high {X : Cx} {E : WX} (h0 : Nm X ["self"] (defScope s_Band_high) (defScope s_Band_high)) (tk : Takes X E) (hp : PassesOwn (model X.prog X.w) X.A X.env X.xe) (hr : Room 0 X.A) (T : T_Band_high (sg X)) : PSsx X E (defBody s_Band_high) (b_Band_high) := by
  have hu1 := hu1_of hr
  have hu64 := hu64_of hr
  have hu65 := hu65_of hr
  exact (s_one (s_ret (y_fld T.A_Band_own_high (x_var (h0.ix rfl) (h0.vis (by decide +kernel))))))
abbrev s_Wish_DinitD : Stmt := (inClass (top 12) 0)
theorem sc_Wish_DinitD : FnScope ["self", "bands", "band"] ["self", "bands"] (defScope s_Wish_DinitD) := ⟨rfl, rfl, rfl, by decide +kernel, rfl, by decide +kernel, by decide +kernel⟩
structure T_Wish_DinitD (S : Sg) : Prop where
  tr : True
  A_Wish_own_bands : GA S "Wish" "own_bands"
  K_MOST_BANDS : GK S "MOST_BANDS" k_MOST_BANDS
  K_MOST_HEIGHT : GK S "MOST_HEIGHT" k_MOST_HEIGHT
  P_Band_high : GP S "Band" "high" 1 m_Band_high
  R_BadCount : GR S "BadCount" "BadCount" "given"
  R_BadNumber : GR S "BadNumber" "BadNumber" "given"
  z_len : S.mg "len" = none
  z_list : S.mg "list" = none
theorem w_Wish_DinitD {X : Cx} {E : WX} (h0 : Nm X ["self", "bands", "band"] (defScope s_Wish_DinitD) (defScope s_Wish_DinitD)) (tk : Takes X E) (hp : PassesOwn (model X.prog X.w) X.A X.env X.xe) (hr : Room 2 X.A) (T : T_Wish_DinitD (sg X)) : PSsx X E (defBody s_Wish_DinitD) (b_Wish_DinitD) := by
  have hu1 := hu1_of hr
  have hu64 := hu64_of hr
  have hu65 := hu65_of hr
  exact (s_cons (s_if (b_not (b_chain op_le op_le (opS_I0 fun _ _ => rfl) (opS_I0 fun _ _ => rfl) x_int (x_B1 call_len unS_len (h0.gl (by decide +kernel)) T.z_len bt_len (x_var (h0.ix rfl) (h0.vis (by decide +kernel)))) (y_con T.K_MOST_BANDS (h0.gl (by decide +kernel))) (by rfl))) (s_one (y_raise1 T.R_BadCount (hr.mono (by decide)) h0.calm tk (h0.gl (by decide +kernel)) (xs_cons (x_B1 call_len unS_len (h0.gl (by decide +kernel)) T.z_len bt_len (x_var (h0.ix rfl) (h0.vis (by decide +kernel)))) xs_nil rfl))) s_nil) (s_cons (s_for hp h0.calm (i_any (x_var (h0.ix rfl) (h0.vis (by decide +kernel)))) (g_name h0.ndX (h0.ix rfl) (h0.lo (by decide +kernel)) (h0.fl (by decide +kernel))) (s_one (s_if (b_cmp op_gt (opS_I0 fun _ _ => rfl) (y_pr T.P_Band_high (hr.mono (by decide)) (x_var (h0.ix rfl) (h0.vis (by decide +kernel)))) (y_con T.K_MOST_HEIGHT (h0.gl (by decide +kernel))) (by rfl)) (s_one (y_raise1 T.R_BadNumber (hr.mono (by decide)) h0.calm tk (h0.gl (by decide +kernel)) (xs_cons (y_pr T.P_Band_high (hr.mono (by decide)) (x_var (h0.ix rfl) (h0.vis (by decide +kernel)))) xs_nil rfl))) s_nil))) (s_one (y_set T.A_Wish_own_bands (x_var (h0.ix rfl) (h0.vis (by decide +kernel))) (x_frz (n_T1 call_list_of unN_list (h0.gl (by decide +kernel)) T.z_list bt_list (x_var (h0.ix rfl) (h0.vis (by decide +kernel)))))))))
abbrev s_Band_DeqD : Stmt := (inClass (top 16) 7)
theorem sc_Band_DeqD : FnScope ["self", "other"] ["self", "other"] (defScope s_Band_DeqD) := ⟨rfl, rfl, rfl, by decide +kernel, rfl, by decide +kernel, by decide +kernel⟩
structure T_Band_DeqD (S : Sg) : Prop where
  tr : True
  A_Band_own_text : GA S "Band" "own_text"
  K_Band : GK S "Band" k_Band
  OI_Band : GIs S "Band"
  z_isinstance : S.mg "isinstance" = none
theorem w_Band_DeqD {X : Cx} {E : WX} (h0 : Nm X ["self", "other"] (defScope s_Band_DeqD) (defScope s_Band_DeqD)) (tk : Takes X E) (hp : PassesOwn (model X.prog X.w) X.A X.env X.xe) (hr : Room 0 X.A) (T : T_Band_DeqD (sg X)) : PSsx X E (defBody s_Band_DeqD) (b_Band_DeqD) := by
  have hu1 := hu1_of hr
  have hu64 := hu64_of hr
  have hu65 := hu65_of hr
  exact (s_one (s_ret (x_and (x_callB call_isi (callS_isiY T.OI_Band) (h0.gl (by decide +kernel)) T.z_isinstance bt_isinstance (xs_cons (x_var (h0.ix rfl) (h0.vis (by decide +kernel))) (xs_cons (y_con T.K_Band (h0.gl (by decide +kernel))) xs_nil rfl) rfl)) (x_one (x_cmp (OpR.or op_eq (op_eqD (by exact hu64))) opS_eq (y_fld T.A_Band_own_text (x_var (h0.ix rfl) (h0.vis (by decide +kernel)))) (y_fld T.A_Band_own_text (x_var (h0.ix rfl) (h0.vis (by decide +kernel)))) (by rfl))))))
abbrev s_Wish_DeqD : Stmt := (inClass (top 12) 4)
theorem sc_Wish_DeqD : FnScope ["self", "other"] ["self", "other"] (defScope s_Wish_DeqD) := ⟨rfl, rfl, rfl, by decide +kernel, rfl, by decide +kernel, by decide +kernel⟩
structure T_Wish_DeqD (S : Sg) : Prop where
  tr : True
  A_Wish_own_bands : GA S "Wish" "own_bands"
  K_Wish : GK S "Wish" k_Wish
  O_Band_DeqD : GO S "Band" "__eq__" 2 1 m_Band_DeqD
  OI_Wish : GIs S "Wish"
  z_isinstance : S.mg "isinstance" = none
theorem w_Wish_DeqD {X : Cx} {E : WX} (h0 : Nm X ["self", "other"] (defScope s_Wish_DeqD) (defScope s_Wish_DeqD)) (tk : Takes X E) (hp : PassesOwn (model X.prog X.w) X.A X.env X.xe) (hr : Room 2 X.A) (T : T_Wish_DeqD (sg X)) : PSsx X E (defBody s_Wish_DeqD) (b_Wish_DeqD) := by
  have hu1 := hu1_of hr
  have hu64 := hu64_of hr
  have hu65 := hu65_of hr
  exact (s_one (s_ret (x_and (x_callB call_isi (callS_isiY T.OI_Wish) (h0.gl (by decide +kernel)) T.z_isinstance bt_isinstance (xs_cons (x_var (h0.ix rfl) (h0.vis (by decide +kernel))) (xs_cons (y_con T.K_Wish (h0.gl (by decide +kernel))) xs_nil rfl) rfl)) (x_one (x_cmp (op_eqL T.O_Band_DeqD (hr.mono (by decide))) (opS_eqL T.O_Band_DeqD) (y_fld T.A_Wish_own_bands (x_var (h0.ix rfl) (h0.vis (by decide +kernel)))) (y_fld T.A_Wish_own_bands (x_var (h0.ix rfl) (h0.vis (by decide +kernel)))) (by rfl))))))
abbrev s_Wish_DlenD : Stmt := (inClass (top 12) 5)
theorem sc_Wish_DlenD : FnScope ["self"] ["self"] (defScope s_Wish_DlenD) := ⟨rfl, rfl, rfl, by decide +kernel, rfl, by decide +kernel, by decide +kernel⟩
structure T_Wish_DlenD (S : Sg) : Prop where
  tr : True
  A_Wish_own_bands : GA S "Wish" "own_bands"
  z_len : S.mg "len" = none
theorem w_Wish_DlenD {X : Cx} {E : WX} (h0 : Nm X ["self"] (defScope s_Wish_DlenD) (defScope s_Wish_DlenD)) (tk : Takes X E) (hp : PassesOwn (model X.prog X.w) X.A X.env X.xe) (hr : Room 0 X.A) (T : T_Wish_DlenD (sg X)) : PSsx X E (defBody s_Wish_DlenD) (b_Wish_DlenD) := by
  have hu1 := hu1_of hr
  have hu64 := hu64_of hr
  have hu65 := hu65_of hr
  exact (s_one (s_ret (x_B1 call_len unS_len (h0.gl (by decide +kernel)) T.z_len bt_len (y_fld T.A_Wish_own_bands (x_var (h0.ix rfl) (h0.vis (by decide +kernel)))))))
abbrev s_Band_text : Stmt := (inClass (top 16) 4)
theorem sc_Band_text : FnScope ["self"] ["self"] (defScope s_Band_text) := ⟨rfl, rfl, rfl, by decide +kernel, rfl, by decide +kernel, by decide +kernel⟩
structure T_Band_text (S : Sg) : Prop where
  tr : True
  A_Band_own_text : GA S "Band" "own_text"
theorem w_Band_text {X : Cx} {E : WX} (h0 : Nm X ["self"] (defScope s_Band_text) (defScope s_Band_text)) (tk : Takes X E) (hp : PassesOwn (model X.prog X.w) X.A X.env X.xe) (hr : Room 0 X.A) (T : T_Band_text (sg X)) : PSsx X E (defBody s_Band_text) (b_Band_text) := by
  have hu1 := hu1_of hr
  have hu64 := hu64_of hr
  have hu65 := hu65_of hr
  exact (s_one (s_ret (y_fld T.A_Band_own_text (x_var (h0.ix rfl) (h0.vis (by decide +kernel))))))
abbrev s_Wish_DreprD : Stmt := (inClass (top 12) 6)
theorem sc_Wish_DreprD : FnScope ["self", "band"] ["self"] (defScope s_Wish_DreprD) := ⟨rfl, rfl, rfl, by decide +kernel, rfl, by decide +kernel, by decide +kernel⟩
structure T_Wish_DreprD (S : Sg) : Prop where
  tr : True
  A_Wish_own_bands : GA S "Wish" "own_bands"
  P_Band_text : GP S "Band" "text" 1 m_Band_text
theorem w_Wish_DreprD {X : Cx} {E : WX} (h0 : Nm X ["self", "band"] (defScope s_Wish_DreprD) (defScope s_Wish_DreprD)) (tk : Takes X E) (hp : PassesOwn (model X.prog X.w) X.A X.env X.xe) (hr : Room 2 X.A) (T : T_Wish_DreprD (sg X)) : PSsx X E (defBody s_Wish_DreprD) (b_Wish_DreprD) := by
  have hu1 := hu1_of hr
  have hu64 := hu64_of hr
  have hu65 := hu65_of hr
  exact (s_one (s_ret (x_js (.cons x_str (.cons (x_fmt (x_s1 PySem.F.slot_str_join PySem.F.type_str_join mt_join ss_join x_str (x_frz (n_lc (own := [("band", 1)]) h0.calm h0.ndX (i_any (y_fld T.A_Wish_own_bands (x_var (h0.ix rfl) (h0.vis (by decide +kernel))))) (h0.ok (by decide +kernel)) (by decide) (fun s1 H1 C1 l1 f1 => (g_name (h0.blk s1 H1 C1 l1 f1).ndX ((h0.blk s1 H1 C1 l1 f1).ix rfl) ((h0.blk s1 H1 C1 l1 f1).lo (by decide +kernel)) ((h0.blk s1 H1 C1 l1 f1).fl (by decide +kernel)))) (fun s1 H1 C1 l1 f1 => bs_nil) (fun s1 H1 C1 l1 f1 => (y_pr (by exact T.P_Band_text) (hr.mono (by decide)) (x_var ((h0.blk s1 H1 C1 l1 f1).ix rfl) ((h0.blk s1 H1 C1 l1 f1).vis (by decide +kernel))))))))) (.cons x_str .nil))))))
abbrev s_Wish_height : Stmt := (inClass (top 12) 2)
theorem sc_Wish_height : FnScope ["self", "band"] ["self"] (defScope s_Wish_height) := ⟨rfl, rfl, rfl, by decide +kernel, rfl, by decide +kernel, by decide +kernel⟩
structure T_Wish_height (S : Sg) : Prop where
  tr : True
  A_Wish_own_bands : GA S "Wish" "own_bands"
  P_Band_high : GP S "Band" "high" 1 m_Band_high
  z_max : S.mg "max" = none
theorem w_Wish_height {X : Cx} {E : WX} (h0 : Nm X ["self", "band"] (defScope s_Wish_height) (defScope s_Wish_height)) (tk : Takes X E) (hp : PassesOwn (model X.prog X.w) X.A X.env X.xe) (hr : Room 2 X.A) (T : T_Wish_height (sg X)) : PSsx X E (defBody s_Wish_height) (b_Wish_height) := by
  have hu1 := hu1_of hr
  have hu64 := hu64_of hr
  have hu65 := hu65_of hr
  exact (s_one (s_ret (x_B1 (cr_max h0.calm) unS_max (h0.gl (by decide +kernel)) T.z_max bt_max (x_frz (n_lc (own := [("band", 1)]) h0.calm h0.ndX (i_any (y_fld T.A_Wish_own_bands (x_var (h0.ix rfl) (h0.vis (by decide +kernel))))) (h0.ok (by decide +kernel)) (by decide) (fun s1 H1 C1 l1 f1 => (g_name (h0.blk s1 H1 C1 l1 f1).ndX ((h0.blk s1 H1 C1 l1 f1).ix rfl) ((h0.blk s1 H1 C1 l1 f1).lo (by decide +kernel)) ((h0.blk s1 H1 C1 l1 f1).fl (by decide +kernel)))) (fun s1 H1 C1 l1 f1 => bs_nil) (fun s1 H1 C1 l1 f1 => (y_pr (by exact T.P_Band_high) (hr.mono (by decide)) (x_var ((h0.blk s1 H1 C1 l1 f1).ix rfl) ((h0.blk s1 H1 C1 l1 f1).vis (by decide +kernel))))))))))
abbrev s_law : Stmt := (top 31)
theorem sc_law : FnScope ["_law_script", "_law_bag", "_law_turn", "_law_rows", "_law_bands", "_law_high", "_law_wish_here", "_law_due", "_law_shown", "_law_told", "_law_ages_z", "_law_same", "_law_asks", "_law_band", "_law_number", "_law_row", "_law_age"] ["_law_script"] (defScope s_law) := ⟨rfl, rfl, rfl, by decide +kernel, rfl, by decide +kernel, by decide +kernel⟩
structure T_law (S : Sg) : Prop where
  tr : True
  F_l_any : GF S "_law_any" 2 [] 2 m_l_any
  F_l_granted : GF S "_law_granted" 2 [] 2 m_l_granted
  F_l_height : GF S "_law_height" 1 [] 1 m_l_height
  F_l_like : GF S "_law_like" 2 [] 13 m_l_like
  F_l_made_band : GF S "_law_made_band" 1 [] 5 m_l_made_band
  F_l_mixed : GF S "_law_mixed" 2 [] 2 m_l_mixed
  F_l_opened : GF S "_law_opened" 1 [] 1 m_l_opened
  F_l_pull : GF S "_law_pull" 2 [] 1 m_l_pull
  F_l_wish : GF S "_law_wish" 1 [] 3 m_l_wish
  M_Wish_bands : GM S "Wish" "bands" 0 [] 1 m_Wish_bands
  M_Wish_holds_1_ages : GM S "Wish" "holds" 0 ["ages"] 2 m_Wish_holds_1_ages
  M_Wish_holds : GM S "Wish" "holds" 1 [] 2 m_Wish_holds
  N_Band_DinitD_3 : GN S "Band" 2 [] 3 m_Band_DinitD_3
  N_Wish_DinitD_v1 : GN S "Wish" 0 [] 3 m_Wish_DinitD_v1
  N_Wish_DinitD_v2 : GN S "Wish" 1 [] 3 m_Wish_DinitD_v2
  N_Wish_DinitD_v3 : GN S "Wish" 2 [] 3 m_Wish_DinitD_v3
  N_Wish_DinitD_v4 : GN S "Wish" 3 [] 3 m_Wish_DinitD_v4
  N_Wish_DinitD_v5 : GN S "Wish" 4 [] 3 m_Wish_DinitD_v5
  N_Wish_DinitD_v6 : GN S "Wish" 5 [] 3 m_Wish_DinitD_v6
  O_Band_DeqD : GO S "Band" "__eq__" 2 1 m_Band_DeqD
  O_Wish_DeqD : GO S "Wish" "__eq__" 2 3 m_Wish_DeqD
  O_Wish_DlenD : GO S "Wish" "__len__" 1 1 m_Wish_DlenD
  O_Wish_DreprD : GO S "Wish" "__repr__" 1 3 m_Wish_DreprD
  OT_Band : GTy S "Band"
  OT_Wish : GTy S "Wish"
  P_Band_text : GP S "Band" "text" 1 m_Band_text
  P_Wish_height : GP S "Wish" "height" 3 m_Wish_height
  TR : GTr S "_law_tries" 13 ["BadNumber", "BadCount"]
  TR1 : GT1 S "_law_try" 13 ["BadNumber", "BadCount"]
  z_len : S.mg "len" = none
  z_list : S.mg "list" = none
  z_range : S.mg "range" = none
  z_repr : S.mg "repr" = none
  z_str : S.mg "str" = none
  z_tuple : S.mg "tuple" = none
theorem w_law {X : Cx} {E : WX} {c P : Addr} (h0 : Nm X ["_law_script", "_law_bag", "_law_turn", "_law_rows", "_law_bands", "_law_high", "_law_wish_here", "_law_due", "_law_shown", "_law_told", "_law_ages_z", "_law_same", "_law_asks", "_law_band", "_law_number", "_law_row", "_law_age"] (defScope s_law) (defScope s_law)) (tk : Takes X E) (hp : PassesOwn (model X.prog X.w) X.A X.env X.xe) (hr : Room 16 X.A) (hfn : ∀ y, X.fn y = true) (hcl : ∀ y, (defScope s_law).names.lookup y = some .cell → ∃ c, X.env.cells.lookup y = some c) (TB : LamX.TabB X.base X.mg c P) (hcode : X.env.code = .ref c) (T : T_law (sg X)) : PSW X P (defBody s_law) b_law := by
  have hu1 := hu1_of hr
  have hu64 := hu64_of hr
  have hu65 := hu65_of hr
  exact (sw_cons (E := E) (s_set h0.ndX (h0.ix rfl) (h0.lo (by decide +kernel)) (h0.fl (by decide +kernel)) (y_fn T.F_l_opened (hr.mono (by decide)) tk (h0.gl (by decide +kernel)) (xs_cons (x_var (h0.ix rfl) (h0.vis (by decide +kernel))) xs_nil rfl) (argsOk1 rfl rfl rfl rfl) (fun h => nomatch h))) (sw_cons1 (sw_for (E := E) hp h0.calm (h0.gl (by decide +kernel)) T.z_range (xs_cons x_int xs_nil rfl) (g_name h0.ndX (h0.ix rfl) (h0.lo (by decide +kernel)) (h0.fl (by decide +kernel))) (sw_cons (E := E) (s_set h0.ndX (h0.ix rfl) (h0.lo (by decide +kernel)) (h0.fl (by decide +kernel)) (x_bin op_addU opS_add (y_fn T.F_l_wish (hr.mono (by decide)) tk (h0.gl (by decide +kernel)) (xs_cons (x_var (h0.ix rfl) (h0.vis (by decide +kernel))) xs_nil rfl) (argsOk1 rfl rfl rfl rfl) (fun h => nomatch h)) (y_fn T.F_l_wish (hr.mono (by decide)) tk (h0.gl (by decide +kernel)) (xs_cons (x_var (h0.ix rfl) (h0.vis (by decide +kernel))) xs_nil rfl) (argsOk1 rfl rfl rfl rfl) (fun h => nomatch h)))) (sw_cons (E := E) (s_parC h0.calm h0.ndX (h0.ix rfl) (h0.ix rfl) (h0.lo (by decide +kernel)) (h0.lo (by decide +kernel)) (h0.fl (by decide +kernel)) (h0.fl (by decide +kernel)) (cs_v (x_frz (n_lc (own := [("_law_band", 13)]) h0.calm h0.ndX (i_any (x_var (h0.ix rfl) (h0.vis (by decide +kernel)))) (h0.ok (by decide +kernel)) (by decide) (fun s2 H2 C2 l2 f2 => (g_name (h0.blk s2 H2 C2 l2 f2).ndX ((h0.blk s2 H2 C2 l2 f2).ix rfl) ((h0.blk s2 H2 C2 l2 f2).lo (by decide +kernel)) ((h0.blk s2 H2 C2 l2 f2).fl (by decide +kernel)))) (fun s2 H2 C2 l2 f2 => bs_nil) (fun s2 H2 C2 l2 f2 => (y_fn (by exact T.F_l_made_band) (hr.mono (by decide)) tk_blk ((h0.blk s2 H2 C2 l2 f2).gl (by decide +kernel)) (xs_cons (x_var ((h0.blk s2 H2 C2 l2 f2).ix rfl) ((h0.blk s2 H2 C2 l2 f2).vis (by decide +kernel))) xs_nil rfl) (argsOk1 rfl rfl rfl rfl) (fun h => nomatch h))))) (cs_v (y_fn T.F_l_any (hr.mono (by decide)) tk (h0.gl (by decide +kernel)) (xs_cons (x_var (h0.ix rfl) (h0.vis (by decide +kernel))) (xs_cons (x_frz (n_lst (xs_cons x_int (xs_cons x_int xs_nil rfl) rfl))) xs_nil rfl) rfl) (argsOk1 rfl rfl rfl rfl) (fun h => nomatch h)) cs_nil)) (h0.swp (by rfl))) (sw_cons (E := E) (s_set h0.ndX (h0.ix rfl) (h0.lo (by decide +kernel)) (h0.fl (by decide +kernel)) (x_frz (y_mk T.N_Wish_DinitD_v3 (hr.mono (by decide)) tk (h0.gl (by decide +kernel)) (xs_cons (x_ix (ix_U (by exact hu1)) opS_ix (x_var (h0.ix rfl) (h0.vis (by decide +kernel))) x_int (fun _ _ => rfl)) (xs_cons (x_ix (ix_U (by exact hu1)) opS_ix (x_var (h0.ix rfl) (h0.vis (by decide +kernel))) x_int (fun _ _ => rfl)) xs_nil rfl) rfl) (argsOk1 rfl rfl rfl rfl) (fun h => nomatch h)))) (sw_cons (E := E) (s_set h0.ndX (h0.ix rfl) (h0.lo (by decide +kernel)) (h0.fl (by decide +kernel)) (x_sl (x_var (h0.ix rfl) (h0.vis (by decide +kernel))) o_none (o_some x_int))) (sw_cons (E := E) (s_if (b_cmp (OpR.or op_eq (op_eqD (by exact hu64))) opS_eq (x_B1 call_len unS_len (h0.gl (by decide +kernel)) T.z_len bt_len (x_var (h0.ix rfl) (h0.vis (by decide +kernel)))) x_int (by rfl)) (s_one (s_par h0.calm h0.ndX (h0.ix rfl) (h0.ix rfl) (by decide) (h0.lk (by decide +kernel)) (h0.lk (by decide +kernel)) (cs_v (x_frz (y_mk T.N_Wish_DinitD_v4 (hr.mono (by decide)) tk (h0.gl (by decide +kernel)) (xs_cons (x_ix (ix_U (by exact hu1)) opS_ix (x_var (h0.ix rfl) (h0.vis (by decide +kernel))) x_int (fun _ _ => rfl)) (xs_cons (x_ix (ix_U (by exact hu1)) opS_ix (x_var (h0.ix rfl) (h0.vis (by decide +kernel))) x_int (fun _ _ => rfl)) (xs_cons (x_ix (ix_U (by exact hu1)) opS_ix (x_var (h0.ix rfl) (h0.vis (by decide +kernel))) x_int (fun _ _ => rfl)) xs_nil rfl) rfl) rfl) (argsOk1 rfl rfl rfl rfl) (fun h => nomatch h))) (cs_v (x_var (h0.ix rfl) (h0.vis (by decide +kernel))) cs_nil)) (h0.swp (by rfl)))) s_nil) (sw_cons (E := E) (s_if (b_cmp (OpR.or op_eq (op_eqD (by exact hu64))) opS_eq (x_B1 call_len unS_len (h0.gl (by decide +kernel)) T.z_len bt_len (x_var (h0.ix rfl) (h0.vis (by decide +kernel)))) x_int (by rfl)) (s_one (s_par h0.calm h0.ndX (h0.ix rfl) (h0.ix rfl) (by decide) (h0.lk (by decide +kernel)) (h0.lk (by decide +kernel)) (cs_v (x_frz (y_mk T.N_Wish_DinitD_v5 (hr.mono (by decide)) tk (h0.gl (by decide +kernel)) (xs_cons (x_ix (ix_U (by exact hu1)) opS_ix (x_var (h0.ix rfl) (h0.vis (by decide +kernel))) x_int (fun _ _ => rfl)) (xs_cons (x_ix (ix_U (by exact hu1)) opS_ix (x_var (h0.ix rfl) (h0.vis (by decide +kernel))) x_int (fun _ _ => rfl)) (xs_cons (x_ix (ix_U (by exact hu1)) opS_ix (x_var (h0.ix rfl) (h0.vis (by decide +kernel))) x_int (fun _ _ => rfl)) (xs_cons (x_ix (ix_U (by exact hu1)) opS_ix (x_var (h0.ix rfl) (h0.vis (by decide +kernel))) x_int (fun _ _ => rfl)) xs_nil rfl) rfl) rfl) rfl) (argsOk1 rfl rfl rfl rfl) (fun h => nomatch h))) (cs_v (x_var (h0.ix rfl) (h0.vis (by decide +kernel))) cs_nil)) (h0.swp (by rfl)))) s_nil) (sw_cons (E := E) (s_set h0.ndX (h0.ix rfl) (h0.lo (by decide +kernel)) (h0.fl (by decide +kernel)) (x_bin op_addU opS_add (x_bin op_addU opS_add x_str (x_s1 PySem.F.slot_str_join PySem.F.type_str_join mt_join ss_join x_str (x_frz (n_lc (own := [("_law_row", 15)]) h0.calm h0.ndX (i_any (x_var (h0.ix rfl) (h0.vis (by decide +kernel)))) (h0.ok (by decide +kernel)) (by decide) (fun s5 H5 C5 l5 f5 => (g_name (h0.blk s5 H5 C5 l5 f5).ndX ((h0.blk s5 H5 C5 l5 f5).ix rfl) ((h0.blk s5 H5 C5 l5 f5).lo (by decide +kernel)) ((h0.blk s5 H5 C5 l5 f5).fl (by decide +kernel)))) (fun s5 H5 C5 l5 f5 => bs_nil) (fun s5 H5 C5 l5 f5 => (x_s1 PySem.F.slot_str_join PySem.F.type_str_join mt_join ss_join x_str (x_frz (n_lc (own := [("_law_number", 14)]) (h0.blk s5 H5 C5 l5 f5).calm (h0.blk s5 H5 C5 l5 f5).ndX (i_any (x_var ((h0.blk s5 H5 C5 l5 f5).ix rfl) ((h0.blk s5 H5 C5 l5 f5).vis (by decide +kernel)))) ((h0.blk s5 H5 C5 l5 f5).ok (by decide +kernel)) (by decide) (fun s6 H6 C6 l6 f6 => (g_name ((h0.blk s5 H5 C5 l5 f5).blk s6 H6 C6 l6 f6).ndX (((h0.blk s5 H5 C5 l5 f5).blk s6 H6 C6 l6 f6).ix rfl) (((h0.blk s5 H5 C5 l5 f5).blk s6 H6 C6 l6 f6).lo (by decide +kernel)) (((h0.blk s5 H5 C5 l5 f5).blk s6 H6 C6 l6 f6).fl (by decide +kernel)))) (fun s6 H6 C6 l6 f6 => bs_nil) (fun s6 H6 C6 l6 f6 => (x_T1 call_str2 unS_str2 (((h0.blk s5 H5 C5 l5 f5).blk s6 H6 C6 l6 f6).gl (by decide +kernel)) (by exact T.z_str) bt_str (x_var (((h0.blk s5 H5 C5 l5 f5).blk s6 H6 C6 l6 f6).ix rfl) (((h0.blk s5 H5 C5 l5 f5).blk s6 H6 C6 l6 f6).vis (by decide +kernel))))))))))))) x_str)) (sw_cons (E := E) (s_set h0.ndX (h0.ix rfl) (h0.lo (by decide +kernel)) (h0.fl (by decide +kernel)) (x_frz (n_lst (xs_cons (x_frz (n_lc (own := [("_law_band", 13)]) h0.calm h0.ndX (i_any (x_frz (n_own (y_me T.M_Wish_bands (hr.mono (by decide)) tk (x_var (h0.ix rfl) (h0.vis (by decide +kernel))) xs_nil (argsOk0 rfl rfl rfl) (fun _ => rfl))))) (h0.ok (by decide +kernel)) (by decide) (fun s8 H8 C8 l8 f8 => (g_name (h0.blk s8 H8 C8 l8 f8).ndX ((h0.blk s8 H8 C8 l8 f8).ix rfl) ((h0.blk s8 H8 C8 l8 f8).lo (by decide +kernel)) ((h0.blk s8 H8 C8 l8 f8).fl (by decide +kernel)))) (fun s8 H8 C8 l8 f8 => bs_nil) (fun s8 H8 C8 l8 f8 => (y_pr (by exact T.P_Band_text) (hr.mono (by decide)) (x_var ((h0.blk s8 H8 C8 l8 f8).ix rfl) ((h0.blk s8 H8 C8 l8 f8).vis (by decide +kernel))))))) (xs_cons (y_pr T.P_Wish_height (hr.mono (by decide)) (x_var (h0.ix rfl) (h0.vis (by decide +kernel)))) (xs_cons (x_B1 (call_lenY T.O_Wish_DlenD (hr.mono (by decide))) (unS_lenY T.O_Wish_DlenD) (h0.gl (by decide +kernel)) T.z_len bt_len (x_var (h0.ix rfl) (h0.vis (by decide +kernel)))) (xs_cons (x_B1 (call_reprY T.O_Wish_DreprD (hr.mono (by decide))) (unS_reprY T.O_Wish_DreprD) (h0.gl (by decide +kernel)) T.z_repr bt_repr (x_var (h0.ix rfl) (h0.vis (by decide +kernel)))) xs_nil rfl) rfl) rfl) rfl)))) (sw_cons (E := E) (s_if (b_not (b_tru (y_fn T.F_l_like (hr.mono (by decide)) tk (h0.gl (by decide +kernel)) (xs_cons (x_var (h0.ix rfl) (h0.vis (by decide +kernel))) (xs_cons (x_frz (n_lst (xs_cons (x_frz (n_lc (own := [("_law_band", 13)]) h0.calm h0.ndX (i_any (x_sl (x_var (h0.ix rfl) (h0.vis (by decide +kernel))) o_none (o_some (x_B1 call_len unS_len (h0.gl (by decide +kernel)) T.z_len bt_len (x_var (h0.ix rfl) (h0.vis (by decide +kernel))))))) (h0.ok (by decide +kernel)) (by decide) (fun s9 H9 C9 l9 f9 => (g_name (h0.blk s9 H9 C9 l9 f9).ndX ((h0.blk s9 H9 C9 l9 f9).ix rfl) ((h0.blk s9 H9 C9 l9 f9).lo (by decide +kernel)) ((h0.blk s9 H9 C9 l9 f9).fl (by decide +kernel)))) (fun s9 H9 C9 l9 f9 => bs_nil) (fun s9 H9 C9 l9 f9 => (y_pr (by exact T.P_Band_text) (hr.mono (by decide)) (x_var ((h0.blk s9 H9 C9 l9 f9).ix rfl) ((h0.blk s9 H9 C9 l9 f9).vis (by decide +kernel))))))) (xs_cons (y_fn T.F_l_height (hr.mono (by decide)) tk (h0.gl (by decide +kernel)) (xs_cons (x_var (h0.ix rfl) (h0.vis (by decide +kernel))) xs_nil rfl) (argsOk1 rfl rfl rfl rfl) (fun h => nomatch h)) (xs_cons (x_B1 call_len unS_len (h0.gl (by decide +kernel)) T.z_len bt_len (x_var (h0.ix rfl) (h0.vis (by decide +kernel)))) (xs_cons (x_var (h0.ix rfl) (h0.vis (by decide +kernel))) xs_nil rfl) rfl) rfl) rfl))) xs_nil rfl) rfl) (argsOk1 rfl rfl rfl rfl) (fun h => nomatch h)) (fun _ => rfl))) (s_one (s_ret x_bl)) s_nil) (sw_cons (E := E) (s_mutD0 PySem.F.plainAttrs_list PySem.F.slot_list_clear PySem.F.type_list_clear mt_clear mut_clear (n_own (y_me T.M_Wish_bands (hr.mono (by decide)) tk (x_var (h0.ix rfl) (h0.vis (by decide +kernel))) xs_nil (argsOk0 rfl rfl rfl) (fun _ => rfl)))) (sw_cons (E := E) (s_setLc (own := [("_law_age", 16)]) h0.calm h0.ndX (h0.ix rfl) (h0.lk (by decide +kernel)) (h0.sw rfl (by decide +kernel) rfl (by decide +kernel)) (i_any (y_fn T.F_l_mixed (hr.mono (by decide)) tk (h0.gl (by decide +kernel)) (xs_cons (x_var (h0.ix rfl) (h0.vis (by decide +kernel))) (xs_cons (x_frz (n_listRg h0.calm (h0.gl (by decide +kernel)) T.z_list (h0.gl (by decide +kernel)) T.z_range x_int)) xs_nil rfl) rfl) (argsOk1 rfl rfl rfl rfl) (fun h => nomatch h))) (h0.ok (by decide +kernel)) (by decide) (fun s10 H10 C10 l10 f10 => (g_name (h0.blk s10 H10 C10 l10 f10).ndX ((h0.blk s10 H10 C10 l10 f10).ix rfl) ((h0.blk s10 H10 C10 l10 f10).lo (by decide +kernel)) ((h0.blk s10 H10 C10 l10 f10).fl (by decide +kernel)))) (fun s10 H10 C10 l10 f10 => (bs_one (b_cmp op_gt (opS_I0 fun _ _ => rfl) (y_fn (by exact T.F_l_pull) (hr.mono (by decide)) tk_blk ((h0.blk s10 H10 C10 l10 f10).gl (by decide +kernel)) (xs_cons (x_var ((h0.blk s10 H10 C10 l10 f10).ix rfl) ((h0.blk s10 H10 C10 l10 f10).vis (by decide +kernel))) (xs_cons x_int xs_nil rfl) rfl) (argsOk1 rfl rfl rfl rfl) (fun h => nomatch h)) x_int (by rfl)))) (fun s10 H10 C10 l10 f10 => (x_var ((h0.blk s10 H10 C10 l10 f10).ix rfl) ((h0.blk s10 H10 C10 l10 f10).vis (by decide +kernel))))) (sw_cons (E := E) (s_if (b_not (b_tru (y_fn T.F_l_like (hr.mono (by decide)) tk (h0.gl (by decide +kernel)) (xs_cons (x_frz (n_lst (xs_cons (y_me T.M_Wish_holds (hr.mono (by decide)) tk (x_var (h0.ix rfl) (h0.vis (by decide +kernel))) (xs_cons (x_var (h0.ix rfl) (h0.vis (by decide +kernel))) xs_nil rfl) (argsOk1 rfl rfl rfl rfl) (fun h => nomatch h)) (xs_cons (y_meK T.M_Wish_holds_1_ages (hr.mono (by decide)) tk (x_var (h0.ix rfl) (h0.vis (by decide +kernel))) xs_nil (xk_cons (x_T1 call_tuple_of unS_tuple (h0.gl (by decide +kernel)) T.z_tuple bt_tuple (x_var (h0.ix rfl) (h0.vis (by decide +kernel)))) xk_nil) (argsOk0 rfl rfl rfl) (fun _ => rfl)) xs_nil rfl) rfl))) (xs_cons (x_bin (OpR.or op_mulX op_rep) opS_mul (x_frz (n_lst (xs_cons (y_fn T.F_l_granted (hr.mono (by decide)) tk (h0.gl (by decide +kernel)) (xs_cons (x_var (h0.ix rfl) (h0.vis (by decide +kernel))) (xs_cons (x_var (h0.ix rfl) (h0.vis (by decide +kernel))) xs_nil rfl) rfl) (argsOk1 rfl rfl rfl rfl) (fun h => nomatch h)) xs_nil rfl))) x_int) xs_nil rfl) rfl) (argsOk1 rfl rfl rfl rfl) (fun h => nomatch h)) (fun _ => rfl))) (s_one (s_ret x_bl)) s_nil) (sw_cons (E := E) (s_set h0.ndX (h0.ix rfl) (h0.lo (by decide +kernel)) (h0.fl (by decide +kernel)) (x_frz (n_lst (xs_cons (x_cmp (op_eqY T.O_Wish_DeqD T.OT_Wish (hr.mono (by decide))) (opS_eqY T.O_Wish_DeqD) (x_var (h0.ix rfl) (h0.vis (by decide +kernel))) (x_frz (y_mk T.N_Wish_DinitD_v2 (hr.mono (by decide)) tk (h0.gl (by decide +kernel)) (xs_cons (x_ix (ix_U (by exact hu1)) opS_ix (x_var (h0.ix rfl) (h0.vis (by decide +kernel))) x_int (fun _ _ => rfl)) xs_nil rfl) (argsOk1 rfl rfl rfl rfl) (fun h => nomatch h))) (by rfl)) (xs_cons (x_cmp (op_eqY T.O_Wish_DeqD T.OT_Wish (hr.mono (by decide))) (opS_eqY T.O_Wish_DeqD) (x_var (h0.ix rfl) (h0.vis (by decide +kernel))) (x_frz (y_mk T.N_Wish_DinitD_v3 (hr.mono (by decide)) tk (h0.gl (by decide +kernel)) (xs_cons (x_ix (ix_U (by exact hu1)) opS_ix (x_var (h0.ix rfl) (h0.vis (by decide +kernel))) x_int (fun _ _ => rfl)) (xs_cons (x_ix (ix_U (by exact hu1)) opS_ix (x_var (h0.ix rfl) (h0.vis (by decide +kernel))) x_int (fun _ _ => rfl)) xs_nil rfl) rfl) (argsOk1 rfl rfl rfl rfl) (fun h => nomatch h))) (by rfl)) (xs_cons (x_cmp (op_eqY T.O_Wish_DeqD T.OT_Wish (hr.mono (by decide))) (opS_eqY T.O_Wish_DeqD) (x_var (h0.ix rfl) (h0.vis (by decide +kernel))) (x_var (h0.ix rfl) (h0.vis (by decide +kernel))) (by rfl)) (xs_cons (x_cmp (OpR.or op_eq (op_eqD (by exact hu64))) opS_eq (x_B1 call_len unS_len (h0.gl (by decide +kernel)) T.z_len bt_len (x_frz (n_own (y_me T.M_Wish_bands (hr.mono (by decide)) tk (x_var (h0.ix rfl) (h0.vis (by decide +kernel))) xs_nil (argsOk0 rfl rfl rfl) (fun _ => rfl))))) (x_B1 call_len unS_len (h0.gl (by decide +kernel)) T.z_len bt_len (x_var (h0.ix rfl) (h0.vis (by decide +kernel)))) (by rfl)) xs_nil rfl) rfl) rfl) rfl)))) (sw_cons (E := E) (s_if (b_not (b_tru (y_fn T.F_l_like (hr.mono (by decide)) tk (h0.gl (by decide +kernel)) (xs_cons (x_var (h0.ix rfl) (h0.vis (by decide +kernel))) (xs_cons (x_frz (n_lst (xs_cons x_bl (xs_cons (x_and (x_cmp (OpR.or op_eq (op_eqD (by exact hu64))) opS_eq (x_B1 call_len unS_len (h0.gl (by decide +kernel)) T.z_len bt_len (x_var (h0.ix rfl) (h0.vis (by decide +kernel)))) x_int (by rfl)) (x_one (x_cmp (op_eqY T.O_Band_DeqD T.OT_Band (hr.mono (by decide))) (opS_eqY T.O_Band_DeqD) (x_ix (ix_U (by exact hu1)) opS_ix (x_var (h0.ix rfl) (h0.vis (by decide +kernel))) x_int (fun _ _ => rfl)) (x_ix (ix_U (by exact hu1)) opS_ix (x_var (h0.ix rfl) (h0.vis (by decide +kernel))) x_int (fun _ _ => rfl)) (by rfl)))) (xs_cons x_bl (xs_cons x_bl xs_nil rfl) rfl) rfl) rfl))) xs_nil rfl) rfl) (argsOk1 rfl rfl rfl rfl) (fun h => nomatch h)) (fun _ => rfl))) (s_one (s_ret x_bl)) s_nil) (sw_one (sw_iftry T.TR1 TB hcode (h0.gl (by decide +kernel)) (hr.mono (by decide)) hfn (lamD_nm h0 (by decide +kernel)) (lamFree_nm hcl (by decide +kernel)) (fun f c A outer s H E hr => have hu1 := hu1_of hr; have hu64 := hu64_of hr; have hu65 := hu65_of hr; (x_frz (y_mk (by exact T.N_Wish_DinitD_v4) (hr.mono (by decide)) (by exact tk_lam) ((nm_lam h0 (by decide +kernel)).gl (by decide +kernel)) (xs_cons (x_ix (ix_U (by exact hu1)) opS_ix (x_var ((nm_lam h0 (by decide +kernel)).ix rfl) ((nm_lam h0 (by decide +kernel)).vis (by decide +kernel))) x_int (fun _ _ => rfl)) (xs_cons (x_frz (y_mk (by exact T.N_Band_DinitD_3) (hr.mono (by decide)) (by exact tk_lam) ((nm_lam h0 (by decide +kernel)).gl (by decide +kernel)) (xs_cons x_int (xs_cons (x_var ((nm_lam h0 (by decide +kernel)).ix rfl) ((nm_lam h0 (by decide +kernel)).vis (by decide +kernel))) xs_nil rfl) rfl) (argsOk1 rfl rfl rfl rfl) (fun h => nomatch h))) (xs_cons (x_frz (y_mk (by exact T.N_Band_DinitD_3) (hr.mono (by decide)) (by exact tk_lam) ((nm_lam h0 (by decide +kernel)).gl (by decide +kernel)) (xs_cons x_int (xs_cons x_int xs_nil rfl) rfl) (argsOk1 rfl rfl rfl rfl) (fun h => nomatch h))) xs_nil rfl) rfl) rfl) (argsOk1 rfl rfl rfl rfl) (fun h => nomatch h)))) (OpR.or op_ne (op_neD (by exact hu64))) opS_ne (x_tup (xs_cons x_str (xs_cons (x_var (h0.ix rfl) (h0.vis (by decide +kernel))) xs_nil rfl) rfl)) (by rfl) (s_one (s_ret x_bl)) s_nil))))))))))))))))) (sw_lams (ws := [⟨_, _, _, _, none⟩, ⟨_, _, _, _, some (0, 0, _)⟩]) TB hcode (List.forall_mem_cons.mpr ⟨lamOk_nm h0 (by decide +kernel) hcl (by decide +kernel) rfl, (List.forall_mem_cons.mpr ⟨lamOk_nm h0 (by decide +kernel) hcl (by decide +kernel) rfl, (fun _ hw => nomatch hw)⟩)⟩) (by decide) h0.ndX (h0.ix rfl) (h0.lo (by decide +kernel)) (h0.fl (by decide +kernel)) rfl (fun fs pl pn L mk hpl => have mk := MkS.tr (pn := pn) (xe := X.xe) mk; (s_one (s_ret (x_and (x_cmp (OpR.or op_eq (op_eqD (by exact hu64))) opS_eq (x_frz (n_tries T.TR mk rfl hfn (.cons (lamD_nm (Nm.tr h0) (by decide +kernel)) parOk_no (fun f c A outer s H E hr => have hu1 := hu1_of hr; have hu64 := hu64_of hr; have hu65 := hu65_of hr; (x_frz (y_mk (by exact T.N_Wish_DinitD_v1) (hr.mono (by decide)) (by exact tk_lam) ((nm_lam (Nm.tr h0) (by decide +kernel)).gl (by decide +kernel)) xs_nil (argsOk0 rfl rfl rfl) (fun _ => rfl)))) (.cons (lamD_nm (Nm.tr h0) (by decide +kernel)) (parOk_yes (by decide +kernel)) (fun f c A outer s H E hr => have hu1 := hu1_of hr; have hu64 := hu64_of hr; have hu65 := hu65_of hr; (x_frz (y_mk (by exact T.N_Wish_DinitD_v6) (hr.mono (by decide)) (by exact tk_lam) ((nm_lam (Nm.tr h0) (by decide +kernel)).gl (by decide +kernel)) (xs_cons (x_ix (ix_U (by exact hu1)) opS_ix (x_var ((nm_lam (Nm.tr h0) (by decide +kernel)).ix rfl) ((nm_lam (Nm.tr h0) (by decide +kernel)).vis (by decide +kernel))) x_int (fun _ _ => rfl)) (xs_cons (x_ix (ix_U (by exact hu1)) opS_ix (x_var ((nm_lam (Nm.tr h0) (by decide +kernel)).ix rfl) ((nm_lam (Nm.tr h0) (by decide +kernel)).vis (by decide +kernel))) x_int (fun _ _ => rfl)) (xs_cons (x_ix (ix_U (by exact hu1)) opS_ix (x_var ((nm_lam (Nm.tr h0) (by decide +kernel)).ix rfl) ((nm_lam (Nm.tr h0) (by decide +kernel)).vis (by decide +kernel))) x_int (fun _ _ => rfl)) (xs_cons (x_ix (ix_U (by exact hu1)) opS_ix (x_var ((nm_lam (Nm.tr h0) (by decide +kernel)).ix rfl) ((nm_lam (Nm.tr h0) (by decide +kernel)).vis (by decide +kernel))) x_int (fun _ _ => rfl)) (xs_cons (x_frz (y_mk (by exact T.N_Band_DinitD_3) (hr.mono (by decide)) (by exact tk_lam) ((nm_lam (Nm.tr h0) (by decide +kernel)).gl (by decide +kernel)) (xs_cons x_int (xs_cons x_int xs_nil rfl) rfl) (argsOk1 rfl rfl rfl rfl) (fun h => nomatch h))) xs_nil rfl) rfl) rfl) rfl) rfl) (argsOk1 rfl rfl rfl rfl) (fun h => nomatch h)))) .nil)) hpl ((Nm.tr h0).gl (by decide +kernel)) (hr.mono (by decide)) (pe_var ((Nm.tr h0).ix rfl) ((Nm.tr h0).vis (by decide +kernel))))) (x_frz (n_lst (xs_cons (x_tup (xs_cons x_str (xs_cons x_int xs_nil rfl) rfl)) (xs_cons (x_tup (xs_cons x_str (xs_cons x_int xs_nil rfl) rfl)) xs_nil rfl) rfl))) (by rfl)) (x_one (x_cmp (OpR.or op_eq (op_eqD (by exact hu64))) opS_eq (y_pr T.P_Wish_height (hr.mono (by decide)) (x_frz (y_mk T.N_Wish_DinitD_v2 (hr.mono (by decide)) LamX.takes0 ((Nm.tr h0).gl (by decide +kernel)) (xs_cons (x_frz (y_mk T.N_Band_DinitD_3 (hr.mono (by decide)) LamX.takes0 ((Nm.tr h0).gl (by decide +kernel)) (xs_cons x_int (xs_cons x_int xs_nil rfl) rfl) (argsOk1 rfl rfl rfl rfl) (fun h => nomatch h))) xs_nil rfl) (argsOk1 rfl rfl rfl rfl) (fun h => nomatch h)))) x_int (by rfl))))))))))
end G
set_option Elab.async false
set_option linter.all false
set_option autoImplicit false
set_option maxRecDepth 100000
set_option maxHeartbeats 4000000
namespace G
open PySem L2 M3 PySem.Spec PyProof.Rows
theorem fn_l_pull {P : Program} {w : World} {K : PySem.W.Frag} {mg : Str → Option Value} {base : Heap} {f : Addr} {fd : FuncData} (F : Fun K "_law_pull" "_law_pull" s_l_pull f fd) (T : T_l_pull ⟨P, w, K, mg, base⟩) : Fn3 P w K mg base 1 f fd ["_law_bag", "_law_many_z"] m_l_pull :=
  fn3 F sc_l_pull fun cdv A outer s H E hr => w_l_pull (nm_def (by decide) hr.hd) tk_def hp_def hr T
theorem fn_l_any {P : Program} {w : World} {K : PySem.W.Frag} {mg : Str → Option Value} {base : Heap} {f : Addr} {fd : FuncData} (F : Fun K "_law_any" "_law_any" s_l_any f fd) (T : T_l_any ⟨P, w, K, mg, base⟩) : Fn3 P w K mg base 2 f fd ["_law_bag", "_law_things"] m_l_any :=
  fn3 F sc_l_any fun cdv A outer s H E hr => w_l_any (nm_def (by decide) hr.hd) tk_def hp_def hr T
theorem fn_l_holds {P : Program} {w : World} {K : PySem.W.Frag} {mg : Str → Option Value} {base : Heap} {f : Addr} {fd : FuncData} (F : Fun K "_law_holds" "_law_holds" s_l_holds f fd) (T : T_l_holds ⟨P, w, K, mg, base⟩) : Fn3 P w K mg base 1 f fd ["_law_band", "_law_copies"] m_l_holds :=
  fn3 F sc_l_holds fun cdv A outer s H E hr => w_l_holds (nm_def (by decide) hr.hd) tk_def hp_def hr T
theorem fn_l_granted {P : Program} {w : World} {K : PySem.W.Frag} {mg : Str → Option Value} {base : Heap} {f : Addr} {fd : FuncData} (F : Fun K "_law_granted" "_law_granted" s_l_granted f fd) (T : T_l_granted ⟨P, w, K, mg, base⟩) : Fn3 P w K mg base 2 f fd ["_law_wish_here", "_law_ages_z"] m_l_granted :=
  fn3 F sc_l_granted fun cdv A outer s H E hr => w_l_granted (nm_def (by decide) hr.hd) tk_def hp_def hr T
theorem fn_l_height {P : Program} {w : World} {K : PySem.W.Frag} {mg : Str → Option Value} {base : Heap} {f : Addr} {fd : FuncData} (F : Fun K "_law_height" "_law_height" s_l_height f fd) (T : T_l_height ⟨P, w, K, mg, base⟩) : Fn3 P w K mg base 1 f fd ["_law_wish_here"] m_l_height :=
  fn3 F sc_l_height fun cdv A outer s H E hr => w_l_height (nm_def (by decide) hr.hd) tk_def hp_def hr T
theorem fr_l_like {P : Program} {w : World} {K : PySem.W.Frag} {mg : Str → Option Value} {base : Heap} {f : Addr} {fd : FuncData} (F : Fun K "_law_like" "_law_like" s_l_like f fd) (hk : PySem.W.keepIn K (.ref f) = true) (hb : Binds K fd ["_law_found", "_law_due"] []) (hm : mg "_law_like" = some (.ref f))
    (T : ∀ k mm, GF ⟨P, w, K, mg, base⟩ "_law_like" 2 [] k mm → T_l_like ⟨P, w, K, mg, base⟩ k mm) : ∀ d, Fn3 P w K mg base (0 + 1 + d) f fd ["_law_found", "_law_due"] (mf_l_like d)
  | 0 => fn3 (N := ["_law_found", "_law_due", "_law_k"]) F sc_l_like fun cdv A outer s H E hr => ss_no
  | d + 1 => fn3 F sc_l_like fun cdv A outer s H E hr => w_l_like (hr.mono (Nat.le_refl _)) (nm_def (by decide) hr.hd) tk_def hp_def ((show Room (0 + 1 + d) _ from hr).mono (by omega)) (T _ _ ⟨_, hm, gc_all (fr_l_like F hk hb hm T d) hk hb rfl⟩)
theorem fn_check_number {P : Program} {w : World} {K : PySem.W.Frag} {mg : Str → Option Value} {base : Heap} {f : Addr} {fd : FuncData} (F : Fun K "check_number" "check_number" s_check_number f fd) (T : T_check_number ⟨P, w, K, mg, base⟩) : Fn3 P w K mg base 2 f fd ["number", "least", "most"] m_check_number :=
  fn3 F sc_check_number fun cdv A outer s H E hr => w_check_number (nm_def (by decide) hr.hd) tk_def hp_def hr T
theorem fn_Band_DinitD {P : Program} {w : World} {K : PySem.W.Frag} {mg : Str → Option Value} {base : Heap} {f : Addr} {fd : FuncData} (F : Fun K "__init__" "Band.__init__" s_Band_DinitD f fd) (T : T_Band_DinitD ⟨P, w, K, mg, base⟩) : Fn3 P w K mg base 3 f fd ["self", "low", "high", "many"] m_Band_DinitD :=
  fn3 F sc_Band_DinitD fun cdv A outer s H E hr => w_Band_DinitD (nm_def (by decide) hr.hd) tk_def hp_def hr T
theorem fn_l_made_band {P : Program} {w : World} {K : PySem.W.Frag} {mg : Str → Option Value} {base : Heap} {f : Addr} {fd : FuncData} (F : Fun K "_law_made_band" "_law_made_band" s_l_made_band f fd) (T : T_l_made_band ⟨P, w, K, mg, base⟩) : Fn3 P w K mg base 5 f fd ["_law_band"] m_l_made_band :=
  fn3 F sc_l_made_band fun cdv A outer s H E hr => w_l_made_band (nm_def (by decide) hr.hd) tk_def hp_def hr T
theorem fn_l_mixed {P : Program} {w : World} {K : PySem.W.Frag} {mg : Str → Option Value} {base : Heap} {f : Addr} {fd : FuncData} (F : Fun K "_law_mixed" "_law_mixed" s_l_mixed f fd) (T : T_l_mixed ⟨P, w, K, mg, base⟩) : Fn3 P w K mg base 2 f fd ["_law_bag", "_law_things"] m_l_mixed :=
  fn3 F sc_l_mixed fun cdv A outer s H E hr => w_l_mixed (nm_def (by decide) hr.hd) tk_def hp_def hr T
theorem fn_l_opened {P : Program} {w : World} {K : PySem.W.Frag} {mg : Str → Option Value} {base : Heap} {f : Addr} {fd : FuncData} (F : Fun K "_law_opened" "_law_opened" s_l_opened f fd) (T : T_l_opened ⟨P, w, K, mg, base⟩) : Fn3 P w K mg base 1 f fd ["_law_script"] m_l_opened :=
  fn3 F sc_l_opened fun cdv A outer s H E hr => w_l_opened (nm_def (by decide) hr.hd) tk_def hp_def hr T
theorem fn_l_wish {P : Program} {w : World} {K : PySem.W.Frag} {mg : Str → Option Value} {base : Heap} {f : Addr} {fd : FuncData} (F : Fun K "_law_wish" "_law_wish" s_l_wish f fd) (T : T_l_wish ⟨P, w, K, mg, base⟩) : Fn3 P w K mg base 3 f fd ["_law_bag"] m_l_wish :=
  fn3 F sc_l_wish fun cdv A outer s H E hr => w_l_wish (nm_def (by decide) hr.hd) tk_def hp_def hr T
theorem fn_Wish_bands {P : Program} {w : World} {K : PySem.W.Frag} {mg : Str → Option Value} {base : Heap} {f : Addr} {fd : FuncData} (F : Fun K "bands" "Wish.bands" s_Wish_bands f fd) (T : T_Wish_bands ⟨P, w, K, mg, base⟩) : Fn3 P w K mg base 1 f fd ["self"] m_Wish_bands :=
  fn3 F sc_Wish_bands fun cdv A outer s H E hr => w_Wish_bands (nm_def (by decide) hr.hd) tk_def hp_def hr T
theorem fn_Band_holds {P : Program} {w : World} {K : PySem.W.Frag} {mg : Str → Option Value} {base : Heap} {f : Addr} {fd : FuncData} (F : Fun K "holds" "Band.holds" s_Band_holds f fd) (T : T_Band_holds ⟨P, w, K, mg, base⟩) : Fn3 P w K mg base 1 f fd ["self", "copies"] m_Band_holds :=
  fn3 F sc_Band_holds fun cdv A outer s H E hr => w_Band_holds (nm_def (by decide) hr.hd) tk_def hp_def hr T
theorem fn_Wish_holds {P : Program} {w : World} {K : PySem.W.Frag} {mg : Str → Option Value} {base : Heap} {f : Addr} {fd : FuncData} (F : Fun K "holds" "Wish.holds" s_Wish_holds f fd) (T : T_Wish_holds ⟨P, w, K, mg, base⟩) : Fn3 P w K mg base 2 f fd ["self", "ages"] m_Wish_holds :=
  fn3 F sc_Wish_holds fun cdv A outer s H E hr => w_Wish_holds (nm_def (by decide) hr.hd) tk_def hp_def hr T
theorem fn_Band_high {P : Program} {w : World} {K : PySem.W.Frag} {mg : Str → Option Value} {base : Heap} {f : Addr} {fd : FuncData} (F : Fun K "high" "Band.high" s_Band_high f fd) (T : T_Band_high ⟨P, w, K, mg, base⟩) : Fn3 P w K mg base 1 f fd ["self"] m_Band_high :=
  fn3 F sc_Band_high fun cdv A outer s H E hr => w_Band_high (nm_def (by decide) hr.hd) tk_def hp_def hr T
theorem fn_Wish_DinitD {P : Program} {w : World} {K : PySem.W.Frag} {mg : Str → Option Value} {base : Heap} {f : Addr} {oc kV doc pm cdv ct : Value} {an od : Option Addr} {osl : Array (Option Value)} (lk : K.lookup f = some ⟨oc, od, .func (PySem.W.fnOf "__init__" "Wish.__init__" (defArgs s_Wish_DinitD) (defBody s_Wish_DinitD) (defScope s_Wish_DinitD) .none kV doc pm an cdv ct), osl⟩) (hcd : PySem.W.codeIn K cdv "Wish.__init__" = true) (T : T_Wish_DinitD ⟨P, w, K, mg, base⟩) (n : Nat) (hn : 1 ≤ n) : FnR P w K mg base (L2.CX P w) 3 f (sp3 n K mg (starF 1 m_Wish_DinitD)) :=
  fn3_star (ps := ["self"]) (pv := "bands") lk hcd sc_Wish_DinitD (fun us rest hl => match us, rest, hl with
    | [_], [], _ => rfl
    | [_], _ :: _, _ => rfl) (fun cdv A outer s H E hr => w_Wish_DinitD (nm_def (by decide) hr.hd) tk_def hp_def hr T) n hn StX.cxUp
theorem fn_Band_DeqD {P : Program} {w : World} {K : PySem.W.Frag} {mg : Str → Option Value} {base : Heap} {f : Addr} {fd : FuncData} (F : Fun K "__eq__" "Band.__eq__" s_Band_DeqD f fd) (T : T_Band_DeqD ⟨P, w, K, mg, base⟩) : Fn3 P w K mg base 1 f fd ["self", "other"] m_Band_DeqD :=
  fn3 F sc_Band_DeqD fun cdv A outer s H E hr => w_Band_DeqD (nm_def (by decide) hr.hd) tk_def hp_def hr T
theorem fn_Wish_DeqD {P : Program} {w : World} {K : PySem.W.Frag} {mg : Str → Option Value} {base : Heap} {f : Addr} {fd : FuncData} (F : Fun K "__eq__" "Wish.__eq__" s_Wish_DeqD f fd) (T : T_Wish_DeqD ⟨P, w, K, mg, base⟩) : Fn3 P w K mg base 3 f fd ["self", "other"] m_Wish_DeqD :=
  fn3 F sc_Wish_DeqD fun cdv A outer s H E hr => w_Wish_DeqD (nm_def (by decide) hr.hd) tk_def hp_def hr T
theorem fn_Wish_DlenD {P : Program} {w : World} {K : PySem.W.Frag} {mg : Str → Option Value} {base : Heap} {f : Addr} {fd : FuncData} (F : Fun K "__len__" "Wish.__len__" s_Wish_DlenD f fd) (T : T_Wish_DlenD ⟨P, w, K, mg, base⟩) : Fn3 P w K mg base 1 f fd ["self"] m_Wish_DlenD :=
  fn3 F sc_Wish_DlenD fun cdv A outer s H E hr => w_Wish_DlenD (nm_def (by decide) hr.hd) tk_def hp_def hr T
theorem fn_Band_text {P : Program} {w : World} {K : PySem.W.Frag} {mg : Str → Option Value} {base : Heap} {f : Addr} {fd : FuncData} (F : Fun K "text" "Band.text" s_Band_text f fd) (T : T_Band_text ⟨P, w, K, mg, base⟩) : Fn3 P w K mg base 1 f fd ["self"] m_Band_text :=
  fn3 F sc_Band_text fun cdv A outer s H E hr => w_Band_text (nm_def (by decide) hr.hd) tk_def hp_def hr T
theorem fn_Wish_DreprD {P : Program} {w : World} {K : PySem.W.Frag} {mg : Str → Option Value} {base : Heap} {f : Addr} {fd : FuncData} (F : Fun K "__repr__" "Wish.__repr__" s_Wish_DreprD f fd) (T : T_Wish_DreprD ⟨P, w, K, mg, base⟩) : Fn3 P w K mg base 3 f fd ["self"] m_Wish_DreprD :=
  fn3 F sc_Wish_DreprD fun cdv A outer s H E hr => w_Wish_DreprD (nm_def (by decide) hr.hd) tk_def hp_def hr T
theorem fn_Wish_height {P : Program} {w : World} {K : PySem.W.Frag} {mg : Str → Option Value} {base : Heap} {f : Addr} {fd : FuncData} (F : Fun K "height" "Wish.height" s_Wish_height f fd) (T : T_Wish_height ⟨P, w, K, mg, base⟩) : Fn3 P w K mg base 3 f fd ["self"] m_Wish_height :=
  fn3 F sc_Wish_height fun cdv A outer s H E hr => w_Wish_height (nm_def (by decide) hr.hd) tk_def hp_def hr T
theorem fn_law {P : Program} {w : World} {K : PySem.W.Frag} {mg : Str → Option Value} {base : Heap} {f c Pt : Addr} {kV doc pm ct oc : Value} {an od : Option Addr} {osl : Array (Option Value)} (lk : K.lookup f = some ⟨oc, od, .func (PySem.W.fnOf "law" "law" (defArgs s_law) (defBody s_law) (defScope s_law) .none kV doc pm an (.ref c) ct), osl⟩) (hcd : PySem.W.codeIn K (.ref c) "law" = true) (TB : LamX.TabB base mg c Pt) (T : T_law ⟨P, w, K, mg, base⟩) : FnOk P w K mg base (L2.CX P w) 17 f (PySem.W.fnOf "law" "law" (defArgs s_law) (defBody s_law) (defScope s_law) .none kV doc pm an (.ref c) ct) ["_law_script"] (spW K mg Pt 17 1 b_law) :=
  fnW lk hcd sc_law fun A outer s H E hr => w_law (nm_def (by decide) hr.hd) tk_def hp_def hr (fun _ => rfl) (fun y e => cell_has e) TB rfl T
theorem all_mk {l : PySem.W.OpenLaw} {w : World} {K : PySem.W.Frag} {h : Heap} {mg : Str → Option Value} {fa : Addr} (X : K.In h) (G : h.Ns mainGlobals mg) (hfa : mg "law" = some (.ref fa))
    {C_Band : Addr}
    {C_Wish : Addr}
    {C_BadCount : Addr}
    {C_BadNumber : Addr}
    {C_CopyError : Addr}
    {C_NoName : Addr}
    {C_NothingLeft : Addr}
    {f_BadCount_DinitD cda_BadCount cc_BadCount B_BadCount N_BadCount : Addr} {oc_BadCount_DinitD kV_BadCount_DinitD dc_BadCount_DinitD pm_BadCount_DinitD ct_BadCount_DinitD xcl_BadCount ycl_BadCount : Value} {od_BadCount_DinitD an_BadCount_DinitD xcd_BadCount ycd_BadCount dd_BadCount : Option Addr} {sl_BadCount_DinitD xcs_BadCount ycs_BadCount : Array (Option Value)} {vs_BadCount : Array Value} {fi_BadCount nm_BadCount q_BadCount : Str} {tf_BadCount : Tok} {bs_BadCount sb_BadCount : List Value} {sn_BadCount : List Str} {ab_BadCount : Bool} {col_BadCount : Option Bool} {m0_BadCount m1_BadCount m2_BadCount m3_BadCount m5_BadCount : Option Value}
    {f_BadNumber_DinitD cda_BadNumber cc_BadNumber B_BadNumber N_BadNumber : Addr} {oc_BadNumber_DinitD kV_BadNumber_DinitD dc_BadNumber_DinitD pm_BadNumber_DinitD ct_BadNumber_DinitD xcl_BadNumber ycl_BadNumber : Value} {od_BadNumber_DinitD an_BadNumber_DinitD xcd_BadNumber ycd_BadNumber dd_BadNumber : Option Addr} {sl_BadNumber_DinitD xcs_BadNumber ycs_BadNumber : Array (Option Value)} {vs_BadNumber : Array Value} {fi_BadNumber nm_BadNumber q_BadNumber : Str} {tf_BadNumber : Tok} {bs_BadNumber sb_BadNumber : List Value} {sn_BadNumber : List Str} {ab_BadNumber : Bool} {col_BadNumber : Option Bool} {m0_BadNumber m1_BadNumber m2_BadNumber m3_BadNumber m5_BadNumber : Option Value}
    {f_l_fields : Addr} {od_l_fields an_l_fields : Option Addr} {sl_l_fields : Array (Option Value)} {oc_l_fields kV_l_fields dc_l_fields pm_l_fields cd_l_fields ct_l_fields : Value}
    {f_l_try : Addr} {od_l_try an_l_try : Option Addr} {sl_l_try : Array (Option Value)} {oc_l_try kV_l_try dc_l_try pm_l_try cd_l_try ct_l_try : Value}
    {f_l_tries : Addr} {od_l_tries an_l_tries : Option Addr} {sl_l_tries : Array (Option Value)} {oc_l_tries kV_l_tries dc_l_tries pm_l_tries cd_l_tries ct_l_tries : Value}
    {f_l_pull : Addr} {od_l_pull an_l_pull : Option Addr} {sl_l_pull : Array (Option Value)} {oc_l_pull kV_l_pull dc_l_pull pm_l_pull cd_l_pull ct_l_pull : Value}
    {f_l_any : Addr} {od_l_any an_l_any : Option Addr} {sl_l_any : Array (Option Value)} {oc_l_any kV_l_any dc_l_any pm_l_any cd_l_any ct_l_any : Value}
    {f_l_holds : Addr} {od_l_holds an_l_holds : Option Addr} {sl_l_holds : Array (Option Value)} {oc_l_holds kV_l_holds dc_l_holds pm_l_holds cd_l_holds ct_l_holds : Value}
    {f_l_granted : Addr} {od_l_granted an_l_granted : Option Addr} {sl_l_granted : Array (Option Value)} {oc_l_granted kV_l_granted dc_l_granted pm_l_granted cd_l_granted ct_l_granted : Value}
    {f_l_height : Addr} {od_l_height an_l_height : Option Addr} {sl_l_height : Array (Option Value)} {oc_l_height kV_l_height dc_l_height pm_l_height cd_l_height ct_l_height : Value}
    {f_l_like : Addr} {od_l_like an_l_like : Option Addr} {sl_l_like : Array (Option Value)} {oc_l_like kV_l_like dc_l_like pm_l_like cd_l_like ct_l_like : Value}
    {f_check_number : Addr} {od_check_number an_check_number : Option Addr} {sl_check_number : Array (Option Value)} {oc_check_number kV_check_number dc_check_number pm_check_number cd_check_number ct_check_number : Value}
    {f_Band_DinitD : Addr} {od_Band_DinitD an_Band_DinitD : Option Addr} {sl_Band_DinitD : Array (Option Value)} {oc_Band_DinitD dc_Band_DinitD pm_Band_DinitD cd_Band_DinitD ct_Band_DinitD : Value} {kD_Band_DinitD : Addr}
    {tk_Band_DinitD_many : Tok}
    {f_l_made_band : Addr} {od_l_made_band an_l_made_band : Option Addr} {sl_l_made_band : Array (Option Value)} {oc_l_made_band kV_l_made_band dc_l_made_band pm_l_made_band cd_l_made_band ct_l_made_band : Value}
    {f_l_mixed : Addr} {od_l_mixed an_l_mixed : Option Addr} {sl_l_mixed : Array (Option Value)} {oc_l_mixed kV_l_mixed dc_l_mixed pm_l_mixed cd_l_mixed ct_l_mixed : Value}
    {f_l_opened : Addr} {od_l_opened an_l_opened : Option Addr} {sl_l_opened : Array (Option Value)} {oc_l_opened kV_l_opened dc_l_opened pm_l_opened cd_l_opened ct_l_opened : Value}
    {f_l_wish : Addr} {od_l_wish an_l_wish : Option Addr} {sl_l_wish : Array (Option Value)} {oc_l_wish kV_l_wish dc_l_wish pm_l_wish cd_l_wish ct_l_wish : Value}
    {f_Wish_bands : Addr} {od_Wish_bands an_Wish_bands : Option Addr} {sl_Wish_bands : Array (Option Value)} {oc_Wish_bands kV_Wish_bands dc_Wish_bands pm_Wish_bands cd_Wish_bands ct_Wish_bands : Value}
    {f_Band_holds : Addr} {od_Band_holds an_Band_holds : Option Addr} {sl_Band_holds : Array (Option Value)} {oc_Band_holds kV_Band_holds dc_Band_holds pm_Band_holds cd_Band_holds ct_Band_holds : Value}
    {f_Wish_holds : Addr} {od_Wish_holds an_Wish_holds : Option Addr} {sl_Wish_holds : Array (Option Value)} {oc_Wish_holds kV_Wish_holds dc_Wish_holds pm_Wish_holds cd_Wish_holds ct_Wish_holds : Value}
    {f_Band_high : Addr} {od_Band_high an_Band_high : Option Addr} {sl_Band_high : Array (Option Value)} {oc_Band_high kV_Band_high dc_Band_high pm_Band_high cd_Band_high ct_Band_high : Value}
    {p_Band_high : Addr} {r_Band_high : List Value}
    {f_Wish_DinitD : Addr} {od_Wish_DinitD an_Wish_DinitD : Option Addr} {sl_Wish_DinitD : Array (Option Value)} {oc_Wish_DinitD kV_Wish_DinitD dc_Wish_DinitD pm_Wish_DinitD cd_Wish_DinitD ct_Wish_DinitD : Value}
    {f_Band_DeqD : Addr} {od_Band_DeqD an_Band_DeqD : Option Addr} {sl_Band_DeqD : Array (Option Value)} {oc_Band_DeqD kV_Band_DeqD dc_Band_DeqD pm_Band_DeqD cd_Band_DeqD ct_Band_DeqD : Value}
    {f_Wish_DeqD : Addr} {od_Wish_DeqD an_Wish_DeqD : Option Addr} {sl_Wish_DeqD : Array (Option Value)} {oc_Wish_DeqD kV_Wish_DeqD dc_Wish_DeqD pm_Wish_DeqD cd_Wish_DeqD ct_Wish_DeqD : Value}
    {f_Wish_DlenD : Addr} {od_Wish_DlenD an_Wish_DlenD : Option Addr} {sl_Wish_DlenD : Array (Option Value)} {oc_Wish_DlenD kV_Wish_DlenD dc_Wish_DlenD pm_Wish_DlenD cd_Wish_DlenD ct_Wish_DlenD : Value}
    {f_Band_text : Addr} {od_Band_text an_Band_text : Option Addr} {sl_Band_text : Array (Option Value)} {oc_Band_text kV_Band_text dc_Band_text pm_Band_text cd_Band_text ct_Band_text : Value}
    {p_Band_text : Addr} {r_Band_text : List Value}
    {f_Wish_DreprD : Addr} {od_Wish_DreprD an_Wish_DreprD : Option Addr} {sl_Wish_DreprD : Array (Option Value)} {oc_Wish_DreprD kV_Wish_DreprD dc_Wish_DreprD pm_Wish_DreprD cd_Wish_DreprD ct_Wish_DreprD : Value}
    {f_Wish_height : Addr} {od_Wish_height an_Wish_height : Option Addr} {sl_Wish_height : Array (Option Value)} {oc_Wish_height kV_Wish_height dc_Wish_height pm_Wish_height cd_Wish_height ct_Wish_height : Value}
    {p_Wish_height : Addr} {r_Wish_height : List Value}
    {f_law cd_law P_law : Addr} {od_law an_law cdd_law : Option Addr} {sl_law ccs_law : Array (Option Value)} {cvs_law : Array Value} {oc_law kV_law dc_law pm_law ct_law : Value}
    {t_MOST_AGE : Tok}
    {t_MOST_BANDS : Tok}
    {t_MOST_HEIGHT : Tok}
    {t_MOST_MANY : Tok}
    (a_Band : PySem.W.nsIn K mainGlobals "Band" = some (some (.ref C_Band)))
    (pg_Band : PySem.W.plainGet K C_Band Str.empty = true)
    (hd_Band : PySem.W.hasDictIn K C_Band = true)
    (po_Band : PySem.W.plainOver K C_Band = true)
    (sa_Band : PySem.W.findIn K (.ref C_Band) "__setattr__" = some (some (.builtin "object.__setattr__")))
    (mk_Band : PySem.W.makesIn K C_Band = true)
    (kc_Band : PySem.W.keepIn K (.ref C_Band) = true)
    (a_Wish : PySem.W.nsIn K mainGlobals "Wish" = some (some (.ref C_Wish)))
    (pg_Wish : PySem.W.plainGet K C_Wish Str.empty = true)
    (hd_Wish : PySem.W.hasDictIn K C_Wish = true)
    (po_Wish : PySem.W.plainOver K C_Wish = true)
    (sa_Wish : PySem.W.findIn K (.ref C_Wish) "__setattr__" = some (some (.builtin "object.__setattr__")))
    (mk_Wish : PySem.W.makesIn K C_Wish = true)
    (kc_Wish : PySem.W.keepIn K (.ref C_Wish) = true)
    (ty_Band : PySem.W.subIn K (.type "str") (.ref C_Band) = some false)
    (ty_Wish : PySem.W.subIn K (.type "str") (.ref C_Wish) = some false)
    (oc_g_ : PySem.W.specialIn K (.builtin "object.__class__") "__get__" = some (some (.builtin "getset_descriptor.__get__")))
    (oc_t_ : PySem.W.takesIn K (.builtin "object.__class__") = some true)
    (ha_Band : PySem.W.findIn K (.ref C_Band) "__class__" = some (some (.builtin "object.__class__")))
    (ic_Band : PySem.W.isClsIn K C_Band = true)
    (tc_Band : PySem.W.typeIn K (.ref C_Band) = some (.type "type"))
    (ha_Wish : PySem.W.findIn K (.ref C_Wish) "__class__" = some (some (.builtin "object.__class__")))
    (ic_Wish : PySem.W.isClsIn K C_Wish = true)
    (tc_Wish : PySem.W.typeIn K (.ref C_Wish) = some (.type "type"))
    (mo_Band : PySem.W.mroIn K C_Band (.type "object") = some true)
    (mo_Wish : PySem.W.mroIn K C_Wish (.type "object") = some true)
    (a_BadCount : PySem.W.nsIn K mainGlobals "BadCount" = some (some (.ref C_BadCount)))
    (a_BadNumber : PySem.W.nsIn K mainGlobals "BadNumber" = some (some (.ref C_BadNumber)))
    (a_CopyError : PySem.W.nsIn K mainGlobals "CopyError" = some (some (.ref C_CopyError)))
    (a_NoName : PySem.W.nsIn K mainGlobals "NoName" = some (some (.ref C_NoName)))
    (a_NothingLeft : PySem.W.nsIn K mainGlobals "NothingLeft" = some (some (.ref C_NothingLeft)))
    (x_opq : PySem.W.nsIn K cStatics "thirdparty.any" = some none)
    (x_top : (l.prog.main.scope.names.lookup ("super" : Str)).isSome = false)
    (z_super : PySem.W.nsIn K mainGlobals "super" = some none)
    (iC_BadCount : PySem.W.findIn K (.ref C_BadCount) "__init__" = some (some (.ref f_BadCount_DinitD)))
    (l_BadCount_DinitD : K.lookup f_BadCount_DinitD = some ⟨oc_BadCount_DinitD, od_BadCount_DinitD, .func (PySem.W.ksFn "__init__" "BadCount.__init__" (defArgs s_BadCount_DinitD) (defBody s_BadCount_DinitD) (defScope s_BadCount_DinitD) .none kV_BadCount_DinitD dc_BadCount_DinitD pm_BadCount_DinitD an_BadCount_DinitD (.ref cda_BadCount) ct_BadCount_DinitD cc_BadCount), sl_BadCount_DinitD⟩)
    (x1_BadCount : K.lookup cda_BadCount = some ⟨xcl_BadCount, xcd_BadCount, .fields vs_BadCount, xcs_BadCount⟩)
    (x2_BadCount : vs_BadCount[2]? = some (.str fi_BadCount tf_BadCount))
    (x3_BadCount : ((l.prog.main.file : Str) == fi_BadCount) = true)
    (c_BadCount_DinitD : PySem.W.codeIn K (.ref cda_BadCount) "BadCount.__init__" = true)
    (x4_BadCount : K.lookup cc_BadCount = some ⟨ycl_BadCount, ycd_BadCount, .cell (some (.ref C_BadCount)), ycs_BadCount⟩)
    (x5_BadCount : K.lookup C_BadCount = some (excClassObj nm_BadCount q_BadCount C_BadCount N_BadCount bs_BadCount [.ref B_BadCount, .type "ValueError", .type "Exception", .type "BaseException", .type "object"] true sn_BadCount sb_BadCount ab_BadCount col_BadCount dd_BadCount m0_BadCount m1_BadCount m2_BadCount m3_BadCount m5_BadCount "ValueError.__new__"))
    (x6_BadCount : PySem.W.ks_superIn K C_BadCount C_BadCount "__init__" = some (some (.builtin "ValueError.__init__")))
    (x7_BadCount : PySem.W.subIn K (.ref C_BadCount) (.type "ValueError") = some true)
    (x8_BadCount : PySem.W.mroIn K C_BadCount (.ref C_BadCount) = some true)
    (xs_BadCount : PySem.W.findIn K (.ref C_BadCount) "__setattr__" = some (some (.builtin "object.__setattr__")))
    (tI_BadCount : PySem.W.typeIn K (.ref f_BadCount_DinitD) = some (.type "function"))
    (kC_BadCount : PySem.W.keepIn K (.ref C_BadCount) = true)
    (eC_BadCount : PySem.W.subIn K (.ref C_BadCount) (.type "BaseException") = some true)
    (tC_BadCount : PySem.W.typeIn K (.ref C_BadCount) = some (.type "type"))
    (n_BadCount_at : PySem.W.findIn K (.ref C_BadCount) "at" = some none)
    (n_BadCount_code : PySem.W.findIn K (.ref C_BadCount) "code" = some none)
    (n_BadCount_given : PySem.W.findIn K (.ref C_BadCount) "given" = some none)
    (n_BadCount_most : PySem.W.findIn K (.ref C_BadCount) "most" = some none)
    (n_BadCount_name : PySem.W.findIn K (.ref C_BadCount) "name" = some none)
    (n_BadCount_state : PySem.W.findIn K (.ref C_BadCount) "state" = some none)
    (ga_BadCount : PySem.W.findIn K (.ref C_BadCount) "__getattribute__" = some (some (.builtin "BaseException.__getattribute__")))
    (gg_BadCount : PySem.W.findIn K (.ref C_BadCount) "__getattr__" = some none)
    (hd_BadCount : PySem.W.hasDictIn K C_BadCount = true)
    (em_BadCount : PySem.W.exmAny K (.ref C_BadCount) [.ref C_CopyError, .ref C_NoName, .ref C_NothingLeft] = some true)
    (iC_BadNumber : PySem.W.findIn K (.ref C_BadNumber) "__init__" = some (some (.ref f_BadNumber_DinitD)))
    (l_BadNumber_DinitD : K.lookup f_BadNumber_DinitD = some ⟨oc_BadNumber_DinitD, od_BadNumber_DinitD, .func (PySem.W.ksFn "__init__" "BadNumber.__init__" (defArgs s_BadNumber_DinitD) (defBody s_BadNumber_DinitD) (defScope s_BadNumber_DinitD) .none kV_BadNumber_DinitD dc_BadNumber_DinitD pm_BadNumber_DinitD an_BadNumber_DinitD (.ref cda_BadNumber) ct_BadNumber_DinitD cc_BadNumber), sl_BadNumber_DinitD⟩)
    (x1_BadNumber : K.lookup cda_BadNumber = some ⟨xcl_BadNumber, xcd_BadNumber, .fields vs_BadNumber, xcs_BadNumber⟩)
    (x2_BadNumber : vs_BadNumber[2]? = some (.str fi_BadNumber tf_BadNumber))
    (x3_BadNumber : ((l.prog.main.file : Str) == fi_BadNumber) = true)
    (c_BadNumber_DinitD : PySem.W.codeIn K (.ref cda_BadNumber) "BadNumber.__init__" = true)
    (x4_BadNumber : K.lookup cc_BadNumber = some ⟨ycl_BadNumber, ycd_BadNumber, .cell (some (.ref C_BadNumber)), ycs_BadNumber⟩)
    (x5_BadNumber : K.lookup C_BadNumber = some (excClassObj nm_BadNumber q_BadNumber C_BadNumber N_BadNumber bs_BadNumber [.ref B_BadNumber, .type "ValueError", .type "Exception", .type "BaseException", .type "object"] true sn_BadNumber sb_BadNumber ab_BadNumber col_BadNumber dd_BadNumber m0_BadNumber m1_BadNumber m2_BadNumber m3_BadNumber m5_BadNumber "ValueError.__new__"))
    (x6_BadNumber : PySem.W.ks_superIn K C_BadNumber C_BadNumber "__init__" = some (some (.builtin "ValueError.__init__")))
    (x7_BadNumber : PySem.W.subIn K (.ref C_BadNumber) (.type "ValueError") = some true)
    (x8_BadNumber : PySem.W.mroIn K C_BadNumber (.ref C_BadNumber) = some true)
    (xs_BadNumber : PySem.W.findIn K (.ref C_BadNumber) "__setattr__" = some (some (.builtin "object.__setattr__")))
    (tI_BadNumber : PySem.W.typeIn K (.ref f_BadNumber_DinitD) = some (.type "function"))
    (kC_BadNumber : PySem.W.keepIn K (.ref C_BadNumber) = true)
    (eC_BadNumber : PySem.W.subIn K (.ref C_BadNumber) (.type "BaseException") = some true)
    (tC_BadNumber : PySem.W.typeIn K (.ref C_BadNumber) = some (.type "type"))
    (n_BadNumber_at : PySem.W.findIn K (.ref C_BadNumber) "at" = some none)
    (n_BadNumber_code : PySem.W.findIn K (.ref C_BadNumber) "code" = some none)
    (n_BadNumber_given : PySem.W.findIn K (.ref C_BadNumber) "given" = some none)
    (n_BadNumber_most : PySem.W.findIn K (.ref C_BadNumber) "most" = some none)
    (n_BadNumber_name : PySem.W.findIn K (.ref C_BadNumber) "name" = some none)
    (n_BadNumber_state : PySem.W.findIn K (.ref C_BadNumber) "state" = some none)
    (ga_BadNumber : PySem.W.findIn K (.ref C_BadNumber) "__getattribute__" = some (some (.builtin "BaseException.__getattribute__")))
    (gg_BadNumber : PySem.W.findIn K (.ref C_BadNumber) "__getattr__" = some none)
    (hd_BadNumber : PySem.W.hasDictIn K C_BadNumber = true)
    (em_BadNumber : PySem.W.exmAny K (.ref C_BadNumber) [.ref C_CopyError, .ref C_NoName, .ref C_NothingLeft] = some true)
    (a_l_fields : PySem.W.nsIn K mainGlobals "_law_fields" = some (some (.ref f_l_fields)))
    (l_l_fields : K.lookup f_l_fields = some ⟨oc_l_fields, od_l_fields, .func (PySem.W.fnOf "_law_fields" "_law_fields" (defArgs s_l_fields) (defBody s_l_fields) (defScope s_l_fields) .none kV_l_fields dc_l_fields pm_l_fields an_l_fields cd_l_fields ct_l_fields), sl_l_fields⟩)
    (c_l_fields : PySem.W.codeIn K cd_l_fields "_law_fields" = true)
    (k_l_fields : PySem.W.keepIn K (.ref f_l_fields) = true)
    (a_l_try : PySem.W.nsIn K mainGlobals "_law_try" = some (some (.ref f_l_try)))
    (l_l_try : K.lookup f_l_try = some ⟨oc_l_try, od_l_try, .func (PySem.W.fnOf "_law_try" "_law_try" (defArgs s_l_try) (defBody s_l_try) (defScope s_l_try) .none kV_l_try dc_l_try pm_l_try an_l_try cd_l_try ct_l_try), sl_l_try⟩)
    (c_l_try : PySem.W.codeIn K cd_l_try "_law_try" = true)
    (k_l_try : PySem.W.keepIn K (.ref f_l_try) = true)
    (a_l_tries : PySem.W.nsIn K mainGlobals "_law_tries" = some (some (.ref f_l_tries)))
    (l_l_tries : K.lookup f_l_tries = some ⟨oc_l_tries, od_l_tries, .func (PySem.W.fnOf "_law_tries" "_law_tries" (defArgs s_l_tries) (defBody s_l_tries) (defScope s_l_tries) .none kV_l_tries dc_l_tries pm_l_tries an_l_tries cd_l_tries ct_l_tries), sl_l_tries⟩)
    (c_l_tries : PySem.W.codeIn K cd_l_tries "_law_tries" = true)
    (k_l_tries : PySem.W.keepIn K (.ref f_l_tries) = true)
    (a_l_pull : PySem.W.nsIn K mainGlobals "_law_pull" = some (some (.ref f_l_pull)))
    (l_l_pull : K.lookup f_l_pull = some ⟨oc_l_pull, od_l_pull, .func (PySem.W.fnOf "_law_pull" "_law_pull" (defArgs s_l_pull) (defBody s_l_pull) (defScope s_l_pull) .none kV_l_pull dc_l_pull pm_l_pull an_l_pull cd_l_pull ct_l_pull), sl_l_pull⟩)
    (c_l_pull : PySem.W.codeIn K cd_l_pull "_law_pull" = true)
    (k_l_pull : PySem.W.keepIn K (.ref f_l_pull) = true)
    (a_l_any : PySem.W.nsIn K mainGlobals "_law_any" = some (some (.ref f_l_any)))
    (l_l_any : K.lookup f_l_any = some ⟨oc_l_any, od_l_any, .func (PySem.W.fnOf "_law_any" "_law_any" (defArgs s_l_any) (defBody s_l_any) (defScope s_l_any) .none kV_l_any dc_l_any pm_l_any an_l_any cd_l_any ct_l_any), sl_l_any⟩)
    (c_l_any : PySem.W.codeIn K cd_l_any "_law_any" = true)
    (k_l_any : PySem.W.keepIn K (.ref f_l_any) = true)
    (a_l_holds : PySem.W.nsIn K mainGlobals "_law_holds" = some (some (.ref f_l_holds)))
    (l_l_holds : K.lookup f_l_holds = some ⟨oc_l_holds, od_l_holds, .func (PySem.W.fnOf "_law_holds" "_law_holds" (defArgs s_l_holds) (defBody s_l_holds) (defScope s_l_holds) .none kV_l_holds dc_l_holds pm_l_holds an_l_holds cd_l_holds ct_l_holds), sl_l_holds⟩)
    (c_l_holds : PySem.W.codeIn K cd_l_holds "_law_holds" = true)
    (k_l_holds : PySem.W.keepIn K (.ref f_l_holds) = true)
    (a_l_granted : PySem.W.nsIn K mainGlobals "_law_granted" = some (some (.ref f_l_granted)))
    (l_l_granted : K.lookup f_l_granted = some ⟨oc_l_granted, od_l_granted, .func (PySem.W.fnOf "_law_granted" "_law_granted" (defArgs s_l_granted) (defBody s_l_granted) (defScope s_l_granted) .none kV_l_granted dc_l_granted pm_l_granted an_l_granted cd_l_granted ct_l_granted), sl_l_granted⟩)
    (c_l_granted : PySem.W.codeIn K cd_l_granted "_law_granted" = true)
    (k_l_granted : PySem.W.keepIn K (.ref f_l_granted) = true)
    (a_l_height : PySem.W.nsIn K mainGlobals "_law_height" = some (some (.ref f_l_height)))
    (l_l_height : K.lookup f_l_height = some ⟨oc_l_height, od_l_height, .func (PySem.W.fnOf "_law_height" "_law_height" (defArgs s_l_height) (defBody s_l_height) (defScope s_l_height) .none kV_l_height dc_l_height pm_l_height an_l_height cd_l_height ct_l_height), sl_l_height⟩)
    (c_l_height : PySem.W.codeIn K cd_l_height "_law_height" = true)
    (k_l_height : PySem.W.keepIn K (.ref f_l_height) = true)
    (a_l_like : PySem.W.nsIn K mainGlobals "_law_like" = some (some (.ref f_l_like)))
    (l_l_like : K.lookup f_l_like = some ⟨oc_l_like, od_l_like, .func (PySem.W.fnOf "_law_like" "_law_like" (defArgs s_l_like) (defBody s_l_like) (defScope s_l_like) .none kV_l_like dc_l_like pm_l_like an_l_like cd_l_like ct_l_like), sl_l_like⟩)
    (c_l_like : PySem.W.codeIn K cd_l_like "_law_like" = true)
    (k_l_like : PySem.W.keepIn K (.ref f_l_like) = true)
    (a_check_number : PySem.W.nsIn K mainGlobals "check_number" = some (some (.ref f_check_number)))
    (l_check_number : K.lookup f_check_number = some ⟨oc_check_number, od_check_number, .func (PySem.W.fnOf "check_number" "check_number" (defArgs s_check_number) (defBody s_check_number) (defScope s_check_number) .none kV_check_number dc_check_number pm_check_number an_check_number cd_check_number ct_check_number), sl_check_number⟩)
    (c_check_number : PySem.W.codeIn K cd_check_number "check_number" = true)
    (k_check_number : PySem.W.keepIn K (.ref f_check_number) = true)
    (a_Band_DinitD : PySem.W.findIn K (.ref C_Band) "__init__" = some (some (.ref f_Band_DinitD)))
    (i_Band_DinitD : PySem.W.isFn K (.ref f_Band_DinitD) = true)
    (l_Band_DinitD : K.lookup f_Band_DinitD = some ⟨oc_Band_DinitD, od_Band_DinitD, .func (PySem.W.fnOf "__init__" "Band.__init__" (defArgs s_Band_DinitD) (defBody s_Band_DinitD) (defScope s_Band_DinitD) .none (.ref kD_Band_DinitD) dc_Band_DinitD pm_Band_DinitD an_Band_DinitD cd_Band_DinitD ct_Band_DinitD), sl_Band_DinitD⟩)
    (kw_Band_DinitD_many : PySem.W.nsIn K kD_Band_DinitD "many" = some (some (.int 1 tk_Band_DinitD_many)))
    (c_Band_DinitD : PySem.W.codeIn K cd_Band_DinitD "Band.__init__" = true)
    (k_Band_DinitD : PySem.W.keepIn K (.ref f_Band_DinitD) = true)
    (a_l_made_band : PySem.W.nsIn K mainGlobals "_law_made_band" = some (some (.ref f_l_made_band)))
    (l_l_made_band : K.lookup f_l_made_band = some ⟨oc_l_made_band, od_l_made_band, .func (PySem.W.fnOf "_law_made_band" "_law_made_band" (defArgs s_l_made_band) (defBody s_l_made_band) (defScope s_l_made_band) .none kV_l_made_band dc_l_made_band pm_l_made_band an_l_made_band cd_l_made_band ct_l_made_band), sl_l_made_band⟩)
    (c_l_made_band : PySem.W.codeIn K cd_l_made_band "_law_made_band" = true)
    (k_l_made_band : PySem.W.keepIn K (.ref f_l_made_band) = true)
    (a_l_mixed : PySem.W.nsIn K mainGlobals "_law_mixed" = some (some (.ref f_l_mixed)))
    (l_l_mixed : K.lookup f_l_mixed = some ⟨oc_l_mixed, od_l_mixed, .func (PySem.W.fnOf "_law_mixed" "_law_mixed" (defArgs s_l_mixed) (defBody s_l_mixed) (defScope s_l_mixed) .none kV_l_mixed dc_l_mixed pm_l_mixed an_l_mixed cd_l_mixed ct_l_mixed), sl_l_mixed⟩)
    (c_l_mixed : PySem.W.codeIn K cd_l_mixed "_law_mixed" = true)
    (k_l_mixed : PySem.W.keepIn K (.ref f_l_mixed) = true)
    (a_l_opened : PySem.W.nsIn K mainGlobals "_law_opened" = some (some (.ref f_l_opened)))
    (l_l_opened : K.lookup f_l_opened = some ⟨oc_l_opened, od_l_opened, .func (PySem.W.fnOf "_law_opened" "_law_opened" (defArgs s_l_opened) (defBody s_l_opened) (defScope s_l_opened) .none kV_l_opened dc_l_opened pm_l_opened an_l_opened cd_l_opened ct_l_opened), sl_l_opened⟩)
    (c_l_opened : PySem.W.codeIn K cd_l_opened "_law_opened" = true)
    (k_l_opened : PySem.W.keepIn K (.ref f_l_opened) = true)
    (a_l_wish : PySem.W.nsIn K mainGlobals "_law_wish" = some (some (.ref f_l_wish)))
    (l_l_wish : K.lookup f_l_wish = some ⟨oc_l_wish, od_l_wish, .func (PySem.W.fnOf "_law_wish" "_law_wish" (defArgs s_l_wish) (defBody s_l_wish) (defScope s_l_wish) .none kV_l_wish dc_l_wish pm_l_wish an_l_wish cd_l_wish ct_l_wish), sl_l_wish⟩)
    (c_l_wish : PySem.W.codeIn K cd_l_wish "_law_wish" = true)
    (k_l_wish : PySem.W.keepIn K (.ref f_l_wish) = true)
    (a_Wish_bands : PySem.W.findIn K (.ref C_Wish) "bands" = some (some (.ref f_Wish_bands)))
    (i_Wish_bands : PySem.W.isFn K (.ref f_Wish_bands) = true)
    (l_Wish_bands : K.lookup f_Wish_bands = some ⟨oc_Wish_bands, od_Wish_bands, .func (PySem.W.fnOf "bands" "Wish.bands" (defArgs s_Wish_bands) (defBody s_Wish_bands) (defScope s_Wish_bands) .none kV_Wish_bands dc_Wish_bands pm_Wish_bands an_Wish_bands cd_Wish_bands ct_Wish_bands), sl_Wish_bands⟩)
    (c_Wish_bands : PySem.W.codeIn K cd_Wish_bands "Wish.bands" = true)
    (k_Wish_bands : PySem.W.keepIn K (.ref f_Wish_bands) = true)
    (a_Band_holds : PySem.W.findIn K (.ref C_Band) "holds" = some (some (.ref f_Band_holds)))
    (i_Band_holds : PySem.W.isFn K (.ref f_Band_holds) = true)
    (l_Band_holds : K.lookup f_Band_holds = some ⟨oc_Band_holds, od_Band_holds, .func (PySem.W.fnOf "holds" "Band.holds" (defArgs s_Band_holds) (defBody s_Band_holds) (defScope s_Band_holds) .none kV_Band_holds dc_Band_holds pm_Band_holds an_Band_holds cd_Band_holds ct_Band_holds), sl_Band_holds⟩)
    (c_Band_holds : PySem.W.codeIn K cd_Band_holds "Band.holds" = true)
    (k_Band_holds : PySem.W.keepIn K (.ref f_Band_holds) = true)
    (a_Wish_holds : PySem.W.findIn K (.ref C_Wish) "holds" = some (some (.ref f_Wish_holds)))
    (i_Wish_holds : PySem.W.isFn K (.ref f_Wish_holds) = true)
    (l_Wish_holds : K.lookup f_Wish_holds = some ⟨oc_Wish_holds, od_Wish_holds, .func (PySem.W.fnOf "holds" "Wish.holds" (defArgs s_Wish_holds) (defBody s_Wish_holds) (defScope s_Wish_holds) .none kV_Wish_holds dc_Wish_holds pm_Wish_holds an_Wish_holds cd_Wish_holds ct_Wish_holds), sl_Wish_holds⟩)
    (c_Wish_holds : PySem.W.codeIn K cd_Wish_holds "Wish.holds" = true)
    (k_Wish_holds : PySem.W.keepIn K (.ref f_Wish_holds) = true)
    (a_Band_high : PySem.W.findIn K (.ref C_Band) "high" = some (some (.ref p_Band_high)))
    (g_Band_high : PySem.W.specialIn K (.ref p_Band_high) "__get__" = some (some (.builtin "property.__get__")))
    (t_Band_high : PySem.W.takesIn K (.ref p_Band_high) = some true)
    (r1_Band_high : PySem.W.recIn K p_Band_high "property" = some (.ref f_Band_high :: r_Band_high))
    (l_Band_high : K.lookup f_Band_high = some ⟨oc_Band_high, od_Band_high, .func (PySem.W.fnOf "high" "Band.high" (defArgs s_Band_high) (defBody s_Band_high) (defScope s_Band_high) .none kV_Band_high dc_Band_high pm_Band_high an_Band_high cd_Band_high ct_Band_high), sl_Band_high⟩)
    (c_Band_high : PySem.W.codeIn K cd_Band_high "Band.high" = true)
    (k_Band_high : PySem.W.keepIn K (.ref f_Band_high) = true)
    (a_Wish_DinitD : PySem.W.findIn K (.ref C_Wish) "__init__" = some (some (.ref f_Wish_DinitD)))
    (i_Wish_DinitD : PySem.W.isFn K (.ref f_Wish_DinitD) = true)
    (l_Wish_DinitD : K.lookup f_Wish_DinitD = some ⟨oc_Wish_DinitD, od_Wish_DinitD, .func (PySem.W.fnOf "__init__" "Wish.__init__" (defArgs s_Wish_DinitD) (defBody s_Wish_DinitD) (defScope s_Wish_DinitD) .none kV_Wish_DinitD dc_Wish_DinitD pm_Wish_DinitD an_Wish_DinitD cd_Wish_DinitD ct_Wish_DinitD), sl_Wish_DinitD⟩)
    (c_Wish_DinitD : PySem.W.codeIn K cd_Wish_DinitD "Wish.__init__" = true)
    (k_Wish_DinitD : PySem.W.keepIn K (.ref f_Wish_DinitD) = true)
    (a_Band_DeqD : PySem.W.findIn K (.ref C_Band) "__eq__" = some (some (.ref f_Band_DeqD)))
    (i_Band_DeqD : PySem.W.isFn K (.ref f_Band_DeqD) = true)
    (l_Band_DeqD : K.lookup f_Band_DeqD = some ⟨oc_Band_DeqD, od_Band_DeqD, .func (PySem.W.fnOf "__eq__" "Band.__eq__" (defArgs s_Band_DeqD) (defBody s_Band_DeqD) (defScope s_Band_DeqD) .none kV_Band_DeqD dc_Band_DeqD pm_Band_DeqD an_Band_DeqD cd_Band_DeqD ct_Band_DeqD), sl_Band_DeqD⟩)
    (c_Band_DeqD : PySem.W.codeIn K cd_Band_DeqD "Band.__eq__" = true)
    (k_Band_DeqD : PySem.W.keepIn K (.ref f_Band_DeqD) = true)
    (a_Wish_DeqD : PySem.W.findIn K (.ref C_Wish) "__eq__" = some (some (.ref f_Wish_DeqD)))
    (i_Wish_DeqD : PySem.W.isFn K (.ref f_Wish_DeqD) = true)
    (l_Wish_DeqD : K.lookup f_Wish_DeqD = some ⟨oc_Wish_DeqD, od_Wish_DeqD, .func (PySem.W.fnOf "__eq__" "Wish.__eq__" (defArgs s_Wish_DeqD) (defBody s_Wish_DeqD) (defScope s_Wish_DeqD) .none kV_Wish_DeqD dc_Wish_DeqD pm_Wish_DeqD an_Wish_DeqD cd_Wish_DeqD ct_Wish_DeqD), sl_Wish_DeqD⟩)
    (c_Wish_DeqD : PySem.W.codeIn K cd_Wish_DeqD "Wish.__eq__" = true)
    (k_Wish_DeqD : PySem.W.keepIn K (.ref f_Wish_DeqD) = true)
    (a_Wish_DlenD : PySem.W.findIn K (.ref C_Wish) "__len__" = some (some (.ref f_Wish_DlenD)))
    (i_Wish_DlenD : PySem.W.isFn K (.ref f_Wish_DlenD) = true)
    (l_Wish_DlenD : K.lookup f_Wish_DlenD = some ⟨oc_Wish_DlenD, od_Wish_DlenD, .func (PySem.W.fnOf "__len__" "Wish.__len__" (defArgs s_Wish_DlenD) (defBody s_Wish_DlenD) (defScope s_Wish_DlenD) .none kV_Wish_DlenD dc_Wish_DlenD pm_Wish_DlenD an_Wish_DlenD cd_Wish_DlenD ct_Wish_DlenD), sl_Wish_DlenD⟩)
    (c_Wish_DlenD : PySem.W.codeIn K cd_Wish_DlenD "Wish.__len__" = true)
    (k_Wish_DlenD : PySem.W.keepIn K (.ref f_Wish_DlenD) = true)
    (a_Band_text : PySem.W.findIn K (.ref C_Band) "text" = some (some (.ref p_Band_text)))
    (g_Band_text : PySem.W.specialIn K (.ref p_Band_text) "__get__" = some (some (.builtin "property.__get__")))
    (t_Band_text : PySem.W.takesIn K (.ref p_Band_text) = some true)
    (r1_Band_text : PySem.W.recIn K p_Band_text "property" = some (.ref f_Band_text :: r_Band_text))
    (l_Band_text : K.lookup f_Band_text = some ⟨oc_Band_text, od_Band_text, .func (PySem.W.fnOf "text" "Band.text" (defArgs s_Band_text) (defBody s_Band_text) (defScope s_Band_text) .none kV_Band_text dc_Band_text pm_Band_text an_Band_text cd_Band_text ct_Band_text), sl_Band_text⟩)
    (c_Band_text : PySem.W.codeIn K cd_Band_text "Band.text" = true)
    (k_Band_text : PySem.W.keepIn K (.ref f_Band_text) = true)
    (a_Wish_DreprD : PySem.W.findIn K (.ref C_Wish) "__repr__" = some (some (.ref f_Wish_DreprD)))
    (i_Wish_DreprD : PySem.W.isFn K (.ref f_Wish_DreprD) = true)
    (l_Wish_DreprD : K.lookup f_Wish_DreprD = some ⟨oc_Wish_DreprD, od_Wish_DreprD, .func (PySem.W.fnOf "__repr__" "Wish.__repr__" (defArgs s_Wish_DreprD) (defBody s_Wish_DreprD) (defScope s_Wish_DreprD) .none kV_Wish_DreprD dc_Wish_DreprD pm_Wish_DreprD an_Wish_DreprD cd_Wish_DreprD ct_Wish_DreprD), sl_Wish_DreprD⟩)
    (c_Wish_DreprD : PySem.W.codeIn K cd_Wish_DreprD "Wish.__repr__" = true)
    (k_Wish_DreprD : PySem.W.keepIn K (.ref f_Wish_DreprD) = true)
    (a_Wish_height : PySem.W.findIn K (.ref C_Wish) "height" = some (some (.ref p_Wish_height)))
    (g_Wish_height : PySem.W.specialIn K (.ref p_Wish_height) "__get__" = some (some (.builtin "property.__get__")))
    (t_Wish_height : PySem.W.takesIn K (.ref p_Wish_height) = some true)
    (r1_Wish_height : PySem.W.recIn K p_Wish_height "property" = some (.ref f_Wish_height :: r_Wish_height))
    (l_Wish_height : K.lookup f_Wish_height = some ⟨oc_Wish_height, od_Wish_height, .func (PySem.W.fnOf "height" "Wish.height" (defArgs s_Wish_height) (defBody s_Wish_height) (defScope s_Wish_height) .none kV_Wish_height dc_Wish_height pm_Wish_height an_Wish_height cd_Wish_height ct_Wish_height), sl_Wish_height⟩)
    (c_Wish_height : PySem.W.codeIn K cd_Wish_height "Wish.height" = true)
    (k_Wish_height : PySem.W.keepIn K (.ref f_Wish_height) = true)
    (a_law : PySem.W.nsIn K mainGlobals "law" = some (some (.ref f_law)))
    (l_law : K.lookup f_law = some ⟨oc_law, od_law, .func (PySem.W.fnOf "law" "law" (defArgs s_law) (defBody s_law) (defScope s_law) .none kV_law dc_law pm_law an_law (.ref cd_law) ct_law), sl_law⟩)
    (c_law : PySem.W.codeIn K (.ref cd_law) "law" = true)
    (cl_law : K.lookup cd_law = some ⟨.type "code", cdd_law, .fields cvs_law, ccs_law⟩)
    (p_law : cvs_law[11]? = some (.ref P_law))
    (d_law : PySem.W.codeHdIn K cd_law P_law = true)
    (np_law : K.lookup P_law = none)
    (n_Band_own_high : PySem.W.findIn K (.ref C_Band) "own_high" = some none)
    (n_Band_own_low : PySem.W.findIn K (.ref C_Band) "own_low" = some none)
    (n_Band_own_many : PySem.W.findIn K (.ref C_Band) "own_many" = some none)
    (n_Band_own_text : PySem.W.findIn K (.ref C_Band) "own_text" = some none)
    (n_Wish_own_bands : PySem.W.findIn K (.ref C_Wish) "own_bands" = some none)
    (z_all : PySem.W.nsIn K mainGlobals "all" = some none)
    (z_bool : PySem.W.nsIn K mainGlobals "bool" = some none)
    (z_int : PySem.W.nsIn K mainGlobals "int" = some none)
    (z_isinstance : PySem.W.nsIn K mainGlobals "isinstance" = some none)
    (z_len : PySem.W.nsIn K mainGlobals "len" = some none)
    (z_list : PySem.W.nsIn K mainGlobals "list" = some none)
    (z_max : PySem.W.nsIn K mainGlobals "max" = some none)
    (z_range : PySem.W.nsIn K mainGlobals "range" = some none)
    (z_repr : PySem.W.nsIn K mainGlobals "repr" = some none)
    (z_str : PySem.W.nsIn K mainGlobals "str" = some none)
    (z_tuple : PySem.W.nsIn K mainGlobals "tuple" = some none)
    (a_MOST_AGE : PySem.W.nsIn K mainGlobals "MOST_AGE" = some (some (.int 59 t_MOST_AGE)))
    (a_MOST_BANDS : PySem.W.nsIn K mainGlobals "MOST_BANDS" = some (some (.int 4 t_MOST_BANDS)))
    (a_MOST_HEIGHT : PySem.W.nsIn K mainGlobals "MOST_HEIGHT" = some (some (.int 6 t_MOST_HEIGHT)))
    (a_MOST_MANY : PySem.W.nsIn K mainGlobals "MOST_MANY" = some (some (.int 20 t_MOST_MANY)))
    : ∃ (fd : FuncData) (c P : Addr), (∃ oc od osl, K.lookup fa = some ⟨oc, od, .func fd, osl⟩) ∧ fd.code = .ref c ∧ PySem.W.codeHdIn K c P = true ∧ K.lookup P = none ∧ (∀ (s : Shared) (u : Value), BindsTo s fd ⟨[u], []⟩ [("_law_script", u)]) ∧ ∀ base : Heap, K.In base → base.Ns mainGlobals mg → LamX.TabB base mg c P → FnOk l.prog w K mg base (L2.CX l.prog w) 17 fa fd ["_law_script"] (spW K mg P 17 1 b_law) := by
  have e := hfa.symm.trans (PySem.W.mg_of X G a_law)
  cases e
  refine ⟨PySem.W.fnOf "law" "law" (defArgs s_law) (defBody s_law) (defScope s_law) .none kV_law dc_law pm_law an_law (.ref cd_law) ct_law, cd_law, P_law, ⟨_, _, _, l_law⟩, rfl, d_law, np_law, fun s v => .of_eq rfl, fun base _ _ TB => ?_⟩
  have hm_Band := PySem.W.mg_of X G a_Band
  have cl_Band : Cls K C_Band := ⟨pg_Band, hd_Band, po_Band, sa_Band⟩
  have hm_Wish := PySem.W.mg_of X G a_Wish
  have cl_Wish : Cls K C_Wish := ⟨pg_Wish, hd_Wish, po_Wish, sa_Wish⟩
  have hm_BadCount := PySem.W.mg_of X G a_BadCount
  have hm_BadNumber := PySem.W.mg_of X G a_BadNumber
  have hm_CopyError := PySem.W.mg_of X G a_CopyError
  have hm_NoName := PySem.W.mg_of X G a_NoName
  have hm_NothingLeft := PySem.W.mg_of X G a_NothingLeft
  have hz_super := PySem.W.mg_none_of X G z_super
  have hR_BadCount : GR ⟨l.prog, w, K, mg, base⟩ "BadCount" "BadCount" "given" := gr_mk (st := s_BadCount_DinitD) (ar := (defArgs s_BadCount_DinitD).args.getD 0 ⟨"", none, ⟨0, 0, 0, 0⟩⟩) (msg := "the number of arguments is wrong") (code := "BadCount") (fl := "given") (pn := "given") rfl ⟨⟨_, _, _, l_BadCount_DinitD⟩, ⟨_, _, _, _, _, _, x1_BadCount, x2_BadCount, x3_BadCount⟩, c_BadCount_DinitD, ⟨_, _, _, x4_BadCount⟩, ⟨_, _, _, _, _, _, _, _, _, _, _, _, _, _, _, x5_BadCount, rfl⟩, x6_BadCount, x7_BadCount, x8_BadCount, x_opq, xs_BadCount, rfl, x_top, by decide +kernel, by decide +kernel, by decide +kernel, by decide +kernel, by decide +kernel, by decide +kernel, by decide +kernel⟩ ⟨fun L => rfl, fun L => rfl, fun L => ⟨_, rfl⟩⟩ iC_BadCount tI_BadCount kC_BadCount eC_BadCount tC_BadCount hm_BadCount hz_super n_BadCount_code (fun s x v => .of_eq rfl) (by decide +kernel) (by decide +kernel) (by decide +kernel) (by decide +kernel) n_BadCount_given (by decide) (by decide) (fun L => rfl) (fun L => rfl)
  have hR_BadNumber : GR ⟨l.prog, w, K, mg, base⟩ "BadNumber" "BadNumber" "given" := gr_mk (st := s_BadNumber_DinitD) (ar := (defArgs s_BadNumber_DinitD).args.getD 0 ⟨"", none, ⟨0, 0, 0, 0⟩⟩) (msg := "a number is out of its range") (code := "BadNumber") (fl := "given") (pn := "given") rfl ⟨⟨_, _, _, l_BadNumber_DinitD⟩, ⟨_, _, _, _, _, _, x1_BadNumber, x2_BadNumber, x3_BadNumber⟩, c_BadNumber_DinitD, ⟨_, _, _, x4_BadNumber⟩, ⟨_, _, _, _, _, _, _, _, _, _, _, _, _, _, _, x5_BadNumber, rfl⟩, x6_BadNumber, x7_BadNumber, x8_BadNumber, x_opq, xs_BadNumber, rfl, x_top, by decide +kernel, by decide +kernel, by decide +kernel, by decide +kernel, by decide +kernel, by decide +kernel, by decide +kernel⟩ ⟨fun L => rfl, fun L => rfl, fun L => ⟨_, rfl⟩⟩ iC_BadNumber tI_BadNumber kC_BadNumber eC_BadNumber tC_BadNumber hm_BadNumber hz_super n_BadNumber_code (fun s x v => .of_eq rfl) (by decide +kernel) (by decide +kernel) (by decide +kernel) (by decide +kernel) n_BadNumber_given (by decide) (by decide) (fun L => rfl) (fun L => rfl)
  have hm_l_fields := PySem.W.mg_of X G a_l_fields
  have hm_l_try := PySem.W.mg_of X G a_l_try
  have hm_l_tries := PySem.W.mg_of X G a_l_tries
  have hCl : ClsOk K mg [.ref C_CopyError, .ref C_NoName, .ref C_NothingLeft] ["BadNumber", "BadCount"] := ⟨fun cn hcn C hC => by
    simp only [List.mem_cons, List.not_mem_nil, or_false] at hcn
    rcases hcn with rfl | rfl
    · rw [hm_BadNumber] at hC; cases hC; exact ⟨⟨⟨ga_BadNumber, gg_BadNumber, eC_BadNumber, hd_BadNumber⟩, fun n hn => by
        simp only [List.mem_cons, List.not_mem_nil, or_false] at hn
        rcases hn with rfl | rfl | rfl | rfl | rfl | rfl
        · exact n_BadNumber_code
        · exact n_BadNumber_given
        · exact n_BadNumber_most
        · exact n_BadNumber_at
        · exact n_BadNumber_name
        · exact n_BadNumber_state⟩, em_BadNumber⟩
    · rw [hm_BadCount] at hC; cases hC; exact ⟨⟨⟨ga_BadCount, gg_BadCount, eC_BadCount, hd_BadCount⟩, fun n hn => by
        simp only [List.mem_cons, List.not_mem_nil, or_false] at hn
        rcases hn with rfl | rfl | rfl | rfl | rfl | rfl
        · exact n_BadCount_code
        · exact n_BadCount_given
        · exact n_BadCount_most
        · exact n_BadCount_at
        · exact n_BadCount_name
        · exact n_BadCount_state⟩, em_BadCount⟩
    ⟩
  have hTR : GTr ⟨l.prog, w, K, mg, base⟩ "_law_tries" 13 ["BadNumber", "BadCount"] := gtr_mk (st_r := s_l_tries) (st_t := s_l_try) (st_f := s_l_fields) (x := "_law_try") (av := "_law_asks") (nv := "_law_ask") (xf := "_law_fields") (ask := "_law_ask") (en := "_law_e") (e := "_law_e") (x1 := "CopyError") (x2 := "NoName") (x3 := "NothingLeft") (ptl := [_, _, _, _, _, _, _, _, _, _, _, _, _, _, _, _, _, _, _]) (pl1 := [_, _, _, _, _, _, _, _, _]) (pl2 := [_, _, _, _, _, _, _, _, _]) (pl3 := [_, _, _, _, _, _, _, _, _]) (pl4 := [_, _, _, _, _, _, _, _, _]) (pl5 := [_, _, _, _, _, _, _, _, _, _]) (Y1 := [("BadNumber", _), ("BadCount", _), ("BadText", _), ("BadLimit", _)]) (Y2 := [("TooLarge", _), ("TooMany", _), ("Full", _)]) (Y3 := [("BadEvent", _), ("BadChange", _), ("BadCommand", _)]) (Y4 := [("BadName", _), ("TakenName", _), ("NoName", _)]) rfl rfl rfl ⟨rfl, rfl, rfl, rfl⟩ hCl (by decide)
    l_l_tries c_l_tries k_l_tries hm_l_tries (Fun.binds (ps := ["_law_asks"]) (fun_mk (st := s_l_tries) l_l_tries c_l_tries k_l_tries) fun _ _ _ _ _ _ us hl => match us, hl with | [_], _ => rfl) sc_l_tries (.inl (by decide +kernel)) (blkOk_by (by decide +kernel)) (by decide +kernel) (by decide +kernel)
    l_l_try c_l_try k_l_try hm_l_try (Fun.binds (ps := ["_law_ask"]) (fun_mk (st := s_l_try) l_l_try c_l_try k_l_try) fun _ _ _ _ _ _ us hl => match us, hl with | [_], _ => rfl) sc_l_try (.inl (by decide +kernel)) (by decide +kernel) (by decide +kernel) hm_CopyError (by decide +kernel) hm_NoName (by decide +kernel) hm_NothingLeft (by decide +kernel)
    hm_l_fields k_l_fields l_l_fields c_l_fields (Fun.binds (ps := ["_law_e"]) (fun_mk (st := s_l_fields) l_l_fields c_l_fields k_l_fields) fun _ _ _ _ _ _ us hl => match us, hl with | [_], _ => rfl) sc_l_fields (.inl (by decide +kernel)) (by decide) (by decide) (by decide) (by decide)
  have hT1 : GT1 ⟨l.prog, w, K, mg, base⟩ "_law_try" 13 ["BadNumber", "BadCount"] := gt1_mk (st_t := s_l_try) (st_f := s_l_fields) (xf := "_law_fields") (ask := "_law_ask") (en := "_law_e") (e := "_law_e") (x1 := "CopyError") (x2 := "NoName") (x3 := "NothingLeft") (ptl := [_, _, _, _, _, _, _, _, _, _, _, _, _, _, _, _, _, _, _]) (pl1 := [_, _, _, _, _, _, _, _, _]) (pl2 := [_, _, _, _, _, _, _, _, _]) (pl3 := [_, _, _, _, _, _, _, _, _]) (pl4 := [_, _, _, _, _, _, _, _, _]) (pl5 := [_, _, _, _, _, _, _, _, _, _]) (Y1 := [("BadNumber", _), ("BadCount", _), ("BadText", _), ("BadLimit", _)]) (Y2 := [("TooLarge", _), ("TooMany", _), ("Full", _)]) (Y3 := [("BadEvent", _), ("BadChange", _), ("BadCommand", _)]) (Y4 := [("BadName", _), ("TakenName", _), ("NoName", _)]) rfl rfl ⟨rfl, rfl, rfl, rfl⟩ hCl (by decide)
    l_l_try c_l_try k_l_try hm_l_try (Fun.binds (ps := ["_law_ask"]) (fun_mk (st := s_l_try) l_l_try c_l_try k_l_try) fun _ _ _ _ _ _ us hl => match us, hl with | [_], _ => rfl) sc_l_try (.inl (by decide +kernel)) (by decide +kernel) (by decide +kernel) hm_CopyError (by decide +kernel) hm_NoName (by decide +kernel) hm_NothingLeft (by decide +kernel)
    hm_l_fields k_l_fields l_l_fields c_l_fields (Fun.binds (ps := ["_law_e"]) (fun_mk (st := s_l_fields) l_l_fields c_l_fields k_l_fields) fun _ _ _ _ _ _ us hl => match us, hl with | [_], _ => rfl) sc_l_fields (.inl (by decide +kernel)) (by decide) (by decide) (by decide) (by decide)
  have hz_all := PySem.W.mg_none_of X G z_all
  have hz_bool := PySem.W.mg_none_of X G z_bool
  have hz_int := PySem.W.mg_none_of X G z_int
  have hz_isinstance := PySem.W.mg_none_of X G z_isinstance
  have hz_len := PySem.W.mg_none_of X G z_len
  have hz_list := PySem.W.mg_none_of X G z_list
  have hz_max := PySem.W.mg_none_of X G z_max
  have hz_range := PySem.W.mg_none_of X G z_range
  have hz_repr := PySem.W.mg_none_of X G z_repr
  have hz_str := PySem.W.mg_none_of X G z_str
  have hz_tuple := PySem.W.mg_none_of X G z_tuple
  have hK_Band : GK ⟨l.prog, w, K, mg, base⟩ "Band" k_Band := ⟨_, .ref C_Band, hm_Band, rfl, fun μ G0 => .glb hm_Band rfl⟩
  have hK_MOST_AGE : GK ⟨l.prog, w, K, mg, base⟩ "MOST_AGE" k_MOST_AGE := ⟨_, .int 59, PySem.W.mg_of X G a_MOST_AGE, ⟨_, rfl⟩, fun μ G0 => .int _⟩
  have hK_MOST_BANDS : GK ⟨l.prog, w, K, mg, base⟩ "MOST_BANDS" k_MOST_BANDS := ⟨_, .int 4, PySem.W.mg_of X G a_MOST_BANDS, ⟨_, rfl⟩, fun μ G0 => .int _⟩
  have hK_MOST_HEIGHT : GK ⟨l.prog, w, K, mg, base⟩ "MOST_HEIGHT" k_MOST_HEIGHT := ⟨_, .int 6, PySem.W.mg_of X G a_MOST_HEIGHT, ⟨_, rfl⟩, fun μ G0 => .int _⟩
  have hK_MOST_MANY : GK ⟨l.prog, w, K, mg, base⟩ "MOST_MANY" k_MOST_MANY := ⟨_, .int 20, PySem.W.mg_of X G a_MOST_MANY, ⟨_, rfl⟩, fun μ G0 => .int _⟩
  have hK_Wish : GK ⟨l.prog, w, K, mg, base⟩ "Wish" k_Wish := ⟨_, .ref C_Wish, hm_Wish, rfl, fun μ G0 => .glb hm_Wish rfl⟩
  have F_l_pull := fun_mk (st := s_l_pull) l_l_pull c_l_pull k_l_pull
  have b_l_pull := F_l_pull.binds (ps := ["_law_bag", "_law_many_z"]) fun _ _ _ _ _ _ us hl => match us, hl with | [_, _], _ => rfl
  have hm_l_pull := PySem.W.mg_of X G a_l_pull
  have o_l_pull : Fn3 l.prog w K mg base 1 f_l_pull _ ["_law_bag", "_law_many_z"] m_l_pull := fn_l_pull F_l_pull { tr := True.intro, z_int := hz_int, z_len := hz_len }
  have gc_l_pull : Gc ⟨l.prog, w, K, mg, base⟩ (.ref f_l_pull) 2 [] 1 m_l_pull := gc_all o_l_pull k_l_pull b_l_pull rfl
  have F_l_any := fun_mk (st := s_l_any) l_l_any c_l_any k_l_any
  have b_l_any := F_l_any.binds (ps := ["_law_bag", "_law_things"]) fun _ _ _ _ _ _ us hl => match us, hl with | [_, _], _ => rfl
  have hm_l_any := PySem.W.mg_of X G a_l_any
  have o_l_any : Fn3 l.prog w K mg base 2 f_l_any _ ["_law_bag", "_law_things"] m_l_any := fn_l_any F_l_any { tr := True.intro, F_l_pull := ⟨_, hm_l_pull, gc_l_pull⟩, z_len := hz_len }
  have gc_l_any : Gc ⟨l.prog, w, K, mg, base⟩ (.ref f_l_any) 2 [] 2 m_l_any := gc_all o_l_any k_l_any b_l_any rfl
  have F_l_holds := fun_mk (st := s_l_holds) l_l_holds c_l_holds k_l_holds
  have b_l_holds := F_l_holds.binds (ps := ["_law_band", "_law_copies"]) fun _ _ _ _ _ _ us hl => match us, hl with | [_, _], _ => rfl
  have hm_l_holds := PySem.W.mg_of X G a_l_holds
  have o_l_holds : Fn3 l.prog w K mg base 1 f_l_holds _ ["_law_band", "_law_copies"] m_l_holds := fn_l_holds F_l_holds { tr := True.intro, z_len := hz_len }
  have gc_l_holds : Gc ⟨l.prog, w, K, mg, base⟩ (.ref f_l_holds) 2 [] 1 m_l_holds := gc_all o_l_holds k_l_holds b_l_holds rfl
  have F_l_granted := fun_mk (st := s_l_granted) l_l_granted c_l_granted k_l_granted
  have b_l_granted := F_l_granted.binds (ps := ["_law_wish_here", "_law_ages_z"]) fun _ _ _ _ _ _ us hl => match us, hl with | [_, _], _ => rfl
  have hm_l_granted := PySem.W.mg_of X G a_l_granted
  have o_l_granted : Fn3 l.prog w K mg base 2 f_l_granted _ ["_law_wish_here", "_law_ages_z"] m_l_granted := fn_l_granted F_l_granted { tr := True.intro, F_l_holds := ⟨_, hm_l_holds, gc_l_holds⟩, z_all := hz_all }
  have gc_l_granted : Gc ⟨l.prog, w, K, mg, base⟩ (.ref f_l_granted) 2 [] 2 m_l_granted := gc_all o_l_granted k_l_granted b_l_granted rfl
  have F_l_height := fun_mk (st := s_l_height) l_l_height c_l_height k_l_height
  have b_l_height := F_l_height.binds (ps := ["_law_wish_here"]) fun _ _ _ _ _ _ us hl => match us, hl with | [_], _ => rfl
  have hm_l_height := PySem.W.mg_of X G a_l_height
  have o_l_height : Fn3 l.prog w K mg base 1 f_l_height _ ["_law_wish_here"] m_l_height := fn_l_height F_l_height { tr := True.intro, z_max := hz_max }
  have gc_l_height : Gc ⟨l.prog, w, K, mg, base⟩ (.ref f_l_height) 1 [] 1 m_l_height := gc_all o_l_height k_l_height b_l_height rfl
  have F_l_like := fun_mk (st := s_l_like) l_l_like c_l_like k_l_like
  have b_l_like := F_l_like.binds (ps := ["_law_found", "_law_due"]) fun _ _ _ _ _ _ us hl => match us, hl with | [_, _], _ => rfl
  have hm_l_like := PySem.W.mg_of X G a_l_like
  have o_l_like : Fn3 l.prog w K mg base 13 f_l_like _ ["_law_found", "_law_due"] m_l_like := fr_l_like F_l_like k_l_like b_l_like hm_l_like (fun k mm hself => { tr := True.intro, F_l_like := hself, z_all := hz_all, z_bool := hz_bool, z_int := hz_int, z_isinstance := hz_isinstance, z_len := hz_len, z_list := hz_list, z_range := hz_range, z_str := hz_str, z_tuple := hz_tuple }) 12
  have gc_l_like : Gc ⟨l.prog, w, K, mg, base⟩ (.ref f_l_like) 2 [] 13 m_l_like := gc_all o_l_like k_l_like b_l_like rfl
  have F_check_number := fun_mk (st := s_check_number) l_check_number c_check_number k_check_number
  have b_check_number := F_check_number.binds (ps := ["number", "least", "most"]) fun _ _ _ _ _ _ us hl => match us, hl with | [_, _, _], _ => rfl
  have hm_check_number := PySem.W.mg_of X G a_check_number
  have o_check_number : Fn3 l.prog w K mg base 2 f_check_number _ ["number", "least", "most"] m_check_number := fn_check_number F_check_number { tr := True.intro, R_BadNumber := hR_BadNumber }
  have gc_check_number : Gc ⟨l.prog, w, K, mg, base⟩ (.ref f_check_number) 3 [] 2 m_check_number := gc_all o_check_number k_check_number b_check_number rfl
  have F_Band_DinitD := fun_mk (st := s_Band_DinitD) l_Band_DinitD c_Band_DinitD k_Band_DinitD
  have o_Band_DinitD : Fn3 l.prog w K mg base 3 f_Band_DinitD _ ["self", "low", "high", "many"] m_Band_DinitD := fn_Band_DinitD F_Band_DinitD { tr := True.intro, A_Band_own_high := ⟨_, hm_Band, cl_Band, n_Band_own_high⟩, A_Band_own_low := ⟨_, hm_Band, cl_Band, n_Band_own_low⟩, A_Band_own_many := ⟨_, hm_Band, cl_Band, n_Band_own_many⟩, A_Band_own_text := ⟨_, hm_Band, cl_Band, n_Band_own_text⟩, F_check_number := ⟨_, hm_check_number, gc_check_number⟩, K_MOST_AGE := hK_MOST_AGE, K_MOST_MANY := hK_MOST_MANY }
  have fd_Band_DinitD : FunD K "__init__" "Band.__init__" (defArgs s_Band_DinitD) (defBody s_Band_DinitD) (defScope s_Band_DinitD) [] [("many", .int 1)] f_Band_DinitD _ := ⟨⟨oc_Band_DinitD, od_Band_DinitD, .none, .ref kD_Band_DinitD, dc_Band_DinitD, pm_Band_DinitD, an_Band_DinitD, cd_Band_DinitD, ct_Band_DinitD, sl_Band_DinitD, rfl, l_Band_DinitD, c_Band_DinitD, .inl ⟨rfl, rfl⟩, .inr ⟨kD_Band_DinitD, rfl, fun q hq => by
    simp only [List.mem_cons, List.not_mem_nil, or_false] at hq
    rcases hq with rfl
    · exact ⟨_, kw_Band_DinitD_many, ⟨_, rfl⟩⟩
    ⟩⟩, k_Band_DinitD⟩
  have kb_Band_DinitD_3 := FunD.kbinds0 (ps := ["self", "low", "high", "many"]) fd_Band_DinitD 3 [] [("many", .int 1)] (fun {_} us mv ws => pick [0, 1, 2, 3] (us ++ (mv ++ ws))) (by simp) (by simp) (fun r1 r2 r3 => pick_vals (r1.append (r2.append r3)) _)
    (fun D doc pm an cdv ct us mv ws l1 l2 l3 => match us, mv, ws, l1, l2, l3 with | [_, _, _], [_], [], _, _, _ => ⟨_, _, _, _, _, _, rfl, rfl, rfl⟩)
  have gm_Band_DinitD_3 : Gm ⟨l.prog, w, K, mg, base⟩ C_Band 2 [] 3 m_Band_DinitD_3 := gm_dfl (n := 2) (md := [.int 1]) [0, 1, 2, 3] ⟨mk_Band, a_Band_DinitD, i_Band_DinitD, kc_Band⟩ o_Band_DinitD kb_Band_DinitD_3 (fun _ _ => (RepL.cons (rep_vOf rfl) RepL.nil)) rfl (by decide)
  have kb_Band_DinitD_3_many : KBn K (PySem.W.fnOf "__init__" "Band.__init__" (defArgs s_Band_DinitD) (defBody s_Band_DinitD) (defScope s_Band_DinitD) .none (.ref kD_Band_DinitD) dc_Band_DinitD pm_Band_DinitD an_Band_DinitD cd_Band_DinitD ct_Band_DinitD) ["self", "low", "high", "many"] 3 ["many"] (fun us ws => pick [0, 1, 2, 3] (us ++ ws)) (fun us ws => pick [0, 1, 2, 3] (us ++ ws)) :=
    ⟨fun s us ws _ l1 l2 => match us, ws, l1, l2 with | [_, _, _], [_], _, _ => .of_eq rfl, fun r1 r2 => pick_vals (r1.append r2) _⟩
  have re_Band_DinitD_3_many := re_pick (K := K) (mg := mg) (F := m_Band_DinitD) (pl := 4) (n := 3) (k := 1) [0, 1, 2, 3] rfl (by decide)
  have gm_Band_DinitD_3_many : Gm ⟨l.prog, w, K, mg, base⟩ C_Band 2 ["many"] 3 m_Band_DinitD_3_many := gm_kw ⟨mk_Band, a_Band_DinitD, i_Band_DinitD, kc_Band⟩ o_Band_DinitD kb_Band_DinitD_3_many re_Band_DinitD_3_many
  have F_l_made_band := fun_mk (st := s_l_made_band) l_l_made_band c_l_made_band k_l_made_band
  have b_l_made_band := F_l_made_band.binds (ps := ["_law_band"]) fun _ _ _ _ _ _ us hl => match us, hl with | [_], _ => rfl
  have hm_l_made_band := PySem.W.mg_of X G a_l_made_band
  have o_l_made_band : Fn3 l.prog w K mg base 5 f_l_made_band _ ["_law_band"] m_l_made_band := fn_l_made_band F_l_made_band { tr := True.intro, N_Band_DinitD_3_many := ⟨_, hm_Band, gm_Band_DinitD_3_many⟩ }
  have gc_l_made_band : Gc ⟨l.prog, w, K, mg, base⟩ (.ref f_l_made_band) 1 [] 5 m_l_made_band := gc_all o_l_made_band k_l_made_band b_l_made_band rfl
  have F_l_mixed := fun_mk (st := s_l_mixed) l_l_mixed c_l_mixed k_l_mixed
  have b_l_mixed := F_l_mixed.binds (ps := ["_law_bag", "_law_things"]) fun _ _ _ _ _ _ us hl => match us, hl with | [_, _], _ => rfl
  have hm_l_mixed := PySem.W.mg_of X G a_l_mixed
  have o_l_mixed : Fn3 l.prog w K mg base 2 f_l_mixed _ ["_law_bag", "_law_things"] m_l_mixed := fn_l_mixed F_l_mixed { tr := True.intro, F_l_pull := ⟨_, hm_l_pull, gc_l_pull⟩, z_len := hz_len }
  have gc_l_mixed : Gc ⟨l.prog, w, K, mg, base⟩ (.ref f_l_mixed) 2 [] 2 m_l_mixed := gc_all o_l_mixed k_l_mixed b_l_mixed rfl
  have F_l_opened := fun_mk (st := s_l_opened) l_l_opened c_l_opened k_l_opened
  have b_l_opened := F_l_opened.binds (ps := ["_law_script"]) fun _ _ _ _ _ _ us hl => match us, hl with | [_], _ => rfl
  have hm_l_opened := PySem.W.mg_of X G a_l_opened
  have o_l_opened : Fn3 l.prog w K mg base 1 f_l_opened _ ["_law_script"] m_l_opened := fn_l_opened F_l_opened { tr := True.intro, z_list := hz_list }
  have gc_l_opened : Gc ⟨l.prog, w, K, mg, base⟩ (.ref f_l_opened) 1 [] 1 m_l_opened := gc_all o_l_opened k_l_opened b_l_opened rfl
  have F_l_wish := fun_mk (st := s_l_wish) l_l_wish c_l_wish k_l_wish
  have b_l_wish := F_l_wish.binds (ps := ["_law_bag"]) fun _ _ _ _ _ _ us hl => match us, hl with | [_], _ => rfl
  have hm_l_wish := PySem.W.mg_of X G a_l_wish
  have o_l_wish : Fn3 l.prog w K mg base 3 f_l_wish _ ["_law_bag"] m_l_wish := fn_l_wish F_l_wish { tr := True.intro, F_l_any := ⟨_, hm_l_any, gc_l_any⟩, F_l_pull := ⟨_, hm_l_pull, gc_l_pull⟩, z_range := hz_range }
  have gc_l_wish : Gc ⟨l.prog, w, K, mg, base⟩ (.ref f_l_wish) 1 [] 3 m_l_wish := gc_all o_l_wish k_l_wish b_l_wish rfl
  have F_Wish_bands := fun_mk (st := s_Wish_bands) l_Wish_bands c_Wish_bands k_Wish_bands
  have b_Wish_bands := F_Wish_bands.binds (ps := ["self"]) fun _ _ _ _ _ _ us hl => match us, hl with | [_], _ => rfl
  have o_Wish_bands : Fn3 l.prog w K mg base 1 f_Wish_bands _ ["self"] m_Wish_bands := fn_Wish_bands F_Wish_bands { tr := True.intro, A_Wish_own_bands := ⟨_, hm_Wish, cl_Wish, n_Wish_own_bands⟩, z_list := hz_list }
  have gc_Wish_bands : Gc ⟨l.prog, w, K, mg, base⟩ (.ref f_Wish_bands) 1 [] 1 m_Wish_bands := gc_all o_Wish_bands k_Wish_bands b_Wish_bands rfl
  have F_Band_holds := fun_mk (st := s_Band_holds) l_Band_holds c_Band_holds k_Band_holds
  have b_Band_holds := F_Band_holds.binds (ps := ["self", "copies"]) fun _ _ _ _ _ _ us hl => match us, hl with | [_, _], _ => rfl
  have o_Band_holds : Fn3 l.prog w K mg base 1 f_Band_holds _ ["self", "copies"] m_Band_holds := fn_Band_holds F_Band_holds { tr := True.intro, A_Band_own_high := ⟨_, hm_Band, cl_Band, n_Band_own_high⟩, A_Band_own_low := ⟨_, hm_Band, cl_Band, n_Band_own_low⟩, A_Band_own_many := ⟨_, hm_Band, cl_Band, n_Band_own_many⟩, z_len := hz_len }
  have gc_Band_holds : Gc ⟨l.prog, w, K, mg, base⟩ (.ref f_Band_holds) 2 [] 1 m_Band_holds := gc_all o_Band_holds k_Band_holds b_Band_holds rfl
  have F_Wish_holds := fun_mk (st := s_Wish_holds) l_Wish_holds c_Wish_holds k_Wish_holds
  have b_Wish_holds := F_Wish_holds.binds (ps := ["self", "ages"]) fun _ _ _ _ _ _ us hl => match us, hl with | [_, _], _ => rfl
  have o_Wish_holds : Fn3 l.prog w K mg base 2 f_Wish_holds _ ["self", "ages"] m_Wish_holds := fn_Wish_holds F_Wish_holds { tr := True.intro, A_Wish_own_bands := ⟨_, hm_Wish, cl_Wish, n_Wish_own_bands⟩, M_Band_holds := ⟨_, _, hm_Band, cl_Band, ⟨a_Band_holds, i_Band_holds, k_Band_holds⟩, gc_Band_holds⟩, z_all := hz_all }
  have gc_Wish_holds : Gc ⟨l.prog, w, K, mg, base⟩ (.ref f_Wish_holds) 2 [] 2 m_Wish_holds := gc_all o_Wish_holds k_Wish_holds b_Wish_holds rfl
  have kb_Wish_holds_1_ages : KBn K (PySem.W.fnOf "holds" "Wish.holds" (defArgs s_Wish_holds) (defBody s_Wish_holds) (defScope s_Wish_holds) .none kV_Wish_holds dc_Wish_holds pm_Wish_holds an_Wish_holds cd_Wish_holds ct_Wish_holds) ["self", "ages"] 1 ["ages"] (fun us ws => pick [0, 1] (us ++ ws)) (fun us ws => pick [0, 1] (us ++ ws)) :=
    ⟨fun s us ws _ l1 l2 => match us, ws, l1, l2 with | [_], [_], _, _ => .of_eq rfl, fun r1 r2 => pick_vals (r1.append r2) _⟩
  have re_Wish_holds_1_ages := re_pick (K := K) (mg := mg) (F := m_Wish_holds) (pl := 2) (n := 1) (k := 1) [0, 1] rfl (by decide)
  have gc_Wish_holds_1_ages : Gc ⟨l.prog, w, K, mg, base⟩ (.ref f_Wish_holds) 1 ["ages"] 2 m_Wish_holds_1_ages := gc_kw o_Wish_holds k_Wish_holds kb_Wish_holds_1_ages re_Wish_holds_1_ages
  have F_Band_high := fun_mk (st := s_Band_high) l_Band_high c_Band_high k_Band_high
  have b_Band_high := F_Band_high.binds (ps := ["self"]) fun _ _ _ _ _ _ us hl => match us, hl with | [_], _ => rfl
  have o_Band_high : Fn3 l.prog w K mg base 1 f_Band_high _ ["self"] m_Band_high := fn_Band_high F_Band_high { tr := True.intro, A_Band_own_high := ⟨_, hm_Band, cl_Band, n_Band_own_high⟩ }
  have tt_Wish_DinitD : T_Wish_DinitD ⟨l.prog, w, K, mg, base⟩ := { tr := True.intro, A_Wish_own_bands := ⟨_, hm_Wish, cl_Wish, n_Wish_own_bands⟩, K_MOST_BANDS := hK_MOST_BANDS, K_MOST_HEIGHT := hK_MOST_HEIGHT, P_Band_high := ⟨_, p_Band_high, f_Band_high, hm_Band, cl_Band, ⟨a_Band_high, g_Band_high, t_Band_high, ⟨_, r1_Band_high⟩⟩, _, _, rfl, o_Band_high, k_Band_high, b_Band_high⟩, R_BadCount := hR_BadCount, R_BadNumber := hR_BadNumber, z_len := hz_len, z_list := hz_list }
  have gm_Wish_DinitD_v1 : Gm ⟨l.prog, w, K, mg, base⟩ C_Wish 0 [] 3 m_Wish_DinitD_v1 := gm_star (n := 0) ⟨mk_Wish, a_Wish_DinitD, i_Wish_DinitD, kc_Wish⟩ (fn_Wish_DinitD l_Wish_DinitD c_Wish_DinitD tt_Wish_DinitD 1 (by decide))
  have gm_Wish_DinitD_v2 : Gm ⟨l.prog, w, K, mg, base⟩ C_Wish 1 [] 3 m_Wish_DinitD_v2 := gm_star (n := 1) ⟨mk_Wish, a_Wish_DinitD, i_Wish_DinitD, kc_Wish⟩ (fn_Wish_DinitD l_Wish_DinitD c_Wish_DinitD tt_Wish_DinitD 2 (by decide))
  have gm_Wish_DinitD_v3 : Gm ⟨l.prog, w, K, mg, base⟩ C_Wish 2 [] 3 m_Wish_DinitD_v3 := gm_star (n := 2) ⟨mk_Wish, a_Wish_DinitD, i_Wish_DinitD, kc_Wish⟩ (fn_Wish_DinitD l_Wish_DinitD c_Wish_DinitD tt_Wish_DinitD 3 (by decide))
  have gm_Wish_DinitD_v4 : Gm ⟨l.prog, w, K, mg, base⟩ C_Wish 3 [] 3 m_Wish_DinitD_v4 := gm_star (n := 3) ⟨mk_Wish, a_Wish_DinitD, i_Wish_DinitD, kc_Wish⟩ (fn_Wish_DinitD l_Wish_DinitD c_Wish_DinitD tt_Wish_DinitD 4 (by decide))
  have gm_Wish_DinitD_v5 : Gm ⟨l.prog, w, K, mg, base⟩ C_Wish 4 [] 3 m_Wish_DinitD_v5 := gm_star (n := 4) ⟨mk_Wish, a_Wish_DinitD, i_Wish_DinitD, kc_Wish⟩ (fn_Wish_DinitD l_Wish_DinitD c_Wish_DinitD tt_Wish_DinitD 5 (by decide))
  have gm_Wish_DinitD_v6 : Gm ⟨l.prog, w, K, mg, base⟩ C_Wish 5 [] 3 m_Wish_DinitD_v6 := gm_star (n := 5) ⟨mk_Wish, a_Wish_DinitD, i_Wish_DinitD, kc_Wish⟩ (fn_Wish_DinitD l_Wish_DinitD c_Wish_DinitD tt_Wish_DinitD 6 (by decide))
  have F_Band_DeqD := fun_mk (st := s_Band_DeqD) l_Band_DeqD c_Band_DeqD k_Band_DeqD
  have b_Band_DeqD := F_Band_DeqD.binds (ps := ["self", "other"]) fun _ _ _ _ _ _ us hl => match us, hl with | [_, _], _ => rfl
  have o_Band_DeqD : Fn3 l.prog w K mg base 1 f_Band_DeqD _ ["self", "other"] m_Band_DeqD := fn_Band_DeqD F_Band_DeqD { tr := True.intro, A_Band_own_text := ⟨_, hm_Band, cl_Band, n_Band_own_text⟩, K_Band := hK_Band, OI_Band := ⟨_, hm_Band, cl_Band, ha_Band, oc_g_, oc_t_, mo_Band, ic_Band, tc_Band, ty_Band⟩, z_isinstance := hz_isinstance }
  have gc_Band_DeqD : Gc ⟨l.prog, w, K, mg, base⟩ (.ref f_Band_DeqD) 2 [] 1 m_Band_DeqD := gc_all o_Band_DeqD k_Band_DeqD b_Band_DeqD rfl
  have F_Wish_DeqD := fun_mk (st := s_Wish_DeqD) l_Wish_DeqD c_Wish_DeqD k_Wish_DeqD
  have b_Wish_DeqD := F_Wish_DeqD.binds (ps := ["self", "other"]) fun _ _ _ _ _ _ us hl => match us, hl with | [_, _], _ => rfl
  have o_Wish_DeqD : Fn3 l.prog w K mg base 3 f_Wish_DeqD _ ["self", "other"] m_Wish_DeqD := fn_Wish_DeqD F_Wish_DeqD { tr := True.intro, A_Wish_own_bands := ⟨_, hm_Wish, cl_Wish, n_Wish_own_bands⟩, K_Wish := hK_Wish, O_Band_DeqD := ⟨_, f_Band_DeqD, hm_Band, a_Band_DeqD, i_Band_DeqD, _, _, rfl, o_Band_DeqD, k_Band_DeqD, b_Band_DeqD⟩, OI_Wish := ⟨_, hm_Wish, cl_Wish, ha_Wish, oc_g_, oc_t_, mo_Wish, ic_Wish, tc_Wish, ty_Wish⟩, z_isinstance := hz_isinstance }
  have gc_Wish_DeqD : Gc ⟨l.prog, w, K, mg, base⟩ (.ref f_Wish_DeqD) 2 [] 3 m_Wish_DeqD := gc_all o_Wish_DeqD k_Wish_DeqD b_Wish_DeqD rfl
  have F_Wish_DlenD := fun_mk (st := s_Wish_DlenD) l_Wish_DlenD c_Wish_DlenD k_Wish_DlenD
  have b_Wish_DlenD := F_Wish_DlenD.binds (ps := ["self"]) fun _ _ _ _ _ _ us hl => match us, hl with | [_], _ => rfl
  have o_Wish_DlenD : Fn3 l.prog w K mg base 1 f_Wish_DlenD _ ["self"] m_Wish_DlenD := fn_Wish_DlenD F_Wish_DlenD { tr := True.intro, A_Wish_own_bands := ⟨_, hm_Wish, cl_Wish, n_Wish_own_bands⟩, z_len := hz_len }
  have gc_Wish_DlenD : Gc ⟨l.prog, w, K, mg, base⟩ (.ref f_Wish_DlenD) 1 [] 1 m_Wish_DlenD := gc_all o_Wish_DlenD k_Wish_DlenD b_Wish_DlenD rfl
  have F_Band_text := fun_mk (st := s_Band_text) l_Band_text c_Band_text k_Band_text
  have b_Band_text := F_Band_text.binds (ps := ["self"]) fun _ _ _ _ _ _ us hl => match us, hl with | [_], _ => rfl
  have o_Band_text : Fn3 l.prog w K mg base 1 f_Band_text _ ["self"] m_Band_text := fn_Band_text F_Band_text { tr := True.intro, A_Band_own_text := ⟨_, hm_Band, cl_Band, n_Band_own_text⟩ }
  have F_Wish_DreprD := fun_mk (st := s_Wish_DreprD) l_Wish_DreprD c_Wish_DreprD k_Wish_DreprD
  have b_Wish_DreprD := F_Wish_DreprD.binds (ps := ["self"]) fun _ _ _ _ _ _ us hl => match us, hl with | [_], _ => rfl
  have o_Wish_DreprD : Fn3 l.prog w K mg base 3 f_Wish_DreprD _ ["self"] m_Wish_DreprD := fn_Wish_DreprD F_Wish_DreprD { tr := True.intro, A_Wish_own_bands := ⟨_, hm_Wish, cl_Wish, n_Wish_own_bands⟩, P_Band_text := ⟨_, p_Band_text, f_Band_text, hm_Band, cl_Band, ⟨a_Band_text, g_Band_text, t_Band_text, ⟨_, r1_Band_text⟩⟩, _, _, rfl, o_Band_text, k_Band_text, b_Band_text⟩ }
  have gc_Wish_DreprD : Gc ⟨l.prog, w, K, mg, base⟩ (.ref f_Wish_DreprD) 1 [] 3 m_Wish_DreprD := gc_all o_Wish_DreprD k_Wish_DreprD b_Wish_DreprD rfl
  have F_Wish_height := fun_mk (st := s_Wish_height) l_Wish_height c_Wish_height k_Wish_height
  have b_Wish_height := F_Wish_height.binds (ps := ["self"]) fun _ _ _ _ _ _ us hl => match us, hl with | [_], _ => rfl
  have o_Wish_height : Fn3 l.prog w K mg base 3 f_Wish_height _ ["self"] m_Wish_height := fn_Wish_height F_Wish_height { tr := True.intro, A_Wish_own_bands := ⟨_, hm_Wish, cl_Wish, n_Wish_own_bands⟩, P_Band_high := ⟨_, p_Band_high, f_Band_high, hm_Band, cl_Band, ⟨a_Band_high, g_Band_high, t_Band_high, ⟨_, r1_Band_high⟩⟩, _, _, rfl, o_Band_high, k_Band_high, b_Band_high⟩, z_max := hz_max }
  have hm_law := PySem.W.mg_of X G a_law
  exact fn_law l_law c_law TB { tr := True.intro, F_l_any := ⟨_, hm_l_any, gc_l_any⟩, F_l_granted := ⟨_, hm_l_granted, gc_l_granted⟩, F_l_height := ⟨_, hm_l_height, gc_l_height⟩, F_l_like := ⟨_, hm_l_like, gc_l_like⟩, F_l_made_band := ⟨_, hm_l_made_band, gc_l_made_band⟩, F_l_mixed := ⟨_, hm_l_mixed, gc_l_mixed⟩, F_l_opened := ⟨_, hm_l_opened, gc_l_opened⟩, F_l_pull := ⟨_, hm_l_pull, gc_l_pull⟩, F_l_wish := ⟨_, hm_l_wish, gc_l_wish⟩, M_Wish_bands := ⟨_, _, hm_Wish, cl_Wish, ⟨a_Wish_bands, i_Wish_bands, k_Wish_bands⟩, gc_Wish_bands⟩, M_Wish_holds_1_ages := ⟨_, _, hm_Wish, cl_Wish, ⟨a_Wish_holds, i_Wish_holds, k_Wish_holds⟩, gc_Wish_holds_1_ages⟩, M_Wish_holds := ⟨_, _, hm_Wish, cl_Wish, ⟨a_Wish_holds, i_Wish_holds, k_Wish_holds⟩, gc_Wish_holds⟩, N_Band_DinitD_3 := ⟨_, hm_Band, gm_Band_DinitD_3⟩, N_Wish_DinitD_v1 := ⟨_, hm_Wish, gm_Wish_DinitD_v1⟩, N_Wish_DinitD_v2 := ⟨_, hm_Wish, gm_Wish_DinitD_v2⟩, N_Wish_DinitD_v3 := ⟨_, hm_Wish, gm_Wish_DinitD_v3⟩, N_Wish_DinitD_v4 := ⟨_, hm_Wish, gm_Wish_DinitD_v4⟩, N_Wish_DinitD_v5 := ⟨_, hm_Wish, gm_Wish_DinitD_v5⟩, N_Wish_DinitD_v6 := ⟨_, hm_Wish, gm_Wish_DinitD_v6⟩, O_Band_DeqD := ⟨_, f_Band_DeqD, hm_Band, a_Band_DeqD, i_Band_DeqD, _, _, rfl, o_Band_DeqD, k_Band_DeqD, b_Band_DeqD⟩, O_Wish_DeqD := ⟨_, f_Wish_DeqD, hm_Wish, a_Wish_DeqD, i_Wish_DeqD, _, _, rfl, o_Wish_DeqD, k_Wish_DeqD, b_Wish_DeqD⟩, O_Wish_DlenD := ⟨_, f_Wish_DlenD, hm_Wish, a_Wish_DlenD, i_Wish_DlenD, _, _, rfl, o_Wish_DlenD, k_Wish_DlenD, b_Wish_DlenD⟩, O_Wish_DreprD := ⟨_, f_Wish_DreprD, hm_Wish, a_Wish_DreprD, i_Wish_DreprD, _, _, rfl, o_Wish_DreprD, k_Wish_DreprD, b_Wish_DreprD⟩, OT_Band := ⟨_, hm_Band, ty_Band⟩, OT_Wish := ⟨_, hm_Wish, ty_Wish⟩, P_Band_text := ⟨_, p_Band_text, f_Band_text, hm_Band, cl_Band, ⟨a_Band_text, g_Band_text, t_Band_text, ⟨_, r1_Band_text⟩⟩, _, _, rfl, o_Band_text, k_Band_text, b_Band_text⟩, P_Wish_height := ⟨_, p_Wish_height, f_Wish_height, hm_Wish, cl_Wish, ⟨a_Wish_height, g_Wish_height, t_Wish_height, ⟨_, r1_Wish_height⟩⟩, _, _, rfl, o_Wish_height, k_Wish_height, b_Wish_height⟩, TR := hTR, TR1 := hT1, z_len := hz_len, z_list := hz_list, z_range := hz_range, z_repr := hz_repr, z_str := hz_str, z_tuple := hz_tuple }
end G
set_option Elab.async false
set_option linter.all false
set_option autoImplicit false
set_option maxRecDepth 100000
set_option maxHeartbeats 4000000
namespace G
open PySem L2 PySem.Builtin PySem.Builtin.Str SX
inductive W5 where
  | newest | oldest | first | last | apart
inductive Lf where
  | age (a b : Nat) | day (p r : Nat) | one (w : W5) (n : Nat)
inductive CT where
  | lf (l : Lf) | neg (t : CT) | j2 (b : Bool) (t u : CT) | j3 (b : Bool) (t u v : CT)
def W5.nm : W5 → List Nat
  | .newest => [110,101,119,101,115,116]
  | .oldest => [111,108,100,101,115,116]
  | .first => [102,105,114,115,116]
  | .last => [108,97,115,116]
  | .apart => [97,112,97,114,116]
def W5.lo : W5 → Nat
  | .newest => 1 | .oldest => 1 | .first => 2 | .last => 2 | .apart => 2
def W5.hi : W5 → Nat
  | .newest => 20 | .oldest => 20 | .first => 7 | .last => 7 | .apart => 20
def Lf.Ok : Lf → Prop
  | .age a b => a ≤ b ∧ b ≤ 59
  | .day p r => 2 ≤ p ∧ p ≤ 7 ∧ r < p
  | .one w n => w.lo ≤ n ∧ n ≤ w.hi
def CT.Ok : CT → Prop
  | .lf l => l.Ok
  | .neg t => t.Ok
  | .j2 _ t u => t.Ok ∧ u.Ok
  | .j3 _ t u v => t.Ok ∧ u.Ok ∧ v.Ok
abbrev numL := TL.numL
def Lf.ws : Lf → List (List Nat)
  | .age a b => [[97,103,101], numL a, numL b]
  | .day p r => [[100,97,121], numL p, numL r]
  | .one w n => [w.nm, numL n]
theorem num_len {n : Nat} (h : n < 100) : (numL n).length ≤ 2 := TL.numL_len (by decide) (by omega)
def qs (d c : Nat) : Option Nat := if c = 40 then some (d + 1) else if c = 41 then (match d with | 0 => none | k + 1 => some k) else if c = 44 ∧ d = 0 then none else some d
end G
set_option Elab.async false
set_option linter.all false
set_option autoImplicit false
set_option maxRecDepth 100000
set_option maxHeartbeats 4000000
local macro_rules | `(tactic| exists $es,*) => (let a := es.getElems.extract 1 es.getElems.size; let ns : Array (Lean.TSyntax `term) := ("M3.e_var M3.kV_val M3.kV_own M3.e_c M3.e_un M3.kU_ok M3.kU_ex M3.e_unN M3.kUN_ok M3.kUN_ex M3.e_bin M3.kB2_ok M3.kB2_ex M3.kB1_ok M3.kB1_ex M3.e_tru M3.kTr_ok M3.kTr_ex M3.kT1_some M3.e_isB M3.kIB_ok M3.kIB_ex M3.e_not M3.kNt_ok M3.kNt_ex M3.e_andB M3.kAB_t M3.kAB_f M3.kAB_ex M3.e_orB M3.kOB_t M3.kOB_f M3.kOB_ex M3.e_andV M3.kAV_ok M3.kAV_ex M3.kAV1_t M3.kAV1_f M3.e_orV M3.kOV_ok M3.kOV_ex M3.kOV1_t M3.kOV1_f M3.e_notV M3.kNV_ok M3.kNV_ex M3.kNV1_some M3.e_if M3.kIf_t M3.kIf_f M3.kIf_ex M3.e_chain M3.kC1_ok M3.kC2_ok M3.kC3_t M3.kC3_f M3.e_fld M3.kFl_ok M3.kFl_ex M3.kFl1_some M3.kFl2_some M3.e_nil M3.e_cons M3.kCs1_v M3.kCs1_ex M3.kCs2_ok M3.kCs2_ex M3.e_tup M3.kTp_ok M3.kTp_ex M3.e_lst M3.kLs_ok M3.kLs_ex M3.e_frz M3.kFr_lst M3.kFr_dct M3.kFr_dcT M3.kFr_ins M3.kFr_ex M3.e_cb M3.kCB_ok M3.kCB_ex M3.rsA_ok M3.rsA_ex M3.e_call M3.kCa_ok M3.kCa_ex M3.e_meth M3.kMe1_v M3.kMe1_ex M3.kMe2_some M3.kMe2'_none M3.kMe3_ok M3.kMe3_ex M3.e_prop M3.kPr_v M3.kPr_ex M3.kPr1_some M3.kPr2_ok M3.i_ins M3.e_make M3.kMk_ok M3.kMk_ex M3.mkEnd_ok M3.e_args M3.kAr1_ok M3.kAr1_ex M3.kAr2_ok M3.kAr2_ex M3.e_loc M3.kLo_ok M3.e_sl M3.kSl1_ok M3.kSl1_ex M3.kSl2_ok M3.kSl3_ok M3.e_o0 M3.e_o1 M3.kO1_ok M3.e_s0 M3.kS0_ok M3.e_s1 M3.kS11_ok M3.kS12_ok M3.e_fmt M3.kFm_str M3.kFm_int M3.e_jsM M3.e_jsN M3.kJ1_ok M3.e_js M3.kJs_ok M3.e_get2 M3.kG2_ok M3.kG3_ok M3.kG3_s M3.kG3_n M3.e_seq M3.kSq_nx M3.kSq_rt M3.kSq_bk M3.kSq_ct M3.kSq_ex M3.e_next M3.e_break M3.e_cont M3.e_ifS M3.kIS_t M3.kIS_f M3.kIS_ex M3.kG_some M3.e_asg M3.kAs_v M3.kAs_ex M3.e_gn M3.e_gnil M3.e_gcons M3.kGc_some M3.e_gt M3.e_gtk M3.e_asgO M3.kAO_ok M3.kAO_ex M3.e_expr M3.kEx_ok M3.kEx_ex M3.e_ret M3.kRt_v M3.kRt_ex M3.e_retN M3.e_fz M3.kFz_lst M3.kFz_dct M3.kFz_val M3.kFz_un M3.fin_nx M3.fin_rt M3.fin_ex M3.e_for M3.kFo_ok M3.kFo_ex M3.e_forN M3.kF1_some M3.kF2_nx M3.kF2_ct M3.kF2_bk M3.kF2_rt M3.kF2_ex M3.kW1_t M3.kW1_f M3.kW1_ex M3.kW2_nx M3.kW2_ct M3.kW2_bk M3.kW2_rt M3.kW2_ex M3.e_itA M3.kIA_ok M3.kIA_ex M3.kI1_some M3.e_en M3.kIE_ok M3.kI2_some M3.it_lst M3.it_tup M3.it_ktp M3.it_dct M3.en_lst M3.en_tup M3.e_rng1 M3.kR1_ok M3.e_rng2 M3.kR2_ok M3.w_1 M3.w_2 M3.w_3 M3.e_yes M3.e_lc M3.kLc1_ok M3.kLc1_ex M3.kLc2_ok M3.e_lcN M3.kl1_some M3.kl2_t M3.kl2_f M3.kl3_ok M3.kl4_ok M3.mb_b M3.kMb_some M3.mb_l M3.kMo_some M3.mp_b M3.mp_loc M3.mutK_ap M3.mutA_ap M3.e_mut M3.e_mutA M3.kM1_ok M3.kM2_lst M3.kM2_dct M3.kM3_ok M3.kM3_ex M3.kM4_some M3.kM5_some M3.kM6_some M3.g_app M3.g_ins M3.e_setIx M3.kX1_v M3.kX1_ex M3.kX2_ok M3.kX3_v M3.kX4_some M3.kX5_some M3.kX6_some M3.e_stF M3.kS1a_v M3.kS1a_ex M3.kS1b_ok M3.kS2_ins M3.kS3_some M3.e_aug M3.kAu_some M3.kAu2_ok M3.e_cnil M3.e_cv M3.e_co M3.kCv_v M3.kCo_ok M3.kC2b_ok M3.e_par M3.kPa_vv M3.kPa_vo M3.kPa_ov M3.kPa_oo M3.e_dc M3.kDc1_ok M3.kDc2_ok M3.e_ssc M3.kSs1_ok M3.kSs2_ok M3.lo_lst M3.lo_tup M3.lo_ktp M3.lo_str M3.lo_int M3.lo_b M3.kOL_some M3.lo_loc M3.kML_some M3.i_loc M3.kIL_some M3.i_b M3.kIO_some M3.fp_nil M3.so_lst M3.so_tup M3.so_ktp M3.so_b M3.so_loc M3.g_int0 M3.g_neg M3.g_fdiv M3.g_mod M3.g_mul M3.g_pow18 M3.g_pow9 M3.g_pow12 M3.g_add_i M3.g_add_s M3.g_add_l M3.g_add_t M3.g_mul_l M3.g_eq_i M3.g_ne_i M3.g_eq_s M3.g_ne_s M3.g_eq_b M3.g_ne_b M3.g_eq_si M3.g_is_non M3.g_isnt_non M3.g_is_bl M3.g_isnt_bl M3.g_is_int M3.g_isnt_int M3.g_is_str M3.g_isnt_str M3.g_is_lst M3.g_isnt_lst M3.g_is_tup M3.g_isnt_tup M3.g_is_ktp M3.g_isnt_ktp M3.g_is_ins M3.g_isnt_ins M3.tr_non M3.tr_bl M3.tr_int M3.tr_lst M3.tr_tup M3.g_len_l M3.g_len_t M3.g_len_k M3.g_len_b M3.kLn_some M3.g_len_s M3.kIx_some M3.g_ix_l M3.g_ix_t M3.g_ix_k M3.kIl_some M3.g_ix_loc M3.kIb_lst M3.kIb_dct M3.g_ix_b M3.g_ix_ds M3.g_ix_di M3.at_0 M3.at_1 M3.at_2 M3.at_3 M3.at_4 M3.ix_0 M3.ix_1 M3.ix_2 M3.ix_3 M3.ix_4 M3.s_ix M3.kSx_some M3.s_dct_s M3.s_dct_i M3.kG1_d M3.kG1_dT M3.dl_s M3.dl_i M3.g_in M3.kIn_f M3.kIn_t M3.in_str_l M3.in_str_t M3.in_str_k M3.in_int_l M3.in_dct_s M3.in_dct_i M3.g_sl_l M3.g_sl_t M3.g_sl_scr M3.g_sl_b M3.kSb_some M3.cut_take M3.cut_drop M3.g_list_l M3.g_list_t M3.g_list_k M3.g_list_s M3.g_list_b M3.kGl_some M3.g_tup_l M3.g_tup_t M3.g_int1 M3.g_str1 M3.g_all M3.g_any M3.g_sum M3.g_join_l M3.isi_lst_list M3.isi_lst_tuple M3.isi_lst_bool M3.isi_lst_int M3.isi_lst_str M3.isi_lst_dict M3.isi_lst_lt M3.isi_tup_list M3.isi_tup_tuple M3.isi_tup_bool M3.isi_tup_int M3.isi_tup_str M3.isi_tup_dict M3.isi_tup_lt M3.isi_ktp_list M3.isi_ktp_tuple M3.isi_ktp_bool M3.isi_ktp_int M3.isi_ktp_str M3.isi_ktp_dict M3.isi_ktp_lt M3.isi_bl_list M3.isi_bl_tuple M3.isi_bl_bool M3.isi_bl_int M3.isi_bl_str M3.isi_bl_dict M3.isi_bl_lt M3.isi_int_list M3.isi_int_tuple M3.isi_int_bool M3.isi_int_int M3.isi_int_str M3.isi_int_dict M3.isi_int_lt M3.isi_str_list M3.isi_str_tuple M3.isi_str_bool M3.isi_str_int M3.isi_str_str M3.isi_str_dict M3.isi_str_lt M3.isi_non_list M3.isi_non_tuple M3.isi_non_bool M3.isi_non_int M3.isi_non_str M3.isi_non_dict M3.isi_non_lt M3.isi_dct_list M3.isi_dct_tuple M3.isi_dct_bool M3.isi_dct_int M3.isi_dct_str M3.isi_dct_dict M3.isi_dct_lt M3.e_star M3.kSt1_v M3.kSt2_some M3.kSt3_ok M3.e_match M3.kMa_v M3.e_casesN M3.e_casesC M3.kMe_ne M3.kMe_eq M3.kMf_n M3.kMf_s M3.kMh_n M3.kMh_s M3.kMg_t M3.kMg_f M3.ea_nil M3.ea_lit_eq M3.ea_lit_ne M3.ea_lit_int M3.ea_cap M3.kEc_s M3.kEc_n M3.bd_nil M3.bd_cons M3.e_own M3.own_ok M3.e_slN M3.kSn1_ok M3.kSn2_ok M3.kSn3_ok M3.kSn_some M3.e_zip M3.kZi_ok M3.e_rev M3.kRv1_ok M3.kRv_some M3.g_inKd M3.kKd_s M3.g_ixKd M3.e_par3 M3.kPa3_vvv M3.kPa3_ovv M3.e_ifB M3.kIfB_t M3.kIfB_f M3.g_str2i M3.g_str2s M3.isiM_non M3.isiM_bl M3.isiM_int M3.isiM_str M3.isiM_lst M3.isiM_tup M3.isiM_ktp M3.isiM_dct M3.g_eqO_i M3.g_eqO_s M3.kNe2_ok M3.g_neO_i M3.kRp2_ok M3.g_repr M3.g_isiO_i M3.g_isiO_s M3.e_try0 M3.kTy_nx M3.kTy_rt M3.e_mutD M3.kD1_lst M3.kD3_ok M3.kD4_some M3.e_gl M3.e_dct0 M3.e_dspN M3.e_dspC M3.kDs1_v M3.kDs2_ok M3.e_dsp M3.kDp_ok M3.e_mutD0 M3.kMz_lst M3.g_clr M3.g_dupd M3.g_dpop_i M3.kDq_s M3.kDq_n M3.e_fldaug M3.kFg_ok M3.kFg1_ins M3.kFg2_int M3.kFg3_ok M3.kFg4_ins M3.kFg5_some M3.e_asgT M3.kAt_ok M3.kAt2_nx M3.e_seqTN M3.e_seqTC M3.kSt_nx M3.e_tsub M3.kTs_ok M3.kT2_v M3.e_tfld M3.kTf_ok M3.kTf1_ins M3.e_gs2 M3.e_items M3.kIt_ok M3.g_lenO M3.kLn1_s M3.kLn2_ok M3.g_inO M3.kIo1_s M3.kIo2_f M3.kIo2_t M3.e_itL M3.kLp_ok M3.kLp1_ok M3.e_lcP M3.kLq_ok M3.g_listD M3.g_dict_d M3.e_makeL M3.kMkL_ok M3.e_starF M3.g_lenD M3.e_raise1 M3.kRs_ok M3.mkEnd_ex M3.e_tries M3.tg_nil M3.tg_cons M3.kTz_v M3.kTg_ok M3.okr_nil M3.okr_val M3.okr_un M3.okr_c M3.kOk_t M3.e_iftry M3.kYt_ok M3.kYi_t M3.kYi_f Bool.not_true Bool.not_false List.getElem?_cons_zero List.getElem?_cons_succ List.set_cons_zero List.set_cons_succ List.length_cons List.length_nil List.length_map List.length_append".splitOn " ").toArray.map (fun s => ⟨Lean.mkIdent ((s.splitOn ".").foldl Lean.Name.mkStr (Lean.Name.mkStr Lean.Name.anonymous "_root_"))⟩); if es.getElems[0]!.raw.isStrLit? == some "ev" then `(tactic| simp -implicitDefEqProofs (disch := (first | assumption | rfl | (simp only [List.getElem?_cons_zero, List.getElem?_cons_succ]; done) | (simp only [List.length_cons, List.length_nil, List.length_map, List.length_append, List.length_set, List.length_take, List.length_drop] <;> omega) | omega)) only [$[$ns:term],*, $[$a:term],*]) else Lean.Macro.throwUnsupported)
namespace G
open PySem L2 M3
structure Bag where
  cells : List Int
  ix : Int
  great : Int
  seed : Int
  cnt : Int
def bagO (b : Bag) : Ob := .lst [.lst (b.cells.map .int), .int b.ix, .int b.great, .int b.seed, .int b.cnt]
abbrev BM (b : Bag) : Mm := [some (bagO b)]
structure Bag.Ok (b : Bag) : Prop where
  ix : 0 ≤ b.ix
  great : 0 ≤ b.great
  seed : 0 ≤ b.seed
  seed2 : b.seed < 2147483579
  len : b.cells.length ≤ 63
theorem at_map {xs : List Int} {i : Int} (h : 0 ≤ i) (h2 : i < xs.length) : ∃ c, atI (xs.map Dv.int) i = some (.int c) := by
  obtain ⟨k, rfl⟩ := Int.eq_ofNat_of_zero_le h
  have hk : k < xs.length := by omega
  refine ⟨xs[k], ?_⟩
  rw [at_nat, List.getElem?_map, List.getElem?_eq_getElem hk]; rfl
theorem pull_tail (b : Bag) (hb : b.Ok) (k : Int) (hk : 0 < k) (hk2 : k < 2000000000000) (c : Cell) : ∃ (r : Nat) (b' : Bag), b'.Ok ∧ (r : Int) < k ∧ (sx9_l_pull [.val (.loc 0), .val (.int k), c, .un, .un] (BM b)).fin = .ok (.int r) (BM b') := by
  have h1 := hb.ix
  have h2 := hb.great
  have h3 := hb.seed
  have h4 := hb.seed2
  by_cases hg : 0 < b.great
  · have e : decide (0 < b.great) = true := decide_eq_true hg
    obtain ⟨r, hr⟩ : ∃ r : Nat, b.great % k = r := Int.eq_ofNat_of_zero_le (Int.emod_nonneg _ (by omega))
    refine ⟨r, { b with great := b.great / k }, ⟨h1, Int.ediv_nonneg h2 (by omega), h3, h4, hb.len⟩, by rw [← hr]; exact Int.emod_lt_of_pos _ hk, ?_⟩
    exists "ev", sx1_l_pull_e, sx2_l_pull_e, sx3_l_pull_e, sx4_l_pull_e, sx5_l_pull_e, sx6_l_pull_e, sx7_l_pull_e, sx8_l_pull_e, sx9_l_pull_e, b_l_pull_e, BM, bagO, e, hr
  · have e : decide (0 < b.great) = false := decide_eq_false hg
    obtain ⟨s', hs'⟩ : ∃ s' : Int, (b.seed * b.seed + b.seed * 33029 + (b.cnt + 1) * 1299709 + 91229) % 2147483579 = s' := ⟨_, rfl⟩
    have hs1 : 0 ≤ s' := by rw [← hs']; exact Int.emod_nonneg _ (by omega)
    have hs2 : s' < 2147483579 := by rw [← hs']; exact Int.emod_lt_of_pos _ (by omega)
    obtain ⟨r, hr⟩ : ∃ r : Nat, (s' / 71 + s' % 7919 * 59) % k = r := Int.eq_ofNat_of_zero_le (Int.emod_nonneg _ (by omega))
    refine ⟨r, { b with seed := s', cnt := b.cnt + 1 }, ⟨h1, h2, hs1, hs2, hb.len⟩, by rw [← hr]; exact Int.emod_lt_of_pos _ hk, ?_⟩
    exists "ev", sx1_l_pull_e, sx2_l_pull_e, sx3_l_pull_e, sx4_l_pull_e, sx5_l_pull_e, sx6_l_pull_e, sx7_l_pull_e, sx8_l_pull_e, sx9_l_pull_e, b_l_pull_e, BM, bagO, e, hs', hr
theorem pull_spec (b : Bag) (hb : b.Ok) (k : Int) (hk : 0 < k) (hk2 : k < 2000000000000) : ∃ (r : Nat) (b' : Bag), b'.Ok ∧ (r : Int) < k ∧ m_l_pull [.loc 0, .int k] (BM b) = .ok (.int r) (BM b') := by
  have h1 := hb.ix
  have h2 := hb.great
  have h3 := hb.seed
  have h4 := hb.seed2
  rw [u_l_pull]
  by_cases hg : b.great = 0
  · have eg : (b.great == 0) = true := by simp [hg]
    by_cases hl : b.ix < b.cells.length
    · have el : decide (b.ix < (b.cells.length : Int)) = true := decide_eq_true hl
      obtain ⟨c, hc⟩ := at_map h1 hl
      by_cases hbig : 1000000000000000000 ≤ c
      · have eb : decide (1000000000000000000 ≤ c) = true := decide_eq_true hbig
        obtain ⟨r, b', t1, t2, t3⟩ := pull_tail { b with ix := b.ix + 1, great := c } ⟨by show 0 ≤ b.ix + 1; omega, by show 0 ≤ c; omega, h3, h4, hb.len⟩ k hk hk2 (.val (.int c))
        refine ⟨r, b', t1, t2, ?_⟩
        rw [← t3]
        exists "ev", b_l_pull_e, sx1_l_pull_e, sx2_l_pull_e, BM, bagO, eg, el, hc, eb
      · have eb : decide (1000000000000000000 ≤ c) = false := decide_eq_false hbig
        obtain ⟨s', hs'⟩ : ∃ s' : Int, (b.seed * 44017 + c % 2147483543 * 51341 + 29) % 2147483579 = s' := ⟨_, rfl⟩
        have hs1 : 0 ≤ s' := by rw [← hs']; exact Int.emod_nonneg _ (by omega)
        have hs2 : s' < 2147483579 := by rw [← hs']; exact Int.emod_lt_of_pos _ (by omega)
        obtain ⟨r, b', t1, t2, t3⟩ := pull_tail { b with ix := b.ix + 1, seed := s' } ⟨by show 0 ≤ b.ix + 1; omega, h2, hs1, hs2, hb.len⟩ k hk hk2 (.val (.int c))
        refine ⟨r, b', t1, t2, ?_⟩
        rw [← t3]
        exists "ev", b_l_pull_e, sx1_l_pull_e, sx2_l_pull_e, BM, bagO, eg, el, hc, eb, hs'
    · have el : decide (b.ix < (b.cells.length : Int)) = false := decide_eq_false hl
      obtain ⟨r, b', t1, t2, t3⟩ := pull_tail b hb k hk hk2 .un
      refine ⟨r, b', t1, t2, ?_⟩
      rw [← t3]
      exists "ev", b_l_pull_e, BM, bagO, eg, el
  · have eg : (b.great == 0) = false := by simp [hg]
    obtain ⟨r, b', t1, t2, t3⟩ := pull_tail b hb k hk hk2 .un
    refine ⟨r, b', t1, t2, ?_⟩
    rw [← t3]
    exists "ev", b_l_pull_e, BM, bagO, eg
end G
set_option Elab.async false
set_option linter.all false
set_option autoImplicit false
set_option maxRecDepth 100000
set_option maxHeartbeats 4000000
namespace G
open PySem L2 M3
def leafD : Dv → Bool
  | .non => true
  | .bl _ => true
  | .int _ => true
  | .str _ => true
  | _ => false
def itemsD : Dv → Option (List Dv)
  | .lst ds => some ds
  | .tup ds => some ds
  | .ktp ds => some ds
  | _ => none
def lkD : Nat → Dv → Bool
  | 0, d => leafD d
  | n + 1, d => match itemsD d with
    | some ds => decide (ds.length ≤ 16777216) && ds.all (lkD n)
    | none => leafD d
theorem like_items {n : Nat} {d : Dv} {ds : List Dv} {m : Mm} (hd : ∀ (ρ : Sl) (i : Int), gIx ρ m (.v d) (.v (.int i)) = kIx m (atI ds i)) (h : ∀ e ∈ ds, mf_l_like n [e, e] m = .ok (.bl true) m) {c : Cell} : lcL (mGn 2) mYes (ce1_l_like (mf_l_like n)) [.val d, .val d, c] (rngD 0 ds.length) m = .ok ((List.range ds.length).map fun _ => .bl true) m := by
  unfold rngD
  refine lcL_all fun i hi => ⟨[.val d, .val d, .val (.int (0 + ((i : Nat) : Int)))], rfl, rfl, ?_⟩
  have hi' : i < ds.length := List.mem_range.mp hi
  have e0 : (0 : Int) + ((i : Nat) : Int) = ((i : Nat) : Int) := by omega
  have hat : ds[i]? = some ds[i] := List.getElem?_eq_getElem hi'
  have hr := h ds[i] (List.getElem_mem hi')
  exists "ev", ce1_l_like_e, sx1_l_like_e, sx2_l_like_e, sx3_l_like_e, sx4_l_like_e, b_l_like_e, hd, e0, at_nat, hat, hr
theorem like_leaf {m : Mm} {n : Nat} {d : Dv} (h : leafD d = true) : mf_l_like (n + 1) [d, d] m = .ok (.bl true) m := by
  cases d with
  | non => rw [u_l_like]; exists "ev", ce1_l_like_e, sx1_l_like_e, sx2_l_like_e, sx3_l_like_e, sx4_l_like_e, b_l_like_e
  | bl b =>
    have e : (b == b) = true := by simp
    rw [u_l_like]; exists "ev", ce1_l_like_e, sx1_l_like_e, sx2_l_like_e, sx3_l_like_e, sx4_l_like_e, b_l_like_e, e, Bool.not_true, beq_self_eq_true
  | int i =>
    have e : (i == i) = true := by simp
    rw [u_l_like]; exists "ev", ce1_l_like_e, sx1_l_like_e, sx2_l_like_e, sx3_l_like_e, sx4_l_like_e, b_l_like_e, e, Bool.not_true, beq_self_eq_true
  | str s =>
    have e : (s == s) = true := by simp
    rw [u_l_like]; exists "ev", ce1_l_like_e, sx1_l_like_e, sx2_l_like_e, sx3_l_like_e, sx4_l_like_e, b_l_like_e, e, Bool.not_true, beq_self_eq_true
  | _ => cases h
theorem like_lst {m : Mm} {n : Nat} {ds : List Dv} (hl : ds.length ≤ 16777216) (h : ∀ e ∈ ds, mf_l_like n [e, e] m = .ok (.bl true) m) : mf_l_like (n + 1) [.lst ds, .lst ds] m = .ok (.bl true) m := by
  have hc := like_items (n := n) (d := .lst ds) (ds := ds) (m := m) (fun ρ i => g_ix_l) h (c := .un)
  have hz : (0 : Int) ≤ ((ds.length : Nat) : Int) := by omega
  have hz2 : ((ds.length : Nat) : Int) ≤ 16777216 := by omega
  have hr : (List.range ds.length).length ≤ 16777216 := by rw [List.length_range]; exact hl
  have ha : ∀ l : List Nat, (l.all fun _ => true) = true := fun l => by simp
  rw [u_l_like]; exists "ev", ce1_l_like_e, sx1_l_like_e, sx2_l_like_e, sx3_l_like_e, sx4_l_like_e, b_l_like_e, w_1, Int.toNat_natCast, hc, ha, Bool.not_true, beq_self_eq_true, List.length_range
theorem like_tup {m : Mm} {n : Nat} {ds : List Dv} (hl : ds.length ≤ 16777216) (h : ∀ e ∈ ds, mf_l_like n [e, e] m = .ok (.bl true) m) : mf_l_like (n + 1) [.tup ds, .tup ds] m = .ok (.bl true) m := by
  have hc := like_items (n := n) (d := .tup ds) (ds := ds) (m := m) (fun ρ i => g_ix_t) h (c := .un)
  have hz : (0 : Int) ≤ ((ds.length : Nat) : Int) := by omega
  have hz2 : ((ds.length : Nat) : Int) ≤ 16777216 := by omega
  have hr : (List.range ds.length).length ≤ 16777216 := by rw [List.length_range]; exact hl
  have ha : ∀ l : List Nat, (l.all fun _ => true) = true := fun l => by simp
  rw [u_l_like]; exists "ev", ce1_l_like_e, sx1_l_like_e, sx2_l_like_e, sx3_l_like_e, sx4_l_like_e, b_l_like_e, w_1, Int.toNat_natCast, hc, ha, Bool.not_true, beq_self_eq_true, List.length_range
theorem like_ktp {m : Mm} {n : Nat} {ds : List Dv} (hl : ds.length ≤ 16777216) (h : ∀ e ∈ ds, mf_l_like n [e, e] m = .ok (.bl true) m) : mf_l_like (n + 1) [.ktp ds, .ktp ds] m = .ok (.bl true) m := by
  have hc := like_items (n := n) (d := .ktp ds) (ds := ds) (m := m) (fun ρ i => g_ix_k) h (c := .un)
  have hz : (0 : Int) ≤ ((ds.length : Nat) : Int) := by omega
  have hz2 : ((ds.length : Nat) : Int) ≤ 16777216 := by omega
  have hr : (List.range ds.length).length ≤ 16777216 := by rw [List.length_range]; exact hl
  have ha : ∀ l : List Nat, (l.all fun _ => true) = true := fun l => by simp
  rw [u_l_like]; exists "ev", ce1_l_like_e, sx1_l_like_e, sx2_l_like_e, sx3_l_like_e, sx4_l_like_e, b_l_like_e, w_1, Int.toNat_natCast, hc, ha, Bool.not_true, beq_self_eq_true, List.length_range
theorem like_refl {m : Mm} : ∀ (n : Nat) (d : Dv), lkD n d = true → mf_l_like (n + 1) [d, d] m = .ok (.bl true) m := by
  intro n
  induction n with
  | zero => exact fun d h => like_leaf h
  | succ n ih =>
    intro d h
    cases hi : itemsD d with
    | none =>
      unfold lkD at h
      rw [hi] at h
      exact like_leaf h
    | some ds =>
      unfold lkD at h
      rw [hi] at h
      simp only [Bool.and_eq_true, decide_eq_true_eq, List.all_eq_true] at h
      have hh := fun e he => ih e (h.2 e he)
      cases d with
      | lst xs => cases hi; exact like_lst h.1 hh
      | tup xs => cases hi; exact like_tup h.1 hh
      | ktp xs => cases hi; exact like_ktp h.1 hh
      | _ => cases hi
theorem like_same {d : Dv} {m : Mm} (h : lkD 11 d = true) : m_l_like [d, d] m = .ok (.bl true) m := like_refl 11 d h
end G
set_option Elab.async false
set_option linter.all false
set_option autoImplicit false
set_option maxRecDepth 100000
set_option maxHeartbeats 4000000
namespace G
open PySem L2 M3
abbrev Is (S : List Int) : List Dv := S.map .int
end G
set_option Elab.async false
set_option linter.all false
set_option autoImplicit false
set_option maxRecDepth 100000
set_option maxHeartbeats 4000000
namespace G
open PySem L2 M3 SX
theorem sp_S : S [32] = (" " : Str) := by decide +kernel
structure Bd where
  l : Nat
  h : Nat
  k : Nat
structure Bd.Ok (b : Bd) : Prop where
  lh : b.l ≤ b.h
  h : b.h ≤ 59
  k1 : 1 ≤ b.k
  k : b.k ≤ 20
def bt (b : Bd) : List Nat := numL b.l ++ ([32] ++ (numL b.h ++ ([32] ++ numL b.k)))
def bF (b : Bd) : List (Str × Dv) := [("own_low", .int (b.l : Nat)), ("own_high", .int (b.h : Nat)), ("own_many", .int (b.k : Nat)), ("own_text", .str (S (bt b)))]
abbrev BD (b : Bd) : Dv := .ins "Band" (bF b)
theorem fp_Band_own_high {a b : Dv} : fput ("own_high" : Str) b ([("own_low", a)] : List (Str × Dv)) = ([("own_low", a), ("own_high", b)] : List (Str × Dv)) := by
  rw [fp_ne (by decide +kernel)]; rfl
theorem fp_Band_own_many {a b c : Dv} : fput ("own_many" : Str) c ([("own_low", a), ("own_high", b)] : List (Str × Dv)) = ([("own_low", a), ("own_high", b), ("own_many", c)] : List (Str × Dv)) := by
  rw [fp_ne (by decide +kernel), fp_ne (by decide +kernel)]; rfl
theorem fp_Band_own_text {a b c d : Dv} : fput ("own_text" : Str) d ([("own_low", a), ("own_high", b), ("own_many", c)] : List (Str × Dv)) = ([("own_low", a), ("own_high", b), ("own_many", c), ("own_text", d)] : List (Str × Dv)) := by
  rw [fp_ne (by decide +kernel), fp_ne (by decide +kernel), fp_ne (by decide +kernel)]; rfl
theorem lk_Band_own_low {a b c d : Dv} : List.lookup ("own_low" : Str) ([("own_low", a), ("own_high", b), ("own_many", c), ("own_text", d)] : List (Str × Dv)) = some a := by
  rw [lk_eq]
theorem lk_Band_own_high {a b c d : Dv} : List.lookup ("own_high" : Str) ([("own_low", a), ("own_high", b), ("own_many", c), ("own_text", d)] : List (Str × Dv)) = some b := by
  rw [lk_ne (by decide +kernel), lk_eq]
theorem lk_Band_own_many {a b c d : Dv} : List.lookup ("own_many" : Str) ([("own_low", a), ("own_high", b), ("own_many", c), ("own_text", d)] : List (Str × Dv)) = some c := by
  rw [lk_ne (by decide +kernel), lk_ne (by decide +kernel), lk_eq]
theorem lk_Band_own_text {a b c d : Dv} : List.lookup ("own_text" : Str) ([("own_low", a), ("own_high", b), ("own_many", c), ("own_text", d)] : List (Str × Dv)) = some d := by
  rw [lk_ne (by decide +kernel), lk_ne (by decide +kernel), lk_ne (by decide +kernel), lk_eq]
theorem lk_Band_holds {a b c d : Dv} : List.lookup ("holds" : Str) ([("own_low", a), ("own_high", b), ("own_many", c), ("own_text", d)] : List (Str × Dv)) = none := by
  rw [lk_ne (by decide +kernel), lk_ne (by decide +kernel), lk_ne (by decide +kernel), lk_ne (by decide +kernel)]; rfl
theorem bt_len {b : Bd} (o : b.Ok) : (bt b).length ≤ 8 := by
  have h1 : (numL b.l).length ≤ 2 := num_len (by have := o.lh; have := o.h; omega)
  have h2 : (numL b.h).length ≤ 2 := num_len (by have := o.h; omega)
  have h3 : (numL b.k).length ≤ 2 := num_len (by have := o.k; omega)
  unfold bt
  simp only [List.length_append, List.length_cons, List.length_nil]; omega
theorem check_ok {a b c : Int} (h : b ≤ a) (h2 : a ≤ c) {m : Mm} : m_check_number [.int a, .int b, .int c] m = .ok .non m := by
  have e1 : decide (b ≤ a) = true := decide_eq_true h
  have e2 : decide (a ≤ c) = true := decide_eq_true h2
  rw [u_check_number]
  exists "ev", b_check_number_e, e1, e2
abbrev xN (a : Int) : Dv := excV "BadNumber" "BadNumber" "given" (.int a)
theorem band_init {b : Bd} (o : b.Ok) : m_Band_DinitD [.loc 0, .int (b.l : Nat), .int (b.h : Nat), .int (b.k : Nat)] [some (.ins "Band" [])] = .ok .non [some (.ins "Band" (bF b))] := by
  have h1 : (numL b.l).length ≤ 2 := num_len (by have := o.lh; have := o.h; omega)
  have h2 : (numL b.h).length ≤ 2 := num_len (by have := o.h; omega)
  have h3 : (numL b.k).length ≤ 2 := num_len (by have := o.k; omega)
  have hsp : (" " : Str) = S [32] := sp_S.symm
  have eA : Str.empty ++ Str.ofString (toString ((b.l : Nat) : Int)) = S (numL b.l) := by
    rw [num_S, show Str.empty = S [] from rfl, S_cat]; rfl
  have eB : S (numL b.l) ++ (" " : Str) = S (numL b.l ++ [32]) := by rw [hsp, S_cat]
  have eC : S (numL b.l ++ [32]) ++ Str.ofString (toString ((b.h : Nat) : Int)) = S (numL b.l ++ [32] ++ numL b.h) := by rw [num_S, S_cat]
  have eD : S (numL b.l ++ [32] ++ numL b.h) ++ (" " : Str) = S (numL b.l ++ [32] ++ numL b.h ++ [32]) := by rw [hsp, S_cat]
  have eE : S (numL b.l ++ [32] ++ numL b.h ++ [32]) ++ Str.ofString (toString ((b.k : Nat) : Int)) = S (bt b) := by
    rw [num_S, S_cat]; unfold bt; simp only [List.append_assoc]
  have lA : (S (numL b.l)).length ≤ 16777216 := by rw [S_len]; omega
  have lB : (S (numL b.l ++ [32])).length ≤ 16777216 := by rw [S_len]; simp only [List.length_append, List.length_cons, List.length_nil]; omega
  have lC : (S (numL b.l ++ [32] ++ numL b.h)).length ≤ 16777216 := by rw [S_len]; simp only [List.length_append, List.length_cons, List.length_nil]; omega
  have lD : (S (numL b.l ++ [32] ++ numL b.h ++ [32])).length ≤ 16777216 := by rw [S_len]; simp only [List.length_append, List.length_cons, List.length_nil]; omega
  have lE : (S (bt b)).length ≤ 16777216 := by rw [S_len]; have := bt_len o; omega
  have rA : (Str.empty ++ Str.ofString (toString ((b.l : Nat) : Int))).length ≤ 16777216 := by rw [eA]; exact lA
  have rB : (S (numL b.l) ++ (" " : Str)).length ≤ 16777216 := by rw [eB]; exact lB
  have rC : (S (numL b.l ++ [32]) ++ Str.ofString (toString ((b.h : Nat) : Int))).length ≤ 16777216 := by rw [eC]; exact lC
  have rD : (S (numL b.l ++ [32] ++ numL b.h) ++ (" " : Str)).length ≤ 16777216 := by rw [eD]; exact lD
  have rE : (S (numL b.l ++ [32] ++ numL b.h ++ [32]) ++ Str.ofString (toString ((b.k : Nat) : Int))).length ≤ 16777216 := by rw [eE]; exact lE
  have g1 : b.l.log2 < 1920 ∧ b.h.log2 < 1920 := ⟨by have := o.lh; have := o.h; have := Nat.log2_le_self b.l; omega, by have := o.h; have := Nat.log2_le_self b.h; omega⟩
  have z1 : ((b.l : Nat) : Int).natAbs.log2 < 1920 := g1.1
  have z2 : ((b.h : Nat) : Int).natAbs.log2 < 1920 := g1.2
  have z3 : ((b.k : Nat) : Int).natAbs.log2 < 1920 := by
    show b.k.log2 < 1920
    have := o.k; have := Nat.log2_le_self b.k; omega
  have c1 := fun m => check_ok (a := ((b.l : Nat) : Int)) (b := 0) (c := 59) (by omega) (by have := o.lh; have := o.h; omega) (m := m)
  have c2 := fun m => check_ok (a := ((b.h : Nat) : Int)) (b := ((b.l : Nat) : Int)) (c := 59) (by have := o.lh; omega) (by have := o.h; omega) (m := m)
  have c3 := fun m => check_ok (a := ((b.k : Nat) : Int)) (b := 1) (c := 20) (by have := o.k1; omega) (by have := o.k; omega) (m := m)
  rw [u_Band_DinitD]
  exists "ev", sx1_Band_DinitD_e, sx2_Band_DinitD_e, sx3_Band_DinitD_e, sx4_Band_DinitD_e, sx5_Band_DinitD_e, sx6_Band_DinitD_e, b_Band_DinitD_e, c1, c2, c3, k_MOST_AGE, k_MOST_MANY, eA, eB, eC, eD, eE, i_loc, kIL_some, fp_Band_own_high, fp_Band_own_many, fp_Band_own_text
  rfl
theorem band_make {b : Bd} (o : b.Ok) (m : Mm) : mkEnd m (m_Band_DinitD_3_many [.loc 0, .int (b.l : Nat), .int (b.h : Nat), .int (b.k : Nat)] [some (.ins "Band" [])]) = .ok (.ins "Band" (bF b)) m := by
  show mkEnd m (m_Band_DinitD [.loc 0, .int (b.l : Nat), .int (b.h : Nat), .int (b.k : Nat)] [some (.ins "Band" [])]) = _
  rw [band_init o]; exact mkEnd_ok rfl
theorem ins_B {ρ : Sl} {m : Mm} {b : Bd} : insOf ρ m (.v (BD b)) = some (("Band" : Str), bF b) := rfl
abbrev bP (b : Bd) : Dv := .tup [.int (b.l : Nat), .int (b.h : Nat), .int (b.k : Nat)]
theorem l_made {b : Bd} (o : b.Ok) {m : Mm} : m_l_made_band [bP b] m = .ok (BD b) m := by
  have c := band_make o
  have p : pureL [Dv.int (b.l : Nat), .int (b.h : Nat), .int (b.k : Nat)] = true := rfl
  have a2 : atI [Dv.int (b.l : Nat), .int (b.h : Nat), .int (b.k : Nat)] 2 = some (.int (b.k : Nat)) := rfl
  rw [u_l_made_band]
  exists "ev", b_l_made_band_e, at_0, at_1, a2, List.cons_append, List.nil_append, c, p
theorem b_high {b : Bd} {m : Mm} : m_Band_high [BD b] m = .ok (.int (b.h : Nat)) m := by
  rw [u_Band_high]
  exists "ev", b_Band_high_e, bF, lk_Band_own_high
theorem b_text {b : Bd} {m : Mm} : m_Band_text [BD b] m = .ok (.str (S (bt b))) m := by
  rw [u_Band_text]
  exists "ev", b_Band_text_e, bF, lk_Band_own_text
theorem b_eq {b c : Bd} {m : Mm} : m_Band_DeqD [BD b, BD c] m = .ok (.bl (S (bt b) == S (bt c))) m := by
  rw [u_Band_DeqD]
  exists "ev", b_Band_DeqD_e, k_Band, bF, lk_Band_own_text
abbrev cD (z : Int × Bool) : Dv := .tup [.int z.1, .bl z.2]
def inB (b : Bd) (z : Int × Bool) : Bool := z.2 && (decide ((b.l : Int) ≤ z.1) && decide (z.1 ≤ (b.h : Int)))
def hold (b : Bd) (cs : List (Int × Bool)) : Bool := decide ((b.k : Int) ≤ ((cs.filter (inB b)).length : Nat))
theorem ct_h {b : Bd} {z : Int × Bool} {c1 c2 : Cell} {m : Mm} : ct1_Band_holds [.val (BD b), c1, c2, .val (.int z.1), .val (.bl z.2)] m = .ok (inB b z) m := by
  have q1 : List.lookup ("own_low" : Str) (bF b) = some (.int (b.l : Nat)) := lk_Band_own_low
  have q2 : List.lookup ("own_high" : Str) (bF b) = some (.int (b.h : Nat)) := lk_Band_own_high
  obtain ⟨a, g⟩ := z
  cases g with
  | false => exists "ev", ct1_Band_holds_e, inB, Bool.false_and
  | true =>
    by_cases h : (b.l : Int) ≤ a
    · have e : decide ((b.l : Int) ≤ a) = true := decide_eq_true h
      exists "ev", ct1_Band_holds_e, inB, ins_B, q1, q2, e, Bool.true_and
    · have e : decide ((b.l : Int) ≤ a) = false := decide_eq_false h
      exists "ev", ct1_Band_holds_e, inB, ins_B, q1, q2, e, Bool.true_and, Bool.false_and
theorem b_holds {b : Bd} {cs : List (Int × Bool)} (hl : cs.length ≤ 900) {m : Mm} : m_Band_holds [BD b, .lst (cs.map cD)] m = .ok (.bl (hold b cs)) m := by
  have q3 : List.lookup ("own_many" : Str) (bF b) = some (.int (b.k : Nat)) := lk_Band_own_many
  have hc : lcL (mGt 2 (mGcons (mGn 3) (mGcons (mGn 4) mGnil))) ct1_Band_holds (mVar 3) [.val (BD b), .val (.lst (cs.map cD)), .un, .un, .un] (cs.map cD) m = .ok ((cs.filter (inB b)).map fun z => .int z.1) m :=
    lcL_map fun z _ => ⟨[.val (BD b), .val (.lst (cs.map cD)), .un, .val (.int z.1), .val (.bl z.2)], rfl, ct_h, fun _ => rfl⟩
  have hf : (cs.filter (inB b)).length ≤ 900 := Nat.le_trans (List.length_filter_le _ _) hl
  rw [u_Band_holds]
  exists "ev", ct1_Band_holds_e, sx1_Band_holds_e, b_Band_holds_e, w_2, hc, ins_B, q3, hold
theorem ct_l {b : Bd} {z : Int × Bool} {c1 : Cell} {m : Mm} : ct1_l_holds [.val (bP b), c1, .val (.int z.1), .val (.bl z.2)] m = .ok (inB b z) m := by
  obtain ⟨a, g⟩ := z
  cases g with
  | false => exists "ev", ct1_l_holds_e, inB, Bool.false_and
  | true =>
    by_cases h : (b.l : Int) ≤ a
    · have e : decide ((b.l : Int) ≤ a) = true := decide_eq_true h
      exists "ev", ct1_l_holds_e, inB, at_0, at_1, e, Bool.true_and
    · have e : decide ((b.l : Int) ≤ a) = false := decide_eq_false h
      exists "ev", ct1_l_holds_e, inB, at_0, at_1, e, Bool.true_and, Bool.false_and
theorem l_holds {b : Bd} {cs : List (Int × Bool)} (hl : cs.length ≤ 900) {m : Mm} : m_l_holds [bP b, .lst (cs.map cD)] m = .ok (.bl (hold b cs)) m := by
  have hc : lcL (mGt 2 (mGcons (mGn 2) (mGcons (mGn 3) mGnil))) ct1_l_holds (mVar 2) [.val (bP b), .val (.lst (cs.map cD)), .un, .un] (cs.map cD) m = .ok ((cs.filter (inB b)).map fun z => .int z.1) m :=
    lcL_map fun z _ => ⟨[.val (bP b), .val (.lst (cs.map cD)), .val (.int z.1), .val (.bl z.2)], rfl, ct_l, fun _ => rfl⟩
  have hf : (cs.filter (inB b)).length ≤ 900 := Nat.le_trans (List.length_filter_le _ _) hl
  have a2 : atI [Dv.int (b.l : Nat), .int (b.h : Nat), .int (b.k : Nat)] 2 = some (.int (b.k : Nat)) := rfl
  rw [u_l_holds]
  exists "ev", ct1_l_holds_e, b_l_holds_e, w_2, hc, a2, hold
theorem band_make3 {b : Bd} (o : b.Ok) (h : b.k = 1) (m : Mm) : mkEnd m (m_Band_DinitD_3 [.loc 0, .int (b.l : Nat), .int (b.h : Nat)] [some (.ins "Band" [])]) = .ok (.ins "Band" (bF b)) m := by
  have q := band_init o
  rw [h] at q
  show mkEnd m (m_Band_DinitD [.loc 0, .int (b.l : Nat), .int (b.h : Nat), .int 1] [some (.ins "Band" [])]) = _
  have q : m_Band_DinitD [.loc 0, .int (b.l : Nat), .int (b.h : Nat), .int 1] [some (.ins "Band" [])] = .ok .non [some (.ins "Band" (bF b))] := q
  rw [q]; exact mkEnd_ok rfl
def wF (Bs : List Bd) : List (Str × Dv) := [("own_bands", .lst (Bs.map BD))]
abbrev WD (Bs : List Bd) : Dv := .ins "Wish" (wF Bs)
theorem lk_W {Bs : List Bd} : List.lookup ("own_bands" : Str) (wF Bs) = some (.lst (Bs.map BD)) := lk_eq
theorem lk_Wb {Bs : List Bd} : List.lookup ("bands" : Str) (wF Bs) = none := by unfold wF; rw [lk_ne (by decide +kernel)]; rfl
theorem lk_Wh {Bs : List Bd} : List.lookup ("holds" : Str) (wF Bs) = none := by unfold wF; rw [lk_ne (by decide +kernel)]; rfl
theorem ins_W {ρ : Sl} {m : Mm} {Bs : List Bd} : insOf ρ m (.v (WD Bs)) = some (("Wish" : Str), wF Bs) := rfl
theorem pure_bs : ∀ Bs : List Bd, pureL (Bs.map BD) = true
  | [] => rfl
  | b :: r => by
    have h := pure_bs r
    rw [List.map_cons]
    show (pureD (BD b) && pureL (r.map BD)) = true
    rw [h]; rfl
theorem low_bs {k : Nat} : ∀ Bs : List Bd, lowL k (Bs.map BD) = true
  | [] => by rw [List.map_nil]; unfold lowL; rfl
  | b :: r => by
    have h := low_bs (k := k) r
    rw [List.map_cons]; unfold lowL; rw [h]; rfl
theorem pure_W {Bs : List Bd} : pureO (.ins "Wish" (wF Bs)) = true := by
  have h := pure_bs Bs
  show (pureD (.lst (Bs.map BD)) && true) = true
  show (pureL (Bs.map BD) && true) = true
  rw [h]; rfl
structure WOk (Bs : List Bd) : Prop where
  ok : ∀ b ∈ Bs, b.Ok
  n1 : 1 ≤ Bs.length
  n4 : Bs.length ≤ 4
  h6 : ∀ b ∈ Bs, b.h ≤ 6
theorem init_loop {t : Cell} : ∀ (Bs : List Bd) (h : ∀ b ∈ Bs, b.h ≤ 6) {c2 : Cell} {m : Mm}, ∃ c2', forL (mGn 2) lp1_Wish_DinitD (Bs.map BD) [.val (.loc 0), t, c2] m = .nx [.val (.loc 0), t, c2'] m
  | [], _, c2, m => ⟨c2, rfl⟩
  | b :: Bs, h, c2, m => by
    obtain ⟨c', q⟩ := init_loop (t := t) Bs (fun x hx => h x (List.mem_cons_of_mem _ hx)) (c2 := .val (BD b)) (m := m)
    refine ⟨c', ?_⟩
    have e : decide ((6 : Int) < ((b.h : Nat) : Int)) = false := decide_eq_false (by have := h b List.mem_cons_self; omega)
    have p := fun m => b_high (b := b) (m := m)
    rw [← q, List.map_cons, e_forC]
    exists "ev", lp1_Wish_DinitD_e, ins_B, p, k_MOST_HEIGHT, e
abbrev oW : Option Ob := some (.ins "Wish" [])
theorem wish_init {Bs : List Bd} (o : WOk Bs) : m_Wish_DinitD [.loc 0, .tup (Bs.map BD)] [oW] = .ok .non [some (.ins "Wish" (wF Bs))] := by
  obtain ⟨c, q⟩ := init_loop (t := .val (.tup (Bs.map BD))) Bs o.h6 (c2 := .un) (m := [oW])
  have h1 := o.n1
  have h4 := o.n4
  have e1 : decide ((1 : Int) ≤ ((Bs.length : Nat) : Int)) = true := decide_eq_true (by omega)
  have e2 : decide (((Bs.length : Nat) : Int) ≤ 4) = true := decide_eq_true (by omega)
  have hl : (Bs.map BD).length ≤ 16777216 := by rw [List.length_map]; omega
  rw [u_Wish_DinitD]
  exists "ev", lp1_Wish_DinitD_e, sx1_Wish_DinitD_e, sx2_Wish_DinitD_e, b_Wish_DinitD_e, e1, e2, k_MOST_BANDS, Bool.not_true, q, i_loc, kIL_some
  rfl
theorem star_W {ds : List Dv} (h : ds.length ≤ 100) {m : Mm} : starF 1 m_Wish_DinitD (.loc 0 :: ds) m = m_Wish_DinitD [.loc 0, .tup ds] m := by
  unfold starF
  rw [if_pos (by rw [sizeLine_eq, List.length_cons]; omega)]
  rfl
theorem wish_star {Bs : List Bd} (o : WOk Bs) (m : Mm) : mkEnd m (starF 1 m_Wish_DinitD (.loc 0 :: Bs.map BD) [oW]) = .ok (.ins "Wish" (wF Bs)) m := by
  rw [star_W (by rw [List.length_map]; have := o.n4; omega), wish_init o]; exact mkEnd_ok pure_W
theorem wish1 {a : Bd} (o : WOk [a]) (m : Mm) : mkEnd m (m_Wish_DinitD_v2 [.loc 0, BD a] [oW]) = .ok (.ins "Wish" (wF [a])) m := wish_star o m
theorem wish2 {a b : Bd} (o : WOk [a, b]) (m : Mm) : mkEnd m (m_Wish_DinitD_v3 [.loc 0, BD a, BD b] [oW]) = .ok (.ins "Wish" (wF [a, b])) m := wish_star o m
theorem wish3 {a b c : Bd} (o : WOk [a, b, c]) (m : Mm) : mkEnd m (m_Wish_DinitD_v4 [.loc 0, BD a, BD b, BD c] [oW]) = .ok (.ins "Wish" (wF [a, b, c])) m := wish_star o m
theorem wish4 {a b c d : Bd} (o : WOk [a, b, c, d]) (m : Mm) : mkEnd m (m_Wish_DinitD_v5 [.loc 0, BD a, BD b, BD c, BD d] [oW]) = .ok (.ins "Wish" (wF [a, b, c, d])) m := wish_star o m
abbrev xC (a : Int) : Dv := excV "BadCount" "BadCount" "given" (.int a)
theorem wish_count {Bs : List Bd} (h : ¬ (1 ≤ Bs.length ∧ Bs.length ≤ 4)) (hl : Bs.length ≤ 50) (m : Mm) : mkEnd m (starF 1 m_Wish_DinitD (.loc 0 :: Bs.map BD) [oW]) = .ex (xC (Bs.length : Nat)) m := by
  rw [star_W (by rw [List.length_map]; omega)]
  have q : m_Wish_DinitD [.loc 0, .tup (Bs.map BD)] [oW] = .ex (xC (Bs.length : Nat)) [oW] := by
    rw [u_Wish_DinitD]
    by_cases h1 : 1 ≤ Bs.length
    · have e1 : decide ((1 : Int) ≤ ((Bs.length : Nat) : Int)) = true := decide_eq_true (by omega)
      have e2 : decide (((Bs.length : Nat) : Int) ≤ 4) = false := decide_eq_false (by omega)
      exists "ev", lp1_Wish_DinitD_e, sx1_Wish_DinitD_e, sx2_Wish_DinitD_e, b_Wish_DinitD_e, e1, e2, k_MOST_BANDS, Bool.not_false
    · have e1 : decide ((1 : Int) ≤ ((Bs.length : Nat) : Int)) = false := decide_eq_false (by omega)
      exists "ev", lp1_Wish_DinitD_e, sx1_Wish_DinitD_e, sx2_Wish_DinitD_e, b_Wish_DinitD_e, e1, k_MOST_BANDS, Bool.not_false
  rw [q]; exact mkEnd_ex rfl
theorem wish_high {a x y : Bd} (ha : a.h ≤ 6) (hx : ¬ x.h ≤ 6) (m : Mm) : mkEnd m (m_Wish_DinitD_v4 [.loc 0, BD a, BD x, BD y] [oW]) = .ex (xN (x.h : Nat)) m := by
  have e0 : starF 1 m_Wish_DinitD (.loc 0 :: [BD a, BD x, BD y]) [oW] = m_Wish_DinitD [.loc 0, .tup [BD a, BD x, BD y]] [oW] := star_W (by simp)
  show mkEnd m (starF 1 m_Wish_DinitD (.loc 0 :: [BD a, BD x, BD y]) [oW]) = _
  rw [e0]
  have q : m_Wish_DinitD [.loc 0, .tup [BD a, BD x, BD y]] [oW] = .ex (xN (x.h : Nat)) [oW] := by
    have e1 : decide ((6 : Int) < ((a.h : Nat) : Int)) = false := decide_eq_false (by omega)
    have e2 : decide ((6 : Int) < ((x.h : Nat) : Int)) = true := decide_eq_true (by omega)
    have p1 := fun m => b_high (b := a) (m := m)
    have p2 := fun m => b_high (b := x) (m := m)
    have f1 : decide ((1 : Int) ≤ ((0 + 1 + 1 + 1 : Nat) : Int)) = true := rfl
    have f2 : decide (((0 + 1 + 1 + 1 : Nat) : Int) ≤ 4) = true := rfl
    rw [u_Wish_DinitD]
    exists "ev", lp1_Wish_DinitD_e, sx1_Wish_DinitD_e, sx2_Wish_DinitD_e, b_Wish_DinitD_e, f1, f2, k_MOST_BANDS, Bool.not_true, e_forC, lp1_Wish_DinitD_e, ins_B, p1, p2, k_MOST_HEIGHT, e1, e2
  rw [q]; exact mkEnd_ex rfl
theorem w_bands {Bs : List Bd} (h : Bs.length ≤ 4) {m : Mm} : m_Wish_bands [WD Bs] m = .ok (.loc m.length) (m ++ [some (.lst (Bs.map BD))]) := by
  have hl : (Bs.map BD).length ≤ 16777216 := by rw [List.length_map]; omega
  rw [u_Wish_bands]
  exists "ev", b_Wish_bands_e, ins_W, lk_W, e_loc, kLo_ok
theorem w_len {Bs : List Bd} (h : Bs.length ≤ 4) {m : Mm} : m_Wish_DlenD [WD Bs] m = .ok (.int (Bs.length : Nat)) m := by
  have hl : (Bs.map BD).length ≤ 16777216 := by rw [List.length_map]; omega
  rw [u_Wish_DlenD]
  exists "ev", b_Wish_DlenD_e, ins_W, lk_W
theorem intsD_is (S : List Int) : intsD (Is S) = some S := by
  exact intsD_map S
abbrev hs (Bs : List Bd) : List Int := Bs.map fun b => ((b.h : Nat) : Int)
theorem max_h {Bs : List Bd} (h : 1 ≤ Bs.length) : ∃ μ : Int, ∀ ρ m, gMax ρ m (.v (.lst (Is (hs Bs)))) = .ok (.v (.int μ)) m := by
  cases Bs with
  | nil => simp at h
  | cons b r =>
    obtain ⟨μ, hμ⟩ : ∃ μ, maxI (hs (b :: r)) = some μ := ⟨_, rfl⟩
    refine ⟨μ, fun ρ m => ?_⟩
    unfold gMax gOnL
    rw [lo_lst, Option.bind_some, intsD_is]
    show (match Option.map Dv.int (maxI (hs (b :: r))) with | some d => Rs.ok (Ar.v d) m | none => Rs.no) = _
    rw [hμ]; rfl
theorem w_height {Bs : List Bd} (h4 : Bs.length ≤ 4) {μ : Int} (h : ∀ ρ m, gMax ρ m (.v (.lst (Is (hs Bs)))) = .ok (.v (.int μ)) m) {m : Mm} : m_Wish_height [WD Bs] m = .ok (.int μ) m := by
  have hc : lcL (mGn 1) mYes ce1_Wish_height [.val (WD Bs), .un] (Bs.map BD) m = .ok (Is (hs Bs)) m := by
    have e : Is (hs Bs) = Bs.map fun b => .int ((b.h : Nat) : Int) := by unfold Is; rw [List.map_map]; rfl
    rw [e]
    refine lcL_all fun b _ => ⟨[.val (WD Bs), .val (BD b)], rfl, rfl, ?_⟩
    have p1 := fun m => b_high (b := b) (m := m)
    exists "ev", ce1_Wish_height_e, ins_B, p1
  have hl : (Is (hs Bs)).length ≤ 16777216 := by unfold Is; rw [List.length_map, List.length_map]; omega
  rw [u_Wish_height]
  exists "ev", ce1_Wish_height_e, b_Wish_height_e, ins_W, lk_W, w_1, hc, h
theorem l_height {Bs : List Bd} (h4 : Bs.length ≤ 4) {μ : Int} (h : ∀ ρ m, gMax ρ m (.v (.lst (Is (hs Bs)))) = .ok (.v (.int μ)) m) {m : Mm} : m_l_height [.lst (Bs.map bP)] m = .ok (.int μ) m := by
  have hc : lcL (mGn 1) mYes ce1_l_height [.val (.lst (Bs.map bP)), .un] (Bs.map bP) m = .ok (Is (hs Bs)) m := by
    have e : Is (hs Bs) = Bs.map fun b => .int ((b.h : Nat) : Int) := by unfold Is; rw [List.map_map]; rfl
    rw [e]
    refine lcL_all fun b _ => ⟨[.val (.lst (Bs.map bP)), .val (bP b)], rfl, rfl, ?_⟩
    exists "ev", ce1_l_height_e, at_1
  have hl : (Is (hs Bs)).length ≤ 16777216 := by unfold Is; rw [List.length_map, List.length_map]; omega
  rw [u_l_height]
  exists "ev", ce1_l_height_e, b_l_height_e, w_1, hc, h
abbrev gd (A : List Int) : List (Int × Bool) := A.map fun a => (a, true)
theorem gd_len {A : List Int} : (gd A).length = A.length := List.length_map ..
theorem w_hold {Bs : List Bd} (h4 : Bs.length ≤ 4) {A : List Int} (hA : A.length ≤ 9) {d : Dv} (hd : d = .lst (Is A) ∨ d = .tup (Is A)) {m : Mm} : m_Wish_holds [WD Bs, d] m = .ok (.bl (Bs.all fun b => hold b (gd A))) m := by
  have hA1 : (Is A).length ≤ 16777216 := by unfold Is; rw [List.length_map]; omega
  have hA2 : ((gd A).map cD).length ≤ 16777216 := by rw [List.length_map, gd_len]; omega
  have hB : (Bs.map fun b => Dv.bl (hold b (gd A))).length ≤ 16777216 := by rw [List.length_map]; omega
  have c1 : ∀ m, lcL (mGn 3) mYes ce1_Wish_holds [.val (WD Bs), .val d, .un, .un, .un] (Is A) m = .ok ((gd A).map cD) m := fun m => by
    have e : (gd A).map cD = A.map fun a => cD (a, true) := by rw [List.map_map]; rfl
    rw [e]
    refine lcL_all fun a _ => ⟨[.val (WD Bs), .val d, .un, .val (.int a), .un], rfl, rfl, ?_⟩
    exists "ev", ce1_Wish_holds_e
  have c2 : ∀ m, lcL (mGn 4) mYes ce2_Wish_holds [.val (WD Bs), .val d, .val (.lst ((gd A).map cD)), .un, .un] (Bs.map BD) m = .ok (Bs.map fun b => .bl (hold b (gd A))) m := fun m => by
    refine lcL_all fun b _ => ⟨[.val (WD Bs), .val d, .val (.lst ((gd A).map cD)), .un, .val (BD b)], rfl, rfl, ?_⟩
    have w1 : List.lookup ("holds" : Str) (bF b) = none := lk_Band_holds
    have b1 := fun m => b_holds (b := b) (cs := gd A) (by rw [gd_len]; omega) (m := m)
    exists "ev", ce2_Wish_holds_e, ins_B, w1, b1
  rw [u_Wish_holds]
  rcases hd with rfl | rfl
  · exists "ev", ce1_Wish_holds_e, ce2_Wish_holds_e, sx1_Wish_holds_e, b_Wish_holds_e, w_1, c1, ins_W, lk_W, c2
  · exists "ev", ce1_Wish_holds_e, ce2_Wish_holds_e, sx1_Wish_holds_e, b_Wish_holds_e, w_1, c1, ins_W, lk_W, c2
theorem granted {Bs : List Bd} (h4 : Bs.length ≤ 4) {A : List Int} (hA : A.length ≤ 9) {m : Mm} : m_l_granted [.lst (Bs.map bP), .lst (Is A)] m = .ok (.bl (Bs.all fun b => hold b (gd A))) m := by
  have hA1 : (Is A).length ≤ 16777216 := by unfold Is; rw [List.length_map]; omega
  have hA2 : ((gd A).map cD).length ≤ 16777216 := by rw [List.length_map, gd_len]; omega
  have hB : (Bs.map fun b => Dv.bl (hold b (gd A))).length ≤ 16777216 := by rw [List.length_map]; omega
  have c1 : ∀ (c3 : Cell) m, lcL (mGn 2) mYes ce1_l_granted [.val (.lst (Bs.map bP)), .val (.lst (Is A)), .un, c3] (Is A) m = .ok ((gd A).map cD) m := fun c3 m => by
    have e : (gd A).map cD = A.map fun a => cD (a, true) := by rw [List.map_map]; rfl
    rw [e]
    refine lcL_all fun a _ => ⟨[.val (.lst (Bs.map bP)), .val (.lst (Is A)), .val (.int a), c3], rfl, rfl, ?_⟩
    exists "ev", ce1_l_granted_e
  have c2 : ∀ m, lcL (mGn 3) mYes ce2_l_granted [.val (.lst (Bs.map bP)), .val (.lst (Is A)), .un, .un] (Bs.map bP) m = .ok (Bs.map fun b => .bl (hold b (gd A))) m := fun m => by
    refine lcL_all fun b _ => ⟨[.val (.lst (Bs.map bP)), .val (.lst (Is A)), .un, .val (bP b)], rfl, rfl, ?_⟩
    have b1 := fun m => l_holds (b := b) (cs := gd A) (by rw [gd_len]; omega) (m := m)
    exists "ev", ce2_l_granted_e, w_1, c1, b1
  rw [u_l_granted]
  exists "ev", ce1_l_granted_e, ce2_l_granted_e, b_l_granted_e, w_1, c2
theorem sim_B {b : Bd} : SimI "Band" (BD b) := ⟨bF b, rfl, fun p hp => by
  unfold bF at hp
  simp only [List.mem_cons, List.not_mem_nil, or_false] at hp
  rcases hp with rfl | rfl | rfl | rfl <;> rfl⟩
theorem BD_inj {b c : Bd} (h : BD b = BD c) : (S (bt b) == S (bt c)) = true := by
  have h : bF b = bF c := by injection h
  unfold bF at h
  simp only [List.cons.injEq, Prod.mk.injEq, Dv.str.injEq, true_and, and_true] at h
  rw [h.2.2.2]; exact beq_self_eq_true _
theorem w_eq {Bs Cs : List Bd} {bs : List Bool} {m : Mm} (h : PEq "Band" m_Band_DeqD m (Bs.map BD) (Cs.map BD) bs) : m_Wish_DeqD [WD Bs, WD Cs] m = .ok (.bl (bs.all id)) m := by
  have g := fun ρ => g_eqL (ρ := ρ) h
  rw [u_Wish_DeqD]
  exists "ev", b_Wish_DeqD_e, k_Wish, ins_W, lk_W, g
theorem w_eqn {Bs Cs : List Bd} {m : Mm} (h : Bs.length ≠ Cs.length) : m_Wish_DeqD [WD Bs, WD Cs] m = .ok (.bl false) m := by
  have g := fun ρ => g_eqL_ne (cn := "Band") (F := m_Band_DeqD) (ρ := ρ) (m := m) (ds := Bs.map BD) (es := Cs.map BD) (by rw [List.length_map, List.length_map]; exact h)
  rw [u_Wish_DeqD]
  exists "ev", b_Wish_DeqD_e, k_Wish, ins_W, lk_W, g
theorem w_eqs {Bs : List Bd} {z : Str} {m : Mm} : m_Wish_DeqD [WD Bs, .str z] m = .ok (.bl false) m := by
  rw [u_Wish_DeqD]
  exists "ev", b_Wish_DeqD_e, k_Wish, ins_W
theorem peq {Bs Cs : List Bd} {m : Mm} : Bs.length = Cs.length → PEq "Band" m_Band_DeqD m (Bs.map BD) (Cs.map BD) ((Bs.zip Cs).map fun p => S (bt p.1) == S (bt p.2)) := by
  induction Bs generalizing Cs with
  | nil => intro h; cases Cs with
    | nil => exact PEq.nil
    | cons _ _ => simp at h
  | cons b Bs ih => intro h; cases Cs with
    | nil => simp at h
    | cons c Cs => exact PEq.cons sim_B sim_B b_eq BD_inj (ih (by simpa using h))
end G
set_option Elab.async false
set_option linter.all false
set_option autoImplicit false
set_option maxRecDepth 100000
set_option maxHeartbeats 8000000
namespace G
open PySem L2 M3 SX
theorem any_spec {b : Bag} (hb : b.Ok) {ds : List Dv} (h : ds ≠ []) (hl : ds.length ≤ 1000000) : ∃ (i : Nat) (d : Dv) (b' : Bag), ds[i]? = some d ∧ b'.Ok ∧ m_l_any [.loc 0, .lst ds] (BM b) = .ok d (BM b') := by
  have hp : 0 < ds.length := List.length_pos_iff.mpr h
  obtain ⟨r, b', o, hr, e⟩ := pull_spec b hb (ds.length : Nat) (by omega) (by omega)
  have hr' : r < ds.length := by omega
  refine ⟨r, ds[r], b', List.getElem?_eq_getElem hr', o, ?_⟩
  rw [u_l_any]
  have hat : ds[r]? = some ds[r] := List.getElem?_eq_getElem hr'
  exists "ev", b_l_any_e, e, at_nat, hat
theorem any_is {b : Bag} (hb : b.Ok) {S : List Int} (h : S ≠ []) (hl : S.length ≤ 1000) : ∃ (d : Int) (b' : Bag), d ∈ S ∧ b'.Ok ∧ m_l_any [.loc 0, .lst (Is S)] (BM b) = .ok (.int d) (BM b') := by
  obtain ⟨i, d, b', h1, h2, h3⟩ := any_spec hb (ds := Is S) (fun z => h (List.map_eq_nil_iff.mp z)) (by unfold Is; rw [List.length_map]; omega)
  have h1 := List.mem_of_getElem? h1
  obtain ⟨x, hx, rfl⟩ := List.mem_map.mp h1
  exact ⟨x, b', hx, h2, h3⟩
theorem opened (ns : List Int) (h : ns.length ≤ 63) : ∃ b : Bag, b.Ok ∧ m_l_opened [.scr ns] [] = .ok (.loc 0) (BM b) := by
  refine ⟨⟨ns, 0, 0, 5794, 0⟩, ⟨by show (0 : Int) ≤ 0; omega, by show (0 : Int) ≤ 0; omega, by show (0 : Int) ≤ 5794; omega, by show (5794 : Int) < 2147483579; omega, h⟩, ?_⟩
  rw [u_l_opened]
  have hl : ns.length ≤ 16777216 := by omega
  have hcut : cutD (ns.map Dv.int) none (some 63) = ns.map Dv.int := by
    have := cut_take (ds := ns.map Dv.int) (k := 63)
    rw [List.take_of_length_le (by rw [List.length_map]; exact h)] at this
    exact this
  exists "ev", b_l_opened_e, hcut, e_loc, kLo_ok, BM, bagO, List.nil_append
theorem mixed_loop {α : Type} {e : α → Dv} {c1 : Cell} : ∀ (xs : List α) {b : Bag} (fd : List α) (c3 : Cell), b.Ok → fd.length + xs.length ≤ 1000 → ∃ (fd' : List α) (b' : Bag) (c3' : Cell), fd'.length = fd.length + xs.length ∧ b'.Ok ∧
    forL (mGn 3) lp1_l_mixed (xs.map e) [.val (.loc 0), c1, .own (.lst (fd.map e)), c3] (BM b) = .nx [.val (.loc 0), c1, .own (.lst (fd'.map e)), c3'] (BM b')
  | [], b, fd, c3, hb, _ => ⟨fd, b, c3, rfl, hb, rfl⟩
  | x :: xs, b, fd, c3, hb, hl => by
    simp only [List.length_cons] at hl
    have hlf : (fd.map e).length = fd.length := by simp
    obtain ⟨r, b2, o2, hr, e2⟩ := pull_spec b hb ((fd.length : Nat) + 1) (by omega) (by omega)
    have hlen : (fd.take r ++ [x] ++ fd.drop r).length = fd.length + 1 := by simp; omega
    obtain ⟨fd', b', c3', n1, n3, q⟩ := mixed_loop (e := e) (c1 := c1) xs (b := b2) (fd.take r ++ [x] ++ fd.drop r) (.val (e x)) o2 (by omega)
    refine ⟨fd', b', c3', by rw [n1, hlen, List.length_cons]; omega, n3, ?_⟩
    have hI : (fd.map e).take r ++ [e x] ++ (fd.map e).drop r = (fd.take r ++ [x] ++ fd.drop r).map e := by simp
    have h0 : (0 : Int) ≤ ((r : Nat) : Int) := by omega
    have h1 : ((r : Nat) : Int) < 16777216 := by omega
    have h2 : (fd.map e).length < 16777216 := by rw [hlf]; omega
    rw [← q, List.map_cons, e_forC]
    exists "ev", lp1_l_mixed_e, sx1_l_mixed_e, sx2_l_mixed_e, b_l_mixed_e, hlf, e2, mutK_ap, Int.toNat_natCast, hI
theorem l_mixed {α : Type} {e : α → Dv} {xs : List α} (hl : xs.length ≤ 900) {b : Bag} (hb : b.Ok) : ∃ (ys : List α) (b' : Bag), ys.length = xs.length ∧ b'.Ok ∧ m_l_mixed [.loc 0, .lst (xs.map e)] (BM b) = .ok (.lst (ys.map e)) (BM b') := by
  obtain ⟨ys, b', c3, n1, n3, q⟩ := mixed_loop (e := e) (c1 := .val (.lst (xs.map e))) xs (b := b) [] .un hb (by simp; omega)
  refine ⟨ys, b', by simpa using n1, n3, ?_⟩
  have q : forL (mGn 3) lp1_l_mixed (xs.map e) [.val (.loc 0), .val (.lst (xs.map e)), .own (.lst []), .un] (BM b) = .nx [.val (.loc 0), .val (.lst (xs.map e)), .own (.lst (ys.map e)), c3] (BM b') := q
  have hy : (ys.map e).length ≤ 16777216 := by rw [List.length_map]; simp at n1; omega
  rw [u_l_mixed]
  exists "ev", lp1_l_mixed_e, sx1_l_mixed_e, sx2_l_mixed_e, b_l_mixed_e, q
theorem low_is {k : Nat} : ∀ S : List Int, lowL k (Is S) = true
  | [] => rfl
  | d :: r => by
    have := low_is (k := k) r
    unfold Is at this ⊢
    rw [List.map_cons]; unfold lowL; rw [this]; rfl
theorem low_BM {k : Nat} {b : Bag} : memLow k (BM b) = true := by
  have h := low_is (k := k) b.cells
  show (((lowL k (Is b.cells)) && true) && true) = true
  rw [h]; rfl
structure SB (b : Bd) : Prop where
  lh : b.l ≤ b.h
  h : b.h ≤ 4
  k1 : 1 ≤ b.k
  k : b.k ≤ 2
theorem SB.ok {b : Bd} (s : SB b) : b.Ok := ⟨s.lh, by have := s.h; omega, s.k1, by have := s.k; omega⟩
structure RsOk (Rs : List Bd) : Prop where
  n2 : 2 ≤ Rs.length
  n4 : Rs.length ≤ 4
  sb : ∀ b ∈ Rs, SB b
theorem RsOk.w {Rs : List Bd} (o : RsOk Rs) : WOk Rs := ⟨fun b hb => (o.sb b hb).ok, by have := o.n2; omega, o.n4, fun b hb => by have := (o.sb b hb).h; omega⟩
theorem WOk.two {x y : Bd} {r : List Bd} (w : WOk (x :: y :: r)) : WOk [x, y] := by
  have hm : ∀ b ∈ [x, y], b ∈ x :: y :: r := fun b hb => by
    simp only [List.mem_cons, List.not_mem_nil, or_false] at hb ⊢
    rcases hb with rfl | rfl
    · exact .inl rfl
    · exact .inr (.inl rfl)
  exact ⟨fun b hb => w.ok b (hm b hb), by simp, by simp, fun b hb => w.h6 b (hm b hb)⟩
theorem is_c {y : Int} {Y : List Int} : Is (y :: Y) = .int y :: Is Y := rfl
theorem wish_loop : ∀ (l : List Dv) {b : Bag} (fd : List Bd) (c2 c3 : Cell), b.Ok → fd.length + l.length ≤ 10 → (∀ x ∈ fd, SB x) → ∃ (fd' : List Bd) (b' : Bag) (c2' c3' : Cell), fd'.length = fd.length + l.length ∧ (∀ x ∈ fd', SB x) ∧ b'.Ok ∧
    forL (mGn 2) lp1_l_wish l [.val (.loc 0), .own (.lst (fd.map bP)), c2, c3] (BM b) = .nx [.val (.loc 0), .own (.lst (fd'.map bP)), c2', c3'] (BM b')
  | [], b, fd, c2, c3, hb, _, hs => ⟨fd, b, c2, c3, rfl, hs, hb, rfl⟩
  | x :: l, b, fd, c2, c3, hb, hl, hs => by
    simp only [List.length_cons] at hl
    obtain ⟨r1, b1, o1, h1, e1⟩ := pull_spec b hb 4 (by omega) (by omega)
    obtain ⟨r2, b2, o2, h2, e2⟩ := pull_spec b1 o1 (5 - ((r1 : Nat) : Int)) (by omega) (by omega)
    obtain ⟨d, b3, hd, o3, e3⟩ := any_is o2 (S := [0, 0, 0, 0, 1]) (by simp) (by simp)
    have e3 : m_l_any [.loc 0, .lst [.int 0, .int 0, .int 0, .int 0, .int 1]] (BM b2) = .ok (.int d) (BM b3) := e3
    have hd : d = 0 ∨ d = 1 := by
      simp only [List.mem_cons, List.not_mem_nil, or_false] at hd
      omega
    obtain ⟨h, hh⟩ : ∃ h : Nat, r1 + r2 = h := ⟨_, rfl⟩
    obtain ⟨k, hk⟩ : ∃ k : Nat, (1 : Int) + d = ((k : Nat) : Int) := ⟨(1 + d).toNat, by omega⟩
    have q2 : ((r1 : Nat) : Int) + ((r2 : Nat) : Int) = ((h : Nat) : Int) := by omega
    have sb : SB ⟨r1, h, k⟩ := ⟨by show r1 ≤ h; omega, by show h ≤ 4; omega, by show 1 ≤ k; omega, by show k ≤ 2; omega⟩
    have hlf : (fd.map bP).length = fd.length := by simp
    obtain ⟨fd', b', c2', c3', n1, n2, n3, q⟩ := wish_loop l (fd ++ [⟨r1, h, k⟩]) (.val x) (.val (.int (r1 : Nat))) o3 (by simp; omega) (fun y hy => by
      rcases List.mem_append.mp hy with hy | hy
      · exact hs y hy
      · rcases List.mem_singleton.mp hy with rfl
        exact sb)
    refine ⟨fd', b', c2', c3', by rw [n1]; simp; omega, n2, n3, ?_⟩
    have h2 : (fd.map bP).length < 16777216 := by rw [hlf]; omega
    have hI : fd.map bP ++ [.tup [.int (r1 : Nat), .int (h : Nat), .int (k : Nat)]] = (fd ++ [(⟨r1, h, k⟩ : Bd)]).map bP := by rw [List.map_append]; rfl
    rw [← q, e_forC]
    exists "ev", lp1_l_wish_e, sx1_l_wish_e, e1, e2, e3, q2, hk, mutK_ap, hI
theorem l_wish {b : Bag} (hb : b.Ok) : ∃ (Rs : List Bd) (b' : Bag), b'.Ok ∧ 1 ≤ Rs.length ∧ Rs.length ≤ 2 ∧ (∀ x ∈ Rs, SB x) ∧ m_l_wish [.loc 0] (BM b) = .ok (.lst (Rs.map bP)) (BM b') := by
  obtain ⟨r, b1, o1, h1, e1⟩ := pull_spec b hb 2 (by omega) (by omega)
  have hz : ((1 : Int) + ((r : Nat) : Int)).toNat = 1 + r := by omega
  obtain ⟨fd, b2, c2, c3, n1, n2, n3, q⟩ := wish_loop (rngD 0 (1 + r)) [] .un .un o1 (by simp [rngD]; omega) (fun _ h => by cases h)
  have n1 : fd.length = 1 + r := by rw [n1]; simp [rngD]
  have q : forL (mGn 2) lp1_l_wish (rngD 0 (1 + r)) [.val (.loc 0), .own (.lst []), .un, .un] (BM b1) = .nx [.val (.loc 0), .own (.lst (fd.map bP)), c2, c3] (BM b2) := q
  refine ⟨fd, b2, n3, by omega, by omega, n2, ?_⟩
  have g1 : -(2 ^ 62) ≤ ((1 : Int) + ((r : Nat) : Int)) := by omega
  have g2 : ((1 : Int) + ((r : Nat) : Int)) < 2 ^ 62 := by omega
  have hy : (fd.map bP).length ≤ 16777216 := by rw [List.length_map]; omega
  rw [u_l_wish]
  have g3 : (0 : Int) ≤ (1 : Int) + ((r : Nat) : Int) := by omega
  have g4 : (1 : Int) + ((r : Nat) : Int) ≤ 16777216 := by omega
  exists "ev", sx1_l_wish_e, lp1_l_wish_e, sx2_l_wish_e, sx3_l_wish_e, b_l_wish_e, e1, hz, q
theorem lens_S {xs : List (List Nat)} : ((xs.map S).map (·.length)).sum = (xs.map (·.length)).sum := by
  rw [List.map_map]
  congr 1
abbrev jt (Rs : List Bd) : List Nat := TL.joinL [44, 32] (Rs.map bt)
def SHW (Rs : List Bd) : Str := S ([87,105,115,104,40] ++ jt Rs ++ [41])
theorem joinL_len {a : List Nat} : ∀ xs : List (List Nat), (TL.joinL a xs).length ≤ (xs.map (·.length)).sum + xs.length * a.length
  | [] => by simp [TL.joinL]
  | [x] => by simp [TL.joinL]
  | x :: y :: r => by
    have h := joinL_len (a := a) (y :: r)
    simp only [TL.joinL, List.length_append, List.map_cons, List.sum_cons, List.length_cons, Nat.add_mul, Nat.one_mul] at h ⊢
    omega
theorem sum_le {xs : List Nat} {k : Nat} (h : ∀ x ∈ xs, x ≤ k) : xs.sum ≤ xs.length * k := by
  induction xs with
  | nil => simp
  | cons x xs ih =>
    have h1 := ih fun y hy => h y (List.mem_cons_of_mem _ hy)
    have h2 := h x List.mem_cons_self
    rw [List.sum_cons, List.length_cons, Nat.add_mul]; omega
theorem bts_sum {Rs : List Bd} (o : RsOk Rs) : ((Rs.map bt).map (·.length)).sum ≤ 32 := by
  have h := sum_le (xs := (Rs.map bt).map (·.length)) (k := 8) (fun x hx => by
    rw [List.map_map] at hx
    obtain ⟨b, hb, rfl⟩ := List.mem_map.mp hx
    exact bt_len (o.sb b hb).ok)
  rw [List.length_map, List.length_map] at h
  have := o.n4
  omega
theorem jt_len {Rs : List Bd} (o : RsOk Rs) : (jt Rs).length ≤ 40 := by
  have h := joinL_len (a := [44, 32]) (Rs.map bt)
  have h2 := bts_sum o
  have := o.n4
  rw [List.length_map] at h
  simp only [List.length_cons, List.length_nil] at h
  show (TL.joinL [44, 32] (Rs.map bt)).length ≤ 40
  omega
theorem join_t {Rs : List Bd} (o : RsOk Rs) {ρ : Sl} {m : Mm} : gJoin (", " : Str) ρ m (.v (.lst (Rs.map fun b => .str (S (bt b))))) = .ok (.v (.str (S (jt Rs)))) m := by
  have hc : (", " : Str) = S [44, 32] := by decide +kernel
  have h2 := bts_sum o
  have := o.n4
  have e : (Rs.map fun b => S (bt b)) = (Rs.map bt).map S := by rw [List.map_map]; rfl
  rw [hc, g_join_l (q := fun b : Bd => S (bt b)) (by
    rw [e, lens_S, List.length_map, List.length_map, S_len]; simp only [List.length_cons, List.length_nil]; omega), e, join_S]
theorem shown {B : Bd} (o : B.Ok) {ρ : Sl} {m : Mm} : gJoin (" " : Str) ρ m (.v (.lst [.str (toString ((B.l : Nat) : Int)), .str (toString ((B.h : Nat) : Int)), .str (toString ((B.k : Nat) : Int))])) = .ok (.v (.str (S (bt B)))) m := by
  have h1 : (numL B.l).length ≤ 2 := num_len (by have := o.lh; have := o.h; omega)
  have h2 : (numL B.h).length ≤ 2 := num_len (by have := o.h; omega)
  have h3 : (numL B.k).length ≤ 2 := num_len (by have := o.k; omega)
  have e : ∀ n : Nat, (toString ((n : Nat) : Int) : Str) = S (numL n) := fun n => num_S n
  rw [e, e, e, ← sp_S]
  have g := g_join_l (ρ := ρ) (m := m) (s := S [32]) (q := S) (xs := [numL B.l, numL B.h, numL B.k]) (by
    simp only [List.map_cons, List.map_nil, S_len, List.sum_cons, List.sum_nil, List.length_cons, List.length_nil]; omega)
  have g : gJoin (S [32]) ρ m (.v (.lst [.str (S (numL B.l)), .str (S (numL B.h)), .str (S (numL B.k))])) = .ok (.v (.str (Txt.join (S [32]) ([numL B.l, numL B.h, numL B.k].map S)))) m := g
  rw [g, join_S]
  rfl
theorem w_repr {Rs : List Bd} (o : RsOk Rs) {m : Mm} : m_Wish_DreprD [WD Rs] m = .ok (.str (SHW Rs)) m := by
  have hn := o.n4
  have hc : lcL (mGn 1) mYes ce1_Wish_DreprD [.val (WD Rs), .un] (Rs.map BD) m = .ok (Rs.map fun b => .str (S (bt b))) m := by
    refine lcL_all fun b _ => ⟨[.val (WD Rs), .val (BD b)], rfl, rfl, ?_⟩
    have p1 := fun m => b_text (b := b) (m := m)
    exists "ev", ce1_Wish_DreprD_e, ins_B, p1
  have hl : (Rs.map fun b => Dv.str (S (bt b))).length ≤ 16777216 := by rw [List.length_map]; omega
  have hj := fun ρ => join_t o (ρ := ρ) (m := m)
  have jl := jt_len o
  have h0 : ("Wish(" : Str) = S [87,105,115,104,40] := by decide +kernel
  have h1 : ((")" : Str)) = S [41] := by decide +kernel
  have e0 : Str.empty ++ S [87,105,115,104,40] = S [87,105,115,104,40] := by rw [show Str.empty = S [] from rfl, S_cat]; rfl
  have l1 : (S [87,105,115,104,40]).length ≤ 16777216 := by rw [S_len]; decide
  have l0 : (Str.empty ++ S [87,105,115,104,40]).length ≤ 16777216 := by rw [e0]; exact l1
  have l2 : (S (jt Rs)).length ≤ 16777216 := by rw [S_len]; omega
  have l3 : (S [87,105,115,104,40] ++ S (jt Rs)).length ≤ 16777216 := by
    rw [S_cat, S_len]; simp only [List.length_append, List.length_cons, List.length_nil]; omega
  have l4 : (S [87,105,115,104,40] ++ S (jt Rs) ++ S [41]).length ≤ 16777216 := by
    rw [S_cat, S_cat, S_len]; simp only [List.length_append, List.length_cons, List.length_nil]; omega
  rw [u_Wish_DreprD]
  exists "ev", ce1_Wish_DreprD_e, b_Wish_DreprD_e, ins_W, lk_W, w_1, hc, hj, h0, h1, e0
  rw [S_cat, S_cat]; rfl
theorem like_told {Rs : List Bd} (o : RsOk Rs) {μ : Int} {m : Mm} : m_l_like [.lst [.lst (Rs.map fun b => .str (S (bt b))), .int μ, .int (Rs.length : Nat), .str (SHW Rs)], .lst [.lst (Rs.map fun b => .str (S (bt b))), .int μ, .int (Rs.length : Nat), .str (SHW Rs)]] m = .ok (.bl true) m := like_same (by
  have hn := o.n4
  have h : lkD 10 (.lst (Rs.map fun b => .str (S (bt b)))) = true := by
    show (decide ((Rs.map fun b => Dv.str (S (bt b))).length ≤ 16777216) && (Rs.map fun b => Dv.str (S (bt b))).all (lkD 9)) = true
    rw [Bool.and_eq_true]
    refine ⟨decide_eq_true (by rw [List.length_map]; omega), List.all_eq_true.mpr fun d hd => ?_⟩
    obtain ⟨b, _, rfl⟩ := List.mem_map.mp hd
    rfl
  show (decide ([Dv.lst (Rs.map fun b => .str (S (bt b))), .int μ, .int (Rs.length : Nat), .str (SHW Rs)].length ≤ 16777216) && (lkD 10 (.lst (Rs.map fun b => .str (S (bt b)))) && (lkD 10 (.int μ) && (lkD 10 (.int (Rs.length : Nat)) && (lkD 10 (.str (SHW Rs)) && true))))) = true
  rw [h]; rfl)
def two (Rs : List Bd) : Bool := match Rs with
  | [x, y] => S (bt x) == S (bt y)
  | _ => false
theorem stA {ns : List Int} {i : Int} {b : Bag} (hb : b.Ok) {c3 c4 c5 c6 c7 c8 c9 c10 c11 : Cell} : ∃ (Rs : List Bd) (b' : Bag), RsOk Rs ∧ b'.Ok ∧ lp1_law [.val (.scr ns), .val (.loc 0), .val (.int i), c3, c4, c5, c6, c7, c8, c9, c10, c11, .un, .un, .un, .un, .un] (BM b) = sx14_law [.val (.scr ns), .val (.loc 0), .val (.int i), .val (.lst (Rs.map bP)), c4, c5, c6, c7, c8, c9, c10, c11, .un, .un, .un, .un, .un] (BM b') := by
  obtain ⟨R1, b1, o1, n1, m1, s1, e1⟩ := l_wish hb
  obtain ⟨R2, b2, o2, n2, m2, s2, e2⟩ := l_wish o1
  refine ⟨R1 ++ R2, b2, ⟨by rw [List.length_append]; omega, by rw [List.length_append]; omega, fun x hx => (List.mem_append.mp hx).elim (s1 x) (s2 x)⟩, o2, ?_⟩
  have hl : (R1.map bP).length + (R2.map bP).length ≤ 16777216 := by rw [List.length_map, List.length_map]; omega
  have ha : R1.map bP ++ R2.map bP = (R1 ++ R2).map bP := List.map_append.symm
  exists "ev", lp1_law_e, e1, e2, ha
theorem stB {ns : List Int} {i : Int} {Rs : List Bd} (o : RsOk Rs) {b : Bag} (hb : b.Ok) {c4 c5 c6 c7 c8 c9 c10 c11 : Cell} : ∃ (H : Nat) (b' : Bag), (H = 7 ∨ H = 59) ∧ b'.Ok ∧ sx14_law [.val (.scr ns), .val (.loc 0), .val (.int i), .val (.lst (Rs.map bP)), c4, c5, c6, c7, c8, c9, c10, c11, .un, .un, .un, .un, .un] (BM b) = sx13_law [.val (.scr ns), .val (.loc 0), .val (.int i), .val (.lst (Rs.map bP)), .val (.lst (Rs.map BD)), .val (.int (H : Nat)), c6, c7, c8, c9, c10, c11, .un, .un, .un, .un, .un] (BM b') := by
  obtain ⟨d, b1, hd, o1, e1⟩ := any_is hb (S := [7, 59]) (by simp) (by simp)
  have e1 : m_l_any [.loc 0, .lst [.int 7, .int 59]] (BM b) = .ok (.int d) (BM b1) := e1
  obtain ⟨H, hH, rfl⟩ : ∃ H : Nat, (H = 7 ∨ H = 59) ∧ d = (H : Nat) := by
    simp only [List.mem_cons, List.not_mem_nil, or_false] at hd
    rcases hd with rfl | rfl
    · exact ⟨7, .inl rfl, rfl⟩
    · exact ⟨59, .inr rfl, rfl⟩
  refine ⟨H, b1, hH, o1, ?_⟩
  have hn := o.n4
  have hc : lcL (mGn 13) mYes ce1_law [.val (.scr ns), .val (.loc 0), .val (.int i), .val (.lst (Rs.map bP)), c4, c5, c6, c7, c8, c9, c10, c11, .un, .un, .un, .un, .un] (Rs.map bP) (BM b) = .ok (Rs.map BD) (BM b) := by
    refine lcL_all fun x hx => ⟨[.val (.scr ns), .val (.loc 0), .val (.int i), .val (.lst (Rs.map bP)), c4, c5, c6, c7, c8, c9, c10, c11, .un, .val (bP x), .un, .un, .un], rfl, rfl, ?_⟩
    have m1 := fun m => l_made (o.sb x hx).ok (m := m)
    exists "ev", ce1_law_e, m1
  have hl : (Rs.map BD).length ≤ 16777216 := by rw [List.length_map]; omega
  exists "ev", sx14_law_e, w_1, hc, e1
theorem stC {ns : List Int} {i : Int} {Rs : List Bd} (o : RsOk Rs) {H : Nat} {m : Mm} {c6 c7 c8 c9 c10 c11 : Cell} : sx13_law [.val (.scr ns), .val (.loc 0), .val (.int i), .val (.lst (Rs.map bP)), .val (.lst (Rs.map BD)), .val (.int (H : Nat)), c6, c7, c8, c9, c10, c11, .un, .un, .un, .un, .un] m = sx9_law [.val (.scr ns), .val (.loc 0), .val (.int i), .val (.lst (Rs.map bP)), .val (.lst (Rs.map BD)), .val (.int (H : Nat)), .val (WD Rs), .val (.lst (Rs.map bP)), c8, c9, c10, c11, .un, .un, .un, .un, .un] m := by
  have hn := o.n4
  have hm := o.n2
  have w := o.w
  match Rs, hn, hm, w with
  | [x, y], _, _, w =>
    have w2 := wish2 w
    have p2 : pureL [BD x, BD y] = true := rfl
    have hcut : cutD [bP x, bP y] none (some 2) = [bP x, bP y] := rfl
    have d3 : ((((0 + 1 + 1 : Nat) : Int)) == 3) = false := rfl
    have d4 : ((((0 + 1 + 1 : Nat) : Int)) == 4) = false := rfl
    simp only [List.map_cons, List.map_nil]
    exists "ev", sx13_law_e, sx12_law_e, sx11_law_e, sx10_law_e, at_0, at_1, w2, p2, hcut, d3, d4, List.cons_append, List.nil_append
  | [x, y, z], _, _, w =>
    have w2 := wish2 w.two
    have w3 := wish3 w
    have p2 : pureL [BD x, BD y] = true := rfl
    have p3 : pureL [BD x, BD y, BD z] = true := rfl
    have a2 : atI [BD x, BD y, BD z] 2 = some (BD z) := rfl
    have hcut : cutD [bP x, bP y, bP z] none (some 2) = [bP x, bP y] := rfl
    have d3 : ((((0 + 1 + 1 + 1 : Nat) : Int)) == 3) = true := rfl
    have d4 : ((((0 + 1 + 1 + 1 : Nat) : Int)) == 4) = false := rfl
    simp only [List.map_cons, List.map_nil]
    exists "ev", sx13_law_e, sx12_law_e, sx11_law_e, sx10_law_e, at_0, at_1, a2, w2, w3, p2, p3, hcut, d3, d4, List.cons_append, List.nil_append
  | [x, y, z, v], _, _, w =>
    have w2 := wish2 w.two
    have w4 := wish4 w
    have p2 : pureL [BD x, BD y] = true := rfl
    have p4 : pureL [BD x, BD y, BD z, BD v] = true := rfl
    have a2 : atI [BD x, BD y, BD z, BD v] 2 = some (BD z) := rfl
    have a3 : atI [BD x, BD y, BD z, BD v] 3 = some (BD v) := rfl
    have hcut : cutD [bP x, bP y, bP z, bP v] none (some 2) = [bP x, bP y] := rfl
    have d3 : ((((0 + 1 + 1 + 1 + 1 : Nat) : Int)) == 3) = false := rfl
    have d4 : ((((0 + 1 + 1 + 1 + 1 : Nat) : Int)) == 4) = true := rfl
    simp only [List.map_cons, List.map_nil]
    exists "ev", sx13_law_e, sx12_law_e, sx11_law_e, sx10_law_e, at_0, at_1, a2, a3, w2, w4, p2, p4, hcut, d3, d4, List.cons_append, List.nil_append
  | [], _, hm, _ => simp at hm
  | [x], _, hm, _ => simp at hm
  | x :: y :: z :: v :: u :: r, hn, _, _ => simp at hn
theorem stD {ns : List Int} {i : Int} {Rs : List Bd} (o : RsOk Rs) {H : Nat} {m : Mm} {c8 c9 c10 c11 : Cell} : sx9_law [.val (.scr ns), .val (.loc 0), .val (.int i), .val (.lst (Rs.map bP)), .val (.lst (Rs.map BD)), .val (.int (H : Nat)), .val (WD Rs), .val (.lst (Rs.map bP)), c8, c9, c10, c11, .un, .un, .un, .un, .un] m = sx8_law [.val (.scr ns), .val (.loc 0), .val (.int i), .val (.lst (Rs.map bP)), .val (.lst (Rs.map BD)), .val (.int (H : Nat)), .val (WD Rs), .val (.lst (Rs.map bP)), .val (.str (SHW Rs)), c9, c10, c11, .un, .un, .un, .un, .un] m := by
  have hn := o.n4
  have hc : lcL (mGn 15) mYes ce3_law [.val (.scr ns), .val (.loc 0), .val (.int i), .val (.lst (Rs.map bP)), .val (.lst (Rs.map BD)), .val (.int (H : Nat)), .val (WD Rs), .val (.lst (Rs.map bP)), c8, c9, c10, c11, .un, .un, .un, .un, .un] (Rs.map bP) m = .ok (Rs.map fun b => .str (S (bt b))) m := by
    refine lcL_all fun x hx => ⟨[.val (.scr ns), .val (.loc 0), .val (.int i), .val (.lst (Rs.map bP)), .val (.lst (Rs.map BD)), .val (.int (H : Nat)), .val (WD Rs), .val (.lst (Rs.map bP)), c8, c9, c10, c11, .un, .un, .un, .val (bP x), .un], rfl, rfl, ?_⟩
    have oB := (o.sb x hx).ok
    have z1 : ((x.l : Nat) : Int).natAbs.log2 < 1920 := by
      show x.l.log2 < 1920
      have := oB.lh; have := oB.h; have := Nat.log2_le_self x.l; omega
    have z2 : ((x.h : Nat) : Int).natAbs.log2 < 1920 := by
      show x.h.log2 < 1920
      have := oB.h; have := Nat.log2_le_self x.h; omega
    have z3 : ((x.k : Nat) : Int).natAbs.log2 < 1920 := by
      show x.k.log2 < 1920
      have := oB.k; have := Nat.log2_le_self x.k; omega
    have s1 := fun ρ => g_str2i (ρ := ρ) (m := m) z1
    have s2 := fun ρ => g_str2i (ρ := ρ) (m := m) z2
    have s3 := fun ρ => g_str2i (ρ := ρ) (m := m) z3
    have sh := fun ρ => shown oB (ρ := ρ) (m := m)
    exists "ev", ce3_law_e, w_1, e_lcC, e_lcN, ce2_law_e, s1, s2, s3, sh
  have hl : (Rs.map fun b => Dv.str (S (bt b))).length ≤ 16777216 := by rw [List.length_map]; omega
  have hj := fun ρ => join_t o (ρ := ρ) (m := m)
  have hw : ("Wish(" : Str) = S [87,105,115,104,40] := by decide +kernel
  have hq : (")" : Str) = S [41] := by decide +kernel
  have jl := jt_len o
  have l3 : (S [87,105,115,104,40]).length + (S (jt Rs)).length ≤ 16777216 := by
    rw [S_len, S_len]; simp only [List.length_cons, List.length_nil]; omega
  have l4 : (S ([87,105,115,104,40] ++ jt Rs)).length + (S [41]).length ≤ 16777216 := by
    rw [S_len, S_len]; simp only [List.length_append, List.length_cons, List.length_nil]; omega
  have hT : S ([87,105,115,104,40] ++ jt Rs ++ [41]) = SHW Rs := rfl
  exists "ev", sx9_law_e, w_1, hc, hj, hw, hq, S_cat, hT
theorem stE {ns : List Int} {i : Int} {Rs : List Bd} (o : RsOk Rs) {H : Nat} {μ : Int} (hμ : ∀ ρ m, gMax ρ m (.v (.lst (Is (hs Rs)))) = .ok (.v (.int μ)) m) {b : Bag} {c9 c10 c11 : Cell} : sx8_law [.val (.scr ns), .val (.loc 0), .val (.int i), .val (.lst (Rs.map bP)), .val (.lst (Rs.map BD)), .val (.int (H : Nat)), .val (WD Rs), .val (.lst (Rs.map bP)), .val (.str (SHW Rs)), c9, c10, c11, .un, .un, .un, .un, .un] (BM b) = sx7_law [.val (.scr ns), .val (.loc 0), .val (.int i), .val (.lst (Rs.map bP)), .val (.lst (Rs.map BD)), .val (.int (H : Nat)), .val (WD Rs), .val (.lst (Rs.map bP)), .val (.str (SHW Rs)), .val (.lst [.lst (Rs.map fun b => .str (S (bt b))), .int μ, .int (Rs.length : Nat), .str (SHW Rs)]), c10, c11, .un, .un, .un, .un, .un] (BM b) := by
  have hn := o.n4
  have hc : lcL (mGn 13) mYes ce4_law [.val (.scr ns), .val (.loc 0), .val (.int i), .val (.lst (Rs.map bP)), .val (.lst (Rs.map BD)), .val (.int (H : Nat)), .val (WD Rs), .val (.lst (Rs.map bP)), .val (.str (SHW Rs)), c9, c10, c11, .un, .un, .un, .un, .un] (Rs.map BD) (BM b) = .ok (Rs.map fun b => .str (S (bt b))) (BM b) := by
    refine lcL_all fun x hx => ⟨[.val (.scr ns), .val (.loc 0), .val (.int i), .val (.lst (Rs.map bP)), .val (.lst (Rs.map BD)), .val (.int (H : Nat)), .val (WD Rs), .val (.lst (Rs.map bP)), .val (.str (SHW Rs)), c9, c10, c11, .un, .val (BD x), .un, .un, .un], rfl, rfl, ?_⟩
    have p1 := fun m => b_text (b := x) (m := m)
    exists "ev", ce4_law_e, ins_B, p1
  have hl : (Rs.map fun b => Dv.str (S (bt b))).length ≤ 16777216 := by rw [List.length_map]; omega
  have hl2 : (Rs.map BD).length ≤ 16777216 := by rw [List.length_map]; omega
  have q1 := fun m => w_bands (Bs := Rs) hn (m := m)
  have o1 : ownEnd (0 + 1) (.ok (.v (.loc (0 + 1))) (BM b ++ [some (.lst (Rs.map BD))])) = .ok (.lst (Rs.map BD)) (BM b) := own_ok low_BM (low_bs _)
  have q2 := fun m => w_height hn hμ (m := m)
  have q3 := fun m => w_len (Bs := Rs) hn (m := m)
  have q4 := fun m => w_repr o (m := m)
  exists "ev", sx8_law_e, ins_W, lk_Wb, q1, o1, w_1, hc, q2, q3, q4
theorem stF {ns : List Int} {i : Int} {Rs : List Bd} (o : RsOk Rs) {H : Nat} {μ : Int} (hμ : ∀ ρ m, gMax ρ m (.v (.lst (Is (hs Rs)))) = .ok (.v (.int μ)) m) {m : Mm} {c10 c11 : Cell} : sx7_law [.val (.scr ns), .val (.loc 0), .val (.int i), .val (.lst (Rs.map bP)), .val (.lst (Rs.map BD)), .val (.int (H : Nat)), .val (WD Rs), .val (.lst (Rs.map bP)), .val (.str (SHW Rs)), .val (.lst [.lst (Rs.map fun b => .str (S (bt b))), .int μ, .int (Rs.length : Nat), .str (SHW Rs)]), c10, c11, .un, .un, .un, .un, .un] m = sx6_law [.val (.scr ns), .val (.loc 0), .val (.int i), .val (.lst (Rs.map bP)), .val (.lst (Rs.map BD)), .val (.int (H : Nat)), .val (WD Rs), .val (.lst (Rs.map bP)), .val (.str (SHW Rs)), .val (.lst [.lst (Rs.map fun b => .str (S (bt b))), .int μ, .int (Rs.length : Nat), .str (SHW Rs)]), c10, c11, .un, .un, .un, .un, .un] m := by
  have hn := o.n4
  have hc : lcL (mGn 13) mYes ce4_law [.val (.scr ns), .val (.loc 0), .val (.int i), .val (.lst (Rs.map bP)), .val (.lst (Rs.map BD)), .val (.int (H : Nat)), .val (WD Rs), .val (.lst (Rs.map bP)), .val (.str (SHW Rs)), .val (.lst [.lst (Rs.map fun b => .str (S (bt b))), .int μ, .int (Rs.length : Nat), .str (SHW Rs)]), c10, c11, .un, .un, .un, .un, .un] (Rs.map BD) m = .ok (Rs.map fun b => .str (S (bt b))) m := by
    refine lcL_all fun x hx => ⟨[.val (.scr ns), .val (.loc 0), .val (.int i), .val (.lst (Rs.map bP)), .val (.lst (Rs.map BD)), .val (.int (H : Nat)), .val (WD Rs), .val (.lst (Rs.map bP)), .val (.str (SHW Rs)), .val (.lst [.lst (Rs.map fun b => .str (S (bt b))), .int μ, .int (Rs.length : Nat), .str (SHW Rs)]), c10, c11, .un, .val (BD x), .un, .un, .un], rfl, rfl, ?_⟩
    have p1 := fun m => b_text (b := x) (m := m)
    exists "ev", ce4_law_e, ins_B, p1
  have hl : (Rs.map fun b => Dv.str (S (bt b))).length ≤ 16777216 := by rw [List.length_map]; omega
  have hl2 : (Rs.map BD).length ≤ 16777216 := by rw [List.length_map]; omega
  have hcut : cutD (Rs.map BD) none (some ((Rs.length : Nat) : Int)) = Rs.map BD := by
    rw [cut_take, List.take_of_length_le (by rw [List.length_map]; omega)]
  have q2 := fun m => l_height hn hμ (m := m)
  have lk := fun m => like_told o (μ := μ) (m := m)
  exists "ev", sx7_law_e, hcut, w_1, hc, q2, lk
theorem stG {ns : List Int} {i : Int} {Rs : List Bd} (o : RsOk Rs) {H : Nat} {μ : Int} {b : Bag} {c10 c11 : Cell} : sx6_law [.val (.scr ns), .val (.loc 0), .val (.int i), .val (.lst (Rs.map bP)), .val (.lst (Rs.map BD)), .val (.int (H : Nat)), .val (WD Rs), .val (.lst (Rs.map bP)), .val (.str (SHW Rs)), .val (.lst [.lst (Rs.map fun b => .str (S (bt b))), .int μ, .int (Rs.length : Nat), .str (SHW Rs)]), c10, c11, .un, .un, .un, .un, .un] (BM b) = sx5_law [.val (.scr ns), .val (.loc 0), .val (.int i), .val (.lst (Rs.map bP)), .val (.lst (Rs.map BD)), .val (.int (H : Nat)), .val (WD Rs), .val (.lst (Rs.map bP)), .val (.str (SHW Rs)), .val (.lst [.lst (Rs.map fun b => .str (S (bt b))), .int μ, .int (Rs.length : Nat), .str (SHW Rs)]), c10, c11, .un, .un, .un, .un, .un] (BM b) := by
  have hn := o.n4
  have q1 := fun m => w_bands (Bs := Rs) hn (m := m)
  have o1 : ownEnd (0 + 1) (.ok (.v (.loc (0 + 1))) (BM b ++ [some (.lst (Rs.map BD))])) = .ok (.lst (Rs.map BD)) (BM b) := own_ok low_BM (low_bs _)
  exists "ev", sx6_law_e, ins_W, lk_Wb, q1, o1
theorem ages_lc {ns : List Int} {i : Int} {Rs : List Bd} {H : Nat} {μ : Int} {c10 c11 : Cell} : ∀ (Y : List Int) {b : Bag}, b.Ok → ∃ (A : List Int) (b' : Bag), A.length ≤ Y.length ∧ b'.Ok ∧
    lcL (mGn 16) ct1_law (mVar 16) [.val (.scr ns), .val (.loc 0), .val (.int i), .val (.lst (Rs.map bP)), .val (.lst (Rs.map BD)), .val (.int (H : Nat)), .val (WD Rs), .val (.lst (Rs.map bP)), .val (.str (SHW Rs)), .val (.lst [.lst (Rs.map fun b => .str (S (bt b))), .int μ, .int (Rs.length : Nat), .str (SHW Rs)]), c10, c11, .un, .un, .un, .un, .un] (Is Y) (BM b) = .ok (Is A) (BM b')
  | [], b, hb => ⟨[], b, by simp, hb, rfl⟩
  | y :: Y, b, hb => by
    obtain ⟨r, b1, o1, hr, e1⟩ := pull_spec b hb 3 (by omega) (by omega)
    obtain ⟨A, b', n, o, q⟩ := ages_lc (ns := ns) (i := i) (Rs := Rs) (H := H) (μ := μ) (c10 := c10) (c11 := c11) Y o1
    by_cases h : 0 < r
    · have d : decide ((0 : Int) < ((r : Nat) : Int)) = true := decide_eq_true (by omega)
      refine ⟨y :: A, b', by simp; omega, o, ?_⟩
      rw [is_c, is_c, e_lcC]
      exists "ev", ct1_law_e, e1, d, q
    · have d : decide ((0 : Int) < ((r : Nat) : Int)) = false := decide_eq_false (by omega)
      refine ⟨A, b', by simp; omega, o, ?_⟩
      rw [is_c, e_lcC]
      exists "ev", ct1_law_e, e1, d, q
theorem stH {ns : List Int} {i : Int} {Rs : List Bd} {H : Nat} {μ : Int} {b : Bag} (hb : b.Ok) {c10 c11 : Cell} : ∃ (A : List Int) (b' : Bag), A.length ≤ 9 ∧ b'.Ok ∧ sx5_law [.val (.scr ns), .val (.loc 0), .val (.int i), .val (.lst (Rs.map bP)), .val (.lst (Rs.map BD)), .val (.int (H : Nat)), .val (WD Rs), .val (.lst (Rs.map bP)), .val (.str (SHW Rs)), .val (.lst [.lst (Rs.map fun b => .str (S (bt b))), .int μ, .int (Rs.length : Nat), .str (SHW Rs)]), c10, c11, .un, .un, .un, .un, .un] (BM b) = sx4_law [.val (.scr ns), .val (.loc 0), .val (.int i), .val (.lst (Rs.map bP)), .val (.lst (Rs.map BD)), .val (.int (H : Nat)), .val (WD Rs), .val (.lst (Rs.map bP)), .val (.str (SHW Rs)), .val (.lst [.lst (Rs.map fun b => .str (S (bt b))), .int μ, .int (Rs.length : Nat), .str (SHW Rs)]), .val (.lst (Is A)), c11, .un, .un, .un, .un, .un] (BM b') := by
  obtain ⟨Y, b1, n1, o1, e1⟩ := l_mixed (e := fun i : Int => Dv.int i) (xs := [0, 1, 2, 3, 4, 5, 6, 7, 8]) (by simp) hb
  obtain ⟨A, b2, n2, o2, e2⟩ := ages_lc (ns := ns) (i := i) (Rs := Rs) (H := H) (μ := μ) (c10 := c10) (c11 := c11) Y o1
  have n1 : Y.length = 9 := n1
  refine ⟨A, b2, by omega, o2, ?_⟩
  have h9 : (rngD 0 (9 : Int).toNat) = [.int 0, .int 1, .int 2, .int 3, .int 4, .int 5, .int 6, .int 7, .int 8] := rfl
  have hr : ∀ ρ m, mLstR (mC (.int 9)) ρ m = .ok (.lst [.int 0, .int 1, .int 2, .int 3, .int 4, .int 5, .int 6, .int 7, .int 8]) m := fun ρ m => rfl
  have e1 : m_l_mixed [.loc 0, .lst [.int 0, .int 1, .int 2, .int 3, .int 4, .int 5, .int 6, .int 7, .int 8]] (BM b) = .ok (.lst (Is Y)) (BM b1) := e1
  have hA : (Is A).length ≤ 16777216 := by unfold Is; rw [List.length_map]; omega
  have hY : (Is Y).length ≤ 16777216 := by unfold Is; rw [List.length_map]; omega
  exists "ev", sx5_law_e, hr, e1, w_1, e2
theorem stI {ns : List Int} {i : Int} {Rs : List Bd} (o : RsOk Rs) {H : Nat} {μ : Int} {A : List Int} (hA : A.length ≤ 9) {m : Mm} {c11 : Cell} : sx4_law [.val (.scr ns), .val (.loc 0), .val (.int i), .val (.lst (Rs.map bP)), .val (.lst (Rs.map BD)), .val (.int (H : Nat)), .val (WD Rs), .val (.lst (Rs.map bP)), .val (.str (SHW Rs)), .val (.lst [.lst (Rs.map fun b => .str (S (bt b))), .int μ, .int (Rs.length : Nat), .str (SHW Rs)]), .val (.lst (Is A)), c11, .un, .un, .un, .un, .un] m = sx3_law [.val (.scr ns), .val (.loc 0), .val (.int i), .val (.lst (Rs.map bP)), .val (.lst (Rs.map BD)), .val (.int (H : Nat)), .val (WD Rs), .val (.lst (Rs.map bP)), .val (.str (SHW Rs)), .val (.lst [.lst (Rs.map fun b => .str (S (bt b))), .int μ, .int (Rs.length : Nat), .str (SHW Rs)]), .val (.lst (Is A)), c11, .un, .un, .un, .un, .un] m := by
  have hn := o.n4
  have hA1 : (Is A).length ≤ 16777216 := by unfold Is; rw [List.length_map]; omega
  have q1 := fun m => w_hold (Bs := Rs) hn hA (.inl rfl) (m := m)
  have q2 : ∀ m, m_Wish_holds_1_ages [WD Rs, .tup (Is A)] m = .ok (.bl (Rs.all fun b => hold b (gd A))) m := fun m => w_hold (Bs := Rs) hn hA (.inr rfl) (m := m)
  have q3 := fun m => granted (Bs := Rs) hn hA (m := m)
  have t2 : (2 : Int).toNat = 2 := rfl
  have lk : ∀ (x : Bool) (m : Mm), m_l_like [.lst [.bl x, .bl x], .lst [.bl x, .bl x]] m = .ok (.bl true) m := fun x m => like_same (by rfl)
  exists "ev", sx4_law_e, ins_W, lk_Wh, q1, q2, q3, t2, List.replicate_succ, List.replicate_zero, List.flatten_cons, List.flatten_nil, List.append_nil, List.cons_append, List.nil_append, lk
end G
set_option Elab.async false
set_option linter.all false
set_option autoImplicit false
set_option maxRecDepth 100000
set_option maxHeartbeats 8000000
namespace G
open PySem L2 M3 SX
abbrev CNS : List Str := ["BadNumber", "BadCount"]
theorem ex_any {cn : Str} {d : Dv} (hc : cn ∈ CNS) (hf : fldOf cn = some "given") : exTup CNS (excV cn cn "given" d) = some (.tup [.str cn, d]) := by
  have h1 : List.lookup ("code" : Str) ([("given", d), ("code", .str cn)] : List (Str × Dv)) = some (.str cn) := by rw [lk_ne (by decide +kernel), lk_eq]
  have h2 : List.lookup ("given" : Str) ([("given", d), ("code", .str cn)] : List (Str × Dv)) = some d := by rw [lk_eq]
  show (if cn ∈ CNS then (match List.lookup ("code" : Str) ([("given", d), ("code", .str cn)] : List (Str × Dv)) with
    | some (.str code) => (match fldOf code with
      | some fl => (List.lookup fl ([("given", d), ("code", .str cn)] : List (Str × Dv))).map fun d => Dv.tup [.str code, d]
      | none => some (.tup [.str code]))
    | _ => none) else none) = _
  rw [if_pos hc, h1]
  show (match fldOf cn with
      | some fl => (List.lookup fl ([("given", d), ("code", .str cn)] : List (Str × Dv))).map fun d => Dv.tup [.str cn, d]
      | none => some (.tup [.str cn])) = _
  rw [hf]
  show (List.lookup ("given" : Str) ([("given", d), ("code", .str cn)] : List (Str × Dv))).map _ = _
  rw [h2]; rfl
theorem fld_g : ∀ cn ∈ CNS, fldOf cn = some "given" := fun cn h => by
  simp only [CNS, List.mem_cons, List.not_mem_nil, or_false] at h
  rcases h with rfl | rfl
  · exact if_pos (by simp)
  · exact if_pos (by simp)
theorem kTz_N {z : Int} {m : Mm} : kTz CNS (.ex (xN z) m) = .ok (.tup [.str "BadNumber", .int z]) m := kTz_ex (ex_any (by simp) (fld_g _ (by simp)))
theorem kTz_C {z : Int} {m : Mm} : kTz CNS (.ex (xC z) m) = .ok (.tup [.str "BadCount", .int z]) m := kTz_ex (ex_any (by simp) (fld_g _ (by simp)))
theorem eq_two {Rs : List Bd} {x y : Bd} {r : List Bd} (h : Rs = x :: y :: r) {m : Mm} : m_Wish_DeqD [WD (x :: y :: r), WD [y, x]] m = .ok (.bl (two (x :: y :: r))) m := by
  cases r with
  | nil =>
    have q := w_eq (Bs := [x, y]) (Cs := [y, x]) (m := m) (peq rfl)
    rw [q]
    have e : (S (bt y) == S (bt x)) = (S (bt x) == S (bt y)) := Bool.beq_comm
    show M3.Rs.ok (Dv.bl ((S (bt x) == S (bt y)) && ((S (bt y) == S (bt x)) && true))) m = _
    rw [e]
    show _ = M3.Rs.ok (Dv.bl (S (bt x) == S (bt y))) m
    cases (S (bt x) == S (bt y)) <;> rfl
  | cons z r => rw [w_eqn (by simp)]; rfl
theorem ne_same {H : Int} {ρ : Sl} {m : Mm} : gNe ρ m (.v (.tup [.str "BadNumber", .int H])) (.v (.tup [.str "BadNumber", .int H])) = .ok (.v (.bl false)) m := by
  have s1 : PyData.strOk ("BadNumber" : Str) = true := by decide +kernel
  have sh : SeqAt.shaped (.tuple [.str "BadNumber", .int H]) = true := by simp [SeqAt.shaped, PyData.canLay0, PyData.canLayAll0, PyData.depth, PyData.depthAll, s1]
  rw [g_ne_py (P := .tuple [.str "BadNumber", .int H]) (Q := .tuple [.str "BadNumber", .int H]) (.inl rfl) rfl rfl sh sh]
  have : PyData.eqv (.tuple [.str "BadNumber", .int H]) (.tuple [.str "BadNumber", .int H]) = true := by simp [PyData.eqv, PyData.eqvAll]
  rw [this]; rfl
theorem okm_BM {b : Bag} : okMm (BM b) = true := rfl
theorem stJ {ns : List Int} {i : Int} {Rs : List Bd} (o : RsOk Rs) {H : Nat} {μ : Int} {A : List Int} {b : Bag} {c11 : Cell} : sx3_law [.val (.scr ns), .val (.loc 0), .val (.int i), .val (.lst (Rs.map bP)), .val (.lst (Rs.map BD)), .val (.int (H : Nat)), .val (WD Rs), .val (.lst (Rs.map bP)), .val (.str (SHW Rs)), .val (.lst [.lst (Rs.map fun b => .str (S (bt b))), .int μ, .int (Rs.length : Nat), .str (SHW Rs)]), .val (.lst (Is A)), c11, .un, .un, .un, .un, .un] (BM b) = sx2_law [.val (.scr ns), .val (.loc 0), .val (.int i), .val (.lst (Rs.map bP)), .val (.lst (Rs.map BD)), .val (.int (H : Nat)), .val (WD Rs), .val (.lst (Rs.map bP)), .val (.str (SHW Rs)), .val (.lst [.lst (Rs.map fun b => .str (S (bt b))), .int μ, .int (Rs.length : Nat), .str (SHW Rs)]), .val (.lst (Is A)), .val (.lst [.bl false, .bl (two Rs), .bl false, .bl true]), .un, .un, .un, .un, .un] (BM b) := by
  have hn := o.n4
  have hm := o.n2
  have hw := o.w
  match Rs, hn, hm, hw with
  | x :: y :: r, hn, _, hw =>
    have q1 := fun m => w_bands (Bs := x :: y :: r) hn (m := m)
    have o1 : ownEnd (0 + 1) (.ok (.v (.loc (0 + 1))) (BM b ++ [some (.lst ((x :: y :: r).map BD))])) = .ok (.lst ((x :: y :: r).map BD)) (BM b) := own_ok low_BM (low_bs _)
    have wx : WOk [x] := ⟨fun b hb => hw.ok b (List.mem_cons.mpr (.inl (by simpa using hb))), by simp, by simp, fun b hb => hw.h6 b (List.mem_cons.mpr (.inl (by simpa using hb)))⟩
    have wyx : WOk [y, x] := by
      have w2 := hw.two
      have hm : ∀ b ∈ [y, x], b ∈ [x, y] := fun b hb => by
        simp only [List.mem_cons, List.not_mem_nil, or_false] at hb ⊢
        exact hb.symm
      exact ⟨fun b hb => w2.ok b (hm b hb), by simp, by simp, fun b hb => w2.h6 b (hm b hb)⟩
    have m1 := wish1 wx
    have m2 := wish2 wyx
    have p1 : pureL [BD x] = true := rfl
    have p2 : pureL [BD y, BD x] = true := rfl
    have e1 := fun m => w_eqn (Bs := x :: y :: r) (Cs := [x]) (m := m) (by simp)
    have e2 := fun m => eq_two (x := x) (y := y) (r := r) rfl (m := m)
    have e3 := fun m => w_eqs (Bs := x :: y :: r) (z := SHW (x :: y :: r)) (m := m)
    have hl : (BD x :: BD y :: r.map BD).length ≤ 16777216 := by simp at hn ⊢; omega
    have o2 : ownEnd (0 + 1) (.ok (.v (.loc (0 + 1))) [some (bagO b), some (.lst ((x :: y :: r).map BD))]) = .ok (.lst ((x :: y :: r).map BD)) (BM b) := o1
    simp only [List.map_cons] at q1 o2 ⊢
    exists "ev", sx3_law_e, ins_W, lk_Wb, q1, o2, at_0, at_1, m1, m2, p1, p2, e1, e2, e3, List.cons_append, List.nil_append, beq_self_eq_true
  | [], _, hm, _ => simp at hm
  | [x], _, hm, _ => simp at hm
theorem lm_ex {ns : List Int} {i : Int} {Rs : List Bd} (o : RsOk Rs) {H : Nat} (hH : H = 7 ∨ H = 59) {μ : Int} {A : List Int} {m : Mm} : lm1_law [.val (.scr ns), .val (.loc 0), .val (.int i), .val (.lst (Rs.map bP)), .val (.lst (Rs.map BD)), .val (.int (H : Nat)), .val (WD Rs), .val (.lst (Rs.map bP)), .val (.str (SHW Rs)), .val (.lst [.lst (Rs.map fun b => .str (S (bt b))), .int μ, .int (Rs.length : Nat), .str (SHW Rs)]), .val (.lst (Is A)), .val (.lst [.bl false, .bl (two Rs), .bl false, .bl true]), .un, .un, .un, .un, .un] m = .ex (xN (H : Nat)) m := by
  have hm := o.n2
  have hw := o.w
  match Rs, hm, hw with
  | x :: y :: r, _, hw =>
    have b1 : ∀ m, mkEnd m (m_Band_DinitD_3 [.loc 0, .int 3, .int (H : Nat)] [some (.ins "Band" [])]) = .ok (.ins "Band" (bF ⟨3, H, 1⟩)) m := band_make3 (b := ⟨3, H, 1⟩) ⟨by show 3 ≤ H; omega, by show H ≤ 59; omega, by show 1 ≤ 1; omega, by show 1 ≤ 20; omega⟩ rfl
    have b2 : ∀ m, mkEnd m (m_Band_DinitD_3 [.loc 0, .int 0, .int 40] [some (.ins "Band" [])]) = .ok (.ins "Band" (bF ⟨0, 40, 1⟩)) m := band_make3 (b := ⟨0, 40, 1⟩) ⟨by decide, by decide, by decide, by decide⟩ rfl
    have wh : ∀ m, mkEnd m (m_Wish_DinitD_v4 [.loc 0, BD x, BD ⟨3, H, 1⟩, BD ⟨0, 40, 1⟩] [oW]) = .ex (xN (H : Nat)) m := wish_high (x := ⟨3, H, 1⟩) (hw.h6 x List.mem_cons_self) (by show ¬ H ≤ 6; omega)
    have p1 : pureL [Dv.int 3, .int (H : Nat)] = true := rfl
    have p2 : pureL [Dv.int 0, .int 40] = true := rfl
    have p3 : pureL [BD x, BD ⟨3, H, 1⟩, BD ⟨0, 40, 1⟩] = true := rfl
    simp only [List.map_cons]
    exists "ev", lm1_law_e, at_0, b1, b2, p1, p2, p3, wh
  | [], hm, _ => simp at hm
  | [x], hm, _ => simp at hm
theorem stK {ns : List Int} {i : Int} {Rs : List Bd} (o : RsOk Rs) {H : Nat} (hH : H = 7 ∨ H = 59) {μ : Int} {A : List Int} {b : Bag} : sx2_law [.val (.scr ns), .val (.loc 0), .val (.int i), .val (.lst (Rs.map bP)), .val (.lst (Rs.map BD)), .val (.int (H : Nat)), .val (WD Rs), .val (.lst (Rs.map bP)), .val (.str (SHW Rs)), .val (.lst [.lst (Rs.map fun b => .str (S (bt b))), .int μ, .int (Rs.length : Nat), .str (SHW Rs)]), .val (.lst (Is A)), .val (.lst [.bl false, .bl (two Rs), .bl false, .bl true]), .un, .un, .un, .un, .un] (BM b) = .nx [.val (.scr ns), .val (.loc 0), .val (.int i), .val (.lst (Rs.map bP)), .val (.lst (Rs.map BD)), .val (.int (H : Nat)), .val (WD Rs), .val (.lst (Rs.map bP)), .val (.str (SHW Rs)), .val (.lst [.lst (Rs.map fun b => .str (S (bt b))), .int μ, .int (Rs.length : Nat), .str (SHW Rs)]), .val (.lst (Is A)), .val (.lst [.bl false, .bl (two Rs), .bl false, .bl true]), .un, .un, .un, .un, .un] (BM b) := by
  have lx := fun m => lm_ex (ns := ns) (i := i) o hH (μ := μ) (A := A) (m := m) 
  have ne := fun ρ m => ne_same (H := ((H : Nat) : Int)) (ρ := ρ) (m := m)
  have lk : ∀ (x : Bool) (m : Mm), m_l_like [.lst [.bl false, .bl x, .bl false, .bl true], .lst [.bl false, .bl x, .bl false, .bl true]] m = .ok (.bl true) m := fun x m => like_same (by rfl)
  have f1 : sx1_law [.val (.scr ns), .val (.loc 0), .val (.int i), .val (.lst (Rs.map bP)), .val (.lst (Rs.map BD)), .val (.int (H : Nat)), .val (WD Rs), .val (.lst (Rs.map bP)), .val (.str (SHW Rs)), .val (.lst [.lst (Rs.map fun b => .str (S (bt b))), .int μ, .int (Rs.length : Nat), .str (SHW Rs)]), .val (.lst (Is A)), .val (.lst [.bl false, .bl (two Rs), .bl false, .bl true]), .un, .un, .un, .un, .un] (BM b) = .nx [.val (.scr ns), .val (.loc 0), .val (.int i), .val (.lst (Rs.map bP)), .val (.lst (Rs.map BD)), .val (.int (H : Nat)), .val (WD Rs), .val (.lst (Rs.map bP)), .val (.str (SHW Rs)), .val (.lst [.lst (Rs.map fun b => .str (S (bt b))), .int μ, .int (Rs.length : Nat), .str (SHW Rs)]), .val (.lst (Is A)), .val (.lst [.bl false, .bl (two Rs), .bl false, .bl true]), .un, .un, .un, .un, .un] (BM b) := by
    exists "ev", sx1_law_e, okm_BM, Bool.and_self, lx, kTz_N, ne
  have hn := o.n4
  have hm := o.n2
  match Rs, hn, hm with
  | [x, y], hn, _ =>
    have be := fun m => b_eq (b := x) (c := y) (m := m)
    have d2 : ((((0 + 1 + 1 : Nat) : Int)) == 2) = true := rfl
    have ht : two [x, y] = (S (bt x) == S (bt y)) := rfl
    rw [ht] at f1 ⊢
    simp only [List.map_cons, List.map_nil] at f1 ⊢
    exists "ev", sx2_law_e, at_0, at_1, be, d2, lk
    exact f1
  | x :: y :: z :: r, hn, _ =>
    have d2 : ((((r.length + 1 + 1 + 1 : Nat) : Int)) == 2) = false := by
      rw [beq_eq_false_iff_ne]; omega
    have ht : two (x :: y :: z :: r) = false := rfl
    rw [ht] at f1 ⊢
    simp only [List.map_cons] at f1 ⊢
    exists "ev", sx2_law_e, at_0, at_1, d2, lk
    exact f1
  | [], _, hm => simp at hm
  | [x], _, hm => simp at hm
def P4 (c : Cell) : Prop := ∃ Rs : List Bd, RsOk Rs ∧ c = .val (.lst (Rs.map BD))
theorem turn {ns : List Int} {i : Int} {b : Bag} (hb : b.Ok) {c3 c4 c5 c6 c7 c8 c9 c10 c11 : Cell} : ∃ (b' : Bag) (d3 d4 d5 d6 d7 d8 d9 d10 d11 : Cell), b'.Ok ∧ P4 d4 ∧ [d3, d4, d5, d6, d7, d8, d9, d10, d11].all okCl = true ∧ lp1_law [.val (.scr ns), .val (.loc 0), .val (.int i), c3, c4, c5, c6, c7, c8, c9, c10, c11, .un, .un, .un, .un, .un] (BM b) = .nx [.val (.scr ns), .val (.loc 0), .val (.int i), d3, d4, d5, d6, d7, d8, d9, d10, d11, .un, .un, .un, .un, .un] (BM b') := by
  obtain ⟨Rs, b1, oR, o1, e1⟩ := stA (ns := ns) (i := i) hb (c3 := c3) (c4 := c4) (c5 := c5) (c6 := c6) (c7 := c7) (c8 := c8) (c9 := c9) (c10 := c10) (c11 := c11)
  obtain ⟨H, b2, hH, o2, e2⟩ := stB (ns := ns) (i := i) oR o1 (c4 := c4) (c5 := c5) (c6 := c6) (c7 := c7) (c8 := c8) (c9 := c9) (c10 := c10) (c11 := c11)
  have e3 := stC (ns := ns) (i := i) oR (H := H) (m := BM b2) (c6 := c6) (c7 := c7) (c8 := c8) (c9 := c9) (c10 := c10) (c11 := c11)
  have e4 := stD (ns := ns) (i := i) oR (H := H) (m := BM b2) (c8 := c8) (c9 := c9) (c10 := c10) (c11 := c11)
  obtain ⟨μ, hμ⟩ := max_h (Bs := Rs) (by have := oR.n2; omega)
  have e5 := stE (ns := ns) (i := i) oR (H := H) hμ (b := b2) (c9 := c9) (c10 := c10) (c11 := c11)
  have e6 := stF (ns := ns) (i := i) oR (H := H) hμ (m := BM b2) (c10 := c10) (c11 := c11)
  have e7 := stG (ns := ns) (i := i) oR (H := H) (μ := μ) (b := b2) (c10 := c10) (c11 := c11)
  obtain ⟨A, b3, hA, o3, e8⟩ := stH (ns := ns) (i := i) (Rs := Rs) (H := H) (μ := μ) o2 (c10 := c10) (c11 := c11)
  have e9 := stI (ns := ns) (i := i) oR (H := H) (μ := μ) hA (m := BM b3) (c11 := c11)
  have e10 := stJ (ns := ns) (i := i) oR (H := H) (μ := μ) (A := A) (b := b3) (c11 := c11)
  have e11 := stK (ns := ns) (i := i) oR hH (μ := μ) (A := A) (b := b3)
  refine ⟨b3, _, _, _, _, _, _, _, _, _, o3, ⟨Rs, oR, rfl⟩, ?_, (((((((((e1.trans e2).trans e3).trans e4).trans e5).trans e6).trans e7).trans e8).trans e9).trans e10).trans e11⟩
  rfl
theorem turns {ns : List Int} : ∀ (l : List Int) {b : Bag} {c2 c3 c4 c5 c6 c7 c8 c9 c10 c11 : Cell}, b.Ok → (l = [] → P4 c4) → [c2, c3, c4, c5, c6, c7, c8, c9, c10, c11].all okCl = true → ∃ (b' : Bag) (c2' c3' c4' c5' c6' c7' c8' c9' c10' c11' : Cell), b'.Ok ∧ P4 c4' ∧ [c2', c3', c4', c5', c6', c7', c8', c9', c10', c11'].all okCl = true ∧
    forL (mGn 2) lp1_law (l.map .int) [.val (.scr ns), .val (.loc 0), c2, c3, c4, c5, c6, c7, c8, c9, c10, c11, .un, .un, .un, .un, .un] (BM b) = .nx [.val (.scr ns), .val (.loc 0), c2', c3', c4', c5', c6', c7', c8', c9', c10', c11', .un, .un, .un, .un, .un] (BM b')
  | [], b, c2, c3, c4, c5, c6, c7, c8, c9, c10, c11, hb, h4, hc => ⟨b, c2, c3, c4, c5, c6, c7, c8, c9, c10, c11, hb, h4 rfl, hc, rfl⟩
  | i :: l, b, c2, c3, c4, c5, c6, c7, c8, c9, c10, c11, hb, _, hc => by
    obtain ⟨b1, d3, d4, d5, d6, d7, d8, d9, d10, d11, o1, p4, hd, e⟩ := turn (ns := ns) (i := i) hb (c3 := c3) (c4 := c4) (c5 := c5) (c6 := c6) (c7 := c7) (c8 := c8) (c9 := c9) (c10 := c10) (c11 := c11)
    have hd2 : [Cell.val (.int i), d3, d4, d5, d6, d7, d8, d9, d10, d11].all okCl = true := by
      show (okCl (.val (.int i)) && [d3, d4, d5, d6, d7, d8, d9, d10, d11].all okCl) = true
      rw [hd]; rfl
    obtain ⟨b', c2', c3', c4', c5', c6', c7', c8', c9', c10', c11', o, p, hc', h⟩ := turns (ns := ns) l (c2 := .val (.int i)) (c3 := d3) (c4 := d4) (c5 := d5) (c6 := d6) (c7 := d7) (c8 := d8) (c9 := d9) (c10 := d10) (c11 := d11) o1 (fun _ => p4) hd2
    refine ⟨b', c2', c3', c4', c5', c6', c7', c8', c9', c10', c11', o, p, hc', ?_⟩
    rw [← h, List.map_cons, e_forC]
    show kF1 _ _ _ _ (some _) = _
    rw [kF1_some]
    have e : lp1_law (List.set [.val (.scr ns), .val (.loc 0), c2, c3, c4, c5, c6, c7, c8, c9, c10, c11, .un, .un, .un, .un, .un] 2 (.val (.int i))) (BM b) = _ := e
    rw [e, kF2_nx]
theorem eq_res {ρ : Sl} {m : Mm} : gEq ρ m (.v (.lst [.tup [.str "BadCount", .int 0], .tup [.str "BadCount", .int 5]])) (.v (.lst [.tup [.str "BadCount", .int 0], .tup [.str "BadCount", .int 5]])) = .ok (.v (.bl true)) m := by
  have s1 : PyData.strOk ("BadCount" : Str) = true := by decide +kernel
  have sh : SeqAt.shaped (.list [.tuple [.str "BadCount", .int 0], .tuple [.str "BadCount", .int 5]]) = true := by simp [SeqAt.shaped, PyData.canLay0, PyData.canLayAll0, PyData.depth, PyData.depthAll, s1]
  rw [g_eq_py (P := .list [.tuple [.str "BadCount", .int 0], .tuple [.str "BadCount", .int 5]]) (Q := .list [.tuple [.str "BadCount", .int 0], .tuple [.str "BadCount", .int 5]]) (.inl rfl) rfl rfl sh sh]
  have : PyData.eqv (.list [.tuple [.str "BadCount", .int 0], .tuple [.str "BadCount", .int 5]]) (.list [.tuple [.str "BadCount", .int 0], .tuple [.str "BadCount", .int 5]]) = true := by simp [PyData.eqv, PyData.eqvAll]
  rw [this]
abbrev B6 : Bd := ⟨6, 6, 1⟩
abbrev B9 : Bd := ⟨0, 9, 1⟩
theorem B6_ok : B6.Ok := ⟨by decide, by decide, by decide, by decide⟩
theorem B9_ok : B9.Ok := ⟨by decide, by decide, by decide, by decide⟩
theorem asks {ns : List Int} {Rs : List Bd} (oR : RsOk Rs) {b : Bag} {c2 c3 c5 c6 c7 c8 c9 c10 c11 : Cell} (hc : [c2, c3, c5, c6, c7, c8, c9, c10, c11].all okCl = true) : sx15_law [.val (.scr ns), .val (.loc 0), c2, c3, .val (.lst (Rs.map BD)), c5, c6, c7, c8, c9, c10, c11, .un, .un, .un, .un, .un] (BM b) = .rt (.bl true) (BM b) := by
  have ok : okM [.val (.scr ns), .val (.loc 0), c2, c3, .val (.lst (Rs.map BD)), c5, c6, c7, c8, c9, c10, c11, .un, .un, .un, .un, .un] (BM b) = true := by
    have hm : (BM b).all okOb = true := rfl
    unfold okM
    rw [hm, Bool.true_and]
    simp only [List.all_cons, List.all_nil, Bool.and_eq_true, Bool.and_true] at hc ⊢
    simp only [hc, true_and, and_true]
    exact ⟨rfl, rfl, rfl, rfl, rfl, rfl, rfl, rfl⟩
  have er := fun ρ m => eq_res (ρ := ρ) (m := m)
  have x0 : ∀ m, mkEnd m (m_Wish_DinitD_v1 [.loc 0] [oW]) = .ex (xC 0) m := wish_count (Bs := []) (by simp) (by simp)
  have p0 : pureL [] = true := rfl
  have b9 : ∀ m, mkEnd m (m_Band_DinitD_3 [.loc 0, .int 0, .int 9] [some (.ins "Band" [])]) = .ok (.ins "Band" (bF B9)) m := band_make3 B9_ok rfl
  have b6 : ∀ m, mkEnd m (m_Band_DinitD_3 [.loc 0, .int 6, .int 6] [some (.ins "Band" [])]) = .ok (.ins "Band" (bF B6)) m := band_make3 B6_ok rfl
  have p9 : pureL [Dv.int 0, .int 9] = true := rfl
  have p6 : pureL [Dv.int 6, .int 6] = true := rfl
  have pw : pureL [BD B6] = true := rfl
  have hm := oR.n2
  have w6 := wish1 (a := B6) ⟨fun b hb => by rcases List.mem_singleton.mp hb with rfl; exact B6_ok, by simp, by simp, fun b hb => by rcases List.mem_singleton.mp hb with rfl; decide⟩
  have h6 := fun m => w_height (Bs := [B6]) (by simp) (μ := 6) (fun ρ m => rfl) (m := m)
  rw [sx15_law_e]
  refine mLams_eq ok fun a ps => ?_
  match Rs, hm with
  | x :: y :: r, _ =>
    have x5 : ∀ m, mkEnd m (m_Wish_DinitD_v6 [.loc 0, BD x, BD x, BD x, BD x, BD B9] [oW]) = .ex (xC 5) m := wish_count (Bs := [x, x, x, x, B9]) (by simp) (by simp)
    have p5 : pureL [BD x, BD x, BD x, BD x, BD B9] = true := rfl
    have e6 : ((6 : Int) == 6) = true := rfl
    simp only [List.map_cons]
    exists "ev", lm2_law_e, lm3_law_e, at_0, x0, x5, p0, p5, b9, b6, p9, p6, pw, w6, h6, ins_W, kTz_C, er, e6, List.nil_append, List.cons_append
  | [], hm => simp at hm
  | [x], hm => simp at hm
theorem law_ok (ns : List Int) (h : ns.length ≤ 63) : ∃ m, m_law [.scr ns] [] = .ok (.bl true) m := by
  obtain ⟨b, o, e⟩ := opened ns h
  obtain ⟨b', c2', c3', c4', c5', c6', c7', c8', c9', c10', c11', o', ⟨Rs, oR, e4⟩, hc, ht⟩ := turns (ns := ns) [0, 1, 2, 3, 4] (b := b) (c2 := .un) (c3 := .un) (c4 := .un) (c5 := .un) (c6 := .un) (c7 := .un) (c8 := .un) (c9 := .un) (c10 := .un) (c11 := .un) o (fun h => by cases h) rfl
  subst e4
  have hl := asks (ns := ns) oR (b := b') (c2 := c2') (c3 := c3') (c5 := c5') (c6 := c6') (c7 := c7') (c8 := c8') (c9 := c9') (c10 := c10') (c11 := c11') (by
    simp only [List.all_cons, List.all_nil, Bool.and_eq_true, Bool.and_true] at hc ⊢
    simp only [hc, true_and, and_true])
  refine ⟨BM b', ?_⟩
  rw [u_law]
  have ht : forL (mGn 2) lp1_law [.int 0, .int 1, .int 2, .int 3, .int 4] _ _ = _ := ht
  have h5 : rngD 0 (5 : Int).toNat = [.int 0, .int 1, .int 2, .int 3, .int 4] := rfl
  exists "ev", b_law_e, sx16_law_e, e, h5, ht, hl
end G
open PySem PySem.W PyProof.Rows
set_option maxRecDepth 100000 in
set_option maxHeartbeats 0 in
theorem PySem.Challenge.cw_copyweather_k39_wishes_told_holds : PySem.Challenge.rw_copyweather_k39_wishes_told.Holds := by
  w_on; o_law; k_head; (case hw => w_witness2)
  k_fill
  refine M3.walk3W (l := PySem.Challenge.rw_copyweather_k39_wishes_told) 17 "_law_script" 17 G.b_law ⟨rfl, by decide, by decide⟩ rfl rfl (by decide +kernel) (fun w h Y => PySem.W.km_in_of Y) G.law_ok ?F
  case F =>
    intro w mg fa h KX GG hmg
    refine' G.all_mk KX GG hmg ?a_Band ?pg_Band ?hd_Band ?po_Band ?sa_Band ?mk_Band ?kc_Band ?a_Wish ?pg_Wish ?hd_Wish ?po_Wish ?sa_Wish ?mk_Wish ?kc_Wish ?ty_Band ?ty_Wish ?oc_g_ ?oc_t_ ?ha_Band ?ic_Band ?tc_Band ?ha_Wish ?ic_Wish ?tc_Wish ?mo_Band ?mo_Wish ?a_BadCount ?a_BadNumber ?a_CopyError ?a_NoName ?a_NothingLeft ?x_opq ?x_top ?z_super ?iC_BadCount ?l_BadCount_DinitD ?x1_BadCount ?x2_BadCount ?x3_BadCount ?c_BadCount_DinitD ?x4_BadCount ?x5_BadCount ?x6_BadCount ?x7_BadCount ?x8_BadCount ?xs_BadCount ?tI_BadCount ?kC_BadCount ?eC_BadCount ?tC_BadCount ?n_BadCount_at ?n_BadCount_code ?n_BadCount_given ?n_BadCount_most ?n_BadCount_name ?n_BadCount_state ?ga_BadCount ?gg_BadCount ?hd_BadCount ?em_BadCount ?iC_BadNumber ?l_BadNumber_DinitD ?x1_BadNumber ?x2_BadNumber ?x3_BadNumber ?c_BadNumber_DinitD ?x4_BadNumber ?x5_BadNumber ?x6_BadNumber ?x7_BadNumber ?x8_BadNumber ?xs_BadNumber ?tI_BadNumber ?kC_BadNumber ?eC_BadNumber ?tC_BadNumber ?n_BadNumber_at ?n_BadNumber_code ?n_BadNumber_given ?n_BadNumber_most ?n_BadNumber_name ?n_BadNumber_state ?ga_BadNumber ?gg_BadNumber ?hd_BadNumber ?em_BadNumber ?a_l_fields ?l_l_fields ?c_l_fields ?k_l_fields ?a_l_try ?l_l_try ?c_l_try ?k_l_try ?a_l_tries ?l_l_tries ?c_l_tries ?k_l_tries ?a_l_pull ?l_l_pull ?c_l_pull ?k_l_pull ?a_l_any ?l_l_any ?c_l_any ?k_l_any ?a_l_holds ?l_l_holds ?c_l_holds ?k_l_holds ?a_l_granted ?l_l_granted ?c_l_granted ?k_l_granted ?a_l_height ?l_l_height ?c_l_height ?k_l_height ?a_l_like ?l_l_like ?c_l_like ?k_l_like ?a_check_number ?l_check_number ?c_check_number ?k_check_number ?a_Band_DinitD ?i_Band_DinitD ?l_Band_DinitD ?kw_Band_DinitD_many ?c_Band_DinitD ?k_Band_DinitD ?a_l_made_band ?l_l_made_band ?c_l_made_band ?k_l_made_band ?a_l_mixed ?l_l_mixed ?c_l_mixed ?k_l_mixed ?a_l_opened ?l_l_opened ?c_l_opened ?k_l_opened ?a_l_wish ?l_l_wish ?c_l_wish ?k_l_wish ?a_Wish_bands ?i_Wish_bands ?l_Wish_bands ?c_Wish_bands ?k_Wish_bands ?a_Band_holds ?i_Band_holds ?l_Band_holds ?c_Band_holds ?k_Band_holds ?a_Wish_holds ?i_Wish_holds ?l_Wish_holds ?c_Wish_holds ?k_Wish_holds ?a_Band_high ?g_Band_high ?t_Band_high ?r1_Band_high ?l_Band_high ?c_Band_high ?k_Band_high ?a_Wish_DinitD ?i_Wish_DinitD ?l_Wish_DinitD ?c_Wish_DinitD ?k_Wish_DinitD ?a_Band_DeqD ?i_Band_DeqD ?l_Band_DeqD ?c_Band_DeqD ?k_Band_DeqD ?a_Wish_DeqD ?i_Wish_DeqD ?l_Wish_DeqD ?c_Wish_DeqD ?k_Wish_DeqD ?a_Wish_DlenD ?i_Wish_DlenD ?l_Wish_DlenD ?c_Wish_DlenD ?k_Wish_DlenD ?a_Band_text ?g_Band_text ?t_Band_text ?r1_Band_text ?l_Band_text ?c_Band_text ?k_Band_text ?a_Wish_DreprD ?i_Wish_DreprD ?l_Wish_DreprD ?c_Wish_DreprD ?k_Wish_DreprD ?a_Wish_height ?g_Wish_height ?t_Wish_height ?r1_Wish_height ?l_Wish_height ?c_Wish_height ?k_Wish_height ?a_law ?l_law ?c_law ?cl_law ?p_law ?d_law ?np_law ?n_Band_own_high ?n_Band_own_low ?n_Band_own_many ?n_Band_own_text ?n_Wish_own_bands ?z_all ?z_bool ?z_int ?z_isinstance ?z_len ?z_list ?z_max ?z_range ?z_repr ?z_str ?z_tuple ?a_MOST_AGE ?a_MOST_BANDS ?a_MOST_HEIGHT ?a_MOST_MANY
    (case a_Band => k_is)
    (case pg_Band => k_is)
    (case hd_Band => k_is)
    (case po_Band => k_is)
    (case sa_Band => k_is)
    (case mk_Band => k_is)
    (case kc_Band => k_is)
    (case a_Wish => k_is)
    (case pg_Wish => k_is)
    (case hd_Wish => k_is)
    (case po_Wish => k_is)
    (case sa_Wish => k_is)
    (case mk_Wish => k_is)
    (case kc_Wish => k_is)
    (case ty_Band => k_is)
    (case ty_Wish => k_is)
    (case oc_g_ => k_is)
    (case oc_t_ => k_is)
    (case ha_Band => k_is)
    (case ic_Band => k_is)
    (case tc_Band => k_is)
    (case ha_Wish => k_is)
    (case ic_Wish => k_is)
    (case tc_Wish => k_is)
    (case mo_Band => k_is)
    (case mo_Wish => k_is)
    (case a_BadCount => k_is)
    (case a_BadNumber => k_is)
    (case a_CopyError => k_is)
    (case a_NoName => k_is)
    (case a_NothingLeft => k_is)
    (case x_opq => k_is)
    (case x_top => decide +kernel)
    (case z_super => k_is)
    (case iC_BadCount => k_is)
    (case l_BadCount_DinitD => k_is)
    (case x1_BadCount => k_is)
    (case x2_BadCount => exact rfl)
    (case x3_BadCount => decide +kernel)
    (case c_BadCount_DinitD => k_is)
    (case x4_BadCount => k_is)
    (case x5_BadCount => k_is)
    (case x6_BadCount => ks_is)
    (case x7_BadCount => k_is)
    (case x8_BadCount => k_is)
    (case xs_BadCount => k_is)
    (case tI_BadCount => k_is)
    (case kC_BadCount => k_is)
    (case eC_BadCount => k_is)
    (case tC_BadCount => k_is)
    (case n_BadCount_at => k_is)
    (case n_BadCount_code => k_is)
    (case n_BadCount_given => k_is)
    (case n_BadCount_most => k_is)
    (case n_BadCount_name => k_is)
    (case n_BadCount_state => k_is)
    (case ga_BadCount => k_is)
    (case gg_BadCount => k_is)
    (case hd_BadCount => k_is)
    (case em_BadCount => kts_exm)
    (case iC_BadNumber => k_is)
    (case l_BadNumber_DinitD => k_is)
    (case x1_BadNumber => k_is)
    (case x2_BadNumber => exact rfl)
    (case x3_BadNumber => decide +kernel)
    (case c_BadNumber_DinitD => k_is)
    (case x4_BadNumber => k_is)
    (case x5_BadNumber => k_is)
    (case x6_BadNumber => ks_is)
    (case x7_BadNumber => k_is)
    (case x8_BadNumber => k_is)
    (case xs_BadNumber => k_is)
    (case tI_BadNumber => k_is)
    (case kC_BadNumber => k_is)
    (case eC_BadNumber => k_is)
    (case tC_BadNumber => k_is)
    (case n_BadNumber_at => k_is)
    (case n_BadNumber_code => k_is)
    (case n_BadNumber_given => k_is)
    (case n_BadNumber_most => k_is)
    (case n_BadNumber_name => k_is)
    (case n_BadNumber_state => k_is)
    (case ga_BadNumber => k_is)
    (case gg_BadNumber => k_is)
    (case hd_BadNumber => k_is)
    (case em_BadNumber => kts_exm)
    (case a_l_fields => k_is)
    (case l_l_fields => k_is)
    (case c_l_fields => k_is)
    (case k_l_fields => k_is)
    (case a_l_try => k_is)
    (case l_l_try => k_is)
    (case c_l_try => k_is)
    (case k_l_try => k_is)
    (case a_l_tries => k_is)
    (case l_l_tries => k_is)
    (case c_l_tries => k_is)
    (case k_l_tries => k_is)
    (case a_l_pull => k_is)
    (case l_l_pull => k_is)
    (case c_l_pull => k_is)
    (case k_l_pull => k_is)
    (case a_l_any => k_is)
    (case l_l_any => k_is)
    (case c_l_any => k_is)
    (case k_l_any => k_is)
    (case a_l_holds => k_is)
    (case l_l_holds => k_is)
    (case c_l_holds => k_is)
    (case k_l_holds => k_is)
    (case a_l_granted => k_is)
    (case l_l_granted => k_is)
    (case c_l_granted => k_is)
    (case k_l_granted => k_is)
    (case a_l_height => k_is)
    (case l_l_height => k_is)
    (case c_l_height => k_is)
    (case k_l_height => k_is)
    (case a_l_like => k_is)
    (case l_l_like => k_is)
    (case c_l_like => k_is)
    (case k_l_like => k_is)
    (case a_check_number => k_is)
    (case l_check_number => k_is)
    (case c_check_number => k_is)
    (case k_check_number => k_is)
    (case a_Band_DinitD => k_is)
    (case i_Band_DinitD => k_is)
    (case l_Band_DinitD => k_is)
    (case kw_Band_DinitD_many => k_is)
    (case c_Band_DinitD => k_is)
    (case k_Band_DinitD => k_is)
    (case a_l_made_band => k_is)
    (case l_l_made_band => k_is)
    (case c_l_made_band => k_is)
    (case k_l_made_band => k_is)
    (case a_l_mixed => k_is)
    (case l_l_mixed => k_is)
    (case c_l_mixed => k_is)
    (case k_l_mixed => k_is)
    (case a_l_opened => k_is)
    (case l_l_opened => k_is)
    (case c_l_opened => k_is)
    (case k_l_opened => k_is)
    (case a_l_wish => k_is)
    (case l_l_wish => k_is)
    (case c_l_wish => k_is)
    (case k_l_wish => k_is)
    (case a_Wish_bands => k_is)
    (case i_Wish_bands => k_is)
    (case l_Wish_bands => k_is)
    (case c_Wish_bands => k_is)
    (case k_Wish_bands => k_is)
    (case a_Band_holds => k_is)
    (case i_Band_holds => k_is)
    (case l_Band_holds => k_is)
    (case c_Band_holds => k_is)
    (case k_Band_holds => k_is)
    (case a_Wish_holds => k_is)
    (case i_Wish_holds => k_is)
    (case l_Wish_holds => k_is)
    (case c_Wish_holds => k_is)
    (case k_Wish_holds => k_is)
    (case a_Band_high => k_is)
    (case g_Band_high => k_is)
    (case t_Band_high => k_is)
    (case r1_Band_high => k_is)
    (case l_Band_high => k_is)
    (case c_Band_high => k_is)
    (case k_Band_high => k_is)
    (case a_Wish_DinitD => k_is)
    (case i_Wish_DinitD => k_is)
    (case l_Wish_DinitD => k_is)
    (case c_Wish_DinitD => k_is)
    (case k_Wish_DinitD => k_is)
    (case a_Band_DeqD => k_is)
    (case i_Band_DeqD => k_is)
    (case l_Band_DeqD => k_is)
    (case c_Band_DeqD => k_is)
    (case k_Band_DeqD => k_is)
    (case a_Wish_DeqD => k_is)
    (case i_Wish_DeqD => k_is)
    (case l_Wish_DeqD => k_is)
    (case c_Wish_DeqD => k_is)
    (case k_Wish_DeqD => k_is)
    (case a_Wish_DlenD => k_is)
    (case i_Wish_DlenD => k_is)
    (case l_Wish_DlenD => k_is)
    (case c_Wish_DlenD => k_is)
    (case k_Wish_DlenD => k_is)
    (case a_Band_text => k_is)
    (case g_Band_text => k_is)
    (case t_Band_text => k_is)
    (case r1_Band_text => k_is)
    (case l_Band_text => k_is)
    (case c_Band_text => k_is)
    (case k_Band_text => k_is)
    (case a_Wish_DreprD => k_is)
    (case i_Wish_DreprD => k_is)
    (case l_Wish_DreprD => k_is)
    (case c_Wish_DreprD => k_is)
    (case k_Wish_DreprD => k_is)
    (case a_Wish_height => k_is)
    (case g_Wish_height => k_is)
    (case t_Wish_height => k_is)
    (case r1_Wish_height => k_is)
    (case l_Wish_height => k_is)
    (case c_Wish_height => k_is)
    (case k_Wish_height => k_is)
    (case a_law => k_is)
    (case l_law => k_is)
    (case c_law => k_is)
    (case cl_law => k_is)
    (case p_law => exact rfl)
    (case d_law => kernel_rfl)
    (case np_law => kernel_rfl)
    (case n_Band_own_high => k_is)
    (case n_Band_own_low => k_is)
    (case n_Band_own_many => k_is)
    (case n_Band_own_text => k_is)
    (case n_Wish_own_bands => k_is)
    (case z_all => k_is)
    (case z_bool => k_is)
    (case z_int => k_is)
    (case z_isinstance => k_is)
    (case z_len => k_is)
    (case z_list => k_is)
    (case z_max => k_is)
    (case z_range => k_is)
    (case z_repr => k_is)
    (case z_str => k_is)
    (case z_tuple => k_is)
    (case a_MOST_AGE => k_is)
    (case a_MOST_BANDS => k_is)
    (case a_MOST_HEIGHT => k_is)
    (case a_MOST_MANY => k_is)
