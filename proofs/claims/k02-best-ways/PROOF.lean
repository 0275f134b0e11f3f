import PyProof.Rows.All
import Wide.All
import OpenK.AllK
import Wide.FinOn
import HandS.ForMost
import HandS.Flow
import HandS.Records
import HandS.Deep
import HandS.TupAny
import HandS.TupMul
import HandS.IsInst
import HandS.Wide
import HandS.WideBits
import HandS.Exc
import HandS.TryOnly
import HandS.WordsExc
import HandS.Walk
import HandS.DictComp
import HandS.CallSlots
import HandS.Style
import HandS.Conv
import PyProof.StrOps2
import HandS.WordsDict
import HandS.SetFor
import Wide.Txt2
import HandS.Defaults
import HandS.HeadEnd
import PyProof.ReprLen
import PyProof.ReprRoads
import HandS.Head0
import HandS.Head1
import HandS.Head2
import HandS.HeadHook1
import HandS.HeadHook2
import HandS.HeadHook4
import PyProof.FString2
import PyProof.CallStr
import Wide.Once
import PySem.Challenge.RW_coatrows_k02_best_ways
set_option Elab.async false
set_option linter.all false
set_option maxRecDepth 100000
set_option maxHeartbeats 4000000
/-! Data as trees over the tracked heap: frozen objects never change, owned ones stand at one slot alone. -/
namespace TL
open PySem PySem.Spec PyProof.Rows L2

inductive At where
  | non | bl (b : Bool) | int (i : Int) | str (x : Str)
  deriving DecidableEq
inductive Kd where
  | lst | tup | dK | dT | ins (c : Str) (fs : List Str) | scr | ktp | dKL | dTL
  deriving DecidableEq
inductive D where
  | at (a : At) | nd (k : Kd) (xs : List D)
def At.v : At → V
  | .non => .non
  | .bl b => .bl b
  | .int i => .int i
  | .str x => .str x
/-- what the written part says: objects, module names -/
structure Gm where
  K : PySem.W.Frag
  mg : Str → Option Value
def kD : Key → D
  | .inl i => .at (.int i)
  | .inr x => .at (.str x)

mutual
inductive Rep (Γ : Gm) (G : Hp) : D → V → Prop
  | at (a : At) : Rep Γ G (.at a) a.v
  | lst {p : Addr} {vs : List V} {xs : List D} (h : G p = some (.lst vs)) (r : RepA Γ G xs vs) : Rep Γ G (.nd .lst xs) (.ref p)
  | scr {p : Addr} {vs : List V} {xs : List D} (h : SqL Γ.K G p vs) (r : RepA Γ G xs vs) : Rep Γ G (.nd .scr xs) (.ref p)
  | tup {p : Addr} {vs : List V} {xs : List D} (h : G p = some (.tup vs)) (r : RepA Γ G xs vs) : Rep Γ G (.nd .tup xs) (.ref p)
  | ktp {p : Addr} {vs : List V} {xs : List D} (h : SqT Γ.K G p vs) (r : RepA Γ G xs vs) : Rep Γ G (.nd .ktp xs) (.ref p)
  | dK {p : Addr} {kvs : List (Key × V)} {xs : List D} (h : Rd G p (.dK kvs)) (r : RepK Γ G xs kvs) : Rep Γ G (.nd .dK xs) (.ref p)
  | dT {p : Addr} {kvs : List (List Key × V)} {xs : List D} (h : Rd G p (.dT kvs)) (r : RepT Γ G xs kvs) : Rep Γ G (.nd .dT xs) (.ref p)
  | dKL {p : Addr} {od : Obj} {kvs : List (Key × V)} {xs : List D} (h : G p = some (.frz od (.dK kvs))) (r : RepK Γ G xs kvs) : Rep Γ G (.nd .dKL xs) (.ref p)
  | dTL {p : Addr} {od : Obj} {kvs : List (List Key × V)} {xs : List D} (h : G p = some (.frz od (.dT kvs))) (r : RepT Γ G xs kvs) : Rep Γ G (.nd .dTL xs) (.ref p)
  | ins {p C dx : Addr} {c : Str} {ns : List Str} {vs : List V} {xs : List D} (hm : Γ.mg c = some (.ref C)) (h : G p = some (.ins C dx (ns.zip vs))) (hl : ns.length = vs.length) (r : RepA Γ G xs vs) :
      Rep Γ G (.nd (.ins c ns) xs) (.ref p)
inductive RepA (Γ : Gm) (G : Hp) : List D → List V → Prop
  | nil : RepA Γ G [] []
  | cons {d : D} {v : V} {ds : List D} {vs : List V} (h : Rep Γ G d v) (r : RepA Γ G ds vs) : RepA Γ G (d :: ds) (v :: vs)
inductive RepK (Γ : Gm) (G : Hp) : List D → List (Key × V) → Prop
  | nil : RepK Γ G [] []
  | cons {k : Key} {d : D} {v : V} {ds : List D} {vs : List (Key × V)} (h : Rep Γ G d v) (r : RepK Γ G ds vs) : RepK Γ G (.nd .tup [kD k, d] :: ds) ((k, v) :: vs)
inductive RepT (Γ : Gm) (G : Hp) : List D → List (List Key × V) → Prop
  | nil : RepT Γ G [] []
  | cons {k : List Key} {d : D} {v : V} {ds : List D} {vs : List (List Key × V)} (h : Rep Γ G d v) (r : RepT Γ G ds vs) : RepT Γ G (.nd .tup [.nd .tup (k.map kD), d] :: ds) ((k, v) :: vs)
end

section
variable {Γ : Gm} {G G' H H' : Hp}
def Sub (G G' : Hp) : Prop := ∀ a o, G a = some o → G' a = some o
theorem Sub.refl : Sub G G := fun _ _ h => h
theorem Sub.trans {A B C : Hp} (h : Sub A B) (k : Sub B C) : Sub A C := fun a o e => k a o (h a o e)
theorem Sub.rd (s : Sub G G') {a : Addr} {u : HO} (h : Rd G a u) : Rd G' a u := by
  rcases h with h | ⟨o, h⟩
  · exact .inl (s _ _ h)
  · exact .inr ⟨o, s _ _ h⟩
theorem Sub.sql (s : Sub G G') {K : PySem.W.Frag} {a : Addr} {xs : List V} (h : SqL K G a xs) : SqL K G' a xs := by
  rcases h with h | h
  · exact .inl (s.rd h)
  · exact .inr h
theorem Sub.sqt (s : Sub G G') {K : PySem.W.Frag} {a : Addr} {xs : List V} (h : SqT K G a xs) : SqT K G' a xs := by
  rcases h with h | h
  · exact .inl (s.rd h)
  · exact .inr h
theorem Sub.free (s : Sub G G') {a : Addr} (h : G' a = none) : G a = none := by
  cases e : G a with
  | none => rfl
  | some o =>
    rw [s a o e] at h
    cases h
theorem Sub.new {p : Addr} {o : HO} (h : H p = none) : Sub H (upd H p o) := fun a u e => by
  rw [upd_ne (ne_of_none e h)]
  exact e
mutual
theorem Rep.mono (s : Sub G G') : ∀ {d : D} {v : V}, Rep Γ G d v → Rep Γ G' d v
  | _, _, .at a => .at a
  | _, _, .lst h r => .lst (s _ _ h) (RepA.mono s r)
  | _, _, .scr h r => .scr (s.sql h) (RepA.mono s r)
  | _, _, .tup h r => .tup (s _ _ h) (RepA.mono s r)
  | _, _, .ktp h r => .ktp (s.sqt h) (RepA.mono s r)
  | _, _, .dK h r => .dK (s.rd h) (RepK.mono s r)
  | _, _, .dT h r => .dT (s.rd h) (RepT.mono s r)
  | _, _, .dKL h r => .dKL (s _ _ h) (RepK.mono s r)
  | _, _, .dTL h r => .dTL (s _ _ h) (RepT.mono s r)
  | _, _, .ins hm h hl r => .ins hm (s _ _ h) hl (RepA.mono s r)
theorem RepA.mono (s : Sub G G') : ∀ {d : List D} {v : List V}, RepA Γ G d v → RepA Γ G' d v
  | _, _, .nil => .nil
  | _, _, .cons h r => .cons (Rep.mono s h) (RepA.mono s r)
theorem RepK.mono (s : Sub G G') : ∀ {d : List D} {v : List (Key × V)}, RepK Γ G d v → RepK Γ G' d v
  | _, _, .nil => .nil
  | _, _, .cons h r => .cons (Rep.mono s h) (RepK.mono s r)
theorem RepT.mono (s : Sub G G') : ∀ {d : List D} {v : List (List Key × V)}, RepT Γ G d v → RepT Γ G' d v
  | _, _, .nil => .nil
  | _, _, .cons h r => .cons (Rep.mono s h) (RepT.mono s r)
end
theorem RepA.len : ∀ {d : List D} {v : List V}, RepA Γ G d v → d.length = v.length
  | _, _, .nil => rfl
  | _, _, .cons _ r => by rw [List.length_cons, List.length_cons, r.len]
theorem RepA.get : ∀ {d : List D} {v : List V} {i : Nat} {x : V}, RepA Γ G d v → v[i]? = some x → ∃ e, d[i]? = some e ∧ Rep Γ G e x
  | _, _, _, _, .nil, h => by simp at h
  | _, _, 0, _, .cons h _, e => by
    simp at e
    subst e
    exact ⟨_, rfl, h⟩
  | _, _, i + 1, _, .cons _ r, e => by
    obtain ⟨z, h1, h2⟩ := RepA.get (i := i) r (by simpa using e)
    exact ⟨z, by simpa using h1, h2⟩
theorem RepA.get' : ∀ {d : List D} {v : List V} {i : Nat} {x : D}, RepA Γ G d v → d[i]? = some x → ∃ e, v[i]? = some e ∧ Rep Γ G x e
  | _, _, _, _, .nil, h => by simp at h
  | _, _, 0, _, .cons h _, e => by
    simp at e
    subst e
    exact ⟨_, rfl, h⟩
  | _, _, i + 1, _, .cons _ r, e => by
    obtain ⟨z, h1, h2⟩ := RepA.get' (i := i) r (by simpa using e)
    exact ⟨z, by simpa using h1, h2⟩
theorem RepA.app : ∀ {d e : List D} {v w : List V}, RepA Γ G d v → RepA Γ G e w → RepA Γ G (d ++ e) (v ++ w)
  | _, _, _, _, .nil, s => s
  | _, _, _, _, .cons h r, s => .cons h (r.app s)
theorem RepA.take : ∀ {d : List D} {v : List V} (n : Nat), RepA Γ G d v → RepA Γ G (d.take n) (v.take n)
  | _, _, 0, _ => .nil
  | _, _, _ + 1, .nil => .nil
  | _, _, n + 1, .cons h r => .cons h (RepA.take n r)
theorem RepA.drop : ∀ {d : List D} {v : List V} (n : Nat), RepA Γ G d v → RepA Γ G (d.drop n) (v.drop n)
  | _, _, 0, r => r
  | _, _, _ + 1, .nil => .nil
  | _, _, n + 1, .cons _ r => RepA.drop n r
theorem RepA.rev : ∀ {d : List D} {v : List V}, RepA Γ G d v → RepA Γ G d.reverse v.reverse
  | _, _, .nil => .nil
  | _, _, .cons h r => by
    rw [List.reverse_cons, List.reverse_cons]
    exact (RepA.rev r).app (.cons h .nil)
theorem RepA.set {x : D} {u : V} (h : Rep Γ G x u) : ∀ {d : List D} {v : List V} (i : Nat), RepA Γ G d v → RepA Γ G (d.set i x) (v.set i u)
  | _, _, _, .nil => .nil
  | _, _, 0, .cons _ t => .cons h t
  | _, _, i + 1, .cons q t => .cons q (RepA.set h i t)

/-- an object's content -/
def BodyOf (Γ : Gm) (G : Hp) : Kd → List D → HO → Prop
  | .lst, xs, o => ∃ vs, o = .lst vs ∧ RepA Γ G xs vs
  | .tup, xs, o => ∃ vs, o = .tup vs ∧ RepA Γ G xs vs
  | .dK, xs, o => ∃ kvs, o = .dK kvs ∧ RepK Γ G xs kvs
  | .dT, xs, o => ∃ kvs, o = .dT kvs ∧ RepT Γ G xs kvs
  | .dKL, xs, o => ∃ od kvs, o = .frz od (.dK kvs) ∧ RepK Γ G xs kvs
  | .dTL, xs, o => ∃ od kvs, o = .frz od (.dT kvs) ∧ RepT Γ G xs kvs
  | .scr, _, _ => False
  | .ktp, _, _ => False
  | .ins c ns, xs, o => ∃ C dx vs, Γ.mg c = some (.ref C) ∧ o = .ins C dx (ns.zip vs) ∧ ns.length = vs.length ∧ RepA Γ G xs vs
theorem BodyOf.mono (s : Sub G G') {k : Kd} {xs : List D} {o : HO} (h : BodyOf Γ G k xs o) : BodyOf Γ G' k xs o := by
  cases k with
  | scr => exact h.elim
  | ktp => exact h.elim
  | lst => obtain ⟨vs, e, r⟩ := h; exact ⟨vs, e, r.mono s⟩
  | tup => obtain ⟨vs, e, r⟩ := h; exact ⟨vs, e, r.mono s⟩
  | dK => obtain ⟨vs, e, r⟩ := h; exact ⟨vs, e, r.mono s⟩
  | dT => obtain ⟨vs, e, r⟩ := h; exact ⟨vs, e, r.mono s⟩
  | dKL => obtain ⟨od, vs, e, r⟩ := h; exact ⟨od, vs, e, r.mono s⟩
  | dTL => obtain ⟨od, vs, e, r⟩ := h; exact ⟨od, vs, e, r.mono s⟩
  | ins c ns => obtain ⟨C, dx, vs, e, r, l, t⟩ := h; exact ⟨C, dx, vs, e, r, l, t.mono s⟩
theorem BodyOf.rep {k : Kd} {xs : List D} {o : HO} {p : Addr} (h : BodyOf Γ G k xs o) (e : G p = some o) : Rep Γ G (.nd k xs) (.ref p) := by
  cases k with
  | scr => exact h.elim
  | ktp => exact h.elim
  | lst => obtain ⟨vs, rfl, r⟩ := h; exact .lst e r
  | tup => obtain ⟨vs, rfl, r⟩ := h; exact .tup e r
  | dK => obtain ⟨vs, rfl, r⟩ := h; exact .dK (.inl e) r
  | dT => obtain ⟨vs, rfl, r⟩ := h; exact .dT (.inl e) r
  | dKL => obtain ⟨od, vs, rfl, r⟩ := h; exact .dKL e r
  | dTL => obtain ⟨od, vs, rfl, r⟩ := h; exact .dTL e r
  | ins c ns => obtain ⟨C, dx, vs, hm, rfl, l, t⟩ := h; exact .ins hm e l t
/-- a mutable object at p, in H, its parts frozen in G -/
def OwnAt (Γ : Gm) (G H : Hp) (p : Addr) : D → Prop
  | .at _ => False
  | .nd k xs => k ≠ .tup ∧ ∃ o, H p = some o ∧ BodyOf Γ G k xs o
theorem OwnAt.mono (s : Sub G G') {p : Addr} {d : D} (e : H' p = H p) (h : OwnAt Γ G H p d) : OwnAt Γ G' H' p d := by
  cases d with
  | «at» a => exact h
  | nd k xs =>
    obtain ⟨hk, o, ho, b⟩ := h
    exact ⟨hk, o, e.trans ho, b.mono s⟩
theorem OwnAt.has {p : Addr} {d : D} (h : OwnAt Γ G H p d) : ∃ o, H p = some o := by
  cases d with
  | «at» a => exact h.elim
  | nd k xs =>
    obtain ⟨hk, o, ho, b⟩ := h
    exact ⟨o, ho⟩
theorem BodyOf.notup {k : Kd} {xs : List D} {o : HO} (hk : k ≠ .tup) (h : BodyOf Γ G k xs o) : ∀ vs, o ≠ .tup vs := by
  intro ws z
  subst z
  cases k with
  | scr => exact h.elim
  | ktp => exact h.elim
  | lst => obtain ⟨vs, e, r⟩ := h; cases e
  | tup => exact hk rfl
  | dK => obtain ⟨vs, e, r⟩ := h; cases e
  | dT => obtain ⟨vs, e, r⟩ := h; cases e
  | dKL => obtain ⟨od, vs, e, r⟩ := h; cases e
  | dTL => obtain ⟨od, vs, e, r⟩ := h; cases e
  | ins c ns => obtain ⟨C, dx, vs, hm, e, l, t⟩ := h; cases e
theorem OwnAt.notup {p : Addr} {d : D} {o : HO} (h : OwnAt Γ G H p d) (e : H p = some o) : ∀ vs, o ≠ .tup vs := by
  cases d with
  | «at» a => exact h.elim
  | nd k xs =>
    obtain ⟨hk, o', ho, b⟩ := h
    rw [e] at ho
    cases ho
    exact b.notup hk
theorem OwnAt.frz {p : Addr} {d : D} (n : G p = none) (h : OwnAt Γ G H p d) : ∃ o, H p = some o ∧ Rep Γ (upd G p o) d (.ref p) := by
  cases d with
  | «at» a => exact h.elim
  | nd k xs =>
    obtain ⟨hk, o, ho, b⟩ := h
    exact ⟨o, ho, (b.mono (Sub.new n)).rep upd_same⟩
end

/-! ### slots, values -/
inductive Md where
  | frz | own | bor | io
  deriving DecidableEq
def Md.mut : Md → Bool
  | .own => true
  | .io => true
  | _ => false
abbrev Sl := Md × D
abbrev Fs := List (Option Sl)
inductive Tv where
  | frz (d : D) | own (d : D) | slot (i : Nat)
def Tv.isOwn : Tv → Bool
  | .own _ => true
  | _ => false
/-- what is fixed in a frame: the objects that are borrowed, the slots that are pinned (lent for change, borrowed) -/
structure Zf where
  B : Hp
  io : Nat → Md → V → Prop
def SlOk (Γ : Gm) (Z : Zf) (R G H : Hp) (s : Sl) (v : V) : Prop :=
  match s.1 with
  | .frz => Rep Γ G s.2 v
  | .own => ∃ p, v = .ref p ∧ R p = none ∧ G p = none ∧ OwnAt Γ G H p s.2
  | .io => ∃ p, v = .ref p ∧ R p = none ∧ G p = none ∧ OwnAt Γ G H p s.2
  | .bor => ∃ p, v = .ref p ∧ OwnAt Γ G Z.B p s.2
theorem SlOk.mut {Γ : Gm} {Z : Zf} {R G H : Hp} {m : Md} {d : D} {v : V} (hm : m.mut = true) : SlOk Γ Z R G H (m, d) v ↔ ∃ p, v = .ref p ∧ R p = none ∧ G p = none ∧ OwnAt Γ G H p d := by
  cases m with
  | frz => cases hm
  | own => exact Iff.rfl
  | bor => cases hm
  | io => exact Iff.rfl
structure TI (Γ : Gm) (Z : Zf) (R G : Hp) (σ : L2.St) (H : Hp) (fs : Fs) : Prop where
  gh : Sub G H
  rh : Sub R H
  br : Sub Z.B R
  len : fs.length = σ.length
  sl : ∀ (i : Nat) (s : Sl), fs[i]? = some (some s) → ∃ v, σ[i]? = some (some v) ∧ SlOk Γ Z R G H s v
  inj : ∀ (i j : Nat) (s t : Sl) (v : V), fs[i]? = some (some s) → fs[j]? = some (some t) → s.1.mut = true → t.1.mut = true → σ[i]? = some (some v) → σ[j]? = some (some v) → i = j
  io : ∀ (q : Nat) (n : Md) (v : V), Z.io q n v → (∃ d, fs[q]? = some (some (n, d)) ∧ σ[q]? = some (some v)) ∧ (n = .io ∨ n = .bor)
  bp : ∀ (i : Nat) (d : D), fs[i]? = some (some (.bor, d)) → ∃ v, Z.io i .bor v
def VOk (Γ : Gm) (R G : Hp) (σ : L2.St) (H : Hp) (fs : Fs) : Tv → V → Prop
  | .frz d, u => Rep Γ G d u
  | .own d, u => (∃ p, u = .ref p ∧ R p = none ∧ G p = none ∧ OwnAt Γ G H p d) ∧ ∀ (i : Nat) (s : Sl), fs[i]? = some (some s) → s.1.mut = true → σ[i]? ≠ some (some u)
  | .slot i, u => σ[i]? = some (some u)
def Grow (R G G' : Hp) : Prop := Sub G G' ∧ ∀ a o, R a = some o → (∀ vs, o ≠ .tup vs) → G' a = G a
theorem Grow.refl {R G : Hp} : Grow R G G := ⟨Sub.refl, fun _ _ _ _ => rfl⟩
theorem Grow.trans {R A B C : Hp} (h : Grow R A B) (k : Grow R B C) : Grow R A C := ⟨h.1.trans k.1, fun a o e n => (k.2 a o e n).trans (h.2 a o e n)⟩
theorem Grow.sub {R R1 A B : Hp} (s : Sub R R1) (h : Grow R1 A B) : Grow R A B := ⟨h.1, fun a o e n => h.2 a o (s a o e) n⟩

section
variable {Γ : Gm} {Z : Zf} {R R1 G G' H H' : Hp} {σ : L2.St} {fs fs' : Fs}
theorem SlOk.weak (hs : Sub R R1) {s : Sl} {v : V} (h : SlOk Γ Z R1 G H s v) : SlOk Γ Z R G H s v := by
  obtain ⟨m, d⟩ := s
  cases m with
  | frz => exact h
  | own => obtain ⟨p, e, r, q⟩ := h; exact ⟨p, e, hs.free r, q⟩
  | io => obtain ⟨p, e, r, q⟩ := h; exact ⟨p, e, hs.free r, q⟩
  | bor => exact h
theorem TI.weak (T : TI Γ Z R1 G σ H fs) (hs : Sub R R1) (hb : Sub Z.B R) : TI Γ Z R G σ H fs :=
  ⟨T.gh, hs.trans T.rh, hb, T.len, fun i s e => let ⟨v, a, b⟩ := T.sl i s e; ⟨v, a, b.weak hs⟩, T.inj, T.io, T.bp⟩
theorem VOk.weak (hs : Sub R R1) {x : Tv} {u : V} (h : VOk Γ R1 G σ H fs x u) : VOk Γ R G σ H fs x u := by
  cases x with
  | frz d => exact h
  | own d => obtain ⟨⟨p, e, r, q⟩, n⟩ := h; exact ⟨⟨p, e, hs.free r, q⟩, n⟩
  | slot i => exact h
theorem TI.mutAt (T : TI Γ Z R G σ H fs) {i : Nat} {s : Sl} (e : fs[i]? = some (some s)) (hm : s.1.mut = true) : ∃ p, σ[i]? = some (some (.ref p)) ∧ R p = none ∧ G p = none ∧ OwnAt Γ G H p s.2 := by
  obtain ⟨v, hv, h⟩ := T.sl i s e
  obtain ⟨m, d⟩ := s
  obtain ⟨p, rfl, q⟩ := (SlOk.mut hm).mp h
  exact ⟨p, hv, q⟩
theorem SlOk.grow (g : Sub G G') (hH : Sub R H') {s : Sl} {v : V} (hp : s.1.mut = true → ∀ p, v = .ref p → H' p = H p ∧ G' p = none) (h : SlOk Γ Z R G H s v) : SlOk Γ Z R G' H' s v := by
  obtain ⟨m, d⟩ := s
  cases m with
  | frz => exact Rep.mono g h
  | own =>
    obtain ⟨p, e, r, q, o⟩ := h
    obtain ⟨h1, h2⟩ := hp rfl p e
    exact ⟨p, e, r, h2, o.mono g h1⟩
  | io =>
    obtain ⟨p, e, r, q, o⟩ := h
    obtain ⟨h1, h2⟩ := hp rfl p e
    exact ⟨p, e, r, h2, o.mono g h1⟩
  | bor =>
    obtain ⟨p, e, o⟩ := h
    exact ⟨p, e, o.mono g rfl⟩
/-- a new object -/
theorem TI.alloc (T : TI Γ Z R G σ H fs) {p : Addr} {o : HO} (n : H p = none) : TI Γ Z R G σ (upd H p o) fs :=
  ⟨T.gh.trans (Sub.new n), T.rh.trans (Sub.new n), T.br, T.len, fun i s e => by
    obtain ⟨v, a, b⟩ := T.sl i s e
    refine ⟨v, a, b.grow Sub.refl (T.rh.trans (Sub.new n)) fun hm q eq => ?_⟩
    obtain ⟨p', h1, _, h3, h4⟩ := T.mutAt e hm
    rw [a] at h1
    cases h1
    cases eq
    obtain ⟨o', ho⟩ := h4.has
    exact ⟨upd_ne (ne_of_none ho n), h3⟩, T.inj, T.io, T.bp⟩
theorem VOk.new (T : TI Γ Z R G σ H fs) {p : Addr} {o : HO} {k : Kd} {xs : List D} (n : H p = none) (hk : k ≠ .tup) (b : BodyOf Γ G k xs o) : VOk Γ R G σ (upd H p o) fs (.own (.nd k xs)) (.ref p) := by
  refine ⟨⟨p, rfl, T.rh.free n, T.gh.free n, hk, o, upd_same, b⟩, fun i s e hm eq => ?_⟩
  obtain ⟨p', h1, _, _, h4⟩ := T.mutAt e hm
  rw [h1] at eq
  cases eq
  obtain ⟨o', ho⟩ := h4.has
  rw [n] at ho
  cases ho
/-- a tuple that is there already, frozen -/
theorem TI.tupFrz (T : TI Γ Z R G σ H fs) {q : Addr} {vs : List V} (h : H q = some (.tup vs)) : TI Γ Z R (upd G q (.tup vs)) σ H fs ∧ Grow R G (upd G q (.tup vs)) := by
  have sg : Sub G (upd G q (.tup vs)) := fun a o e => by
    by_cases hh : a = q
    · subst hh
      have := T.gh a o e
      rw [h] at this
      cases this
      exact upd_same
    · rw [upd_ne hh]
      exact e
  have g : Grow R G (upd G q (.tup vs)) := ⟨sg, fun a u e n => by
    by_cases hh : a = q
    · subst hh
      have := T.rh a u e
      rw [h] at this
      cases this
      exact absurd rfl (n vs)
    · exact upd_ne hh⟩
  refine ⟨⟨fun a u e => ?_, T.rh, T.br, T.len, fun i s e => ?_, T.inj, T.io, T.bp⟩, g⟩
  · by_cases hh : a = q
    · subst hh
      rw [upd_same] at e
      rw [h, e]
    · rw [upd_ne hh] at e
      exact T.gh a u e
  · obtain ⟨v, a, b⟩ := T.sl i s e
    refine ⟨v, a, b.grow sg T.rh fun hm p eq => ⟨rfl, ?_⟩⟩
    obtain ⟨p', h1, _, h3, h4⟩ := T.mutAt e hm
    rw [a] at h1
    cases h1
    cases eq
    obtain ⟨o', ho⟩ := h4.has
    rw [upd_ne fun z => by subst z; rw [h] at ho; cases ho; exact h4.notup h vs rfl]
    exact h3
theorem TI.newFrz (T : TI Γ Z R G σ H fs) {p : Addr} {o : HO} (n : H p = none) : TI Γ Z R (upd G p o) σ (upd H p o) fs ∧ Grow R G (upd G p o) := by
  have gn := T.gh.free n
  have g : Grow R G (upd G p o) := ⟨Sub.new gn, fun a u e _ => upd_ne (ne_of_none (T.rh a u e) n)⟩
  have A := T.alloc (o := o) n
  refine ⟨⟨fun a u e => ?_, A.rh, A.br, A.len, fun i s e => ?_, A.inj, A.io, A.bp⟩, g⟩
  · by_cases h : a = p
    · subst h
      rw [upd_same] at e ⊢
      exact e
    · rw [upd_ne h] at e ⊢
      exact T.gh a u e
  · obtain ⟨v, a, b⟩ := A.sl i s e
    refine ⟨v, a, b.grow g.1 A.rh fun hm q eq => ⟨rfl, ?_⟩⟩
    obtain ⟨p', h1, _, h3, h4⟩ := T.mutAt e hm
    rw [a] at h1
    cases h1
    cases eq
    obtain ⟨o', ho⟩ := h4.has
    rw [upd_ne (ne_of_none ho n)]
    exact h3
/-- freezing what stands at p: no slot's own -/
theorem TI.frzTemp (T : TI Γ Z R G σ H fs) {d : D} {u : V} (h : VOk Γ R G σ H fs (.own d) u) : ∃ p o, u = .ref p ∧ H p = some o ∧ G p = none ∧ TI Γ Z R (upd G p o) σ H fs ∧ Grow R G (upd G p o) ∧ Rep Γ (upd G p o) d u := by
  obtain ⟨⟨p, rfl, rp, gp, ow⟩, ns⟩ := h
  obtain ⟨o, ho, rep⟩ := ow.frz gp
  have g : Grow R G (upd G p o) := ⟨Sub.new gp, fun a u e _ => upd_ne (ne_of_none e rp)⟩
  refine ⟨p, o, rfl, ho, gp, ⟨fun a u e => ?_, T.rh, T.br, T.len, fun i s e => ?_, T.inj, T.io, T.bp⟩, g, rep⟩
  · by_cases h : a = p
    · subst h
      rw [upd_same] at e
      rw [ho, e]
    · rw [upd_ne h] at e
      exact T.gh a u e
  · obtain ⟨v, a, b⟩ := T.sl i s e
    refine ⟨v, a, b.grow g.1 T.rh fun hm q eq => ⟨rfl, ?_⟩⟩
    obtain ⟨p', h1, _, h3, h4⟩ := T.mutAt e hm
    rw [a] at h1
    cases h1
    cases eq
    have ne : q ≠ p := fun z => by
      subst z
      exact ns i s e hm a
    rw [upd_ne ne]
    exact h3
/-- freezing an own slot -/
theorem TI.frzSlot (T : TI Γ Z R G σ H fs) {i : Nat} {d : D} (e : fs[i]? = some (some (.own, d))) : ∃ p o, σ[i]? = some (some (.ref p)) ∧ H p = some o ∧ R p = none ∧ G p = none ∧ TI Γ Z R (upd G p o) σ H (fs.set i (some (.frz, d))) ∧ Grow R G (upd G p o) ∧ Rep Γ (upd G p o) d (.ref p) := by
  obtain ⟨p, hv, rp, gp, ow⟩ := T.mutAt e rfl
  obtain ⟨o, ho, rep⟩ := ow.frz gp
  have g : Grow R G (upd G p o) := ⟨Sub.new gp, fun a u e _ => upd_ne (ne_of_none e rp)⟩
  have hi : i < fs.length := (List.getElem?_eq_some_iff.mp e).1
  have back : ∀ {j : Nat} {s : Sl}, (fs.set i (some (.frz, d)))[j]? = some (some s) → s.1.mut = true → j ≠ i ∧ fs[j]? = some (some s) := fun {j s} e' hm => by
    by_cases hj : j = i
    · subst hj
      rw [List.getElem?_set_self hi] at e'
      cases e'
      cases hm
    · rw [List.getElem?_set_ne (Ne.symm hj)] at e'
      exact ⟨hj, e'⟩
  refine ⟨p, o, hv, ho, rp, gp, ⟨fun a u e => ?_, T.rh, T.br, by rw [List.length_set]; exact T.len, fun j s e' => ?_, fun a b s t v h1 h2 m1 m2 => ?_, fun q n w hq => ?_, fun j d' ej => ?_⟩, g, rep⟩
  · by_cases h : a = p
    · subst h
      rw [upd_same] at e
      rw [ho, e]
    · rw [upd_ne h] at e
      exact T.gh a u e
  · by_cases hj : j = i
    · subst hj
      rw [List.getElem?_set_self hi] at e'
      cases e'
      exact ⟨_, hv, rep⟩
    · rw [List.getElem?_set_ne (Ne.symm hj)] at e'
      obtain ⟨v, a, b⟩ := T.sl j s e'
      refine ⟨v, a, b.grow g.1 T.rh fun hm q eq => ⟨rfl, ?_⟩⟩
      obtain ⟨p', h1, _, h3, h4⟩ := T.mutAt e' hm
      rw [a] at h1
      cases h1
      cases eq
      have ne : q ≠ p := fun z => by
        subst z
        exact hj (T.inj j i s (.own, d) _ e' e hm rfl a hv)
      rw [upd_ne ne]
      exact h3
  · exact T.inj a b s t v (back h1 m1).2 (back h2 m2).2 m1 m2
  · obtain ⟨⟨d', h1, h2⟩, hm⟩ := T.io q n w hq
    refine ⟨⟨d', ?_, h2⟩, hm⟩
    have hj : q ≠ i := fun z => by
      rw [z, e] at h1
      have z1 := Option.some.inj (Option.some.inj h1)
      have z2 := congrArg Prod.fst z1
      rcases hm with z3 | z3 <;> (rw [z3] at z2; cases z2)
    rw [List.getElem?_set_ne (Ne.symm hj)]
    exact h1
  · by_cases hj : j = i
    · subst hj
      rw [List.getElem?_set_self hi] at ej
      cases ej
    · rw [List.getElem?_set_ne (Ne.symm hj)] at ej
      exact T.bp j d' ej
/-- the object of a mutable slot is changed -/
theorem TI.write (T : TI Γ Z R G σ H fs) {i : Nat} {m : Md} {d : D} {k : Kd} {xs : List D} {o : HO} {p : Addr} (e : fs[i]? = some (some (m, d))) (hm : m.mut = true) (hp : σ[i]? = some (some (.ref p))) (hk : k ≠ .tup) (b : BodyOf Γ G k xs o) :
    TI Γ Z R G σ (upd H p o) (fs.set i (some (m, .nd k xs))) := by
  obtain ⟨p', hv, rp, gp, ow⟩ := T.mutAt e hm
  rw [hp] at hv
  cases hv
  have hi : i < fs.length := (List.getElem?_eq_some_iff.mp e).1
  have stay : ∀ {X : Hp}, Sub X H → X p = none → Sub X (upd H p o) := fun {X} s n a u ea => by
    rw [upd_ne (ne_of_none ea n)]
    exact s a u ea
  have back : ∀ {j : Nat} {s : Sl}, (fs.set i (some (m, .nd k xs)))[j]? = some (some s) → (j = i ∧ s = (m, .nd k xs)) ∨ (j ≠ i ∧ fs[j]? = some (some s)) := fun {j s} e' => by
    by_cases hj : j = i
    · subst hj
      rw [List.getElem?_set_self hi] at e'
      cases e'
      exact .inl ⟨rfl, rfl⟩
    · rw [List.getElem?_set_ne (Ne.symm hj)] at e'
      exact .inr ⟨hj, e'⟩
  have slotOf : ∀ {j : Nat} {s : Sl}, (fs.set i (some (m, .nd k xs)))[j]? = some (some s) → s.1.mut = true → ∃ s', fs[j]? = some (some s') ∧ s'.1.mut = true := fun {j s} e' h' => by
    rcases back e' with ⟨rfl, rfl⟩ | ⟨_, q⟩
    · exact ⟨_, e, hm⟩
    · exact ⟨_, q, h'⟩
  refine ⟨stay T.gh gp, stay T.rh rp, T.br, by rw [List.length_set]; exact T.len, fun j s e' => ?_, fun a c s t v h1 h2 m1 m2 => ?_, fun q n w hq => ?_, fun j d' ej => ?_⟩
  · rcases back e' with ⟨rfl, rfl⟩ | ⟨hj, q⟩
    · exact ⟨_, hp, (SlOk.mut hm).mpr ⟨p, rfl, rp, gp, hk, o, upd_same, b⟩⟩
    · obtain ⟨v, a, c⟩ := T.sl j s q
      refine ⟨v, a, c.grow Sub.refl (stay T.rh rp) fun hm' r eq => ?_⟩
      obtain ⟨p', h1, _, h3, h4⟩ := T.mutAt q hm'
      rw [a] at h1
      cases h1
      cases eq
      have ne : r ≠ p := fun z => by
        subst z
        exact hj (T.inj j i s (m, d) _ q e hm' hm a hp)
      exact ⟨upd_ne ne, h3⟩
  · obtain ⟨s', q1, q2⟩ := slotOf h1 m1
    obtain ⟨t', q3, q4⟩ := slotOf h2 m2
    exact T.inj a c s' t' v q1 q3 q2 q4
  · obtain ⟨⟨d', h1, h2⟩, hm'⟩ := T.io q n w hq
    by_cases hj : q = i
    · rw [hj, e] at h1
      have z2 : m = n := congrArg Prod.fst (Option.some.inj (Option.some.inj h1))
      exact ⟨⟨_, by rw [hj, List.getElem?_set_self hi, z2], h2⟩, hm'⟩
    · exact ⟨⟨d', by rw [List.getElem?_set_ne (Ne.symm hj)]; exact h1, h2⟩, hm'⟩
  · rcases back ej with ⟨rfl, e'⟩ | ⟨_, q⟩
    · have z : Md.bor = m := congrArg Prod.fst e'
      rw [← z] at hm
      cases hm
    · exact T.bp j d' q
/-- a pending value is protected: while it waits, what it owns belongs to the rest -/
theorem TI.protect (T : TI Γ Z R G σ H fs) {x : Tv} {u : V} (h : VOk Γ R G σ H fs x u) : ∃ R1, Sub R R1 ∧ TI Γ Z R1 G σ H fs ∧ (∀ (y : Tv) (w : V), VOk Γ R G σ H fs y w → (x.isOwn = true → y.isOwn = true → w ≠ u) → VOk Γ R1 G σ H fs y w) ∧
    ∀ (G' H' : Hp) (fs' : Fs), TI Γ Z R1 G' σ H' fs' → Grow R1 G G' → TI Γ Z R G' σ H' fs' ∧ Grow R G G' ∧ VOk Γ R G' σ H' fs' x u ∧ ∀ (y : Tv) (w : V), VOk Γ R1 G' σ H' fs' y w → VOk Γ R G' σ H' fs' y w ∧ (x.isOwn = true → y.isOwn = true → w ≠ u) := by
  cases x with
  | frz d =>
    exact ⟨R, Sub.refl, T, fun y w hy _ => hy, fun G' H' fs' T' g => ⟨T', g, Rep.mono g.1 h, fun y w hy => ⟨hy, fun z => by cases z⟩⟩⟩
  | slot i =>
    exact ⟨R, Sub.refl, T, fun y w hy _ => hy, fun G' H' fs' T' g => ⟨T', g, h, fun y w hy => ⟨hy, fun z => by cases z⟩⟩⟩
  | own d =>
    obtain ⟨⟨p, rfl, rp, gp, ow⟩, ns⟩ := h
    obtain ⟨o, ho⟩ := ow.has
    have s1 : Sub R (upd R p o) := Sub.new rp
    refine ⟨upd R p o, s1, ⟨T.gh, fun a v e => ?_, T.br.trans s1, T.len, fun i s e => ?_, T.inj, T.io, T.bp⟩, fun y w hy ne => ?_, fun G' H' fs' T' g => ?_⟩
    · by_cases h : a = p
      · subst h
        rw [upd_same] at e
        rw [ho, e]
      · rw [upd_ne h] at e
        exact T.rh a v e
    · obtain ⟨v, a, b⟩ := T.sl i s e
      refine ⟨v, a, ?_⟩
      obtain ⟨m, d'⟩ := s
      cases m with
      | frz => exact b
      | bor => exact b
      | own =>
        obtain ⟨q, eq, r, t⟩ := b
        refine ⟨q, eq, ?_, t⟩
        have ne : q ≠ p := fun z => by
          subst z
          subst eq
          exact ns i _ e rfl a
        rw [upd_ne ne]
        exact r
      | io =>
        obtain ⟨q, eq, r, t⟩ := b
        refine ⟨q, eq, ?_, t⟩
        have ne : q ≠ p := fun z => by
          subst z
          subst eq
          exact ns i _ e rfl a
        rw [upd_ne ne]
        exact r
    · cases y with
      | frz d => exact hy
      | slot i => exact hy
      | own e =>
        obtain ⟨⟨q, rfl, rq, gq, oq⟩, nq⟩ := hy
        refine ⟨⟨q, rfl, ?_, gq, oq⟩, nq⟩
        have z : q ≠ p := fun z => ne rfl rfl (by rw [z])
        rw [upd_ne z]
        exact rq
    · have gp' : G' p = none := (g.2 p o upd_same (ow.notup ho)).trans gp
      have hp' : H' p = some o := T'.rh p o upd_same
      refine ⟨T'.weak s1 T.br, g.sub s1, ⟨⟨p, rfl, rp, gp', ow.mono g.1 (hp'.trans ho.symm)⟩, fun i s e hm eq => ?_⟩, fun y w hy => ⟨hy.weak s1, fun _ hy' => ?_⟩⟩
      · obtain ⟨q, h1, h2, _⟩ := T'.mutAt e hm
        rw [eq] at h1
        cases h1
        rw [upd_same] at h2
        cases h2
      · cases y with
        | frz d => cases hy'
        | slot i => cases hy'
        | own e =>
          obtain ⟨⟨q, rfl, rq, _⟩, _⟩ := hy
          intro z
          cases z
          rw [upd_same] at rq
          cases rq
end
end TL

/-! What an expression does to data. -/
namespace TL
open PySem PySem.Spec PyProof.Rows L2

structure Ex where
  cls : Str
  ns : List Str
  xs : List D
inductive Out (α : Type) where
  | ok (a : α) (fs : Fs) | ex (x : Ex) (fs : Fs) | bad
abbrev M (α : Type) := Fs → Out α
def Out.Wp {α : Type} (o : Out α) (P : α → Fs → Prop) (PX : Ex → Fs → Prop) : Prop :=
  match o with
  | .ok a fs => P a fs
  | .ex x fs => PX x fs
  | .bad => False
def ret {α : Type} (a : α) : M α := fun fs => .ok a fs
def bnd {α β : Type} (m : M α) (k : α → M β) : M β := fun fs =>
  match m fs with
  | .ok a fs' => k a fs'
  | .ex x fs' => .ex x fs'
  | .bad => .bad
theorem Out.Wp.mono {α : Type} {o : Out α} {P P' : α → Fs → Prop} {PX PX' : Ex → Fs → Prop} (h : o.Wp P PX) (h1 : ∀ a fs, P a fs → P' a fs) (h2 : ∀ x fs, PX x fs → PX' x fs) : o.Wp P' PX' := by
  cases o with
  | ok a fs => exact h1 a fs h
  | ex x fs => exact h2 x fs h
  | bad => exact h
theorem wp_bnd {α β : Type} {m : M α} {k : α → M β} {fs : Fs} {P : β → Fs → Prop} {PX : Ex → Fs → Prop} : (bnd m k fs).Wp P PX ↔ (m fs).Wp (fun a fs' => (k a fs').Wp P PX) PX := by
  unfold bnd
  cases m fs <;> exact Iff.rfl
def lift {α : Type} (o : Option α) : M α := fun fs => match o with | some a => .ok a fs | none => .bad

def XOk (Γ : Gm) (G H : Hp) (x : Ex) (c : Value) (dd : Option Addr) : Prop :=
  ∃ (C dx : Addr) (vs : List V), c = .ref C ∧ Γ.mg x.cls = some (.ref C) ∧ dd = some dx ∧ H dx = some (.xd (x.ns.zip vs)) ∧ x.ns.length = vs.length ∧ RepA Γ G x.xs vs

section
variable (Γ : Gm) (Z : Zf) (R G : Hp) (σ : L2.St)
def PstE (Q : VK) : Tv → Fs → Prop := fun v fs' => ∀ (G' H' : Hp) (u : V), TI Γ Z R G' σ H' fs' → Grow R G G' → VOk Γ R G' σ H' fs' v u → Q u H'
def PstX (W : WX) : Ex → Fs → Prop := fun x fs' => ∀ (G' H' : Hp) (c : Value) (dd : Option Addr), TI Γ Z R G' σ H' fs' → Grow R G G' → XOk Γ G' H' x c dd → W c dd σ H'
def PstB (Q : Bool → Hp → Prop) : Bool → Fs → Prop := fun b fs' => ∀ (G' H' : Hp), TI Γ Z R G' σ H' fs' → Grow R G G' → Q b H'
/-- a row of values, each owned one apart from the others -/
def VsOk (H : Hp) (fs : Fs) : List Tv → List V → Prop
  | [], [] => True
  | x :: xs, u :: us => VOk Γ R G σ H fs x u ∧ (x.isOwn = true → ∀ (i : Nat) (y : Tv) (w : V), xs[i]? = some y → us[i]? = some w → y.isOwn = true → w ≠ u) ∧ VsOk H fs xs us
  | _, _ => False
def PstA (Q : List V → Hp → Prop) : List Tv → Fs → Prop := fun vs fs' => ∀ (G' H' : Hp) (us : List V), TI Γ Z R G' σ H' fs' → Grow R G G' → VsOk Γ R G' σ H' fs' vs us → Q us H'
end
def SE (Γ : Gm) (W : WX) (te : TE) (f : M Tv) : Prop := ∀ (Z : Zf) (R G : Hp) (σ : L2.St) (H : Hp) (fs : Fs) (Q : VK), TI Γ Z R G σ H fs → (f fs).Wp (PstE Γ Z R G σ Q) (PstX Γ Z R G σ W) → te σ H Q
def ST (Γ : Gm) (W : WX) (tt : TT) (f : M Bool) : Prop := ∀ (Z : Zf) (R G : Hp) (σ : L2.St) (H : Hp) (fs : Fs) (Q : Bool → Hp → Prop), TI Γ Z R G σ H fs → (f fs).Wp (PstB Γ Z R G σ Q) (PstX Γ Z R G σ W) → tt σ H Q
def SA (Γ : Gm) (W : WX) (ta : TA) (f : M (List Tv)) : Prop := ∀ (Z : Zf) (R G : Hp) (σ : L2.St) (H : Hp) (fs : Fs) (Q : List V → Hp → Prop), TI Γ Z R G σ H fs → (f fs).Wp (PstA Γ Z R G σ Q) (PstX Γ Z R G σ W) → ta σ H Q
/-- an operation on two values -/
def SR2 (Γ : Gm) (W : WX) (r : R2) (k : Tv → Tv → M Tv) : Prop := ∀ (Z : Zf) (R G : Hp) (σ : L2.St) (H : Hp) (fs : Fs) (x y : Tv) (u w : V) (Q : VK), TI Γ Z R G σ H fs → VOk Γ R G σ H fs x u → VOk Γ R G σ H fs y w → (x.isOwn = true → y.isOwn = true → w ≠ u) →
  (k x y fs).Wp (PstE Γ Z R G σ Q) (PstX Γ Z R G σ W) → r u w H Q
def SR1 (Γ : Gm) (W : WX) (r : V → Hp → VK → Prop) (k : Tv → M Tv) : Prop := ∀ (Z : Zf) (R G : Hp) (σ : L2.St) (H : Hp) (fs : Fs) (x : Tv) (u : V) (Q : VK), TI Γ Z R G σ H fs → VOk Γ R G σ H fs x u →
  (k x fs).Wp (PstE Γ Z R G σ Q) (PstX Γ Z R G σ W) → r u H Q
def SRA (Γ : Gm) (W : WX) (r : List V → Hp → VK → Prop) (k : List Tv → M Tv) : Prop := ∀ (Z : Zf) (R G : Hp) (σ : L2.St) (H : Hp) (fs : Fs) (xs : List Tv) (us : List V) (Q : VK), TI Γ Z R G σ H fs → VsOk Γ R G σ H fs xs us →
  (k xs fs).Wp (PstE Γ Z R G σ Q) (PstX Γ Z R G σ W) → r us H Q

section
variable {Γ : Gm} {Z : Zf} {R R1 G G1 G' H H' : Hp} {σ : L2.St} {fs fs' : Fs} {W : WX}
theorem PstX.grow (g : Grow R G G1) {x : Ex} {fs : Fs} (h : PstX Γ Z R G σ W x fs) : PstX Γ Z R G1 σ W x fs := fun G' H' c dd T g' q => h G' H' c dd T (g.trans g') q
theorem PstE.grow (g : Grow R G G1) {Q : VK} {x : Tv} {fs : Fs} (h : PstE Γ Z R G σ Q x fs) : PstE Γ Z R G1 σ Q x fs := fun G' H' u T g' q => h G' H' u T (g.trans g') q
theorem PstB.grow (g : Grow R G G1) {Q : Bool → Hp → Prop} {x : Bool} {fs : Fs} (h : PstB Γ Z R G σ Q x fs) : PstB Γ Z R G1 σ Q x fs := fun G' H' T g' => h G' H' T (g.trans g')
theorem PstA.grow (g : Grow R G G1) {Q : List V → Hp → Prop} {x : List Tv} {fs : Fs} (h : PstA Γ Z R G σ Q x fs) : PstA Γ Z R G1 σ Q x fs := fun G' H' u T g' q => h G' H' u T (g.trans g') q
theorem PstX.weak (s : Sub R R1) (b : Sub Z.B R) {x : Ex} {fs : Fs} (h : PstX Γ Z R G σ W x fs) : PstX Γ Z R1 G σ W x fs := fun G' H' c dd T g q => h G' H' c dd (T.weak s b) (g.sub s) q

theorem se_op {ta tb : TE} {fa fb : M Tv} {r : R2} {k : Tv → Tv → M Tv} (ha : SE Γ W ta fa) (hb : SE Γ W tb fb) (hr : SR2 Γ W r k) : SE Γ W (tOp r ta tb) (bnd fa fun x => bnd fb fun y => k x y) := by
  intro Z R G σ H fs Q T h
  refine ha Z R G σ H fs _ T ((wp_bnd.mp h).mono (fun x fs1 h1 G1 H1 u T1 g1 v1 => ?_) fun _ _ q => q)
  obtain ⟨R1, s1, T1', _, back⟩ := T1.protect v1
  refine hb Z R1 G1 σ H1 fs1 _ T1' ((wp_bnd.mp h1).mono (fun y fs2 h2 G2 H2 w T2 g2 v2 => ?_) fun _ _ q => (q.grow g1).weak s1 T1.br)
  obtain ⟨T2', g2', v1', y'⟩ := back G2 H2 fs2 T2 g2
  obtain ⟨v2', ap⟩ := y' y w v2
  exact hr Z R G2 σ H2 fs2 x y u w Q T2' v1' v2' ap (h2.mono (fun _ _ q => q.grow (g1.trans g2')) fun _ _ q => q.grow (g1.trans g2'))
theorem se_un {ta : TE} {fa : M Tv} {r : V → Hp → VK → Prop} {k : Tv → M Tv} (ha : SE Γ W ta fa) (hr : SR1 Γ W r k) : SE Γ W (tUn r ta) (bnd fa k) := by
  intro Z R G σ H fs Q T h
  refine ha Z R G σ H fs _ T ((wp_bnd.mp h).mono (fun x fs1 h1 G1 H1 u T1 g1 v1 => ?_) fun _ _ q => q)
  exact hr Z R G1 σ H1 fs1 x u Q T1 v1 (h1.mono (fun _ _ q => q.grow g1) fun _ _ q => q.grow g1)
theorem sa_nil : SA Γ W tNil (ret []) := by
  intro Z R G σ H fs Q T h
  exact h G H [] T Grow.refl True.intro
theorem VsOk.weak (hs : Sub R R1) : ∀ {xs : List Tv} {us : List V}, VsOk Γ R1 G σ H fs xs us → VsOk Γ R G σ H fs xs us
  | [], [], h => h
  | x :: xs, u :: us, h => ⟨VOk.weak hs h.1, h.2.1, VsOk.weak hs h.2.2⟩
  | [], _ :: _, h => h
  | _ :: _, [], h => h
theorem VsOk.get : ∀ {xs : List Tv} {us : List V} {i : Nat} {y : Tv} {w : V}, VsOk Γ R G σ H fs xs us → xs[i]? = some y → us[i]? = some w → VOk Γ R G σ H fs y w
  | [], [], i, y, w, h, e, _ => by simp at e
  | x :: xs, u :: us, 0, y, w, h, e, e' => by
    simp at e e'
    subst e
    subst e'
    exact h.1
  | x :: xs, u :: us, i + 1, y, w, h, e, e' => VsOk.get (i := i) h.2.2 (by simpa using e) (by simpa using e')
  | [], _ :: _, _, _, _, h, _, _ => h.elim
  | _ :: _, [], _, _, _, h, _, _ => h.elim
theorem VsOk.len : ∀ {xs : List Tv} {us : List V}, VsOk Γ R G σ H fs xs us → xs.length = us.length
  | [], [], _ => rfl
  | x :: xs, u :: us, h => by rw [List.length_cons, List.length_cons, VsOk.len h.2.2]
  | [], _ :: _, h => h.elim
  | _ :: _, [], h => h.elim
theorem sa_cons {te : TE} {ta : TA} {f : M Tv} {fr : M (List Tv)} (he : SE Γ W te f) (hr : SA Γ W ta fr) : SA Γ W (tCons te ta) (bnd f fun x => bnd fr fun xs => ret (x :: xs)) := by
  intro Z R G σ H fs Q T h
  refine he Z R G σ H fs _ T ((wp_bnd.mp h).mono (fun x fs1 h1 G1 H1 u T1 g1 v1 => ?_) fun _ _ q => q)
  obtain ⟨R1, s1, T1', _, back⟩ := T1.protect v1
  refine hr Z R1 G1 σ H1 fs1 _ T1' ((wp_bnd.mp h1).mono (fun ys fs2 h2 G2 H2 ws T2 g2 v2 => ?_) fun _ _ q => (q.grow g1).weak s1 T1.br)
  obtain ⟨T2', g2', v1', y'⟩ := back G2 H2 fs2 T2 g2
  refine h2 G2 H2 (u :: ws) T2' (g1.trans g2') ⟨v1', fun hx i y w e1 e2 hy => ?_, v2.weak s1⟩
  exact (y' y w (v2.get e1 e2)).2 hx hy
theorem se_cb {r : List V → Hp → VK → Prop} {ta : TA} {fa : M (List Tv)} {k : List Tv → M Tv} (ha : SA Γ W ta fa) (hr : SRA Γ W r k) : SE Γ W (tCB r ta) (bnd fa k) := by
  intro Z R G σ H fs Q T h
  refine ha Z R G σ H fs _ T ((wp_bnd.mp h).mono (fun xs fs1 h1 G1 H1 us T1 g1 v1 => ?_) fun _ _ q => q)
  exact hr Z R G1 σ H1 fs1 xs us Q T1 v1 (h1.mono (fun _ _ q => q.grow g1) fun _ _ q => q.grow g1)

/-! ### reading data -/
def rdv (x : Tv) (fs : Fs) : Option D :=
  match x with
  | .frz d => some d
  | .own d => some d
  | .slot i => match fs[i]? with
    | some (some s) => some s.2
    | _ => none
def RdH (Γ : Gm) (G H : Hp) : D → V → Prop
  | .at a, u => u = a.v
  | .nd .lst xs, u => ∃ p vs, u = .ref p ∧ H p = some (.lst vs) ∧ RepA Γ G xs vs
  | .nd .scr xs, u => ∃ p vs, u = .ref p ∧ SqL Γ.K H p vs ∧ RepA Γ G xs vs
  | .nd .tup xs, u => ∃ p vs, u = .ref p ∧ G p = some (.tup vs) ∧ RepA Γ G xs vs
  | .nd .ktp xs, u => ∃ p vs, u = .ref p ∧ SqT Γ.K H p vs ∧ RepA Γ G xs vs
  | .nd .dK xs, u => ∃ p kvs, u = .ref p ∧ Rd H p (.dK kvs) ∧ RepK Γ G xs kvs
  | .nd .dT xs, u => ∃ p kvs, u = .ref p ∧ Rd H p (.dT kvs) ∧ RepT Γ G xs kvs
  | .nd .dKL xs, u => ∃ p od kvs, u = .ref p ∧ H p = some (.frz od (.dK kvs)) ∧ RepK Γ G xs kvs
  | .nd .dTL xs, u => ∃ p od kvs, u = .ref p ∧ H p = some (.frz od (.dT kvs)) ∧ RepT Γ G xs kvs
  | .nd (.ins c ns) xs, u => ∃ p C dx vs, u = .ref p ∧ Γ.mg c = some (.ref C) ∧ H p = some (.ins C dx (ns.zip vs)) ∧ ns.length = vs.length ∧ RepA Γ G xs vs
theorem RdH.ofRep (s : Sub G H) {d : D} {u : V} (h : Rep Γ G d u) : RdH Γ G H d u := by
  cases h with
  | «at» a => exact rfl
  | lst h r => exact ⟨_, _, rfl, s _ _ h, r⟩
  | scr h r => exact ⟨_, _, rfl, s.sql h, r⟩
  | tup h r => exact ⟨_, _, rfl, h, r⟩
  | ktp h r => exact ⟨_, _, rfl, s.sqt h, r⟩
  | dK h r => exact ⟨_, _, rfl, s.rd h, r⟩
  | dT h r => exact ⟨_, _, rfl, s.rd h, r⟩
  | dKL h r => exact ⟨_, _, _, rfl, s _ _ h, r⟩
  | dTL h r => exact ⟨_, _, _, rfl, s _ _ h, r⟩
  | ins hm h hl r => exact ⟨_, _, _, _, rfl, hm, s _ _ h, hl, r⟩
theorem RdH.ofOwn {d : D} {p : Addr} (h : OwnAt Γ G H p d) : RdH Γ G H d (.ref p) := by
  cases d with
  | «at» a => exact h.elim
  | nd k xs =>
    obtain ⟨hk, o, ho, b⟩ := h
    cases k with
    | scr => exact b.elim
    | ktp => exact b.elim
    | lst => obtain ⟨vs, rfl, r⟩ := b; exact ⟨p, vs, rfl, ho, r⟩
    | tup => exact absurd rfl hk
    | dK => obtain ⟨vs, rfl, r⟩ := b; exact ⟨p, vs, rfl, .inl ho, r⟩
    | dT => obtain ⟨vs, rfl, r⟩ := b; exact ⟨p, vs, rfl, .inl ho, r⟩
    | dKL => obtain ⟨od, vs, rfl, r⟩ := b; exact ⟨p, od, vs, rfl, ho, r⟩
    | dTL => obtain ⟨od, vs, rfl, r⟩ := b; exact ⟨p, od, vs, rfl, ho, r⟩
    | ins c ns => obtain ⟨C, dx, vs, hm, rfl, l, r⟩ := b; exact ⟨p, C, dx, vs, rfl, hm, ho, l, r⟩
theorem TI.rd (T : TI Γ Z R G σ H fs) {x : Tv} {u : V} {d : D} (h : VOk Γ R G σ H fs x u) (e : rdv x fs = some d) : RdH Γ G H d u := by
  cases x with
  | frz d' =>
    cases e
    exact .ofRep T.gh h
  | own d' =>
    cases e
    obtain ⟨⟨p, rfl, _, _, ow⟩, _⟩ := h
    exact .ofOwn ow
  | slot i =>
    cases es : fs[i]? with
    | none => simp only [rdv, es] at e; cases e
    | some o =>
      cases o with
      | none => simp only [rdv, es] at e; cases e
      | some s =>
        simp only [rdv, es] at e
        cases e
        obtain ⟨v, hv, ok⟩ := T.sl i s es
        have hu : u = v := by
          have z : σ[i]? = some (some u) := h
          rw [z] at hv
          cases hv
          rfl
        subst hu
        obtain ⟨m, d'⟩ := s
        cases m with
        | frz => exact .ofRep T.gh ok
        | own => obtain ⟨p, rfl, _, _, ow⟩ := ok; exact .ofOwn ow
        | io => obtain ⟨p, rfl, _, _, ow⟩ := ok; exact .ofOwn ow
        | bor =>
          obtain ⟨p, rfl, ow⟩ := ok
          obtain ⟨o, ho⟩ := ow.has
          exact .ofOwn (ow.mono Sub.refl (show H p = Z.B p by rw [ho]; exact T.rh _ _ (T.br _ _ ho)))
/-- an operation on two data -/
def dop2 (g : D → D → Option Tv) (x y : Tv) : M Tv := fun fs =>
  match rdv x fs, rdv y fs with
  | some d, some e => match g d e with
    | some t => .ok t fs
    | none => .bad
  | _, _ => .bad
def dop1 (g : D → Option Tv) (x : Tv) : M Tv := fun fs =>
  match rdv x fs with
  | some d => match g d with
    | some t => .ok t fs
    | none => .bad
  | _ => .bad
/-- what an answer asks of the state as it stands -/
def Got (Γ : Gm) (Z : Zf) (R G : Hp) (σ : L2.St) (fs : Fs) (Q : VK) (t : Tv) : Prop := PstE Γ Z R G σ Q t fs
theorem sr2_dop {r : R2} {g : D → D → Option Tv} (h : ∀ (Z : Zf) (R G : Hp) (σ : L2.St) (H : Hp) (fs : Fs) (d e : D) (u w : V) (t : Tv) (Q : VK), TI Γ Z R G σ H fs → RdH Γ G H d u → RdH Γ G H e w → g d e = some t → PstE Γ Z R G σ Q t fs → r u w H Q) : SR2 Γ W r (dop2 g) := by
  intro Z R G σ H fs x y u w Q T hx hy _ hw
  unfold dop2 at hw
  cases ex : rdv x fs with
  | none => rw [ex] at hw; exact hw.elim
  | some d =>
    cases ey : rdv y fs with
    | none => rw [ex, ey] at hw; exact hw.elim
    | some e =>
      rw [ex, ey] at hw
      cases eg : g d e with
      | none => simp only [eg] at hw; exact hw.elim
      | some t =>
        simp only [eg] at hw
        exact h Z R G σ H fs d e u w t Q T (T.rd hx ex) (T.rd hy ey) eg hw
theorem sr1_dop {r : V → Hp → VK → Prop} {g : D → Option Tv} (h : ∀ (Z : Zf) (R G : Hp) (σ : L2.St) (H : Hp) (fs : Fs) (d : D) (u : V) (t : Tv) (Q : VK), TI Γ Z R G σ H fs → RdH Γ G H d u → g d = some t → PstE Γ Z R G σ Q t fs → r u H Q) : SR1 Γ W r (dop1 g) := by
  intro Z R G σ H fs x u Q T hx hw
  unfold dop1 at hw
  cases ex : rdv x fs with
  | none => rw [ex] at hw; exact hw.elim
  | some d =>
    rw [ex] at hw
    cases eg : g d with
    | none => simp only [eg] at hw; exact hw.elim
    | some t =>
      simp only [eg] at hw
      exact h Z R G σ H fs d u t Q T (T.rd hx ex) eg hw
/-- an atom as the answer -/
theorem PstE.at (T : TI Γ Z R G σ H fs) {Q : VK} {a : At} (h : PstE Γ Z R G σ Q (.frz (.at a)) fs) : Q a.v H := h G H a.v T Grow.refl (.at a)
/-- a frozen answer that stands -/
theorem PstE.rep (T : TI Γ Z R G σ H fs) {Q : VK} {d : D} {u : V} (h : PstE Γ Z R G σ Q (.frz d) fs) (r : Rep Γ G d u) : Q u H := h G H u T Grow.refl r
/-- a new list -/
theorem PstE.new (T : TI Γ Z R G σ H fs) {Q : VK} {xs : List D} {vs : List V} {p : Addr} (h : PstE Γ Z R G σ Q (.own (.nd .lst xs)) fs) (r : RepA Γ G xs vs) (n : H p = none) : Q (.ref p) (upd H p (.lst vs)) :=
  h G _ _ (T.alloc n) Grow.refl (VOk.new T n (by intro z; cases z) ⟨vs, rfl, r⟩)
/-- a new tuple -/
theorem PstE.newT (T : TI Γ Z R G σ H fs) {Q : VK} {xs : List D} {vs : List V} {p : Addr} (h : PstE Γ Z R G σ Q (.frz (.nd .tup xs)) fs) (r : RepA Γ G xs vs) (n : H p = none) : Q (.ref p) (upd H p (.tup vs)) :=
  let ⟨T', g⟩ := T.newFrz (o := .tup vs) n
  h _ _ _ T' g (.tup upd_same (r.mono g.1))

/-! ### freezing -/
def frzV (x : Tv) : M D := fun fs =>
  match x with
  | .frz d => .ok d fs
  | .own d => .ok d fs
  | .slot i => match fs[i]? with
    | some (some (.frz, d)) => .ok d fs
    | some (some (.own, d)) => .ok d (fs.set i (some (.frz, d)))
    | _ => .bad
/-- what a freeze leaves: the value is frozen; other pending values still stand -/
theorem TI.frzV (T : TI Γ Z R G σ H fs) {x : Tv} {u : V} {d : D} (h : VOk Γ R G σ H fs x u) (e : frzV x fs = .ok d fs') : ∃ G', TI Γ Z R G' σ H fs' ∧ Grow R G G' ∧ Rep Γ G' d u ∧
    ∀ (y : Tv) (w : V), VOk Γ R G σ H fs y w → (x.isOwn = true → y.isOwn = true → w ≠ u) → VOk Γ R G' σ H fs' y w := by
  have keep : ∀ {p : Addr} {o : HO} {fs' : Fs} (i : Option Nat), Grow R G (upd G p o) → (fs' = fs ∨ ∃ i d, fs[i]? = some (some (.own, d)) ∧ fs' = fs.set i (some (.frz, d)) ∧ σ[i]? = some (some (.ref p))) → ∀ (y : Tv) (w : V), VOk Γ R G σ H fs y w → (y.isOwn = true → w ≠ .ref p) → VOk Γ R (upd G p o) σ H fs' y w := by
    intro p o fs' _ g hf y w hy hne
    cases y with
    | frz d => exact Rep.mono g.1 hy
    | slot i => exact hy
    | own d =>
      obtain ⟨⟨q, rfl, rq, gq, oq⟩, nq⟩ := hy
      have ne : q ≠ p := fun z => hne rfl (by rw [z])
      refine ⟨⟨q, rfl, rq, by rw [upd_ne ne]; exact gq, oq.mono g.1 rfl⟩, fun j s ej hm => ?_⟩
      rcases hf with rfl | ⟨i, d', ei, rfl, hi⟩
      · exact nq j s ej hm
      · by_cases hj : j = i
        · subst hj
          rw [List.getElem?_set_self (List.getElem?_eq_some_iff.mp ei).1] at ej
          cases ej
          cases hm
        · rw [List.getElem?_set_ne (Ne.symm hj)] at ej
          exact nq j s ej hm
  cases x with
  | frz d' =>
    cases e
    exact ⟨G, T, Grow.refl, h, fun y w hy _ => hy⟩
  | own d' =>
    cases e
    obtain ⟨p, o, rfl, ho, gp, T', g, r⟩ := T.frzTemp h
    exact ⟨_, T', g, r, fun y w hy hne => keep none g (.inl rfl) y w hy (hne rfl)⟩
  | slot i =>
    have hu : σ[i]? = some (some u) := h
    cases es : fs[i]? with
    | none => simp only [TL.frzV, es] at e; cases e
    | some o =>
      cases o with
      | none => simp only [TL.frzV, es] at e; cases e
      | some s =>
        obtain ⟨m, d'⟩ := s
        cases m with
        | frz =>
          simp only [TL.frzV, es] at e
          cases e
          obtain ⟨v, hv, ok⟩ := T.sl i _ es
          rw [hu] at hv
          cases hv
          exact ⟨G, T, Grow.refl, ok, fun y w hy _ => hy⟩
        | own =>
          simp only [TL.frzV, es] at e
          cases e
          obtain ⟨p, o, hv, ho, rp, gp, T', g, r⟩ := T.frzSlot es
          rw [hu] at hv
          cases hv
          refine ⟨_, T', g, r, fun y w hy _ => keep (some i) g (.inr ⟨i, d, es, rfl, hu⟩) y w hy fun hyo => ?_⟩
          cases y with
          | frz d => cases hyo
          | slot j => cases hyo
          | own d2 => exact fun z => hy.2 i _ es rfl (by rw [hu, z])
        | bor => simp only [TL.frzV, es] at e; cases e
        | io => simp only [TL.frzV, es] at e; cases e
def frzA : List Tv → M (List D)
  | [] => ret []
  | x :: xs => bnd (frzV x) fun d => bnd (frzA xs) fun ds => ret (d :: ds)
theorem frzV_out (x : Tv) (fs : Fs) : (∃ d fs', frzV x fs = .ok d fs') ∨ frzV x fs = .bad := by
  cases x with
  | frz d => exact .inl ⟨_, _, rfl⟩
  | own d => exact .inl ⟨_, _, rfl⟩
  | slot i =>
    unfold frzV
    dsimp only
    split
    · exact .inl ⟨_, _, rfl⟩
    · exact .inl ⟨_, _, rfl⟩
    · exact .inr rfl
theorem TI.frzA : ∀ {xs : List Tv} {us : List V} {ds : List D} {G : Hp} {fs fs' : Fs}, TI Γ Z R G σ H fs → VsOk Γ R G σ H fs xs us → TL.frzA xs fs = .ok ds fs' → ∃ G', TI Γ Z R G' σ H fs' ∧ Grow R G G' ∧ RepA Γ G' ds us
  | [], [], ds, G, fs, fs', T, _, e => by
    cases e
    exact ⟨G, T, Grow.refl, .nil⟩
  | x :: xs, u :: us, ds, G, fs, fs', T, h, e => by
    unfold TL.frzA bnd at e
    rcases frzV_out x fs with ⟨d, fs1, e1⟩ | e1
    · rw [e1] at e
      dsimp only at e
      obtain ⟨G1, T1, g1, r1, k1⟩ := T.frzV h.1 e1
      have hk : VsOk Γ R G1 σ H fs1 xs us := by
        have go : ∀ {xs : List Tv} {us : List V}, VsOk Γ R G σ H fs xs us → (x.isOwn = true → ∀ (i : Nat) (y : Tv) (w : V), xs[i]? = some y → us[i]? = some w → y.isOwn = true → w ≠ u) → VsOk Γ R G1 σ H fs1 xs us := by
          intro xs
          induction xs with
          | nil =>
            intro us h _
            cases us with
            | nil => exact True.intro
            | cons _ _ => exact h.elim
          | cons y ys ih =>
            intro us h hn
            cases us with
            | nil => exact h.elim
            | cons w ws => exact ⟨k1 y w h.1 fun a b => hn a 0 y w rfl rfl b, h.2.1, ih h.2.2 fun a i y' w' e1 e2 => hn a (i + 1) y' w' (by simpa using e1) (by simpa using e2)⟩
        exact go h.2.2 h.2.1
      cases e2 : TL.frzA xs fs1 with
      | ok ds2 fs2 =>
        rw [e2] at e
        cases e
        obtain ⟨G2, T2, g2, r2⟩ := TI.frzA T1 hk e2
        exact ⟨G2, T2, g1.trans g2, .cons (r1.mono g2.1) r2⟩
      | ex _ _ => rw [e2] at e; cases e
      | bad => rw [e2] at e; cases e
    · rw [e1] at e
      cases e
  | [], _ :: _, _, _, _, _, _, h, _ => h.elim
  | _ :: _, [], _, _, _, _, _, h, _ => h.elim
theorem frzA_out : ∀ (xs : List Tv) (fs : Fs), (∃ d fs', frzA xs fs = .ok d fs') ∨ frzA xs fs = .bad
  | [], fs => .inl ⟨_, _, rfl⟩
  | x :: xs, fs => by
    unfold frzA bnd
    rcases frzV_out x fs with ⟨d, fs1, e⟩ | e
    · rw [e]
      dsimp only
      rcases frzA_out xs fs1 with ⟨ds, fs2, e2⟩ | e2
      · rw [e2]
        exact .inl ⟨_, _, rfl⟩
      · rw [e2]
        exact .inr rfl
    · rw [e]
      exact .inr rfl
/-- a display: a new list, a new tuple of frozen things -/
def mkL (xs : List Tv) : M Tv := bnd (frzA xs) fun ds => ret (.own (.nd .lst ds))
def mkT (xs : List Tv) : M Tv := bnd (frzA xs) fun ds => ret (.frz (.nd .tup ds))
def LenN (fa : M (List Tv)) (n : Nat) : Prop := ∀ fs xs fs', fa fs = .ok xs fs' → xs.length = n
theorem lenN_nil : LenN (ret []) 0 := fun fs xs fs' e => by
  cases e
  rfl
theorem lenN_cons {f : M Tv} {fr : M (List Tv)} {n : Nat} (h : LenN fr n) : LenN (bnd f fun x => bnd fr fun xs => ret (x :: xs)) (n + 1) := fun fs xs fs' e => by
  unfold bnd at e
  cases e1 : f fs with
  | bad => rw [e1] at e; cases e
  | ex _ _ => rw [e1] at e; cases e
  | ok x fs1 =>
    rw [e1] at e
    dsimp only at e
    cases e2 : fr fs1 with
    | bad => rw [e2] at e; cases e
    | ex _ _ => rw [e2] at e; cases e
    | ok ys fs2 =>
      rw [e2] at e
      cases e
      rw [List.length_cons, h _ _ _ e2]
theorem se_lst {ta : TA} {fa : M (List Tv)} (n : Nat) (hn : n ≤ 1000) (hl : LenN fa n) (ha : SA Γ W ta fa) : SE Γ W (tLst ta) (bnd fa mkL) := by
  intro Z R G σ H fs Q T h
  have hlen := hl fs
  cases ef : fa fs with
  | bad => unfold bnd at h; rw [ef] at h; exact h.elim
  | ex x fs1 =>
    unfold bnd at h
    rw [ef] at h
    exact ha Z R G σ H fs _ T (by rw [ef]; exact h)
  | ok xs fs1 =>
    unfold bnd at h
    rw [ef] at h
    dsimp only at h
    refine ha Z R G σ H fs _ T ?_
    rw [ef]
    refine fun G1 H1 us T1 g1 v1 => ?_
    have hz : us.length = n := by rw [← v1.len]; exact hlen xs fs1 ef
    refine ⟨by rw [hz]; exact Nat.le_trans hn (by decide), fun p hp => ?_⟩
    unfold mkL bnd at h
    rcases frzA_out xs fs1 with ⟨ds, fs2, e2⟩ | e2
    · rw [e2] at h
      obtain ⟨G2, T2, g2, r2⟩ := TI.frzA T1 v1 e2
      exact PstE.new T2 (PstE.grow (g1.trans g2) h) r2 hp
    · rw [e2] at h
      exact h.elim
theorem se_tup {ta : TA} {fa : M (List Tv)} (n : Nat) (hn : n ≤ 1000) (hl : LenN fa n) (ha : SA Γ W ta fa) : SE Γ W (tTup ta) (bnd fa mkT) := by
  intro Z R G σ H fs Q T h
  have hlen := hl fs
  cases ef : fa fs with
  | bad => unfold bnd at h; rw [ef] at h; exact h.elim
  | ex x fs1 =>
    unfold bnd at h
    rw [ef] at h
    exact ha Z R G σ H fs _ T (by rw [ef]; exact h)
  | ok xs fs1 =>
    unfold bnd at h
    rw [ef] at h
    dsimp only at h
    refine ha Z R G σ H fs _ T ?_
    rw [ef]
    refine fun G1 H1 us T1 g1 v1 => ?_
    have hz : us.length = n := by rw [← v1.len]; exact hlen xs fs1 ef
    refine ⟨by rw [hz]; exact Nat.le_trans hn (by decide), fun p hp => ?_⟩
    unfold mkT bnd at h
    rcases frzA_out xs fs1 with ⟨ds, fs2, e2⟩ | e2
    · rw [e2] at h
      obtain ⟨G2, T2, g2, r2⟩ := TI.frzA T1 v1 e2
      exact PstE.newT T2 (PstE.grow (g1.trans g2) h) r2 hp
    · rw [e2] at h
      exact h.elim
end
end TL

/-! Statements, loops, defs, calls over data. -/
namespace TL
open PySem PySem.Spec PyProof.Rows L2

inductive SOut where
  | nx (fs : Fs) | rt (v : Tv) (fs : Fs) | bk (fs : Fs) | ct (fs : Fs) | ex (x : Ex) (fs : Fs) | bad
abbrev S := Fs → SOut
def SWp (Γ : Gm) (Z : Zf) (R G : Hp) (W : WX) (D : Ends) : SOut → Prop
  | .nx fs' => ∀ (σ' : L2.St) (G' H' : Hp), TI Γ Z R G' σ' H' fs' → Grow R G G' → D.nx σ' H'
  | .rt v fs' => ∀ (σ' : L2.St) (G' H' : Hp) (u : V), TI Γ Z R G' σ' H' fs' → Grow R G G' → VOk Γ R G' σ' H' fs' v u → D.rt u H'
  | .bk fs' => ∀ (σ' : L2.St) (G' H' : Hp), TI Γ Z R G' σ' H' fs' → Grow R G G' → D.bk σ' H'
  | .ct fs' => ∀ (σ' : L2.St) (G' H' : Hp), TI Γ Z R G' σ' H' fs' → Grow R G G' → D.ct σ' H'
  | .ex x fs' => ∀ (σ' : L2.St) (G' H' : Hp) (c : Value) (dd : Option Addr), TI Γ Z R G' σ' H' fs' → Grow R G G' → XOk Γ G' H' x c dd → W c dd σ' H'
  | .bad => False
def SS (Γ : Gm) (W : WX) (ts : TS) (g : S) : Prop := ∀ (Z : Zf) (R G : Hp) (σ : L2.St) (H : Hp) (fs : Fs) (D : Ends), TI Γ Z R G σ H fs → SWp Γ Z R G W D (g fs) → ts D σ H
section
variable {Γ : Gm} {Z : Zf} {R R1 G G1 G' H H' : Hp} {σ : L2.St} {fs fs' : Fs} {W : WX} {Dn : Ends}
theorem SWp.grow (g : Grow R G G1) {o : SOut} (h : SWp Γ Z R G W Dn o) : SWp Γ Z R G1 W Dn o := by
  cases o with
  | nx fs' => exact fun σ' G' H' T g' => h σ' G' H' T (g.trans g')
  | rt v fs' => exact fun σ' G' H' u T g' => h σ' G' H' u T (g.trans g')
  | bk fs' => exact fun σ' G' H' T g' => h σ' G' H' T (g.trans g')
  | ct fs' => exact fun σ' G' H' T g' => h σ' G' H' T (g.trans g')
  | ex x fs' => exact fun σ' G' H' c dd T g' => h σ' G' H' c dd T (g.trans g')
  | bad => exact h
theorem SWp.weak (s : Sub R R1) (b : Sub Z.B R) {o : SOut} (h : SWp Γ Z R G W Dn o) : SWp Γ Z R1 G W Dn o := by
  cases o with
  | nx fs' => exact fun σ' G' H' T g' => h σ' G' H' (T.weak s b) (g'.sub s)
  | rt v fs' => exact fun σ' G' H' u T g' v => h σ' G' H' u (T.weak s b) (g'.sub s) (v.weak s)
  | bk fs' => exact fun σ' G' H' T g' => h σ' G' H' (T.weak s b) (g'.sub s)
  | ct fs' => exact fun σ' G' H' T g' => h σ' G' H' (T.weak s b) (g'.sub s)
  | ex x fs' => exact fun σ' G' H' c dd T g' => h σ' G' H' c dd (T.weak s b) (g'.sub s)
  | bad => exact h
/-- from an expression on -/
def sbnd {α : Type} (f : M α) (k : α → S) : S := fun fs =>
  match f fs with
  | .ok v fs' => k v fs'
  | .ex x fs' => .ex x fs'
  | .bad => .bad
theorem swp_bnd {α : Type} {f : M α} {k : α → S} {P : α → Fs → Prop} (h : SWp Γ Z R G W Dn (sbnd f k fs)) (hp : ∀ v fs', SWp Γ Z R G W Dn (k v fs') → P v fs') : (f fs).Wp P (PstX Γ Z R G σ W) := by
  unfold sbnd at h
  cases e : f fs with
  | ok v fs' => rw [e] at h; exact hp v fs' h
  | ex x fs' => rw [e] at h; exact fun G' H' c dd T g q => h σ G' H' c dd T g q
  | bad => rw [e] at h; exact h
def sseq (g1 g2 : S) : S := fun fs =>
  match g1 fs with
  | .nx fs' => g2 fs'
  | o => o
theorem ss_next : SS Γ W tNext .nx := fun Z R G σ H fs D T h => h σ G H T Grow.refl
theorem ss_brk : SS Γ W tBreak .bk := fun Z R G σ H fs D T h => h σ G H T Grow.refl
theorem ss_cont : SS Γ W tCont .ct := fun Z R G σ H fs D T h => h σ G H T Grow.refl
theorem ss_seq {t u : TS} {g1 g2 : S} (h1 : SS Γ W t g1) (h2 : SS Γ W u g2) : SS Γ W (tSeq t u) (sseq g1 g2) := by
  intro Z R G σ H fs D T h
  refine h1 Z R G σ H fs _ T ?_
  unfold sseq at h
  cases e : g1 fs with
  | nx fs' => rw [e] at h; exact fun σ' G' H' T' g => h2 Z R G' σ' H' fs' D T' (h.grow g)
  | rt v fs' => rw [e] at h; exact h
  | bk fs' => rw [e] at h; exact h
  | ct fs' => rw [e] at h; exact h
  | ex x fs' => rw [e] at h; exact h
  | bad => rw [e] at h; exact h
def sif (c : M Bool) (a b : S) : S := sbnd c fun k => if k = true then a else b
theorem ss_if {c : TT} {t u : TS} {fc : M Bool} {a b : S} (hc : ST Γ W c fc) (h1 : SS Γ W t a) (h2 : SS Γ W u b) : SS Γ W (tIfS c t u) (sif fc a b) := by
  intro Z R G σ H fs D T h
  refine hc Z R G σ H fs _ T (swp_bnd h fun k fs1 hk G1 H1 T1 g1 => ?_)
  cases k with
  | true => exact h1 Z R G1 σ H1 fs1 D T1 (SWp.grow g1 hk)
  | false => exact h2 Z R G1 σ H1 fs1 D T1 (SWp.grow g1 hk)
def sdrop (f : M Tv) : S := sbnd f fun _ => .nx
theorem ss_drop {te : TE} {f : M Tv} (he : SE Γ W te f) : SS Γ W (tDrop te) (sdrop f) := by
  intro Z R G σ H fs D T h
  exact he Z R G σ H fs _ T (swp_bnd h fun v fs1 hv G1 H1 u T1 g1 _ => hv σ G1 H1 T1 g1)
def sret (f : M Tv) : S := sbnd f fun v => .rt v
theorem ss_ret {te : TE} {f : M Tv} (he : SE Γ W te f) : SS Γ W (tRet te) (sret f) := by
  intro Z R G σ H fs D T h
  exact he Z R G σ H fs _ T (swp_bnd h fun v fs1 hv G1 H1 u T1 g1 v1 => hv σ G1 H1 u T1 g1 v1)
theorem ss_retN : SS Γ W tRetN (.rt (.frz (.at .non))) := fun Z R G σ H fs D T h => h σ G H .non T Grow.refl (Rep.at .non)

/-! ### slots are stored -/
/-- resolved: frozen or owned -/
def resV (x : Tv) : M Sl :=
  match x with
  | .own d => ret (Md.own, d)
  | .frz d => ret (Md.frz, d)
  | .slot i => bnd (frzV (.slot i)) fun d => ret (Md.frz, d)
def freeAt (fs : Fs) (i : Nat) : Bool :=
  match fs[i]? with
  | none => false
  | some (some (.io, _)) => false
  | some (some (.bor, _)) => false
  | _ => true
def put (i : Nat) (s : Sl) : S := fun fs => if freeAt fs i = true then .nx (fs.set i (some s)) else .bad
def RsOk (Γ : Gm) (R G : Hp) (σ : L2.St) (H : Hp) (fs : Fs) (s : Sl) (u : V) : Prop :=
  (s.1 = .frz ∧ Rep Γ G s.2 u) ∨ (s.1 = .own ∧ VOk Γ R G σ H fs (.own s.2) u)
theorem TI.put (T : TI Γ Z R G σ H fs) {i : Nat} {s : Sl} {u : V} (hs : RsOk Γ R G σ H fs s u) (hf : freeAt fs i = true) : TI Γ Z R G (σ.set i (some u)) H (fs.set i (some s)) := by
  have hi : i < fs.length := by
    unfold freeAt at hf
    cases e : fs[i]? with
    | none => rw [e] at hf; cases hf
    | some o => exact (List.getElem?_eq_some_iff.mp e).1
  have hi' : i < σ.length := by rw [← T.len]; exact hi
  have sl : SlOk Γ Z R G H s u := by
    obtain ⟨m, d⟩ := s
    rcases hs with ⟨rfl, r⟩ | ⟨rfl, r⟩
    · exact r
    · exact r.1
  have oth : ∀ {j : Nat} {t : Sl}, (fs.set i (some s))[j]? = some (some t) → (j = i ∧ t = s) ∨ (j ≠ i ∧ fs[j]? = some (some t)) := fun {j t} e => by
    by_cases hj : j = i
    · subst hj
      rw [List.getElem?_set_self hi] at e
      cases e
      exact .inl ⟨rfl, rfl⟩
    · rw [List.getElem?_set_ne (Ne.symm hj)] at e
      exact .inr ⟨hj, e⟩
  have ne : s.1.mut = true → ∀ (j : Nat) (t : Sl), fs[j]? = some (some t) → t.1.mut = true → σ[j]? ≠ some (some u) := fun hm j t e ht => by
    rcases hs with ⟨z, r⟩ | ⟨z, r⟩
    · rw [z] at hm; cases hm
    · exact r.2 j t e ht
  refine ⟨T.gh, T.rh, T.br, by rw [List.length_set, List.length_set]; exact T.len, fun j t e => ?_, fun j k t t' v e1 e2 m1 m2 v1 v2 => ?_, fun q n w hq => ?_, fun j d' ej => ?_⟩
  · rcases oth e with ⟨rfl, rfl⟩ | ⟨hj, e⟩
    · exact ⟨u, List.getElem?_set_self hi', sl⟩
    · obtain ⟨v, a, b⟩ := T.sl j t e
      exact ⟨v, by rw [List.getElem?_set_ne (Ne.symm hj)]; exact a, b⟩
  · rcases oth e1 with ⟨rfl, rfl⟩ | ⟨hj, e1'⟩
    · rcases oth e2 with ⟨rfl, rfl⟩ | ⟨hk, e2'⟩
      · rfl
      · rw [List.getElem?_set_self hi'] at v1
        rw [List.getElem?_set_ne (Ne.symm hk)] at v2
        cases v1
        exact absurd v2 (ne m1 k t' e2' m2)
    · rcases oth e2 with ⟨rfl, rfl⟩ | ⟨hk, e2'⟩
      · rw [List.getElem?_set_self hi'] at v2
        rw [List.getElem?_set_ne (Ne.symm hj)] at v1
        cases v2
        exact absurd v1 (ne m2 j t e1' m1)
      · rw [List.getElem?_set_ne (Ne.symm hj)] at v1
        rw [List.getElem?_set_ne (Ne.symm hk)] at v2
        exact T.inj j k t t' v e1' e2' m1 m2 v1 v2
  · obtain ⟨⟨d', h1, h2⟩, hm⟩ := T.io q n w hq
    have hj : q ≠ i := fun z => by
      unfold freeAt at hf
      rw [← z, h1] at hf
      rcases hm with z3 | z3 <;> (rw [z3] at hf; cases hf)
    exact ⟨⟨d', by rw [List.getElem?_set_ne (Ne.symm hj)]; exact h1, by rw [List.getElem?_set_ne (Ne.symm hj)]; exact h2⟩, hm⟩
  · rcases oth ej with ⟨rfl, e'⟩ | ⟨_, q⟩
    · have z : Md.bor = s.1 := congrArg Prod.fst e'
      rcases hs with ⟨w, _⟩ | ⟨w, _⟩ <;> (rw [w] at z; cases z)
    · exact T.bp j d' q
theorem resV_out (x : Tv) (fs : Fs) : (∃ s fs', resV x fs = .ok s fs') ∨ resV x fs = .bad := by
  cases x with
  | own d => exact .inl ⟨_, _, rfl⟩
  | frz d => exact .inl ⟨_, _, rfl⟩
  | slot i =>
    show (∃ s fs', bnd (frzV (.slot i)) (fun d => ret (Md.frz, d)) fs = .ok s fs') ∨ bnd (frzV (.slot i)) (fun d => ret (Md.frz, d)) fs = .bad
    unfold bnd
    rcases frzV_out (.slot i) fs with ⟨d, fs', e⟩ | e
    · rw [e]; exact .inl ⟨_, _, rfl⟩
    · rw [e]; exact .inr rfl
theorem TI.resV (T : TI Γ Z R G σ H fs) {x : Tv} {u : V} {s : Sl} (h : VOk Γ R G σ H fs x u) (e : TL.resV x fs = .ok s fs') : ∃ G', TI Γ Z R G' σ H fs' ∧ Grow R G G' ∧ RsOk Γ R G' σ H fs' s u ∧
    ∀ (y : Tv) (w : V), VOk Γ R G σ H fs y w → (x.isOwn = true → y.isOwn = true → w ≠ u) → VOk Γ R G' σ H fs' y w := by
  cases x with
  | own d =>
    cases e
    exact ⟨G, T, Grow.refl, .inr ⟨rfl, h⟩, fun y w hy _ => hy⟩
  | frz d =>
    cases e
    exact ⟨G, T, Grow.refl, .inl ⟨rfl, h⟩, fun y w hy _ => hy⟩
  | slot i =>
    have e' : bnd (TL.frzV (Tv.slot i)) (fun d => ret (Md.frz, d)) fs = .ok s fs' := e
    unfold bnd at e'
    rcases frzV_out (.slot i) fs with ⟨d, fs1, e1⟩ | e1
    · rw [e1] at e'
      cases e'
      obtain ⟨G1, T1, g1, r1, k1⟩ := T.frzV h e1
      exact ⟨G1, T1, g1, .inl ⟨rfl, r1⟩, k1⟩
    · rw [e1] at e'
      cases e'
/-- name = value -/
def sset (i : Nat) (f : M Tv) : S := sbnd (bnd f resV) (put i)
theorem ss_set {i : Nat} {te : TE} {f : M Tv} (he : SE Γ W te f) : SS Γ W (tAsg te (gName i)) (sset i f) := by
  intro Z R G σ H fs D T h
  have h2 : (bnd f resV fs).Wp (fun s fs' => SWp Γ Z R G W D (put i s fs')) (PstX Γ Z R G σ W) := swp_bnd h fun _ _ q => q
  refine he Z R G σ H fs _ T ((wp_bnd.mp h2).mono (fun v fs1 hv G1 H1 u T1 g1 v1 => ?_) fun _ _ q => q)
  rcases resV_out v fs1 with ⟨s, fs2, e⟩ | e
  · rw [e] at hv
    obtain ⟨G2, T2, g2, r2, _⟩ := T1.resV v1 e
    have hv : SWp Γ Z R G W D (put i s fs2) := hv
    unfold put at hv
    by_cases hf : freeAt fs2 i = true
    · rw [if_pos hf] at hv
      exact hv _ _ _ (T2.put r2 hf) (g1.trans g2)
    · rw [if_neg hf] at hv
      exact hv.elim
  · rw [e] at hv
    exact hv.elim

/-! ### targets -/
inductive Pat where
  | nm (i : Nat) | tp (ps : List Pat)
mutual
def asg : Pat → D → Fs → Option Fs
  | .nm i, d, fs => if freeAt fs i = true then some (fs.set i (some (.frz, d))) else none
  | .tp ps, .nd .tup ds, fs => asgs ps ds fs
  | .tp _, _, _ => none
def asgs : List Pat → List D → Fs → Option Fs
  | [], [], fs => some fs
  | p :: ps, d :: ds, fs => match asg p d fs with
    | some fs' => asgs ps ds fs'
    | none => none
  | _, _, _ => none
end
mutual
def Pat.sl : Pat → List Nat
  | .nm i => [i]
  | .tp ps => slsOf ps
def slsOf : List Pat → List Nat
  | [] => []
  | p :: ps => p.sl ++ slsOf ps
end
/-- the slots off sl stand as they were -/
def Off (sl : List Nat) (σ σ' : L2.St) : Prop := σ'.length = σ.length ∧ ∀ i, i ∉ sl → σ'[i]? = σ[i]?
theorem Off.refl {sl : List Nat} : Off sl σ σ := ⟨rfl, fun _ _ => rfl⟩
def SG (Γ : Gm) (g : TG) (p : Pat) : Prop := ∀ (Z : Zf) (R G : Hp) (σ : L2.St) (H : Hp) (fs fs' : Fs) (d : D) (u : V) (Q : L2.St → Hp → Prop), TI Γ Z R G σ H fs → Rep Γ G d u → asg p d fs = some fs' → (∀ σ', TI Γ Z R G σ' H fs' → Off p.sl σ σ' → Q σ' H) → g u σ H Q
def SGs (Γ : Gm) (g : TGs) (ps : List Pat) : Prop := ∀ (Z : Zf) (R G : Hp) (σ : L2.St) (H : Hp) (fs fs' : Fs) (ds : List D) (us : List V) (Q : L2.St → Hp → Prop), TI Γ Z R G σ H fs → RepA Γ G ds us → asgs ps ds fs = some fs' → (∀ σ', TI Γ Z R G σ' H fs' → Off (slsOf ps) σ σ' → Q σ' H) → g us σ H Q
theorem sg_name {i : Nat} : SG Γ (gName i) (.nm i) := by
  intro Z R G σ H fs fs' d u Q T r e q
  unfold asg at e
  by_cases hf : freeAt fs i = true
  · rw [if_pos hf] at e
    cases e
    refine q _ (T.put (.inl ⟨rfl, r⟩) hf) ⟨List.length_set, fun j hj => ?_⟩
    have hj : j ∉ (Pat.nm i).sl := hj
    unfold Pat.sl at hj
    exact List.getElem?_set_ne (fun z => hj (by rw [z]; exact List.mem_singleton.mpr rfl))
  · rw [if_neg hf] at e
    cases e
theorem sgs_nil : SGs Γ gNil [] := by
  intro Z R G σ H fs fs' ds us Q T r e q
  cases r with
  | nil =>
    unfold asgs at e
    cases e
    exact ⟨rfl, q σ T Off.refl⟩
  | cons h r =>
    unfold asgs at e
    cases e
theorem sgs_cons {t : TG} {u : TGs} {p : Pat} {ps : List Pat} (h1 : SG Γ t p) (h2 : SGs Γ u ps) : SGs Γ (gCons t u) (p :: ps) := by
  intro Z R G σ H fs fs' ds us Q T r e q
  cases r with
  | nil =>
    unfold asgs at e
    cases e
  | @cons d v ds vs hd r =>
    unfold asgs at e
    cases e1 : asg p d fs with
    | none => rw [e1] at e; cases e
    | some fs1 =>
      rw [e1] at e
      refine ⟨v, vs, rfl, h1 Z R G σ H fs fs1 d v _ T hd e1 fun σ1 T1 o1 => h2 Z R G σ1 H fs1 fs' ds vs Q T1 r e fun σ2 T2 o2 => q σ2 T2 ⟨o2.1.trans o1.1, fun i hi => ?_⟩⟩
      have hi : i ∉ slsOf (p :: ps) := hi
      unfold slsOf at hi
      rw [o2.2 i fun z => hi (List.mem_append_right _ z), o1.2 i fun z => hi (List.mem_append_left _ z)]
theorem sg_tup {n : Nat} {t : TGs} {ps : List Pat} (hn : ps.length = n) (h : SGs Γ t ps) : SG Γ (gTup Γ.K n t) (.tp ps) := by
  intro Z R G σ H fs fs' d u Q T r e q
  have hl : ∀ {ps : List Pat} {ds : List D} {fs fs' : Fs}, asgs ps ds fs = some fs' → ds.length = ps.length := by
    intro ps
    induction ps with
    | nil =>
      intro ds fs fs' e
      cases ds with
      | nil => rfl
      | cons d ds => unfold asgs at e; cases e
    | cons p ps ih =>
      intro ds fs fs' e
      cases ds with
      | nil => unfold asgs at e; cases e
      | cons d ds =>
        unfold asgs at e
        cases e1 : asg p d fs with
        | none => rw [e1] at e; cases e
        | some fs1 =>
          rw [e1] at e
          rw [List.length_cons, List.length_cons, ih e]
  cases r with
  | tup hs ra =>
    unfold asg at e
    exact ⟨_, _, rfl, SqT.of (T.gh _ _ hs), by rw [← ra.len, hl e, hn], h Z R G σ H fs fs' _ _ Q T ra e fun σ' T' o => q σ' T' (by unfold Pat.sl; exact o)⟩
  | _ => unfold asg at e; cases e
/-- target = value, the value frozen -/
def sasg (p : Pat) (f : M Tv) : S := sbnd (bnd f frzV) fun d fs => match asg p d fs with | some fs' => .nx fs' | none => .bad
theorem ss_asg {p : Pat} {g : TG} {te : TE} {f : M Tv} (he : SE Γ W te f) (hg : SG Γ g p) : SS Γ W (tAsg te g) (sasg p f) := by
  intro Z R G σ H fs D T h
  have h2 : (bnd f frzV fs).Wp (fun d fs' => SWp Γ Z R G W D (match asg p d fs' with | some fs' => .nx fs' | none => .bad)) (PstX Γ Z R G σ W) := swp_bnd h fun _ _ q => q
  refine he Z R G σ H fs _ T ((wp_bnd.mp h2).mono (fun v fs1 hv G1 H1 u T1 g1 v1 => ?_) fun _ _ q => q)
  rcases frzV_out v fs1 with ⟨d, fs2, e⟩ | e
  · rw [e] at hv
    obtain ⟨G2, T2, g2, r2, _⟩ := T1.frzV v1 e
    have hv : SWp Γ Z R G W D (match asg p d fs2 with | some fs' => .nx fs' | none => .bad) := hv
    cases ea : asg p d fs2 with
    | none => rw [ea] at hv; exact hv.elim
    | some fs3 =>
      rw [ea] at hv
      exact hg Z R G2 σ H1 fs2 fs3 d u _ T2 r2 ea fun σ' T' _ => hv σ' _ _ T' (g1.trans g2)
  · rw [e] at hv
    exact hv.elim
/-- a, b = x, y, both sides written -/
def spar (i j : Nat) (f : M (List Tv)) : S := sbnd f fun vs => match vs with
  | [v, w] => sbnd (bnd (resV v) fun s => bnd (resV w) fun t => ret (s, t)) fun p => sseq (put i p.1) (put j p.2)
  | _ => fun _ => .bad
theorem RsOk.put {s t : Sl} {u w : V} {i : Nat} (hs : RsOk Γ R G σ H fs s u) (ht : RsOk Γ R G σ H fs t w) (hne : s.1 = .own → t.1 = .own → w ≠ u) (hl : fs.length = σ.length) : RsOk Γ R G (σ.set i (some u)) H (fs.set i (some s)) t w := by
  rcases ht with ⟨e, r⟩ | ⟨e, r⟩
  · exact .inl ⟨e, r⟩
  · refine .inr ⟨e, r.1, fun k a ek hm => ?_⟩
    by_cases hk : k = i
    · subst hk
      by_cases hi : k < fs.length
      · rw [List.getElem?_set_self hi] at ek
        cases ek
        rw [List.getElem?_set_self (by rw [← hl]; exact hi)]
        intro z
        cases z
        rcases hs with ⟨z, _⟩ | ⟨z, _⟩
        · rw [z] at hm; cases hm
        · exact hne z e rfl
      · rw [List.getElem?_eq_none (by rw [List.length_set]; omega)] at ek
        cases ek
    · rw [List.getElem?_set_ne (Ne.symm hk)] at ek ⊢
      exact r.2 k a ek hm
theorem RsOk.keep {s : Sl} {u : V} (hs : RsOk Γ R G σ H fs s u) (g : Grow R G G') (k : ∀ (y : Tv) (w : V), VOk Γ R G σ H fs y w → (y.isOwn = true → w ≠ u ∨ True) → True) (h : s.1 = .own → VOk Γ R G' σ H fs' (.own s.2) u) : RsOk Γ R G' σ H fs' s u := by
  rcases hs with ⟨e, r⟩ | ⟨e, r⟩
  · exact .inl ⟨e, r.mono g.1⟩
  · exact .inr ⟨e, h e⟩
theorem resV_own {x : Tv} {s : Sl} {fs fs' : Fs} (e : resV x fs = .ok s fs') : s.1 = .own → x = .own s.2 := by
  intro h
  cases x with
  | own d => cases e; rfl
  | frz d => cases e; cases h
  | slot i =>
    have e' : bnd (frzV (.slot i)) (fun d => ret (Md.frz, d)) fs = .ok s fs' := e
    unfold bnd at e'
    rcases frzV_out (.slot i) fs with ⟨d, fs1, e1⟩ | e1
    · rw [e1] at e'
      cases e'
      cases h
    · rw [e1] at e'
      cases e'
theorem ss_par {i j : Nat} {ta : TA} {f : M (List Tv)} (ha : SA Γ W ta f) : SS Γ W (tPar i j ta) (spar i j f) := by
  intro Z R G σ H fs D T h
  refine ha Z R G σ H fs _ T (swp_bnd h fun vs fs1 hv G1 H1 us T1 g1 v1 => ?_)
  match vs, us, hv, v1 with
  | [v, w], [u, x], hv, v1 =>
    obtain ⟨v1, ne, v2, _⟩ := v1
    have hv : SWp Γ Z R G W D (sbnd (bnd (resV v) fun s => bnd (resV w) fun t => ret (s, t)) (fun p => sseq (put i p.1) (put j p.2)) fs1) := hv
    unfold sbnd bnd at hv
    rcases resV_out v fs1 with ⟨s, fs2, e⟩ | e
    · rw [e] at hv
      obtain ⟨G2, T2, g2, r2, k2⟩ := T1.resV v1 e
      have v2' := k2 w x v2 fun a b => ne a 0 w x rfl rfl b
      dsimp only at hv
      rcases resV_out w fs2 with ⟨t, fs3, e'⟩ | e'
      · rw [e'] at hv
        obtain ⟨G3, T3, g3, r3, k3⟩ := T2.resV v2' e'
        have hv : SWp Γ Z R G W D (sseq (put i s) (put j t) fs3) := hv
        have r2' : RsOk Γ R G3 σ H1 fs3 s u := by
          rcases r2 with ⟨z, r⟩ | ⟨z, r⟩
          · exact .inl ⟨z, r.mono g3.1⟩
          · refine .inr ⟨z, k3 _ _ r fun a b => ?_⟩
            have hx : v = .own s.2 := resV_own e z
            exact fun q => ne (by rw [hx]; rfl) 0 w x rfl rfl a q.symm
        unfold sseq put at hv
        by_cases hf : freeAt fs3 i = true
        · simp only [if_pos hf] at hv
          have P1 := T3.put r2' hf
          have r4 := r2'.put (i := i) r3 (fun a b => ne (by rw [resV_own e a]; rfl) 0 w x rfl rfl (by rw [resV_own e' b]; rfl)) T3.len
          by_cases hf2 : freeAt (fs3.set i (some s)) j = true
          · rw [if_pos hf2] at hv
            exact ⟨u, x, rfl, hv _ _ _ (P1.put r4 hf2) (g1.trans (g2.trans g3))⟩
          · rw [if_neg hf2] at hv
            exact hv.elim
        · simp only [if_neg hf] at hv
          exact hv.elim
      · rw [e'] at hv
        exact hv.elim
    · rw [e] at hv
      exact hv.elim
  | [], _, hv, _ => exact hv.elim
  | [_], _, hv, _ => exact hv.elim
  | _ :: _ :: _ :: _, _, hv, _ => exact hv.elim
  | [_, _], [], _, v1 => exact v1.elim
  | [_, _], [_], _, v1 => exact v1.2.2.elim
  | [_, _], _ :: _ :: _ :: _, _, v1 => exact v1.2.2.2.2.elim

/-! ### while -/
def swhile (c : M Bool) (b : S) : Nat → S
  | 0 => fun _ => .bad
  | n + 1 => sbnd c fun k => if k = true then fun fs => match b fs with
      | .nx fs' => swhile c b n fs'
      | .ct fs' => swhile c b n fs'
      | .bk fs' => .nx fs'
      | o => o
    else .nx
theorem ss_while {c : TT} {t : TS} {fc : M Bool} {b : S} (n : Nat) (hc : ST Γ W c fc) (hb : SS Γ W t b) : SS Γ W (tWhile c t) (swhile fc b n) := by
  intro Z R G σ H fs D T h
  refine ⟨fun m σ1 H1 => ∃ G1 fs1, TI Γ Z R G1 σ1 H1 fs1 ∧ SWp Γ Z R G1 W D (swhile fc b m fs1), ⟨n, G, fs, T, h⟩, ?_⟩
  rintro m σ1 H1 ⟨G1, fs1, T1, h1⟩
  cases m with
  | zero => exact h1.elim
  | succ m =>
    refine hc Z R G1 σ1 H1 fs1 _ T1 (swp_bnd h1 fun k fs2 hk G2 H2 T2 g2 => ?_)
    cases k with
    | false => exact hk σ1 G2 H2 T2 g2
    | true =>
      refine ⟨fun σ' H' => ∃ G' fs', TI Γ Z R G' σ' H' fs' ∧ SWp Γ Z R G' W D (swhile fc b m fs'), fun σ' H' q => ⟨m, Nat.lt_succ_self m, q⟩, ?_⟩
      have hk : SWp Γ Z R G1 W D (match b fs2 with
        | .nx fs' => swhile fc b m fs'
        | .ct fs' => swhile fc b m fs'
        | .bk fs' => .nx fs'
        | o => o) := hk
      refine hb Z R G2 σ1 H2 fs2 _ T2 ?_
      cases e : b fs2 with
      | nx fs3 => rw [e] at hk; exact fun σ3 G3 H3 T3 g3 => ⟨G3, fs3, T3, hk.grow (g2.trans g3)⟩
      | ct fs3 => rw [e] at hk; exact fun σ3 G3 H3 T3 g3 => ⟨G3, fs3, T3, hk.grow (g2.trans g3)⟩
      | bk fs3 => rw [e] at hk; exact fun σ3 G3 H3 T3 g3 => hk σ3 G3 H3 T3 (g2.trans g3)
      | rt v fs3 => rw [e] at hk; exact fun σ3 G3 H3 u T3 g3 => hk σ3 G3 H3 u T3 (g2.trans g3)
      | ex x fs3 => rw [e] at hk; exact fun σ3 G3 H3 c dd T3 g3 => hk σ3 G3 H3 c dd T3 (g2.trans g3)
      | bad => rw [e] at hk; exact hk
end
end TL

/-! Loops, comprehensions, defs and calls over data. -/
namespace TL
open PySem PySem.Spec PyProof.Rows L2

/-! ### what a loop walks -/
structure Itv where
  items : List D
  lk : Option Nat := none
def lkf (lk : Option Nat) (fs : Fs) : Fs :=
  match lk with
  | none => fs
  | some i => match fs[i]? with
    | some (some (.own, d)) => fs.set i (some (.bor, d))
    | _ => fs
def unl (lk : Option Nat) (fs : Fs) : Fs :=
  match lk with
  | none => fs
  | some i => match fs[i]? with
    | some (some (.bor, d)) => fs.set i (some (.own, d))
    | _ => fs
/-- what turn i gives: a frozen thing, or a new tuple of frozen things -/
def Gives (Γ : Gm) (G : Hp) (items : List D) (i : Nat) (H : Hp) (x : V) (H' : Hp) : Prop :=
  ∃ d, items[i]? = some d ∧ ((H' = H ∧ Rep Γ G d x) ∨ (∃ p ds vs, d = .nd .tup ds ∧ x = .ref p ∧ H p = none ∧ H' = upd H p (.tup vs) ∧ RepA Γ G ds vs) ∨ ∃ p ds vs, d = .nd .tup ds ∧ x = .ref p ∧ H p = some (.tup vs) ∧ H' = H ∧ RepA Γ G ds vs)
structure JOk (Γ : Gm) (Z : Zf) (R G : Hp) (σ : L2.St) (H : Hp) (fs : Fs) (it : Itv) (J : It) (Z1 : Zf) (R1 : Hp) : Prop where
  ti : TI Γ Z1 R1 G σ H (lkf it.lk fs)
  sub : Sub R R1
  pins : ∀ (q : Nat) (n : Md) (v : V), Z.io q n v → Z1.io q n v
  back : ∀ (σ' : L2.St) (G2 H2 : Hp) (fs2 : Fs), TI Γ Z1 R1 G2 σ' H2 fs2 → Grow R1 G G2 → TI Γ Z R G2 σ' H2 (unl it.lk fs2) ∧ ∀ (x : Tv) (u : V), VOk Γ R1 G2 σ' H2 fs2 x u → VOk Γ R G2 σ' H2 (unl it.lk fs2) x u
  walk : Walk J it.items.length (fun H => Sub R1 H ∧ Sub G H) (Gives Γ G it.items)
def PstI (Γ : Gm) (Z : Zf) (R G : Hp) (σ : L2.St) (Q : It → Hp → Prop) : Itv → Fs → Prop := fun it fs' => ∀ (G' H' : Hp) (J : It) (Z1 : Zf) (R1 : Hp), TI Γ Z R G' σ H' fs' → Grow R G G' → JOk Γ Z R G' σ H' fs' it J Z1 R1 → Q J H'
def SI (Γ : Gm) (W : WX) (wi : L2.TI) (f : M Itv) : Prop := ∀ (Z : Zf) (R G : Hp) (σ : L2.St) (H : Hp) (fs : Fs) (Q : It → Hp → Prop), TI Γ Z R G σ H fs → (f fs).Wp (PstI Γ Z R G σ Q) (PstX Γ Z R G σ W) → wi σ H Q
section
variable {Γ : Gm} {Z : Zf} {R R1 G G1 G' H H' : Hp} {σ : L2.St} {fs fs' : Fs} {W : WX} {Dn : Ends}
/-- nothing is locked, nothing pinned -/
theorem JOk.plain (T : TI Γ Z R G σ H fs) {it : Itv} {J : It} (hl : it.lk = none) (w : Walk J it.items.length (fun H => Sub R H ∧ Sub G H) (Gives Γ G it.items)) : JOk Γ Z R G σ H fs it J Z R := by
  obtain ⟨items, lk⟩ := it
  cases hl
  exact ⟨T, Sub.refl, fun _ _ _ h => h, fun σ' G2 H2 fs2 T2 _ => ⟨T2, fun _ _ h => h⟩, w⟩
/-- the source of a walk is kept: a frozen thing, a new list, a slot's own list -/
def srcV (x : Tv) : M (D × Option Nat) := fun fs =>
  match x with
  | .frz d => .ok (d, none) fs
  | .own d => .ok (d, none) fs
  | .slot i => match fs[i]? with
    | some (some (.own, d)) => .ok (d, some i) fs
    | some (some (.io, _)) => .bad
    | some (some (_, d)) => .ok (d, none) fs
    | _ => .bad
theorem TI.lock (T : TI Γ Z R G σ H fs) {i : Nat} {d : D} (e : fs[i]? = some (some (.own, d))) : ∃ (p : Addr) (o : HO) (Z1 : Zf) (R1 : Hp), σ[i]? = some (some (.ref p)) ∧ H p = some o ∧ OwnAt Γ G R1 p d ∧ TI Γ Z1 R1 G σ H (lkf (some i) fs) ∧ Sub R R1 ∧ (∀ (q : Nat) (n : Md) (v : V), Z.io q n v → Z1.io q n v) ∧
    ∀ (σ' : L2.St) (G2 H2 : Hp) (fs2 : Fs), TI Γ Z1 R1 G2 σ' H2 fs2 → Grow R1 G G2 → TI Γ Z R G2 σ' H2 (unl (some i) fs2) ∧ ∀ (x : Tv) (u : V), VOk Γ R1 G2 σ' H2 fs2 x u → VOk Γ R G2 σ' H2 (unl (some i) fs2) x u := by
  obtain ⟨p, hv, rp, gp, ow⟩ := T.mutAt e rfl
  obtain ⟨o, ho⟩ := ow.has
  have hi : i < fs.length := (List.getElem?_eq_some_iff.mp e).1
  have s1 : Sub R (upd R p o) := Sub.new rp
  have bp : Z.B p = none := T.br.free rp
  have s2 : Sub Z.B (upd Z.B p o) := Sub.new bp
  have lk : lkf (some i) fs = fs.set i (some (.bor, d)) := by simp only [lkf, e]
  refine ⟨p, o, ⟨upd Z.B p o, fun j m v => (j = i ∧ m = .bor ∧ v = .ref p) ∨ Z.io j m v⟩, upd R p o, hv, ho, ow.mono Sub.refl (by rw [upd_same, ho]), ?_, s1, fun q n v hq => .inr hq, ?_⟩
  · rw [lk]
    have oth : ∀ {j : Nat} {t : Sl}, (fs.set i (some (.bor, d)))[j]? = some (some t) → (j = i ∧ t = (.bor, d)) ∨ (j ≠ i ∧ fs[j]? = some (some t)) := fun {j t} e' => by
      by_cases hj : j = i
      · subst hj
        rw [List.getElem?_set_self hi] at e'
        cases e'
        exact .inl ⟨rfl, rfl⟩
      · rw [List.getElem?_set_ne (Ne.symm hj)] at e'
        exact .inr ⟨hj, e'⟩
    have mt : ∀ {j : Nat} {t : Sl}, (fs.set i (some (.bor, d)))[j]? = some (some t) → t.1.mut = true → j ≠ i ∧ fs[j]? = some (some t) := fun {j t} e' hm => by
      rcases oth e' with ⟨_, rfl⟩ | q
      · cases hm
      · exact q
    refine ⟨T.gh, fun a v ea => ?_, fun a v ea => ?_, by rw [List.length_set]; exact T.len, fun j t ej => ?_, fun a b s t v h1 h2 m1 m2 => T.inj a b s t v (mt h1 m1).2 (mt h2 m2).2 m1 m2, fun q n w hq => ?_, fun j d' ej => ?_⟩
    · by_cases h : a = p
      · subst h
        rw [upd_same] at ea
        rw [ho, ea]
      · rw [upd_ne h] at ea
        exact T.rh a v ea
    · by_cases h : a = p
      · subst h
        have ea : upd Z.B a o a = some v := ea
        rw [upd_same] at ea ⊢
        exact ea
      · have ea : upd Z.B p o a = some v := ea
        rw [upd_ne h] at ea ⊢
        exact T.br a v ea
    · rcases oth ej with ⟨rfl, rfl⟩ | ⟨hj, ej'⟩
      · exact ⟨_, hv, p, rfl, ow.mono Sub.refl (by show upd Z.B p o p = H p; rw [upd_same, ho])⟩
      · obtain ⟨v, a, b⟩ := T.sl j t ej'
        refine ⟨v, a, ?_⟩
        obtain ⟨m, e'⟩ := t
        cases m with
        | frz => exact b
        | own =>
          obtain ⟨q, rfl, rq, gq, oq⟩ := b
          have ne : q ≠ p := fun z => hj (T.inj j i _ _ _ ej' e rfl rfl a (by rw [hv, z]))
          exact ⟨q, rfl, by rw [upd_ne ne]; exact rq, gq, oq⟩
        | io =>
          obtain ⟨q, rfl, rq, gq, oq⟩ := b
          have ne : q ≠ p := fun z => hj (T.inj j i _ _ _ ej' e rfl rfl a (by rw [hv, z]))
          exact ⟨q, rfl, by rw [upd_ne ne]; exact rq, gq, oq⟩
        | bor =>
          obtain ⟨q, rfl, oq⟩ := b
          obtain ⟨oo, hoo⟩ := oq.has
          exact ⟨q, rfl, oq.mono Sub.refl (show upd Z.B p o q = Z.B q from upd_ne (ne_of_none hoo bp))⟩
    · rcases hq with ⟨rfl, rfl, rfl⟩ | hq
      · exact ⟨⟨d, List.getElem?_set_self hi, hv⟩, .inr rfl⟩
      · obtain ⟨⟨d', h1, h2⟩, hm⟩ := T.io q n w hq
        refine ⟨⟨d', ?_, h2⟩, hm⟩
        have hj : q ≠ i := fun z => by
          rw [z, e] at h1
          have z2 : Md.own = n := congrArg Prod.fst (Option.some.inj (Option.some.inj h1))
          rcases hm with z3 | z3 <;> (rw [z3] at z2; cases z2)
        rw [List.getElem?_set_ne (Ne.symm hj)]
        exact h1
    · rcases oth ej with ⟨rfl, _⟩ | ⟨_, q⟩
      · exact ⟨_, .inl ⟨rfl, rfl, rfl⟩⟩
      · obtain ⟨v, hv⟩ := T.bp j d' q
        exact ⟨v, .inr hv⟩
  · intro σ' G2 H2 fs2 T2 g2
    obtain ⟨⟨d2, e2, v2⟩, _⟩ := T2.io i .bor (.ref p) (.inl ⟨rfl, rfl, rfl⟩)
    have e2 : fs2[i]? = some (some (.bor, d2)) := e2
    have v2 : σ'[i]? = some (some (.ref p)) := v2
    have hi2 : i < fs2.length := (List.getElem?_eq_some_iff.mp e2).1
    have uk : unl (some i) fs2 = fs2.set i (some (.own, d2)) := by simp only [unl, e2]
    have gp2 : G2 p = none := (g2.2 p o upd_same (ow.notup ho)).trans gp
    have hp2 : H2 p = some o := T2.rh p o upd_same
    have ow2 : OwnAt Γ G2 H2 p d2 := by
      obtain ⟨v, a, q, rfl, oq⟩ := T2.sl i _ e2
      rw [v2] at a
      cases a
      exact oq.mono Sub.refl (by show H2 p = upd Z.B p o p; rw [upd_same, hp2])
    have oth : ∀ {j : Nat} {t : Sl}, (fs2.set i (some (.own, d2)))[j]? = some (some t) → (j = i ∧ t = (.own, d2)) ∨ (j ≠ i ∧ fs2[j]? = some (some t)) := fun {j t} e' => by
      by_cases hj : j = i
      · subst hj
        rw [List.getElem?_set_self hi2] at e'
        cases e'
        exact .inl ⟨rfl, rfl⟩
      · rw [List.getElem?_set_ne (Ne.symm hj)] at e'
        exact .inr ⟨hj, e'⟩
    have apart : ∀ {j : Nat} {t : Sl}, fs2[j]? = some (some t) → t.1.mut = true → σ'[j]? ≠ some (some (.ref p)) := fun {j t} ej hm z => by
      obtain ⟨q, h1, h2, _⟩ := T2.mutAt ej hm
      rw [z] at h1
      cases h1
      rw [upd_same] at h2
      cases h2
    rw [uk]
    refine ⟨⟨T2.gh, s1.trans T2.rh, T.br, by rw [List.length_set]; exact T2.len, fun j t ej => ?_, fun a b s t v h1 h2 m1 m2 a1 a2 => ?_, fun q n w hq => ?_, fun j d' ej => ?_⟩, fun x u hx => ?_⟩
    · rcases oth ej with ⟨rfl, rfl⟩ | ⟨hj, ej'⟩
      · exact ⟨_, v2, p, rfl, rp, gp2, ow2⟩
      · obtain ⟨v, a, b⟩ := T2.sl j t ej'
        refine ⟨v, a, ?_⟩
        obtain ⟨m, e'⟩ := t
        cases m with
        | frz => exact b
        | own => exact SlOk.weak (s := (.own, e')) s1 b
        | io => exact SlOk.weak (s := (.io, e')) s1 b
        | bor =>
          obtain ⟨q, rfl, oq⟩ := b
          have ne : q ≠ p := fun z => by
            obtain ⟨v, hv'⟩ := T2.bp j e' ej'
            rcases hv' with z1 | z1
            · exact hj z1.1
            · obtain ⟨⟨_, _, a2⟩, _⟩ := T2.io _ _ _ (.inr z1)
              obtain ⟨⟨d1, b1, b2⟩, _⟩ := T.io _ _ _ z1
              obtain ⟨v3, c1, q3, rfl, oq3⟩ := T.sl j _ b1
              have a2 : σ'[j]? = some (some v) := a2
              have b2 : σ[j]? = some (some v) := b2
              rw [a] at a2
              cases a2
              rw [b2] at c1
              cases c1
              obtain ⟨oo, hoo⟩ := oq3.has
              rw [z, bp] at hoo
              cases hoo
          exact ⟨q, rfl, oq.mono Sub.refl (show Z.B q = upd Z.B p o q from (upd_ne ne).symm)⟩
    · rcases oth h1 with ⟨rfl, rfl⟩ | ⟨ha, h1'⟩
      · rcases oth h2 with ⟨rfl, rfl⟩ | ⟨hb, h2'⟩
        · rfl
        · rw [v2] at a1
          cases a1
          exact absurd a2 (apart h2' m2)
      · rcases oth h2 with ⟨rfl, rfl⟩ | ⟨hb, h2'⟩
        · rw [v2] at a2
          cases a2
          exact absurd a1 (apart h1' m1)
        · exact T2.inj a b s t v h1' h2' m1 m2 a1 a2
    · obtain ⟨⟨d', h1, h2⟩, hm⟩ := T2.io q n w (.inr hq)
      refine ⟨⟨d', ?_, h2⟩, hm⟩
      have hj : q ≠ i := fun z => by
        obtain ⟨⟨d1, b1, _⟩, _⟩ := T.io q n w hq
        rw [z, e] at b1
        have z2 : Md.own = n := congrArg Prod.fst (Option.some.inj (Option.some.inj b1))
        rcases hm with z3 | z3 <;> (rw [z3] at z2; cases z2)
      rw [List.getElem?_set_ne (Ne.symm hj)]
      exact h1
    · rcases oth ej with ⟨rfl, z⟩ | ⟨hj, q⟩
      · cases z
      · obtain ⟨v, hv'⟩ := T2.bp j d' q
        rcases hv' with z1 | z1
        · exact absurd z1.1 hj
        · exact ⟨v, z1⟩
    · cases x with
      | frz d => exact hx
      | slot j => exact hx
      | own d' =>
        obtain ⟨⟨q, rfl, rq, gq, oq⟩, nq⟩ := hx
        refine ⟨⟨q, rfl, s1.free rq, gq, oq⟩, fun j t ej hm => ?_⟩
        rcases oth ej with ⟨rfl, rfl⟩ | ⟨hj, ej'⟩
        · rw [v2]
          intro z
          cases z
          rw [upd_same] at rq
          cases rq
        · exact nq j t ej' hm
end
end TL

namespace TL
open PySem PySem.Spec PyProof.Rows L2
section
variable {Γ : Gm} {Z : Zf} {R R1 G G1 G' H H' : Hp} {σ : L2.St} {fs fs' : Fs} {W : WX} {Dn : Ends}

/-! ### for -/
def unlS (lk : Option Nat) : SOut → SOut
  | .nx fs => .nx (unl lk fs)
  | .rt v fs => .rt v (unl lk fs)
  | .bk fs => .bk (unl lk fs)
  | .ct fs => .ct (unl lk fs)
  | .ex x fs => .ex x (unl lk fs)
  | .bad => .bad
def sloop (p : Pat) (b : S) : List D → S
  | [] => .nx
  | d :: ds => fun fs => match asg p d fs with
    | none => .bad
    | some fs1 => match b fs1 with
      | .nx fs2 => sloop p b ds fs2
      | .ct fs2 => sloop p b ds fs2
      | .bk fs2 => .nx fs2
      | o => o
def sfor (f : M Itv) (p : Pat) (b : S) : S := sbnd f fun it fs => unlS it.lk (sloop p b it.items (lkf it.lk fs))
def LoopP (Γ : Gm) (Z Z1 : Zf) (R R1 G0 : Hp) (W : WX) (D : Ends) (lk : Option Nat) (items : List TL.D) (p : Pat) (b : S) (i : Nat) (σ : L2.St) (H : Hp) : Prop :=
  ∃ G1 fs1, TI Γ Z1 R1 G1 σ H fs1 ∧ Grow R1 G0 G1 ∧ SWp Γ Z R G0 W D (unlS lk (sloop p b (items.drop i) fs1))
theorem ss_for {wi : L2.TI} {g : TG} {tb : TS} {f : M Itv} {p : Pat} {b : S} (hi : SI Γ W wi f) (hg : SG Γ g p) (hb : SS Γ W tb b) : SS Γ W (tFor wi g tb) (sfor f p b) := by
  intro Z R G σ H fs D T h
  refine hi Z R G σ H fs _ T (swp_bnd h fun it fs0 hk G0 H0 J Z1 R1 T0 g0 jo => ?_)
  obtain ⟨items, lk⟩ := it
  have hk : SWp Γ Z R G0 W D (unlS lk (sloop p b items (lkf lk fs0))) := SWp.grow g0 hk
  refine for_it jo.walk (LoopP Γ Z Z1 R R1 G0 W D lk items p b) ⟨G0, _, jo.ti, Grow.refl, hk⟩ (fun i σ H _ ⟨G1, fs1, T1, g1, _⟩ => ⟨T1.rh, g1.1.trans T1.gh⟩) ?_ ?_
  · rintro i x σ1 H1 H2 hi ⟨G1, fs1, T1, g1, h1⟩ ⟨d, hd, gv⟩
    have hi : i < items.length := hi
    have hd : items[i]? = some d := hd
    have ed : items.drop i = d :: items.drop (i + 1) := by
      rw [List.drop_eq_getElem_cons hi]
      rw [List.getElem?_eq_getElem hi] at hd
      cases hd
      rfl
    rw [ed] at h1
    unfold sloop at h1
    cases ea : asg p d fs1 with
    | none => rw [ea] at h1; exact h1.elim
    | some fs2 =>
      rw [ea] at h1
      have body : ∀ {G2 : Hp} {σ2 : L2.St}, TI Γ Z1 R1 G2 σ2 H2 fs2 → Grow R1 G1 G2 → tb { D with nx := LoopP Γ Z Z1 R R1 G0 W D lk items p b (i + 1), ct := LoopP Γ Z Z1 R R1 G0 W D lk items p b (i + 1), bk := D.nx } σ2 H2 := by
        intro G2 σ2 T2 g2
        refine hb Z1 R1 G2 σ2 H2 fs2 _ T2 ?_
        cases e : b fs2 with
        | nx fs3 => simp only [e] at h1; exact fun σ3 G3 H3 T3 g3 => ⟨G3, fs3, T3, g1.trans (g2.trans g3), h1⟩
        | ct fs3 => simp only [e] at h1; exact fun σ3 G3 H3 T3 g3 => ⟨G3, fs3, T3, g1.trans (g2.trans g3), h1⟩
        | bk fs3 =>
          simp only [e] at h1
          intro σ3 G3 H3 T3 g3
          have gg := g1.trans (g2.trans g3)
          exact h1 σ3 G3 H3 (jo.back σ3 G3 H3 fs3 T3 gg).1 (gg.sub jo.sub)
        | rt v fs3 =>
          simp only [e] at h1
          intro σ3 G3 H3 u T3 g3 v3
          have gg := g1.trans (g2.trans g3)
          obtain ⟨b1, b2⟩ := jo.back σ3 G3 H3 fs3 T3 gg
          exact h1 σ3 G3 H3 u b1 (gg.sub jo.sub) (b2 v u v3)
        | ex y fs3 =>
          simp only [e] at h1
          intro σ3 G3 H3 c dd T3 g3 x3
          have gg := g1.trans (g2.trans g3)
          exact h1 σ3 G3 H3 c dd (jo.back σ3 G3 H3 fs3 T3 gg).1 (gg.sub jo.sub) x3
        | bad => simp only [e] at h1; exact h1
      rcases gv with ⟨rfl, r⟩ | ⟨q, ds, vs, rfl, rfl, hn, rfl, ra⟩ | ⟨q, ds, vs, rfl, rfl, hn, rfl, ra⟩
      · exact hg Z1 R1 G1 σ1 H2 fs1 fs2 d x _ T1 (r.mono g1.1) ea fun σ2 T2 _ => body T2 Grow.refl
      · obtain ⟨T2, g2⟩ := T1.newFrz (o := .tup vs) hn
        exact hg Z1 R1 _ σ1 _ fs1 fs2 _ _ _ T2 (.tup upd_same ((ra.mono g1.1).mono g2.1)) ea fun σ2 T3 _ => body T3 g2
      · obtain ⟨T2, g2⟩ := T1.tupFrz hn
        exact hg Z1 R1 _ σ1 _ fs1 fs2 _ _ _ T2 (.tup upd_same ((ra.mono g1.1).mono g2.1)) ea fun σ2 T3 _ => body T3 g2
  · rintro σ1 H1 ⟨G1, fs1, T1, g1, h1⟩
    have el : items.drop items.length = [] := List.drop_length
    have h1 : SWp Γ Z R G0 W D (unlS lk (sloop p b (items.drop items.length) fs1)) := h1
    rw [el] at h1
    exact h1 σ1 G1 H1 (jo.back σ1 G1 H1 fs1 T1 g1).1 (g1.sub jo.sub)

/-! ### list comprehensions -/
def wipeF : List Nat → Fs → Fs
  | [], fs => fs
  | j :: js, fs => (wipeF js fs).set j none
/-- the comprehension's own slots, as they stood ahead of it (frozen ones) -/
def unw : List Nat → Fs → Fs → Fs
  | [], _, fs => fs
  | j :: js, f0, fs => (unw js f0 fs).set j (match f0[j]? with | some (some (.frz, d)) => some (.frz, d) | _ => none)
def okOwn (own : List Nat) (fs : Fs) : Bool := own.all fun j => match fs[j]? with | some none => true | some (some (.frz, _)) => true | _ => false
def cloop (p : Pat) (c : M Bool) (e : M D) (own : List Nat) : List D → List D → Fs → Out (List D)
  | [], acc, fs => .ok acc.reverse fs
  | d :: ds, acc, fs => match asg p d fs with
    | none => .bad
    | some fs1 => match c fs1 with
      | .ok true fs2 => match e fs2 with
        | .ok x fs3 => cloop p c e own ds (x :: acc) (wipeF own fs3)
        | _ => .bad
      | .ok false fs2 => cloop p c e own ds acc (wipeF own fs2)
      | _ => .bad
def lcomp (f : M Itv) (p : Pat) (c : M Bool) (e : M D) (own : List Nat) : M Tv := bnd f fun it fs =>
  if okOwn own (lkf it.lk fs) = true ∧ it.items.length ≤ 16777216 then
    match cloop p c e own it.items [] (wipeF own (lkf it.lk fs)) with
    | .ok xs fs' => .ok (.own (.nd .lst xs)) (unw own fs (unl it.lk fs'))
    | _ => .bad
  else .bad
theorem wipeF_len : ∀ (own : List Nat) (fs : Fs), (wipeF own fs).length = fs.length
  | [], _ => rfl
  | j :: js, fs => by unfold wipeF; rw [List.length_set, wipeF_len js fs]
theorem wipeF_off : ∀ {own : List Nat} {fs : Fs} {i : Nat}, i ∉ own → (wipeF own fs)[i]? = fs[i]?
  | [], _, _, _ => rfl
  | j :: js, fs, i, h => by
    unfold wipeF
    rw [List.getElem?_set_ne (fun z => h (by rw [z]; exact List.mem_cons_self)), wipeF_off fun z => h (List.mem_cons_of_mem _ z)]
theorem wipeF_in : ∀ {own : List Nat} {fs : Fs} {i : Nat} {s : Sl}, i ∈ own → (wipeF own fs)[i]? ≠ some (some s)
  | [], _, _, _, h => by cases h
  | j :: js, fs, i, s, h => by
    unfold wipeF
    by_cases hj : i = j
    · subst hj
      by_cases hi : i < (wipeF js fs).length
      · rw [List.getElem?_set_self hi]; intro z; cases z
      · rw [List.getElem?_eq_none (by rw [List.length_set]; omega)]; intro z; cases z
    · rw [List.getElem?_set_ne (Ne.symm hj)]
      rcases List.mem_cons.mp h with z | z
      · exact absurd z hj
      · exact wipeF_in z
theorem unw_len : ∀ (own : List Nat) (f0 fs : Fs), (unw own f0 fs).length = fs.length
  | [], _, _ => rfl
  | j :: js, f0, fs => by unfold unw; rw [List.length_set, unw_len js f0 fs]
theorem unw_off : ∀ {own : List Nat} {f0 fs : Fs} {i : Nat}, i ∉ own → (unw own f0 fs)[i]? = fs[i]?
  | [], _, _, _, _ => rfl
  | j :: js, f0, fs, i, h => by
    unfold unw
    rw [List.getElem?_set_ne (fun z => h (by rw [z]; exact List.mem_cons_self)), unw_off fun z => h (List.mem_cons_of_mem _ z)]
theorem unw_in : ∀ {own : List Nat} {f0 fs : Fs} {i : Nat} {s : Sl}, i ∈ own → (unw own f0 fs)[i]? = some (some s) → s.1 = .frz ∧ f0[i]? = some (some s)
  | [], _, _, _, _, h, _ => by cases h
  | j :: js, f0, fs, i, s, h, e => by
    unfold unw at e
    by_cases hj : i = j
    · subst hj
      by_cases hi : i < (unw js f0 fs).length
      · rw [List.getElem?_set_self hi] at e
        split at e
        · cases e
          rename_i q
          exact ⟨rfl, q⟩
        · cases e
      · rw [List.getElem?_eq_none (by rw [List.length_set]; omega)] at e
        cases e
    · rw [List.getElem?_set_ne (Ne.symm hj)] at e
      rcases List.mem_cons.mp h with z | z
      · exact absurd z hj
      · exact unw_in z e
theorem wipe_in : ∀ {own : List Nat} {σ : L2.St} {i : Nat}, i ∈ own → i < σ.length → (wipe σ own)[i]? = some none
  | [], _, _, h, _ => by cases h
  | j :: js, σ, i, h, hi => by
    unfold wipe
    by_cases hj : i = j
    · subst hj
      rw [List.getElem?_set_self (by rw [wipe_length]; exact hi)]
    · rw [List.getElem?_set_ne (Ne.symm hj)]
      rcases List.mem_cons.mp h with z | z
      · exact absurd z hj
      · exact wipe_in z hi
theorem wipe_ext {own : List Nat} {σ σ' : L2.St} (o : Off own σ σ') : wipe σ' own = wipe σ own := by
  refine List.ext_getElem? fun i => ?_
  by_cases h : i ∈ own
  · by_cases hi : i < σ.length
    · rw [wipe_in h hi, wipe_in h (by rw [o.1]; exact hi)]
    · rw [List.getElem?_eq_none (by rw [wipe_length, o.1]; omega), List.getElem?_eq_none (by rw [wipe_length]; omega)]
  · rw [wipe_out h, wipe_out h, o.2 i h]
theorem wipe_wipe {own : List Nat} {σ : L2.St} : wipe (wipe σ own) own = wipe σ own := wipe_ext ⟨wipe_length _ _, fun i h => wipe_out h⟩
theorem TI.wipe (T : TI Γ Z R G σ H fs) {own : List Nat} (hq : ∀ (q : Nat) (n : Md) (v : V), Z.io q n v → q ∉ own) : TI Γ Z R G (L2.wipe σ own) H (wipeF own fs) := by
  have out : ∀ {i : Nat} {s : Sl}, (wipeF own fs)[i]? = some (some s) → i ∉ own ∧ fs[i]? = some (some s) := fun {i s} e => by
    by_cases h : i ∈ own
    · exact absurd e (wipeF_in h)
    · exact ⟨h, by rw [wipeF_off h] at e; exact e⟩
  refine ⟨T.gh, T.rh, T.br, by rw [wipeF_len, wipe_length]; exact T.len, fun i s e => ?_, fun i j s t v e1 e2 m1 m2 v1 v2 => ?_, fun q n w hq' => ?_, fun i d e => T.bp i d (out e).2⟩
  · obtain ⟨h1, h2⟩ := out e
    obtain ⟨v, a, b⟩ := T.sl i s h2
    exact ⟨v, by rw [wipe_out h1]; exact a, b⟩
  · obtain ⟨h1, h2⟩ := out e1
    obtain ⟨h3, h4⟩ := out e2
    rw [wipe_out h1] at v1
    rw [wipe_out h3] at v2
    exact T.inj i j s t v h2 h4 m1 m2 v1 v2
  · obtain ⟨⟨d, a, b⟩, m⟩ := T.io q n w hq'
    exact ⟨⟨d, by rw [wipeF_off (hq q n w hq')]; exact a, by rw [wipe_out (hq q n w hq')]; exact b⟩, m⟩
theorem pins_off (T : TI Γ Z R G σ H fs) {own : List Nat} (h : okOwn own fs = true) : ∀ (q : Nat) (n : Md) (v : V), Z.io q n v → q ∉ own := fun q n w hq hm => by
  obtain ⟨⟨d, a, _⟩, m⟩ := T.io q n w hq
  have z := List.all_eq_true.mp h q hm
  rw [a] at z
  rcases m with m | m <;> (rw [m] at z; cases z)
theorem TI.unw {own : List Nat} {f0 : Fs} {G0 H0 : Hp} (T0 : TI Γ Z R G0 σ H0 f0) (g : Sub G0 G) (T : TI Γ Z R G (L2.wipe σ own) H fs) (hq : ∀ (q : Nat) (n : Md) (v : V), Z.io q n v → q ∉ own) :
    TI Γ Z R G σ H (TL.unw own f0 fs) ∧ ∀ (x : Tv) (u : V), VOk Γ R G (L2.wipe σ own) H fs x u → x.isOwn = true → VOk Γ R G σ H (TL.unw own f0 fs) x u := by
  have out : ∀ {i : Nat} {s : Sl}, (TL.unw own f0 fs)[i]? = some (some s) → (i ∉ own ∧ fs[i]? = some (some s)) ∨ (s.1 = .frz ∧ f0[i]? = some (some s)) := fun {i s} e => by
    by_cases h : i ∈ own
    · exact .inr (unw_in h e)
    · exact .inl ⟨h, by rw [unw_off h] at e; exact e⟩
  have mt : ∀ {i : Nat} {s : Sl}, (TL.unw own f0 fs)[i]? = some (some s) → s.1 ≠ .frz → i ∉ own ∧ fs[i]? = some (some s) := fun {i s} e hm => by
    rcases out e with q | ⟨z, _⟩
    · exact q
    · exact absurd z hm
  have nf : ∀ {s : Sl}, s.1.mut = true → s.1 ≠ .frz := fun {s} h z => by rw [z] at h; cases h
  refine ⟨⟨T.gh, T.rh, T.br, by rw [unw_len, T.len, wipe_length], fun i s e => ?_, fun i j s t v e1 e2 m1 m2 v1 v2 => ?_, fun q n w hq' => ?_, fun i d e => T.bp i d (mt e (fun z => by cases z)).2⟩, fun x u hx ho => ?_⟩
  · rcases out e with ⟨h1, h2⟩ | ⟨h1, h2⟩
    · obtain ⟨v, a, b⟩ := T.sl i s h2
      exact ⟨v, by rw [wipe_out h1] at a; exact a, b⟩
    · obtain ⟨v, a, b⟩ := T0.sl i s h2
      obtain ⟨m, d⟩ := s
      cases h1
      exact ⟨v, a, Rep.mono g b⟩
  · obtain ⟨h1, h2⟩ := mt e1 (nf m1)
    obtain ⟨h3, h4⟩ := mt e2 (nf m2)
    exact T.inj i j s t v h2 h4 m1 m2 (by rw [wipe_out h1]; exact v1) (by rw [wipe_out h3]; exact v2)
  · obtain ⟨⟨d, a, b⟩, m⟩ := T.io q n w hq'
    exact ⟨⟨d, by rw [unw_off (hq q n w hq')]; exact a, by rw [wipe_out (hq q n w hq')] at b; exact b⟩, m⟩
  · cases x with
    | frz d => cases ho
    | slot i => cases ho
    | own d =>
      refine ⟨hx.1, fun i s e hm => ?_⟩
      obtain ⟨h1, h2⟩ := mt e (nf hm)
      have := hx.2 i s h2 hm
      rw [wipe_out h1] at this
      exact this
/-- what stands at a place that is no slot's and not kept by the rest may change -/
theorem TI.upd (T : TI Γ Z R G σ H fs) {p : Addr} {o : HO} (rp : R p = none) (gp : G p = none) (ns : ∀ (i : Nat) (s : Sl), fs[i]? = some (some s) → s.1.mut = true → σ[i]? ≠ some (some (.ref p))) : TI Γ Z R G σ (L2.upd H p o) fs := by
  have stay : ∀ {X : Hp}, Sub X H → X p = none → Sub X (L2.upd H p o) := fun {X} s n a u ea => by
    rw [upd_ne (ne_of_none ea n)]
    exact s a u ea
  refine ⟨stay T.gh gp, stay T.rh rp, T.br, T.len, fun i s e => ?_, T.inj, T.io, T.bp⟩
  obtain ⟨v, a, b⟩ := T.sl i s e
  refine ⟨v, a, b.grow Sub.refl (stay T.rh rp) fun hm q eq => ?_⟩
  obtain ⟨p', h1, _, h3, h4⟩ := T.mutAt e hm
  rw [a] at h1
  cases h1
  cases eq
  exact ⟨upd_ne fun z => ns i s e hm (by rw [a, z]), h3⟩
def ELD (Γ : Gm) (te : TE) (f : M D) : Prop := ∀ (Z : Zf) (R G : Hp) (σ : L2.St) (H : Hp) (fs : Fs) (Q : VK), TI Γ Z R G σ H fs → (f fs).Wp (fun d fs' => ∀ (G' H' : Hp) (u : V), TI Γ Z R G' σ H' fs' → Grow R G G' → Rep Γ G' d u → Q u H') (fun _ _ => False) → te σ H Q
def W0 : WX := fun _ _ _ _ => False
theorem eld_of {te : TE} {f : M Tv} (h : SE Γ W0 te f) : ELD Γ te (bnd f frzV) := by
  intro Z R G σ H fs Q T hw
  refine h Z R G σ H fs _ T ((wp_bnd.mp hw).mono (fun x fs1 h1 G1 H1 u T1 g1 v1 => ?_) fun _ _ z => z.elim)
  rcases frzV_out x fs1 with ⟨d, fs2, e⟩ | e
  · rw [e] at h1
    obtain ⟨G2, T2, g2, r2, _⟩ := T1.frzV v1 e
    exact h1 G2 H1 u T2 (g1.trans g2) r2
  · rw [e] at h1
    exact h1.elim
def CompP (Γ : Gm) (Z : Zf) (R G0 : Hp) (items : List TL.D) (p : Pat) (c : M Bool) (e : M TL.D) (own : List Nat) (fin : List TL.D) (ff : Fs) (D0 : Addr) (σ : L2.St) (i : Nat) (H : Hp) : Prop :=
  ∃ G1 fs1 acc, TI Γ Z R G1 σ H fs1 ∧ Grow R G0 G1 ∧ VOk Γ R G1 σ H fs1 (.own (.nd .lst acc.reverse)) (.ref D0) ∧ acc.length ≤ i ∧ cloop p c e own (items.drop i) acc fs1 = .ok fin ff
theorem se_lc {wi : L2.TI} {g : TG} {tt : TT} {te : TE} {f : M Itv} {p : Pat} {c : M Bool} {e : M TL.D} {own : List Nat} (hp : ∀ i ∈ p.sl, i ∈ own) (hi : SI Γ W wi f) (hg : SG Γ g p) (hc : ST Γ W0 tt c) (he : ELD Γ te e) : SE Γ W (tLc wi g tt te own) (lcomp f p c e own) := by
  intro Z R G σ H fs Q T h
  refine hi Z R G σ H fs _ T ((wp_bnd.mp h).mono (fun it fs0 hk G0 H0 J Z1 R1 T0 g0 jo => ?_) fun _ _ q => q)
  obtain ⟨items, lk⟩ := it
  by_cases ok : okOwn own (lkf lk fs0) = true ∧ items.length ≤ 16777216
  · rw [if_pos ok] at hk
    obtain ⟨ok, hlen⟩ := ok
    cases ef : cloop p c e own items [] (wipeF own (lkf lk fs0)) with
    | bad => simp only [ef] at hk; exact hk.elim
    | ex _ _ => simp only [ef] at hk; exact hk.elim
    | ok xs ff =>
      simp only [ef] at hk
      intro D0 nD
      have hq1 := pins_off jo.ti ok
      have hq0 : ∀ (q : Nat) (n : Md) (v : V), Z.io q n v → q ∉ own := fun q n w hq => hq1 q n w (jo.pins q n w hq)
      have Tw := jo.ti.wipe hq1
      have Tw' : TI Γ Z1 R1 G0 (wipe σ own) (upd H0 D0 (.lst [])) (wipeF own (lkf lk fs0)) := Tw.alloc nD
      refine lc_it jo.walk (CompP Γ Z1 R1 G0 items p c e own xs ff D0 (wipe σ own)) ⟨G0, _, [], Tw', Grow.refl, VOk.new Tw nD (by intro z; cases z) ⟨[], rfl, .nil⟩, Nat.le_refl _, ef⟩
        (fun i H _ ⟨G1, fs1, acc, T1, g1, _⟩ => ⟨T1.rh, g1.1.trans T1.gh⟩) ?_ ?_
      · rintro i x H1 H2 hi ⟨G1, fs1, acc, T1, g1, vo, hl, h1⟩ ⟨d, hd, gv⟩
        have hi : i < items.length := hi
        have hd : items[i]? = some d := hd
        have ed : items.drop i = d :: items.drop (i + 1) := by
          rw [List.drop_eq_getElem_cons hi]
          rw [List.getElem?_eq_getElem hi] at hd
          cases hd
          rfl
        rw [ed] at h1
        unfold cloop at h1
        cases ea : asg p d fs1 with
        | none => rw [ea] at h1; cases h1
        | some fs2 =>
          simp only [ea] at h1
          obtain ⟨⟨pD, eD, rD, gD, owD⟩, nsD⟩ := vo
          cases eD
          obtain ⟨hkD, oD, hoD, ⟨vsD, rfl, raD⟩⟩ := owD
          have lenD : vsD.length = acc.length := by rw [← raD.len, List.length_reverse]
          have vo' : VOk Γ R1 G1 (wipe σ own) H1 fs1 (.own (.nd .lst acc.reverse)) (.ref D0) := ⟨⟨D0, rfl, rD, gD, hkD, _, hoD, vsD, rfl, raD⟩, nsD⟩
          -- the list that grows is kept while the turn is reckoned
          obtain ⟨R2, s2, T2, hR2⟩ : ∃ R2, Sub R1 R2 ∧ TI Γ Z1 R2 G1 (wipe σ own) H1 fs1 ∧ R2 = upd R1 D0 (.lst vsD) := by
            refine ⟨_, Sub.new rD, ⟨T1.gh, fun a v ea => ?_, T1.br.trans (Sub.new rD), T1.len, fun j s ej => ?_, T1.inj, T1.io, T1.bp⟩, rfl⟩
            · by_cases hh : a = D0
              · subst hh
                rw [upd_same] at ea
                rw [hoD, ea]
              · rw [upd_ne hh] at ea
                exact T1.rh a v ea
            · obtain ⟨v, a, b⟩ := T1.sl j s ej
              refine ⟨v, a, ?_⟩
              obtain ⟨m, d'⟩ := s
              cases m with
              | frz => exact b
              | bor => exact b
              | own =>
                obtain ⟨q, rfl, r, t⟩ := b
                have ne : q ≠ D0 := fun z => nsD j _ ej rfl (by rw [a, z])
                exact ⟨q, rfl, by rw [upd_ne ne]; exact r, t⟩
              | io =>
                obtain ⟨q, rfl, r, t⟩ := b
                have ne : q ≠ D0 := fun z => nsD j _ ej rfl (by rw [a, z])
                exact ⟨q, rfl, by rw [upd_ne ne]; exact r, t⟩
          have keepD : ∀ {G3 H3 : Hp} {σ3 : L2.St} {fs3 : Fs}, TI Γ Z1 R2 G3 σ3 H3 fs3 → Grow R2 G1 G3 → H3 D0 = some (.lst vsD) ∧ G3 D0 = none ∧ ∀ (j : Nat) (s : Sl), fs3[j]? = some (some s) → s.1.mut = true → σ3[j]? ≠ some (some (.ref D0)) := by
            intro G3 H3 σ3 fs3 T3 g3
            refine ⟨T3.rh D0 _ (by rw [hR2, upd_same]), (g3.2 D0 (.lst vsD) (by rw [hR2, upd_same]) (fun _ z => by cases z)).trans gD, fun j s ej hm z => ?_⟩
            obtain ⟨q, a1, a2, _⟩ := T3.mutAt ej hm
            rw [z] at a1
            cases a1
            rw [hR2, upd_same] at a2
            cases a2
          have turn : ∀ {G2 : Hp} {σ2 : L2.St}, TI Γ Z1 R2 G2 σ2 H2 fs2 → Grow R2 G1 G2 → Off p.sl (wipe σ own) σ2 → wipe σ2 own = wipe σ own ∧ tt σ2 H2 fun b H3 =>
              if b = true then te σ2 H3 fun y H4 => ∃ acc', H4 D0 = some (.lst acc') ∧ acc'.length < sizeLine ∧ CompP Γ Z1 R1 G0 items p c e own xs ff D0 (wipe σ own) (i + 1) (upd H4 D0 (.lst (acc' ++ [y]))) else CompP Γ Z1 R1 G0 items p c e own xs ff D0 (wipe σ own) (i + 1) H3 := by
            intro G2 σ2 T2' g2 o2
            have ew : wipe σ2 own = wipe σ own := by
              rw [← wipe_wipe (σ := σ)]
              exact wipe_ext ⟨o2.1, fun j hj => o2.2 j fun z => hj (hp j z)⟩
            refine ⟨ew, hc Z1 R2 G2 σ2 H2 fs2 _ T2' ?_⟩
            cases ec : c fs2 with
            | bad => simp only [ec] at h1; cases h1
            | ex _ _ => simp only [ec] at h1; cases h1
            | ok b fs3 =>
              simp only [ec] at h1
              intro G3 H3 T3 g3
              cases b with
              | false =>
                show CompP Γ Z1 R1 G0 items p c e own xs ff D0 (wipe σ own) (i + 1) H3
                have gg := g2.trans g3
                obtain ⟨k1, k2, k3⟩ := keepD T3 gg
                have Tw3 := (T3.weak s2 T1.br).wipe hq1
                rw [ew] at Tw3
                refine ⟨G3, _, acc, Tw3, g1.trans (gg.sub s2), ⟨⟨D0, rfl, rD, k2, hkD, _, k1, vsD, rfl, raD.mono gg.1⟩, fun j s ej hm => ?_⟩, Nat.le_succ_of_le hl, h1⟩
                by_cases hj : j ∈ own
                · exact absurd ej (wipeF_in hj)
                · rw [wipeF_off hj] at ej
                  rw [← ew, wipe_out hj]
                  exact k3 j s ej hm
              | true =>
                show te σ2 H3 _
                refine he Z1 R2 G3 σ2 H3 fs3 _ T3 ?_
                cases ee : e fs3 with
                | bad => simp only [ee] at h1; cases h1
                | ex _ _ => simp only [ee] at h1; cases h1
                | ok y fs4 =>
                  simp only [ee] at h1
                  intro G4 H4 u T4 g4 r4
                  have gg := g2.trans (g3.trans g4)
                  obtain ⟨k1, k2, k3⟩ := keepD T4 gg
                  have Tw4 := (T4.weak s2 T1.br).wipe hq1
                  rw [ew] at Tw4
                  have k3' : ∀ (j : Nat) (s : Sl), (wipeF own fs4)[j]? = some (some s) → s.1.mut = true → (wipe σ own)[j]? ≠ some (some (.ref D0)) := fun j s ej hm => by
                    by_cases hj : j ∈ own
                    · exact absurd ej (wipeF_in hj)
                    · rw [wipeF_off hj] at ej
                      rw [← ew, wipe_out hj]
                      exact k3 j s ej hm
                  refine ⟨vsD, k1, by rw [lenD, sizeLine_eq]; omega, G4, _, y :: acc, Tw4.upd rD k2 k3', g1.trans (gg.sub s2), ⟨⟨D0, rfl, rD, k2, hkD, _, upd_same, _, rfl, ?_⟩, k3'⟩, by rw [List.length_cons]; omega, h1⟩
                  rw [List.reverse_cons]
                  exact (raD.mono gg.1).app (.cons r4 .nil)
          rcases gv with ⟨rfl, r⟩ | ⟨q, ds, vs, rfl, rfl, hn, rfl, ra⟩ | ⟨q, ds, vs, rfl, rfl, hn, rfl, ra⟩
          · exact hg Z1 R2 G1 _ H2 fs1 fs2 d x _ T2 (r.mono g1.1) ea fun σ2 T3 o => turn T3 Grow.refl o
          · obtain ⟨T3, g3⟩ := T2.newFrz (o := .tup vs) hn
            exact hg Z1 R2 _ _ _ fs1 fs2 _ _ _ T3 (.tup upd_same ((ra.mono g1.1).mono g3.1)) ea fun σ2 T4 o => turn T4 g3 o
          · obtain ⟨T3, g3⟩ := T2.tupFrz hn
            exact hg Z1 R2 _ _ _ fs1 fs2 _ _ _ T3 (.tup upd_same ((ra.mono g1.1).mono g3.1)) ea fun σ2 T4 o => turn T4 g3 o
      · rintro H1 ⟨G1, fs1, acc, T1, g1, vo, hl, h1⟩
        have el : items.drop items.length = [] := List.drop_length
        have h1 : cloop p c e own (items.drop items.length) acc fs1 = .ok xs ff := h1
        rw [el] at h1
        cases h1
        obtain ⟨b1, b2⟩ := jo.back _ G1 H1 _ T1 g1
        obtain ⟨u1, u2⟩ := TI.unw T0 g1.1 b1 hq0
        exact hk G1 H1 _ u1 (g0.trans (g1.sub jo.sub)) (u2 _ _ (b2 _ _ vo) rfl)
  · rw [if_neg ok] at hk
    exact hk.elim
end
end TL

/-! Defs and calls over data. -/
namespace TL
open PySem PySem.Spec PyProof.Rows L2
inductive FOut where
  | ok (s : Sl) (as : List Sl) | ex (x : Ex) (as : List Sl) | bad
abbrev Fn := List Sl → FOut
def FWp (Γ : Gm) (Z : Zf) (R G : Hp) (vs : List V) (Q : VK) (E : XK) : FOut → Prop
  | .ok s as' => ∀ (G' H' : Hp) (u : V), TI Γ Z R G' (vs.map some) H' (as'.map some) → Grow R G G' → RsOk Γ R G' (vs.map some) H' (as'.map some) s u → Q u H'
  | .ex x as' => ∀ (G' H' : Hp) (c : Value) (dd : Option Addr), TI Γ Z R G' (vs.map some) H' (as'.map some) → Grow R G G' → XOk Γ G' H' x c dd → E c dd H'
  | .bad => False
/-- THE PROMISE of a def that does f to data -/
def spF (Γ : Gm) (np : Nat) (f : Fn) : Sp := fun vs H Q E => vs.length = np ∧ ∃ (Z : Zf) (R G : Hp) (as : List Sl), TI Γ Z R G (vs.map some) H (as.map some) ∧
  (∀ (i : Nat) (d : D), as[i]? = some (.io, d) → ∃ v, Z.io i .io v) ∧ FWp Γ Z R G vs Q E (f as)
theorem spF_len {Γ : Gm} {np : Nat} {f : Fn} {vs : List V} {H : Hp} {Q : VK} {E : XK} (h : spF Γ np f vs H Q E) : vs.length = np := h.1
def retV (v : Tv) (fs : Fs) : Option Sl :=
  match v with
  | .frz d => some (.frz, d)
  | .own d => some (.own, d)
  | .slot i => match fs[i]? with
    | some (some (.frz, d)) => some (.frz, d)
    | some (some (.own, d)) => some (.own, d)
    | _ => none
def outOne (a : Sl) (o : Option (Option Sl)) : Sl :=
  match a.1 with
  | .io => match o with
    | some (some (.io, d)) => (.io, d)
    | _ => a
  | _ => a
def outs : List Sl → Fs → List Sl
  | [], _ => []
  | a :: as, fs => outOne a fs.head? :: outs as fs.tail
def fnOf (np n : Nat) (g : S) : Fn := fun as =>
  if as.length = np ∧ as.all (fun a => a.1 != .own) = true then
    match g (as.map some ++ List.replicate (n - np) none) with
    | .nx fs => .ok (.frz, .at .non) (outs as fs)
    | .rt v fs => match retV v fs with
      | some s => .ok s (outs as fs)
      | none => .bad
    | .ex x fs => .ex x (outs as fs)
    | _ => .bad
  else .bad
theorem outs_len : ∀ (as : List Sl) (fs : Fs), (outs as fs).length = as.length
  | [], _ => rfl
  | a :: as, fs => by unfold outs; rw [List.length_cons, List.length_cons, outs_len as fs.tail]
theorem outs_get : ∀ {as : List Sl} {fs : Fs} {i : Nat} {a : Sl}, as[i]? = some a → (outs as fs)[i]? = some (outOne a fs[i]?)
  | [], _, _, _, h => by simp at h
  | b :: as, fs, 0, a, h => by
    simp at h
    subst h
    unfold outs
    cases fs <;> rfl
  | b :: as, fs, i + 1, a, h => by
    unfold outs
    have h' : as[i]? = some a := by simpa using h
    have := outs_get (fs := fs.tail) h'
    rw [List.getElem?_cons_succ, this]
    cases fs with
    | nil => rfl
    | cons f fs => rfl
theorem map_get {α : Type} {l : List α} {i : Nat} {a : α} : (l.map some)[i]? = some (some a) ↔ l[i]? = some a := by
  rw [List.getElem?_map]
  cases l[i]? with
  | none => simp
  | some b => simp
theorem app_none {α : Type} {l : List (Option α)} {k i : Nat} {a : α} : (l ++ List.replicate k none)[i]? = some (some a) ↔ l[i]? = some (some a) := by
  by_cases h : i < l.length
  · rw [List.getElem?_append_left h]
  · rw [List.getElem?_append_right (by omega), List.getElem?_eq_none (l := l) (by omega)]
    rw [List.getElem?_replicate]
    split <;> simp
section
variable {Γ : Gm} {Z : Zf} {R R1 G G1 G' H H' : Hp} {σ : L2.St} {fs fs' : Fs} {W : WX}
theorem TI.pad (T : TI Γ Z R G σ H fs) (k : Nat) : TI Γ Z R G (σ ++ List.replicate k none) H (fs ++ List.replicate k none) :=
  ⟨T.gh, T.rh, T.br, by rw [List.length_append, List.length_append, T.len, List.length_replicate, List.length_replicate], fun i s e => let ⟨v, a, b⟩ := T.sl i s (app_none.mp e); ⟨v, app_none.mpr a, b⟩,
    fun i j s t v e1 e2 m1 m2 v1 v2 => T.inj i j s t v (app_none.mp e1) (app_none.mp e2) m1 m2 (app_none.mp v1) (app_none.mp v2),
    fun q n w hq => let ⟨⟨d, a, b⟩, m⟩ := T.io q n w hq; ⟨⟨d, app_none.mpr a, app_none.mpr b⟩, m⟩, fun i d e => T.bp i d (app_none.mp e)⟩
theorem outOne_of {a : Sl} (h : a.1 ≠ .io) (o : Option (Option Sl)) : outOne a o = a := by
  unfold outOne
  split
  · rename_i z
    exact absurd z h
  · rfl
theorem TI.outs {vs : List V} {as : List Sl} {σ' : L2.St} {fs' : Fs} (T0 : TI Γ Z R G (vs.map some) H (as.map some)) (hio : ∀ (i : Nat) (d : D), as[i]? = some (.io, d) → ∃ v, Z.io i .io v) (hown : as.all (fun a => a.1 != .own) = true)
    (T : TI Γ Z R G' σ' H' fs') (g : Grow R G G') : TI Γ Z R G' (vs.map some) H' ((TL.outs as fs').map some) := by
  have io_at : ∀ {i : Nat} {d : D}, as[i]? = some (.io, d) → ∃ v d', (vs.map some)[i]? = some (some v) ∧ σ'[i]? = some (some v) ∧ fs'[i]? = some (some (.io, d')) ∧ (TL.outs as fs')[i]? = some (.io, d') := by
    intro i d h
    obtain ⟨v, hv⟩ := hio i d h
    obtain ⟨⟨_, _, a2⟩, _⟩ := T0.io i _ v hv
    obtain ⟨⟨d', b1, b2⟩, _⟩ := T.io i _ v hv
    refine ⟨v, d', a2, b2, b1, ?_⟩
    rw [outs_get h, b1]
    rfl
  have nio : ∀ {i : Nat} {a : Sl}, as[i]? = some a → a.1 ≠ .io → (TL.outs as fs')[i]? = some a := fun {i a} h hn => by rw [outs_get h, outOne_of hn]
  have back : ∀ {i : Nat} {s : Sl}, (TL.outs as fs')[i]? = some s → ∃ a, as[i]? = some a ∧ ((a.1 = .io ∧ s.1 = .io) ∨ (a.1 ≠ .io ∧ s = a)) := by
    intro i s h
    have hi : i < as.length := by rw [← outs_len as fs']; exact (List.getElem?_eq_some_iff.mp h).1
    refine ⟨as[i], List.getElem?_eq_getElem hi, ?_⟩
    have ha : as[i]? = some as[i] := List.getElem?_eq_getElem hi
    by_cases hm : as[i].1 = .io
    · have ha' : as[i]? = some (.io, as[i].2) := by
        rw [ha]
        have : as[i] = (as[i].1, as[i].2) := rfl
        rw [this, hm]
      obtain ⟨v, d', _, _, _, e⟩ := io_at ha'
      rw [e] at h
      cases h
      exact .inl ⟨hm, rfl⟩
    · rw [nio ha hm] at h
      cases h
      exact .inr ⟨hm, rfl⟩
  have T0' : ∀ {i : Nat} {a : Sl}, as[i]? = some a → (as.map some)[i]? = some (some a) := fun h => map_get.mpr h
  refine ⟨T.gh, T.rh, T0.br, by rw [List.length_map, outs_len]; have := T0.len; rw [List.length_map] at this; exact this, fun i s e => ?_, fun i j s t v e1 e2 m1 m2 v1 v2 => ?_, fun q n w hq => ?_, fun i d e => ?_⟩
  · obtain ⟨a, ha, hc⟩ := back (map_get.mp e)
    rcases hc with ⟨h1, h2⟩ | ⟨h1, rfl⟩
    · have ha' : as[i]? = some (.io, a.2) := by
        rw [ha]
        have : a = (a.1, a.2) := rfl
        rw [this, h1]
      obtain ⟨v, d', c1, c2, c3, c4⟩ := io_at ha'
      have e' := map_get.mp e
      rw [c4] at e'
      cases e'
      obtain ⟨v', x1, x2⟩ := T.sl i _ c3
      rw [c2] at x1
      cases x1
      exact ⟨v, c1, x2⟩
    · obtain ⟨v, x1, x2⟩ := T0.sl i s (T0' ha)
      refine ⟨v, x1, ?_⟩
      obtain ⟨m, d⟩ := s
      cases m with
      | frz => exact Rep.mono g.1 x2
      | io => exact absurd rfl h1
      | own =>
        have z := List.all_eq_true.mp hown _ (List.mem_of_getElem? ha)
        cases z
      | bor =>
        obtain ⟨p, e1, o1⟩ := x2
        exact ⟨p, e1, o1.mono g.1 rfl⟩
  · obtain ⟨a, ha, hc⟩ := back (map_get.mp e1)
    obtain ⟨b, hb, hd⟩ := back (map_get.mp e2)
    have am : a.1.mut = true := by
      rcases hc with ⟨h1, _⟩ | ⟨_, rfl⟩
      · rw [h1]; rfl
      · exact m1
    have bm : b.1.mut = true := by
      rcases hd with ⟨h1, _⟩ | ⟨_, rfl⟩
      · rw [h1]; rfl
      · exact m2
    exact T0.inj i j a b v (T0' ha) (T0' hb) am bm v1 v2
  · obtain ⟨⟨d, a1, a2⟩, m⟩ := T0.io q n w hq
    have a1 := map_get.mp a1
    rcases m with rfl | rfl
    · obtain ⟨v, d', c1, c2, c3, c4⟩ := io_at a1
      exact ⟨⟨d', map_get.mpr c4, a2⟩, .inl rfl⟩
    · exact ⟨⟨d, map_get.mpr (nio a1 (fun z => by cases z)), a2⟩, .inr rfl⟩
  · obtain ⟨a, ha, hc⟩ := back (map_get.mp e)
    rcases hc with ⟨_, h2⟩ | ⟨_, rfl⟩
    · cases h2
    · exact T0.bp i d (T0' ha)
/-- a def's body keeps its promise -/
theorem fn_body {N : List Str} {np : Nat} {ts : TS} {g : S} {vs : List V} {Q : VK} {E : XK} (hs : SS Γ (fun c dd _ H => E c dd H) ts g) (h : spF Γ np (fnOf np N.length g) vs H Q E) :
    ts { nx := fun _ H' => Q .non H', rt := Q } (L2.start N vs) H := by
  obtain ⟨hl, Z, R, G, as, T, hio, h⟩ := h
  unfold fnOf at h
  by_cases hc : as.length = np ∧ as.all (fun a => a.1 != .own) = true
  · rw [if_pos hc] at h
    obtain ⟨h1, h2⟩ := hc
    have P := T.pad (N.length - np)
    rw [show vs.map some ++ List.replicate (N.length - np) none = L2.start N vs by unfold L2.start; rw [hl]] at P
    refine hs Z R G _ H _ _ P ?_
    cases e : g (as.map some ++ List.replicate (N.length - np) none) with
    | nx fs' =>
      rw [e] at h
      intro σ' G' H' T' g'
      exact h G' H' .non (T.outs hio h2 T' g') g' (.inl ⟨rfl, Rep.at .non⟩)
    | rt v fs' =>
      rw [e] at h
      dsimp only at h
      intro σ' G' H' u T' g' vo
      cases er : retV v fs' with
      | none => rw [er] at h; exact h.elim
      | some s =>
        rw [er] at h
        refine h G' H' u (T.outs hio h2 T' g') g' ?_
        -- the slots that are lent stand apart from what is handed back
        have lent : ∀ (i : Nat) (s : Sl), ((TL.outs as fs').map some)[i]? = some (some s) → s.1.mut = true → ∃ v d', Z.io i .io v ∧ (vs.map some)[i]? = some (some v) ∧ σ'[i]? = some (some v) ∧ fs'[i]? = some (some (.io, d')) := by
          intro i s es hm
          have es := map_get.mp es
          have hi : i < as.length := by rw [← outs_len as fs']; exact (List.getElem?_eq_some_iff.mp es).1
          have ha : as[i]? = some as[i] := List.getElem?_eq_getElem hi
          have hm' : as[i].1 = .io := by
            by_cases z : as[i].1 = .io
            · exact z
            · rw [outs_get ha, outOne_of z] at es
              cases es
              have w := List.all_eq_true.mp h2 _ (List.mem_of_getElem? ha)
              cases q : as[i].1 with
              | frz => rw [q] at hm; cases hm
              | bor => rw [q] at hm; cases hm
              | io => exact absurd q z
              | own => rw [q] at w; cases w
          have ha' : as[i]? = some (.io, as[i].2) := by
            rw [ha]
            have : as[i] = (as[i].1, as[i].2) := rfl
            rw [this, hm']
          obtain ⟨v, hv⟩ := hio i _ ha'
          obtain ⟨⟨_, _, a2⟩, _⟩ := T.io i _ v hv
          obtain ⟨⟨d', b1, b2⟩, _⟩ := T'.io i _ v hv
          exact ⟨v, d', hv, a2, b2, b1⟩
        unfold retV at er
        cases v with
        | frz d => cases er; exact .inl ⟨rfl, vo⟩
        | own d =>
          cases er
          refine .inr ⟨rfl, vo.1, fun i s es hm z => ?_⟩
          obtain ⟨v, d', _, c1, c2, c3⟩ := lent i s es hm
          rw [c1] at z
          cases z
          exact vo.2 i _ c3 rfl c2
        | slot i =>
          dsimp only at er
          have hu : σ'[i]? = some (some u) := vo
          cases ei : fs'[i]? with
          | none => rw [ei] at er; cases er
          | some o =>
            cases o with
            | none => rw [ei] at er; cases er
            | some t =>
              obtain ⟨m, d⟩ := t
              obtain ⟨v, a, b⟩ := T'.sl i _ ei
              rw [hu] at a
              cases a
              cases m with
              | frz => rw [ei] at er; cases er; exact .inl ⟨rfl, b⟩
              | own =>
                rw [ei] at er
                cases er
                refine .inr ⟨rfl, b, fun j s es hm z => ?_⟩
                obtain ⟨v, d', _, c1, c2, c3⟩ := lent j s es hm
                rw [c1] at z
                cases z
                have := T'.inj j i _ _ u c3 ei rfl rfl c2 hu
                subst this
                rw [c3] at ei
                cases ei
              | bor => rw [ei] at er; cases er
              | io => rw [ei] at er; cases er
    | ex x fs' =>
      rw [e] at h
      intro σ' G' H' c dd T' g' xo
      exact h G' H' c dd (T.outs hio h2 T' g') g' xo
    | bk fs' => rw [e] at h; exact h.elim
    | ct fs' => rw [e] at h; exact h.elim
    | bad => rw [e] at h; exact h.elim
  · rw [if_neg hc] at h
    exact h.elim

/-! ### calls -/
/-- the arguments: frozen, or lent to be read (true) -/
def pass1 : List Bool → List Tv → M (List Tv)
  | b :: bs, x :: xs => if b = true then bnd (pass1 bs xs) fun ys => ret (x :: ys) else bnd (frzV x) fun d => bnd (pass1 bs xs) fun ys => ret (.frz d :: ys)
  | [], [] => ret []
  | _, _ => fun _ => .bad
def arg1 (no : Option Nat) (fs : Fs) : Tv → Option Sl
  | .frz d => some (.frz, d)
  | .own d => some (.bor, d)
  | .slot i => if no = some i then none else match fs[i]? with
    | some (some (.frz, d)) => some (.frz, d)
    | some (some (_, d)) => some (.bor, d)
    | _ => none
def args1 (no : Option Nat) (fs : Fs) : List Tv → Option (List Sl)
  | [] => some []
  | x :: xs => match arg1 no fs x with
    | none => none
    | some a => match args1 no fs xs with
      | none => none
      | some as => some (a :: as)
def tvOf : Sl → Tv
  | (.own, d) => .own d
  | (_, d) => .frz d
def callM (f : Fn) (ms : List Bool) (xs : List Tv) : M Tv := bnd (pass1 ms xs) fun ys fs =>
  match args1 none fs ys with
  | none => .bad
  | some as => match f as with
    | .ok s _ => .ok (tvOf s) fs
    | .ex x _ => .ex x fs
    | .bad => .bad
/-- the first argument is lent to be changed -/
def callMm (f : Fn) (ms : List Bool) (xs : List Tv) : M Tv :=
  match xs with
  | .slot i :: xs => bnd (pass1 ms xs) fun ys fs => match fs[i]? with
    | some (some (m, d)) => if m.mut = true then match args1 (some i) fs ys with
        | none => .bad
        | some as => match f ((.io, d) :: as) with
          | .ok s ((_, d') :: _) => .ok (tvOf s) (fs.set i (some (m, d')))
          | .ex x ((_, d') :: _) => .ex x (fs.set i (some (m, d')))
          | _ => .bad
      else .bad
    | _ => .bad
  | _ => fun _ => .bad
theorem VsOk.frz (k1 : ∀ (y : Tv) (w : V), VOk Γ R G σ H fs y w → (y.isOwn = true → True) → VOk Γ R G' σ H fs' y w) : ∀ {xs : List Tv} {us : List V}, VsOk Γ R G σ H fs xs us → VsOk Γ R G' σ H fs' xs us
  | [], [], h => h
  | x :: xs, u :: us, h => ⟨k1 x u h.1 fun _ => True.intro, h.2.1, VsOk.frz k1 h.2.2⟩
  | [], _ :: _, h => h.elim
  | _ :: _, [], h => h.elim
theorem VsOk.after {x : Tv} {u : V} (k1 : ∀ (y : Tv) (w : V), VOk Γ R G σ H fs y w → (x.isOwn = true → y.isOwn = true → w ≠ u) → VOk Γ R G' σ H fs' y w) : ∀ {xs : List Tv} {us : List V}, VsOk Γ R G σ H fs xs us →
    (x.isOwn = true → ∀ (i : Nat) (y : Tv) (w : V), xs[i]? = some y → us[i]? = some w → y.isOwn = true → w ≠ u) → VsOk Γ R G' σ H fs' xs us
  | [], [], h, _ => h
  | y :: xs, w :: us, h, hn => ⟨k1 y w h.1 fun a b => hn a 0 y w rfl rfl b, h.2.1, VsOk.after k1 h.2.2 fun a i y' w' e1 e2 => hn a (i + 1) y' w' (by simpa using e1) (by simpa using e2)⟩
  | [], _ :: _, h, _ => h.elim
  | _ :: _, [], h, _ => h.elim
theorem TI.pass1 : ∀ {ms : List Bool} {xs ys : List Tv} {us : List V} {G : Hp} {fs fs' : Fs}, TI Γ Z R G σ H fs → VsOk Γ R G σ H fs xs us → TL.pass1 ms xs fs = .ok ys fs' →
    ∃ G', TI Γ Z R G' σ H fs' ∧ Grow R G G' ∧ VsOk Γ R G' σ H fs' ys us ∧ (∀ (y : Tv) (w : V), VOk Γ R G σ H fs y w → (y.isOwn = true → ∀ (i : Nat) (x : Tv) (u : V), xs[i]? = some x → us[i]? = some u → x.isOwn = true → w ≠ u) → VOk Γ R G' σ H fs' y w) ∧
      (∀ (i : Nat) (y : Tv), ys[i]? = some y → y.isOwn = true → ∃ x, xs[i]? = some x ∧ x.isOwn = true)
  | [], [], ys, [], G, fs, fs', T, h, e => by
    cases e
    exact ⟨G, T, Grow.refl, h, fun _ _ q _ => q, fun i y q => by simp at q⟩
  | b :: ms, x :: xs, ys, u :: us, G, fs, fs', T, h, e => by
    unfold TL.pass1 at e
    by_cases hb : b = true
    · rw [if_pos hb] at e
      unfold bnd at e
      cases e1 : TL.pass1 ms xs fs with
      | bad => rw [e1] at e; cases e
      | ex _ _ => rw [e1] at e; cases e
      | ok zs fs1 =>
        rw [e1] at e
        cases e
        obtain ⟨G1, T1, g1, v1, k1, o1⟩ := TI.pass1 T h.2.2 e1
        refine ⟨G1, T1, g1, ⟨k1 x u h.1 fun hx i y w a b c z => h.2.1 hx i y w a b c z.symm, fun hx i y w a b c => ?_, v1⟩, fun y w hy hn => k1 y w hy fun hyo i x' u' a b => hn hyo (i + 1) x' u' (by simpa using a) (by simpa using b), fun i y q ho => ?_⟩
        · obtain ⟨x', hx', ho'⟩ := o1 i y a c
          exact h.2.1 hx i x' w hx' b ho'
        · cases i with
          | zero => simp at q; subst q; exact ⟨x, rfl, ho⟩
          | succ i =>
            obtain ⟨x', hx', ho'⟩ := o1 i y (by simpa using q) ho
            exact ⟨x', by simpa using hx', ho'⟩
    · rw [if_neg hb] at e
      unfold bnd at e
      rcases frzV_out x fs with ⟨d, fs1, e0⟩ | e0
      · rw [e0] at e
        dsimp only at e
        obtain ⟨G1, T1, g1, r1, k1⟩ := T.frzV h.1 e0
        have hk : VsOk Γ R G1 σ H fs1 xs us := VsOk.after k1 h.2.2 h.2.1
        cases e1 : TL.pass1 ms xs fs1 with
        | bad => rw [e1] at e; cases e
        | ex _ _ => rw [e1] at e; cases e
        | ok zs fs2 =>
          rw [e1] at e
          cases e
          obtain ⟨G2, T2, g2, v2, k2, o2⟩ := TI.pass1 T1 hk e1
          refine ⟨G2, T2, g1.trans g2, ⟨r1.mono g2.1, (fun hx => by cases hx), v2⟩, fun y w hy hn => k2 y w (k1 y w hy fun hx hy' => hn hy' 0 x u rfl rfl hx) fun hyo i x' u' a b => hn hyo (i + 1) x' u' (by simpa using a) (by simpa using b), fun i y q ho => ?_⟩
          cases i with
          | zero => simp at q; subst q; cases ho
          | succ i =>
            obtain ⟨x', hx', ho'⟩ := o2 i y (by simpa using q) ho
            exact ⟨x', by simpa using hx', ho'⟩
      · rw [e0] at e
        cases e
  | [], _ :: _, _, _, _, _, _, _, _, e => by unfold TL.pass1 at e; cases e
  | _ :: _, [], _, _, _, _, _, _, _, e => by unfold TL.pass1 at e; cases e
  | [], [], _, _ :: _, _, _, _, _, h, _ => h.elim
  | _ :: _, _ :: _, _, [], _, _, _, _, h, _ => h.elim
theorem pass1_out : ∀ (ms : List Bool) (xs : List Tv) (fs : Fs), (∃ ys fs', pass1 ms xs fs = .ok ys fs') ∨ pass1 ms xs fs = .bad
  | [], [], fs => .inl ⟨_, _, rfl⟩
  | b :: ms, x :: xs, fs => by
    unfold pass1
    by_cases hb : b = true
    · rw [if_pos hb]
      unfold bnd
      rcases pass1_out ms xs fs with ⟨ys, fs', e⟩ | e
      · rw [e]; exact .inl ⟨_, _, rfl⟩
      · rw [e]; exact .inr rfl
    · rw [if_neg hb]
      unfold bnd
      rcases frzV_out x fs with ⟨d, fs1, e0⟩ | e0
      · rw [e0]
        dsimp only
        rcases pass1_out ms xs fs1 with ⟨ys, fs', e⟩ | e
        · rw [e]; exact .inl ⟨_, _, rfl⟩
        · rw [e]; exact .inr rfl
      · rw [e0]; exact .inr rfl
  | [], _ :: _, fs => .inr rfl
  | _ :: _, [], fs => .inr rfl
def AOk (Γ : Gm) (G H : Hp) (no : Option Addr) (a : Sl) (u : V) : Prop := (a.1 = .frz ∧ Rep Γ G a.2 u) ∨ (a.1 = .bor ∧ ∃ p, u = .ref p ∧ OwnAt Γ G H p a.2 ∧ no ≠ some p)
def AsOk (Γ : Gm) (G H : Hp) (no : Option Addr) : List Sl → List V → Prop
  | [], [] => True
  | a :: as, u :: us => AOk Γ G H no a u ∧ AsOk Γ G H no as us
  | _, _ => False
theorem AsOk.get {no : Option Addr} : ∀ {as : List Sl} {us : List V} {i : Nat} {a : Sl}, AsOk Γ G H no as us → as[i]? = some a → ∃ u, us[i]? = some u ∧ AOk Γ G H no a u
  | [], [], i, a, _, e => by simp at e
  | b :: as, u :: us, 0, a, h, e => by
    simp at e
    subst e
    exact ⟨u, rfl, h.1⟩
  | b :: as, u :: us, i + 1, a, h, e => by
    obtain ⟨w, h1, h2⟩ := AsOk.get (i := i) h.2 (by simpa using e)
    exact ⟨w, by simpa using h1, h2⟩
  | [], _ :: _, _, _, h, _ => h.elim
  | _ :: _, [], _, _, h, _ => h.elim
theorem AsOk.len {no : Option Addr} : ∀ {as : List Sl} {us : List V}, AsOk Γ G H no as us → as.length = us.length
  | [], [], _ => rfl
  | b :: as, u :: us, h => by rw [List.length_cons, List.length_cons, AsOk.len h.2]
  | [], _ :: _, h => h.elim
  | _ :: _, [], h => h.elim
/-- no: the slot that is lent for change, at the address na -/
theorem TI.args1 (T : TI Γ Z R G σ H fs) {no : Option Nat} {na : Option Addr} (hno : ∀ i, no = some i → ∃ s p, fs[i]? = some (some s) ∧ s.1.mut = true ∧ σ[i]? = some (some (.ref p)) ∧ na = some p) (hna : no = none → na = none) :
    ∀ {xs : List Tv} {us : List V} {as : List Sl}, VsOk Γ R G σ H fs xs us → TL.args1 no fs xs = some as → AsOk Γ G H na as us
  | [], [], as, _, e => by
    cases e
    exact True.intro
  | x :: xs, u :: us, as, h, e => by
    unfold TL.args1 at e
    cases e1 : arg1 no fs x with
    | none => rw [e1] at e; cases e
    | some a =>
      rw [e1] at e
      dsimp only at e
      cases e2 : TL.args1 no fs xs with
      | none => rw [e2] at e; cases e
      | some bs =>
        rw [e2] at e
        cases e
        refine ⟨?_, TI.args1 T hno hna h.2.2 e2⟩
        have hv := h.1
        have cas : no = none ∨ ∃ i, no = some i := by
          cases no with
          | none => exact .inl rfl
          | some i => exact .inr ⟨i, rfl⟩
        unfold arg1 at e1
        cases x with
        | frz d => cases e1; exact .inl ⟨rfl, hv⟩
        | own d =>
          cases e1
          obtain ⟨⟨p, rfl, rp, gp, ow⟩, ns⟩ := hv
          refine .inr ⟨rfl, p, rfl, ow, fun z => ?_⟩
          rcases cas with c | ⟨i, c⟩
          · rw [hna c] at z; cases z
          · obtain ⟨s, q, h1, h2, h3, h4⟩ := hno i c
            rw [h4] at z
            cases z
            exact ns i s h1 h2 h3
        | slot j =>
          dsimp only at e1
          by_cases hj : no = some j
          · rw [if_pos hj] at e1; cases e1
          · rw [if_neg hj] at e1
            have hu : σ[j]? = some (some u) := hv
            cases ej : fs[j]? with
            | none => rw [ej] at e1; cases e1
            | some o =>
              cases o with
              | none => rw [ej] at e1; cases e1
              | some t =>
                obtain ⟨v, a1, b1⟩ := T.sl j t ej
                rw [hu] at a1
                cases a1
                obtain ⟨m, d⟩ := t
                have far : ∀ {p : Addr}, u = .ref p → m.mut = true → na ≠ some p := fun {p} eu hm z => by
                  rcases cas with c | ⟨i, c⟩
                  · rw [hna c] at z; cases z
                  · obtain ⟨s, q, h1, h2, h3, h4⟩ := hno i c
                    rw [h4] at z
                    cases z
                    have := T.inj i j s (m, d) _ h1 ej h2 hm h3 (by rw [hu, eu])
                    exact hj (by rw [c, this])
                cases m with
                | frz => rw [ej] at e1; cases e1; exact .inl ⟨rfl, b1⟩
                | own =>
                  rw [ej] at e1
                  cases e1
                  obtain ⟨p, rfl, rp, gp, ow⟩ := b1
                  exact .inr ⟨rfl, p, rfl, ow, far rfl rfl⟩
                | io =>
                  rw [ej] at e1
                  cases e1
                  obtain ⟨p, rfl, rp, gp, ow⟩ := b1
                  exact .inr ⟨rfl, p, rfl, ow, far rfl rfl⟩
                | bor =>
                  rw [ej] at e1
                  cases e1
                  obtain ⟨p, rfl, ow⟩ := b1
                  obtain ⟨o, ho⟩ := ow.has
                  have hr := T.br _ _ ho
                  refine .inr ⟨rfl, p, rfl, ow.mono Sub.refl (by rw [ho]; exact T.rh _ _ hr), fun z => ?_⟩
                  rcases cas with c | ⟨i, c⟩
                  · rw [hna c] at z; cases z
                  · obtain ⟨s, q, h1, h2, h3, h4⟩ := hno i c
                    rw [h4] at z
                    cases z
                    obtain ⟨q', x1, x2, _⟩ := T.mutAt h1 h2
                    rw [h3] at x1
                    cases x1
                    rw [hr] at x2
                    cases x2
  | [], _ :: _, _, h, _ => h.elim
  | _ :: _, [], _, h, _ => h.elim
/-- the entry of a callee: all that stands is kept, but what is lent for change -/
def hideA (H : Hp) (no : Option Addr) : Hp := fun a => if no = some a then none else H a
theorem hideA_sub {no : Option Addr} : Sub (hideA H no) H := fun a o e => by
  unfold hideA at e
  split at e
  · cases e
  · exact e
theorem hideA_at {no : Option Addr} {a : Addr} (h : no ≠ some a) : hideA H no a = H a := if_neg h
theorem hideA_self {a : Addr} : hideA H (some a) a = none := if_pos rfl
def Zc (H : Hp) (no : Option Addr) (as : List Sl) (us : List V) : Zf := ⟨hideA H no, fun i m v => (m = .io ∨ m = .bor) ∧ ∃ d, as[i]? = some (m, d) ∧ us[i]? = some v⟩
/-- the callee's entry: first what is lent for change (or nothing) -/
theorem TI.enter (T : TI Γ Z R G σ H fs) {no : Option Addr} {as : List Sl} {us : List V} (hl : as.length = us.length)
    (ha : ∀ (i : Nat) (a : Sl), as[i]? = some a → ∃ u, us[i]? = some u ∧ (AOk Γ G H no a u ∨ (i = 0 ∧ a.1 = .io ∧ ∃ p, u = .ref p ∧ no = some p ∧ G p = none ∧ OwnAt Γ G H p a.2))) : TI Γ (Zc H no as us) (hideA H no) G (us.map some) H (as.map some) := by
  have mt : ∀ {i : Nat} {a : Sl}, as[i]? = some a → a.1.mut = true → i = 0 := fun {i a} e hm => by
    obtain ⟨u, _, h⟩ := ha i a e
    rcases h with (⟨z, _⟩ | ⟨z, _⟩) | ⟨z, _⟩
    · rw [z] at hm; cases hm
    · rw [z] at hm; cases hm
    · exact z
  refine ⟨T.gh, hideA_sub, Sub.refl, by rw [List.length_map, List.length_map, hl], fun i a e => ?_, fun i j s t v e1 e2 m1 m2 _ _ => ?_, fun q n w hq => ?_, fun i d e => ?_⟩
  · obtain ⟨u, hu, h⟩ := ha i a (map_get.mp e)
    refine ⟨u, map_get.mpr hu, ?_⟩
    obtain ⟨m, d⟩ := a
    rcases h with (⟨z, r⟩ | ⟨z, p, rfl, ow, ne⟩) | ⟨_, z, p, rfl, en, gp, ow⟩
    · cases z; exact r
    · cases z; exact ⟨p, rfl, ow.mono Sub.refl (hideA_at ne)⟩
    · cases z; exact ⟨p, rfl, by rw [en]; exact hideA_self, gp, ow⟩
  · rw [mt (map_get.mp e1) m1, mt (map_get.mp e2) m2]
  · obtain ⟨hm, d, h1, h2⟩ := hq
    exact ⟨⟨d, map_get.mpr h1, map_get.mpr h2⟩, hm⟩
  · have e := map_get.mp e
    obtain ⟨u, hu, _⟩ := ha i _ e
    exact ⟨u, .inr rfl, d, e, hu⟩
/-- back in the caller: what is not lent for change is as it was -/
theorem TI.leave (T : TI Γ Z R G σ H fs) {no : Option Addr} (hs : Sub (hideA H no) H') (hG : Sub G' H') (g : Grow (hideA H no) G G') (hr : ∀ p, no = some p → R p = none)
    (hp : ∀ (i : Nat) (s : Sl) (p : Addr), fs[i]? = some (some s) → s.1.mut = true → σ[i]? = some (some (.ref p)) → no = some p → OwnAt Γ G' H' p s.2 ∧ G' p = none) : TI Γ Z R G' σ H' fs ∧ Grow R G G' := by
  have sR : Sub R (hideA H no) := fun a o e => by
    rw [hideA_at fun z => by rw [hr a z] at e; cases e]
    exact T.rh a o e
  refine ⟨⟨hG, sR.trans hs, T.br, T.len, fun i s e => ?_, T.inj, T.io, T.bp⟩, g.sub sR⟩
  obtain ⟨v, a, b⟩ := T.sl i s e
  refine ⟨v, a, ?_⟩
  by_cases hm : s.1.mut = true
  · obtain ⟨m, d⟩ := s
    obtain ⟨p, rfl, rp, gp, ow⟩ := (SlOk.mut hm).mp b
    refine (SlOk.mut hm).mpr ⟨p, rfl, rp, ?_⟩
    by_cases hn : no = some p
    · obtain ⟨h1, h2⟩ := hp i _ p e hm a hn
      exact ⟨h2, h1⟩
    · obtain ⟨o, ho⟩ := ow.has
      have hh : hideA H no p = some o := by rw [hideA_at hn]; exact ho
      exact ⟨(g.2 p o hh (ow.notup ho)).trans gp, ow.mono g.1 (by rw [hs p o hh, ho])⟩
  · exact b.grow g.1 (sR.trans hs) fun z => absurd z hm
/-- .. and the slot whose object was lent for change -/
theorem TI.leaveM (T : TI Γ Z R G σ H fs) {i : Nat} {m : Md} {d d' : D} {p : Addr} (e : fs[i]? = some (some (m, d))) (hm : m.mut = true) (h0 : σ[i]? = some (some (.ref p))) (hs : Sub (hideA H (some p)) H') (hG : Sub G' H') (g : Grow (hideA H (some p)) G G')
    (z1 : G' p = none) (z2 : OwnAt Γ G' H' p d') (rp : R p = none) : TI Γ Z R G' σ H' (fs.set i (some (m, d'))) ∧ Grow R G G' := by
  have hi : i < fs.length := (List.getElem?_eq_some_iff.mp e).1
  have sR : Sub R (hideA H (some p)) := fun a o e => by
    rw [hideA_at fun z => by cases z; rw [rp] at e; cases e]
    exact T.rh a o e
  have back : ∀ {j : Nat} {s : Sl}, (fs.set i (some (m, d')))[j]? = some (some s) → (j = i ∧ s = (m, d')) ∨ (j ≠ i ∧ fs[j]? = some (some s)) := fun {j s} e' => by
    by_cases hj : j = i
    · subst hj
      rw [List.getElem?_set_self hi] at e'
      cases e'
      exact .inl ⟨rfl, rfl⟩
    · rw [List.getElem?_set_ne (Ne.symm hj)] at e'
      exact .inr ⟨hj, e'⟩
  have slotOf : ∀ {j : Nat} {s : Sl}, (fs.set i (some (m, d')))[j]? = some (some s) → s.1.mut = true → ∃ s', fs[j]? = some (some s') ∧ s'.1.mut = true := fun {j s} e' h' => by
    rcases back e' with ⟨rfl, rfl⟩ | ⟨_, q⟩
    · exact ⟨_, e, hm⟩
    · exact ⟨_, q, h'⟩
  refine ⟨⟨hG, sR.trans hs, T.br, by rw [List.length_set]; exact T.len, fun j s e' => ?_, fun a c s t v h1 h2 m1 m2 => ?_, fun q n w hq => ?_, fun j d2 ej => ?_⟩, g.sub sR⟩
  · rcases back e' with ⟨rfl, rfl⟩ | ⟨hj, q⟩
    · exact ⟨_, h0, (SlOk.mut hm).mpr ⟨p, rfl, rp, z1, z2⟩⟩
    · obtain ⟨v, a, b⟩ := T.sl j s q
      refine ⟨v, a, b.grow g.1 (sR.trans hs) fun hm' r eq => ?_⟩
      obtain ⟨p', h1, _, h3, h4⟩ := T.mutAt q hm'
      rw [a] at h1
      cases h1
      cases eq
      have ne : r ≠ p := fun z => by
        subst z
        exact hj (T.inj j i s (m, d) _ q e hm' hm a h0)
      obtain ⟨o, ho⟩ := h4.has
      have hh : hideA H (some p) r = some o := by rw [hideA_at fun z => ne (Option.some.inj z).symm]; exact ho
      exact ⟨by rw [hs r o hh, ho], (g.2 r o hh (h4.notup ho)).trans h3⟩
  · obtain ⟨s', q1, q2⟩ := slotOf h1 m1
    obtain ⟨t', q3, q4⟩ := slotOf h2 m2
    exact T.inj a c s' t' v q1 q3 q2 q4
  · obtain ⟨⟨d2, h1, h2⟩, hm'⟩ := T.io q n w hq
    by_cases hj : q = i
    · rw [hj, e] at h1
      have z2 : m = n := congrArg Prod.fst (Option.some.inj (Option.some.inj h1))
      exact ⟨⟨_, by rw [hj, List.getElem?_set_self hi, z2], h2⟩, hm'⟩
    · exact ⟨⟨d2, by rw [List.getElem?_set_ne (Ne.symm hj)]; exact h1, h2⟩, hm'⟩
  · rcases back ej with ⟨rfl, e'⟩ | ⟨_, q⟩
    · have z : Md.bor = m := congrArg Prod.fst e'
      rw [← z] at hm
      cases hm
    · exact T.bp j d2 q
theorem RsOk.tv {no : Option Addr} {s : Sl} {u : V} {τ : L2.St} {gs : Fs} (T : TI Γ Z R G σ H fs) (sR : Sub R (hideA H no)) (h : RsOk Γ (hideA H no) G' τ H' gs s u) (hne : ∀ p, no = some p → s.1 = .own → u ≠ .ref p)
    (hσ : ∀ (i : Nat) (t : Sl), fs'[i]? = some (some t) → t.1.mut = true → ∃ t', fs[i]? = some (some t') ∧ t'.1.mut = true) : VOk Γ R G' σ H' fs' (tvOf s) u := by
  obtain ⟨m, d⟩ := s
  rcases h with ⟨z, r⟩ | ⟨z, ⟨p, rfl, rp, gp, ow⟩, ns⟩
  · cases z; exact r
  · cases z
    refine ⟨⟨p, rfl, sR.free rp, gp, ow⟩, fun i t e hm z => ?_⟩
    obtain ⟨t', e', hm'⟩ := hσ i t e hm
    obtain ⟨q, h1, h2, h3, h4⟩ := T.mutAt e' hm'
    rw [h1] at z
    cases z
    have hn : no ≠ some p := fun z => hne p z rfl rfl
    rw [hideA_at hn] at rp
    obtain ⟨o, ho⟩ := h4.has
    rw [ho] at rp
    cases rp
theorem hideA_none : hideA H none = H := by
  funext a
  exact hideA_at (fun z => by cases z)
/-- THE CALL of a def that changes none of its arguments -/
theorem call_ok {f : Fn} {ms : List Bool} {np : Nat} {xs : List Tv} {us : List V} {Q : VK} (T : TI Γ Z R G σ H fs) (hv : VsOk Γ R G σ H fs xs us) (hn : xs.length = np) (h : (callM f ms xs fs).Wp (PstE Γ Z R G σ Q) (PstX Γ Z R G σ W)) :
    spF Γ np f us H Q (fun c dd H' => W c dd σ H') := by
  have h := wp_bnd.mp h
  rcases pass1_out ms xs fs with ⟨ys, fs1, e1⟩ | e1
  · rw [e1] at h
    obtain ⟨G1, T1, g1, v1, _, _⟩ := T.pass1 hv e1
    have h : Out.Wp (match args1 none fs1 ys with
      | none => Out.bad
      | some as => match f as with
        | .ok s _ => .ok (tvOf s) fs1
        | .ex x _ => .ex x fs1
        | .bad => .bad) (PstE Γ Z R G σ Q) (PstX Γ Z R G σ W) := h
    cases ea : args1 none fs1 ys with
    | none => rw [ea] at h; exact h.elim
    | some as =>
      rw [ea] at h
      dsimp only at h
      have A := T1.args1 (no := none) (na := none) (fun _ z => by cases z) (fun _ => rfl) v1 ea
      have hl := A.len
      have En := T1.enter (no := none) (as := as) (us := us) hl fun i a e => by
        obtain ⟨u, h1, h2⟩ := A.get e
        exact ⟨u, h1, .inl h2⟩
      refine ⟨by rw [← hv.len, hn], _, _, G1, as, En, fun i d e => ?_, ?_⟩
      · obtain ⟨u, hu, ao⟩ := A.get e
        exact ⟨u, .inl rfl, d, e, hu⟩
      · have sR : Sub R (hideA H none) := by rw [hideA_none]; exact T1.rh
        cases ef : f as with
        | bad => rw [ef] at h; exact h.elim
        | ok s as' =>
          rw [ef] at h
          intro G' H' u T' g' rs
          obtain ⟨T2, g2⟩ := T1.leave T'.rh T'.gh g' (fun p z => by cases z) (fun i s p _ _ _ z => by cases z)
          exact h G' H' u T2 (g1.trans g2) (rs.tv T1 sR (fun p z => by cases z) fun i t e hm => ⟨t, e, hm⟩)
        | ex x as' =>
          rw [ef] at h
          intro G' H' c dd T' g' xo
          obtain ⟨T2, g2⟩ := T1.leave T'.rh T'.gh g' (fun p z => by cases z) (fun i s p _ _ _ z => by cases z)
          exact h G' H' c dd T2 (g1.trans g2) xo
  · rw [e1] at h
    exact h.elim
/-- .. of a def that changes its first one -/
theorem callm_ok {f : Fn} {ms : List Bool} {np : Nat} {xs : List Tv} {us : List V} {Q : VK} (T : TI Γ Z R G σ H fs) (hv : VsOk Γ R G σ H fs xs us) (hn : xs.length = np) (h : (callMm f ms xs fs).Wp (PstE Γ Z R G σ Q) (PstX Γ Z R G σ W)) :
    spF Γ np f us H Q (fun c dd H' => W c dd σ H') := by
  match xs, us, hv, h, hn with
  | .slot i :: xs, u0 :: us, hv, h, hn =>
    have h := wp_bnd.mp h
    rcases pass1_out ms xs fs with ⟨ys, fs1, e1⟩ | e1
    · rw [e1] at h
      obtain ⟨G1, T1, g1, v1, _, _⟩ := T.pass1 hv.2.2 e1
      have h : Out.Wp (match fs1[i]? with
        | some (some (m, d)) => if m.mut = true then match args1 (some i) fs1 ys with
            | none => Out.bad
            | some as => match f ((.io, d) :: as) with
              | .ok s ((_, d') :: _) => .ok (tvOf s) (fs1.set i (some (m, d')))
              | .ex x ((_, d') :: _) => .ex x (fs1.set i (some (m, d')))
              | _ => .bad
          else .bad
        | _ => .bad) (PstE Γ Z R G σ Q) (PstX Γ Z R G σ W) := h
      have h0 : σ[i]? = some (some u0) := hv.1
      cases ei : fs1[i]? with
      | none => rw [ei] at h; exact h.elim
      | some o =>
        cases o with
        | none => rw [ei] at h; exact h.elim
        | some t =>
          obtain ⟨m, d⟩ := t
          rw [ei] at h
          dsimp only at h
          by_cases hm : m.mut = true
          · rw [if_pos hm] at h
            obtain ⟨p, hp, rp, gp, ow⟩ := T1.mutAt ei hm
            rw [h0] at hp
            cases hp
            cases ea : args1 (some i) fs1 ys with
            | none => rw [ea] at h; exact h.elim
            | some as =>
              rw [ea] at h
              dsimp only at h
              have A := T1.args1 (no := some i) (na := some p) (fun j z => by cases z; exact ⟨_, p, ei, hm, h0, rfl⟩) (fun z => by cases z) v1 ea
              have hl := A.len
              have En := T1.enter (no := some p) (as := (.io, d) :: as) (us := .ref p :: us) (by rw [List.length_cons, List.length_cons, hl]) fun j a e => by
                cases j with
                | zero =>
                  simp at e
                  subst e
                  exact ⟨_, rfl, .inr ⟨rfl, rfl, p, rfl, rfl, gp, ow⟩⟩
                | succ j =>
                  obtain ⟨u, h1, h2⟩ := A.get (i := j) (by simpa using e)
                  exact ⟨u, by simpa using h1, .inl h2⟩
              have sR : Sub R (hideA H (some p)) := fun a o e => by
                rw [hideA_at fun z => by cases z; rw [rp] at e; cases e]
                exact T1.rh a o e
              have hi1 : i < fs1.length := (List.getElem?_eq_some_iff.mp ei).1
              refine ⟨by rw [← hn, List.length_cons, List.length_cons, ← hv.2.2.len], _, _, G1, (.io, d) :: as, En, fun j d' e => ?_, ?_⟩
              · cases j with
                | zero => exact ⟨.ref p, .inl rfl, d, rfl, rfl⟩
                | succ j =>
                  obtain ⟨u, hu, ao⟩ := A.get (i := j) (by simpa using e)
                  rcases ao with ⟨z, _⟩ | ⟨z, _⟩ <;> cases z
              · -- what the callee leaves at the place that was lent
                have lent : ∀ {a' : Sl} {as' : List Sl} {G' H' : Hp}, TI Γ (Zc H (some p) ((.io, d) :: as) (.ref p :: us)) (hideA H (some p)) G' ((V.ref p :: us).map some) H' ((a' :: as').map some) → G' p = none ∧ OwnAt Γ G' H' p a'.2 := by
                  intro a' as' G' H' T'
                  obtain ⟨⟨d', b1, b2⟩, _⟩ := T'.io 0 .io (.ref p) ⟨.inl rfl, d, rfl, rfl⟩
                  have b1 := map_get.mp b1
                  simp at b1
                  subst b1
                  obtain ⟨v, c1, q, c2, _, c3, c4⟩ := T'.sl 0 (.io, d') rfl
                  have c1 : some (some (V.ref p)) = some (some v) := c1
                  cases c1
                  cases c2
                  exact ⟨c3, c4⟩
                have far : ∀ {G' : Hp} {τ : L2.St} {H' : Hp} {s : Sl} {u : V} {a' : Sl} {as' : List Sl}, TI Γ (Zc H (some p) ((.io, d) :: as) (.ref p :: us)) (hideA H (some p)) G' ((V.ref p :: us).map some) H' ((a' :: as').map some) →
                    RsOk Γ (hideA H (some p)) G' ((V.ref p :: us).map some) H' ((a' :: as').map some) s u → ∀ q, some p = some q → s.1 = .own → u ≠ .ref q := by
                  intro G' τ H' s u a' as' T' rs q eq hs z
                  cases eq
                  subst z
                  rcases rs with ⟨y, _⟩ | ⟨_, _, y⟩
                  · rw [hs] at y; cases y
                  · obtain ⟨⟨d', b1, b2⟩, _⟩ := T'.io 0 .io (.ref p) ⟨.inl rfl, d, rfl, rfl⟩
                    exact y 0 _ b1 rfl b2
                have setT : ∀ {d' : D} {G' H' : Hp}, Sub (hideA H (some p)) H' → Sub G' H' → Grow (hideA H (some p)) G1 G' → G' p = none → OwnAt Γ G' H' p d' → TI Γ Z R G' σ H' (fs1.set i (some (m, d'))) ∧ Grow R G1 G' := by
                  intro d' G' H' s1 s2 g' z1 z2
                  exact T1.leaveM ei hm h0 s1 s2 g' z1 z2 rp
                cases ef : f ((.io, d) :: as) with
                | bad => rw [ef] at h; exact h.elim
                | ok s as' =>
                  rw [ef] at h
                  cases as' with
                  | nil => exact h.elim
                  | cons a' as' =>
                    intro G' H' u T' g' rs
                    obtain ⟨z1, z2⟩ := lent T'
                    obtain ⟨T2, g2⟩ := setT T'.rh T'.gh g' z1 z2
                    refine h G' H' u T2 (g1.trans g2) (rs.tv T1 sR (far (τ := σ) T' rs) fun j t e hm' => ?_)
                    by_cases hj : j = i
                    · subst hj
                      exact ⟨_, ei, hm⟩
                    · rw [List.getElem?_set_ne (Ne.symm hj)] at e
                      exact ⟨t, e, hm'⟩
                | ex x as' =>
                  rw [ef] at h
                  cases as' with
                  | nil => exact h.elim
                  | cons a' as' =>
                    intro G' H' c dd T' g' xo
                    obtain ⟨z1, z2⟩ := lent T'
                    obtain ⟨T2, g2⟩ := setT T'.rh T'.gh g' z1 z2
                    exact h G' H' c dd T2 (g1.trans g2) xo
          · rw [if_neg hm] at h
            exact h.elim
    · rw [e1] at h
      exact h.elim
  | [], _, _, h, _ => exact h.elim
  | .frz _ :: _, _, _, h, _ => exact h.elim
  | .own _ :: _, _, _, h, _ => exact h.elim
  | .slot _ :: _, [], hv, _, _ => exact hv.elim
end
end TL

/-! The operations by data. -/
namespace TL
open PySem PySem.Spec PyProof.Rows L2
abbrev lineN : Nat := 16777216
theorem line_le {n : Nat} (h : n ≤ lineN) : n ≤ sizeLine := by rw [sizeLine_eq]; exact h
abbrev aI (i : Int) : Tv := .frz (.at (.int i))
abbrev aB (b : Bool) : Tv := .frz (.at (.bl b))
abbrev aS (x : Str) : Tv := .frz (.at (.str x))
def ifS {α : Type} (c : Prop) [Decidable c] (a : α) : Option α := if c then some a else none
theorem ifS_some {α : Type} {c : Prop} [Decidable c] {a b : α} (h : ifS c a = some b) : c ∧ a = b := by
  unfold ifS at h
  split at h
  · rename_i q
    exact ⟨q, Option.some.inj h⟩
  · cases h
def mulOk (i j : Int) : Bool := decide (-(2 ^ 64) < i ∧ i < 2 ^ 64) || decide (-(2 ^ 64) < j ∧ j < 2 ^ 64) || decide (i.natAbs.log2 + j.natAbs.log2 < 1000000)
def addD : D → D → Option Tv
  | .at (.int i), .at (.int j) => some (aI (i + j))
  | .at (.str x), .at (.str y) => ifS (x.length + y.length ≤ lineN) (aS (x ++ y))
  | .nd .lst xs, .nd .lst ys => ifS (xs.length + ys.length ≤ lineN) (.own (.nd .lst (xs ++ ys)))
  | .nd .tup xs, .nd .tup ys => ifS (xs.length + ys.length ≤ lineN) (.frz (.nd .tup (xs ++ ys)))
  | _, _ => none
def subD : D → D → Option Tv
  | .at (.int i), .at (.int j) => some (aI (i - j))
  | _, _ => none
def repS (x : Str) (n : Int) : Str := if n < 1 then ⟨#[]⟩ else if n = 1 then x else ⟨(List.replicate n.toNat x.cps.toList).flatten.toArray⟩
def mulD : D → D → Option Tv
  | .at (.int i), .at (.int j) => ifS (mulOk i j = true) (aI (i * j))
  | .nd .lst xs, .at (.int k) => ifS (-(2 ^ 63) ≤ k ∧ k < 2 ^ 63 ∧ xs.length * k.toNat ≤ lineN) (.own (.nd .lst (List.replicate k.toNat xs).flatten))
  | .at (.str x), .at (.int k) => ifS (0 ≤ k ∧ k ≤ 10000 ∧ x.length ≤ 1000) (aS (repS x k))
  | _, _ => none
def fdivD : D → D → Option Tv
  | .at (.int i), .at (.int j) => ifS (j ≠ 0 ∧ j.natAbs < 1073741824) (aI (i.fdiv j))
  | _, _ => none
def modD : D → D → Option Tv
  | .at (.int i), .at (.int j) => ifS (j ≠ 0) (aI (i.fmod j))
  | _, _ => none
def powD : D → D → Option Tv
  | .at (.int i), .at (.int j) => ifS (0 ≤ j ∧ j ≤ 1000000 ∧ i.natAbs < 2 ^ 64) (aI (i ^ j.toNat))
  | _, _ => none
def shlD : D → D → Option Tv
  | .at (.int i), .at (.int j) => ifS (0 ≤ j ∧ j ≤ 1000000 ∧ i.natAbs < 2 ^ 64) (aI (i * 2 ^ j.toNat))
  | _, _ => none
def shrD : D → D → Option Tv
  | .at (.int i), .at (.int j) => ifS (0 ≤ j) (aI (i / 2 ^ j.toNat))
  | _, _ => none
def bitD (f : Int → Int → Int) : D → D → Option Tv
  | .at (.int i), .at (.int j) => some (aI (f i j))
  | _, _ => none
def cmpD (f : Int → Int → Bool) : D → D → Option Tv
  | .at (.int i), .at (.int j) => some (aB (f i j))
  | _, _ => none
section
variable {Γ : Gm} {Z : Zf} {R R1 G G1 G' H H' : Hp} {σ : L2.St} {fs fs' : Fs} {W : WX} {X : Cx}
theorem op_catQ : OpR X (binaryOp .Add) rCat := op_cat
/-- s * n -/
theorem op_rep_str : OpR X (binaryOp .Mult) (fun x y H Q => ∃ z k, x = .str z ∧ y = .int k ∧ (0 ≤ k ∧ k ≤ 10000 ∧ z.length ≤ 1000) ∧ Q (.str (repS z k)) H) := by
  intro pins s σ H x y v u Q I rx ry h
  obtain ⟨z, k, rfl, rfl, ⟨h0, h1, h2⟩, q⟩ := h
  obtain ⟨t, rfl⟩ := rx
  obtain ⟨t', rfl⟩ := ry
  have mb : (z.length : Int) * k ≤ 10000000 := by
    have a1 : (z.length : Int) * k ≤ 1000 * k := Int.mul_le_mul_of_nonneg_right (by omega) h0
    omega
  have hfl : (List.replicate k.toNat z.cps).foldl (· ++ ·) #[] = (List.replicate k.toNat z.cps.toList).flatten.toArray := by
    have go : ∀ (n : Nat) (acc : List Nat), (List.replicate n z.cps).foldl (· ++ ·) acc.toArray = (acc ++ (List.replicate n z.cps.toList).flatten).toArray := by
      intro n
      induction n with
      | zero => intro acc; simp
      | succ n ih =>
        intro acc
        rw [List.replicate_succ, List.foldl_cons, List.replicate_succ, List.flatten_cons, ← List.append_assoc, ← ih (acc ++ z.cps.toList)]
        congr 1
        simp
    have := go k.toNat []
    simpa using this
  have hlen : ((List.replicate k.toNat z.cps.toList).flatten).length ≤ 10000000 := by
    rw [PyProof.Rows.lm_len_rep_flat]
    have e : (z.cps.toList.length : Int) = z.length := by simp [Str.length]
    have : ((k.toNat * z.cps.toList.length : Nat) : Int) ≤ 10000000 := by
      rw [Int.natCast_mul, Int.mul_comm, e, Int.toNat_of_nonneg h0]
      exact mb
    omega
  refine P.mul_str ?_ ?_ ?_ ?_
  · have a : decide (k < -(2 ^ 63 : Int)) = false := decide_eq_false (by omega)
    have b : decide (k ≥ 2 ^ 63) = false := decide_eq_false (by omega)
    rw [a, b]; rfl
  · intro c _ d
    have hk : (0 : Int) < k := by omega
    have e : (z.length : Int) ≤ 1000 := by omega
    have : (1000 : Int) ≤ (2 ^ 63 - 1) / k := (Int.le_ediv_iff_mul_le hk).mpr (by omega)
    omega
  · intro _ _
    unfold Builtin.Str.tooLong
    refine decide_eq_false ?_
    have : ((z.length * k.toNat : Nat) : Int) ≤ 10000000 := by
      rw [Int.natCast_mul, Int.toNat_of_nonneg h0]
      exact mb
    have := sizeLine_eq
    omega
  · unfold repS at q
    by_cases c : k < 1
    · rw [if_pos c] at q ⊢
      exact ⟨by decide, .str _, H, I.tok _, ⟨_, rfl⟩, q⟩
    · rw [if_neg c] at q ⊢
      by_cases d : k = 1
      · rw [if_pos d] at q
        rw [if_pos (by rw [d]; rfl)]
        exact ⟨.str z, H, I.tok _, ⟨_, rfl⟩, q⟩
      · rw [if_neg d] at q
        by_cases e : z.length = 0
        · rw [if_pos (by rw [e]; simp)]
          have ez : z.cps.toList = [] := by
            have : z.cps.toList.length = 0 := by simpa [Str.length] using e
            exact List.eq_nil_of_length_eq_zero this
          have e3 : (⟨(List.replicate k.toNat z.cps.toList).flatten.toArray⟩ : Str) = z := by
            rw [ez]
            have e4 : z.cps = #[] := Array.toList_eq_nil_iff.mp ez
            have e5 : (List.replicate k.toNat ([] : List Nat)).flatten = [] := by simp
            rw [e5]
            obtain ⟨cps⟩ := z
            simp only at e4
            rw [e4]
          rw [e3] at q
          exact ⟨.str z, H, I.tok _, ⟨_, rfl⟩, q⟩
        · rw [if_neg (by simp [d, e])]
          rw [hfl]
          refine ⟨?_, .str _, H, I.tok _, ⟨_, rfl⟩, q⟩
          show (List.replicate k.toNat z.cps.toList).flatten.toArray.size ≤ sizeLine
          rw [List.size_toArray, sizeLine_eq]
          omega

def rAddA (K : PySem.W.Frag) : R2 := fun x y H Q => (∃ i j, x = .int i ∧ y = .int j ∧ Q (.int (i + j)) H) ∨ ((∃ i j, x = .str i ∧ y = .str j ∧ i.length + j.length ≤ sizeLine ∧ Q (.str (i ++ j)) H) ∨ (rCat x y H Q ∨ rCatA K x y H Q))
theorem op_addA : OpR X (binaryOp .Add) (rAddA X.K) := op_add.or (op_add_str.or (op_cat.or op_catA))
theorem sr_add : SR2 Γ W (rAddA Γ.K) (dop2 addD) := by
  refine sr2_dop fun Z R G σ H fs d e u w t Q T hd he hg hq => ?_
  unfold addD at hg
  split at hg
  · cases hg; cases hd; cases he
    exact .inl ⟨_, _, rfl, rfl, hq.at T⟩
  · obtain ⟨c, rfl⟩ := ifS_some hg
    cases hd; cases he
    exact .inr (.inl ⟨_, _, rfl, rfl, line_le c, hq.at T⟩)
  · obtain ⟨c, rfl⟩ := ifS_some hg
    obtain ⟨p, vs, rfl, h1, r1⟩ := hd
    obtain ⟨q, ws, rfl, h2, r2⟩ := he
    exact .inr (.inr (.inl ⟨p, q, vs, ws, rfl, rfl, h1, h2, line_le (by rw [← r1.len, ← r2.len]; exact c), fun a ha => hq.new T (r1.app r2) ha⟩))
  · obtain ⟨c, rfl⟩ := ifS_some hg
    obtain ⟨p, vs, rfl, h1, r1⟩ := hd
    obtain ⟨q, ws, rfl, h2, r2⟩ := he
    refine .inr (.inr (.inr ⟨p, q, vs, ws, rfl, rfl, SqT.of (T.gh _ _ h1), SqT.of (T.gh _ _ h2), line_le (by rw [← r1.len, ← r2.len]; exact c), fun z => ?_, fun _ z => ?_, fun _ _ a ha => hq.newT T (r1.app r2) ha⟩))
    · subst z
      cases r1
      exact hq.rep T (.tup h2 r2)
    · subst z
      cases r2
      exact hq.rep T (.tup h1 (by rw [List.append_nil]; exact r1))
  · cases hg
theorem sr_sub : SR2 Γ W (rI0 fun i j => .int (i - j)) (dop2 subD) := by
  refine sr2_dop fun Z R G σ H fs d e u w t Q T hd he hg hq => ?_
  unfold subD at hg
  split at hg
  · cases hg; cases hd; cases he
    exact ⟨_, _, rfl, rfl, hq.at T⟩
  · cases hg
def rMulA : R2 := fun x y H Q => rI CMul (fun i j => .int (i * j)) x y H Q ∨ (rI CMulW (fun i j => .int (i * j)) x y H Q ∨ (rRep x y H Q ∨ ∃ z k, x = .str z ∧ y = .int k ∧ (0 ≤ k ∧ k ≤ 10000 ∧ z.length ≤ 1000) ∧ Q (.str (repS z k)) H))
theorem op_mulA : OpR X (binaryOp .Mult) rMulA := op_mul.or (op_mulW.or (op_rep.or op_rep_str))
theorem RepA.reps {xs : List D} {vs : List V} (r : RepA Γ G xs vs) : ∀ n : Nat, RepA Γ G (List.replicate n xs).flatten (List.replicate n vs).flatten
  | 0 => .nil
  | n + 1 => by
    rw [List.replicate_succ, List.replicate_succ, List.flatten_cons, List.flatten_cons]
    exact r.app (RepA.reps r n)
theorem sr_mul : SR2 Γ W rMulA (dop2 mulD) := by
  refine sr2_dop fun Z R G σ H fs d e u w t Q T hd he hg hq => ?_
  unfold mulD at hg
  split at hg
  · obtain ⟨c, rfl⟩ := ifS_some hg
    cases hd; cases he
    unfold mulOk at c
    rw [Bool.or_eq_true, Bool.or_eq_true] at c
    rcases c with (c | c) | c
    · exact .inl ⟨_, _, rfl, rfl, .inl (of_decide_eq_true c), hq.at T⟩
    · exact .inl ⟨_, _, rfl, rfl, .inr (of_decide_eq_true c), hq.at T⟩
    · exact .inr (.inl ⟨_, _, rfl, rfl, (show CMulW _ _ from of_decide_eq_true (p := _ < 1000000) c), hq.at T⟩)
  · obtain ⟨⟨c1, c2, c3⟩, rfl⟩ := ifS_some hg
    obtain ⟨p, vs, rfl, h1, r1⟩ := hd
    cases he
    exact .inr (.inr (.inl ⟨p, _, vs, rfl, rfl, h1, c1, c2, line_le (by rw [← r1.len]; exact c3), fun a ha => hq.new T (r1.reps _) ha⟩))
  · obtain ⟨c, rfl⟩ := ifS_some hg
    cases hd; cases he
    exact .inr (.inr (.inr ⟨_, _, rfl, rfl, c, hq.at T⟩))
  · cases hg
theorem sr_fdiv : SR2 Γ W (rI CDivN fun i j => .int (i.fdiv j)) (dop2 fdivD) := by
  refine sr2_dop fun Z R G σ H fs d e u w t Q T hd he hg hq => ?_
  unfold fdivD at hg
  split at hg
  · obtain ⟨c, rfl⟩ := ifS_some hg
    cases hd; cases he
    exact ⟨_, _, rfl, rfl, c, hq.at T⟩
  · cases hg
theorem sr_mod : SR2 Γ W (rI (fun _ j => j ≠ 0) fun i j => .int (i.fmod j)) (dop2 modD) := by
  refine sr2_dop fun Z R G σ H fs d e u w t Q T hd he hg hq => ?_
  unfold modD at hg
  split at hg
  · obtain ⟨c, rfl⟩ := ifS_some hg
    cases hd; cases he
    exact ⟨_, _, rfl, rfl, c, hq.at T⟩
  · cases hg
theorem sr_pow : SR2 Γ W (rI CPow fun i j => .int (i ^ j.toNat)) (dop2 powD) := by
  refine sr2_dop fun Z R G σ H fs d e u w t Q T hd he hg hq => ?_
  unfold powD at hg
  split at hg
  · obtain ⟨c, rfl⟩ := ifS_some hg
    cases hd; cases he
    exact ⟨_, _, rfl, rfl, c, hq.at T⟩
  · cases hg
theorem sr_shl : SR2 Γ W (rI CPow fun i j => .int (i * 2 ^ j.toNat)) (dop2 shlD) := by
  refine sr2_dop fun Z R G σ H fs d e u w t Q T hd he hg hq => ?_
  unfold shlD at hg
  split at hg
  · obtain ⟨c, rfl⟩ := ifS_some hg
    cases hd; cases he
    exact ⟨_, _, rfl, rfl, c, hq.at T⟩
  · cases hg
theorem sr_shr : SR2 Γ W (rI (fun _ j => 0 ≤ j) fun i j => .int (i / 2 ^ j.toNat)) (dop2 shrD) := by
  refine sr2_dop fun Z R G σ H fs d e u w t Q T hd he hg hq => ?_
  unfold shrD at hg
  split at hg
  · obtain ⟨c, rfl⟩ := ifS_some hg
    cases hd; cases he
    exact ⟨_, _, rfl, rfl, c, hq.at T⟩
  · cases hg
theorem sr_bit (f : Int → Int → Int) : SR2 Γ W (rI0 fun i j => .int (f i j)) (dop2 (bitD f)) := by
  refine sr2_dop fun Z R G σ H fs d e u w t Q T hd he hg hq => ?_
  unfold bitD at hg
  split at hg
  · cases hg; cases hd; cases he
    exact ⟨_, _, rfl, rfl, hq.at T⟩
  · cases hg
theorem sr_cmp (f : Int → Int → Bool) : SR2 Γ W (rI0 fun i j => .bl (f i j)) (dop2 (cmpD f)) := by
  refine sr2_dop fun Z R G σ H fs d e u w t Q T hd he hg hq => ?_
  unfold cmpD at hg
  split at hg
  · cases hg; cases hd; cases he
    exact ⟨_, _, rfl, rfl, hq.at T⟩
  · cases hg

/-! ### ==, in -/
mutual
def D.py : D → PyData
  | .at .non => .none
  | .at (.bl b) => .bool b
  | .at (.int i) => .int i
  | .at (.str x) => .str x
  | .nd .lst xs => .list (pys xs)
  | .nd .tup xs => .tuple (pys xs)
  | .nd _ _ => .dict []
def pys : List D → List PyData
  | [] => []
  | x :: xs => x.py :: pys xs
end
mutual
theorem Rep.dp (s : Sub G H) : ∀ {d : D} {v : V}, Rep Γ G d v → PyData.canLay0 d.py = true → Dp Γ.K H v d.py
  | .at .non, _, h, _ => by cases h; exact .non
  | .at (.bl b), _, h, _ => by cases h; exact .bl b
  | .at (.int i), _, h, _ => by cases h; exact .int i
  | .at (.str x), _, h, _ => by cases h; exact .str x
  | .nd .lst xs, _, h, q => by
    cases h with
    | lst h r =>
      unfold D.py at q ⊢
      unfold PyData.canLay0 at q
      exact .lst (SqL.of (s _ _ h)) (RepA.dp s r q)
  | .nd .tup xs, _, h, q => by
    cases h with
    | tup h r =>
      unfold D.py at q ⊢
      unfold PyData.canLay0 at q
      exact .tup (SqT.of (s _ _ h)) (RepA.dp s r q)
  | .nd .scr xs, _, h, q => by unfold D.py PyData.canLay0 at q; cases q
  | .nd .ktp xs, _, h, q => by unfold D.py PyData.canLay0 at q; cases q
  | .nd .dK xs, _, h, q => by unfold D.py PyData.canLay0 at q; cases q
  | .nd .dT xs, _, h, q => by unfold D.py PyData.canLay0 at q; cases q
  | .nd .dKL xs, _, h, q => by unfold D.py PyData.canLay0 at q; cases q
  | .nd .dTL xs, _, h, q => by unfold D.py PyData.canLay0 at q; cases q
  | .nd (.ins c ns) xs, _, h, q => by unfold D.py PyData.canLay0 at q; cases q
theorem RepA.dp (s : Sub G H) : ∀ {d : List D} {v : List V}, RepA Γ G d v → PyData.canLayAll0 (pys d) = true → DpAll Γ.K H v (pys d)
  | [], _, h, _ => by
    cases h
    unfold pys
    exact .nil
  | x :: xs, _, h, q => by
    cases h with
    | cons h r =>
      unfold pys at q ⊢
      unfold PyData.canLayAll0 at q
      rw [Bool.and_eq_true] at q
      exact .cons (Rep.dp s h q.1) (RepA.dp s r q.2)
end
theorem RdH.dp (T : TI Γ Z R G σ H fs) {d : D} {u : V} (h : RdH Γ G H d u) (q : SeqAt.shaped d.py = true) : Dp Γ.K H u d.py := by
  have q := SeqAt.canLay_of_shaped q
  cases d with
  | «at» a => cases h; exact Rep.dp T.gh (.at a) q
  | nd k xs =>
    cases k with
    | lst =>
      obtain ⟨p, vs, rfl, h1, r⟩ := h
      unfold D.py at q ⊢
      unfold PyData.canLay0 at q
      exact .lst (SqL.of h1) (RepA.dp T.gh r q)
    | tup =>
      obtain ⟨p, vs, rfl, h1, r⟩ := h
      exact Rep.dp T.gh (.tup h1 r) q
    | scr => unfold D.py PyData.canLay0 at q; cases q
    | ktp => unfold D.py PyData.canLay0 at q; cases q
    | dK => unfold D.py PyData.canLay0 at q; cases q
    | dT => unfold D.py PyData.canLay0 at q; cases q
    | dKL => unfold D.py PyData.canLay0 at q; cases q
    | dTL => unfold D.py PyData.canLay0 at q; cases q
    | ins c ns => unfold D.py PyData.canLay0 at q; cases q
def eqD (d e : D) : Option Tv := match d, e with
  | .at (.str x), .at (.str y) => some (aB (x == y))
  | d, e => ifS (SeqAt.shaped d.py = true ∧ SeqAt.shaped e.py = true) (aB (PyData.eqv d.py e.py))
def neD (d e : D) : Option Tv := match d, e with
  | .at (.str x), .at (.str y) => some (aB (!(x == y)))
  | d, e => ifS (SeqAt.shaped d.py = true ∧ SeqAt.shaped e.py = true) (aB (!PyData.eqv d.py e.py))
def rEqX (K : PySem.W.Frag) : R2 := fun x y H Q => rEqD K x y H Q ∨ rEq x y H Q
def rNeX (K : PySem.W.Frag) : R2 := fun x y H Q => rNeD K x y H Q ∨ rNe x y H Q
theorem sr_eq : SR2 Γ W (rEqX Γ.K) (dop2 eqD) := by
  refine sr2_dop fun Z R G σ H fs d e u w t Q T hd he hg hq => ?_
  unfold eqD at hg
  split at hg
  · rename_i x y
    cases hg
    cases hd
    cases he
    refine .inr ⟨rfl, ?_⟩
    have := hq.at T
    rw [← dec_str] at this
    exact this
  · obtain ⟨⟨c1, c2⟩, rfl⟩ := ifS_some hg
    exact .inl ⟨_, _, hd.dp T c1, he.dp T c2, c1, c2, hq.at T⟩
theorem sr_ne : SR2 Γ W (rNeX Γ.K) (dop2 neD) := by
  refine sr2_dop fun Z R G σ H fs d e u w t Q T hd he hg hq => ?_
  unfold neD at hg
  split at hg
  · rename_i x y
    cases hg
    cases hd
    cases he
    refine .inr ⟨rfl, ?_⟩
    have := hq.at T
    rw [← dec_str] at this
    exact this
  · obtain ⟨⟨c1, c2⟩, rfl⟩ := ifS_some hg
    exact .inl ⟨_, _, hd.dp T c1, he.dp T c2, c1, c2, hq.at T⟩
theorem eqD_sh {d e : D} (h1 : SeqAt.shaped d.py = true) (h2 : SeqAt.shaped e.py = true) : eqD d e = some (aB (PyData.eqv d.py e.py)) := by
  unfold eqD
  split
  · rename_i x y
    have : PyData.eqv (D.at (.str x)).py (D.at (.str y)).py = (x == y) := by unfold D.py PyData.eqv; rfl
    rw [this]
  · exact if_pos ⟨h1, h2⟩
theorem neD_sh {d e : D} (h1 : SeqAt.shaped d.py = true) (h2 : SeqAt.shaped e.py = true) : neD d e = some (aB (!PyData.eqv d.py e.py)) := by
  unfold neD
  split
  · rename_i x y
    have : PyData.eqv (D.at (.str x)).py (D.at (.str y)).py = (x == y) := by unfold D.py PyData.eqv; rfl
    rw [this]
  · exact if_pos ⟨h1, h2⟩
def flatD : D → Bool
  | .at _ => true
  | _ => false
def allFlat (xs : List D) : Bool := xs.all flatD
theorem flat_v {a : At} : flatV a.v = true := by cases a <;> rfl
theorem flat_all : ∀ {xs : List D} {vs : List V}, RepA Γ G xs vs → allFlat xs = true → vs.all flatV = true
  | [], _, h, _ => by cases h; rfl
  | x :: xs, _, h, q => by
    cases h with
    | @cons _ v _ vs h r =>
      unfold allFlat at q
      rw [List.all_cons, Bool.and_eq_true] at q
      rw [List.all_cons, Bool.and_eq_true]
      refine ⟨?_, flat_all r q.2⟩
      cases h with
      | «at» a => exact flat_v
      | _ => cases q.1
theorem flat_eq {a b : At} : eqV a.v b.v = PyData.eqv (D.at a).py (D.at b).py := by
  cases a <;> cases b <;> (unfold D.py PyData.eqv; rfl)
theorem flat_in {a : At} : ∀ {xs : List D} {vs : List V}, RepA Γ G xs vs → allFlat xs = true → inV a.v vs = xs.any fun y => PyData.eqv y.py (D.at a).py
  | [], _, h, _ => by cases h; rfl
  | x :: xs, _, h, q => by
    cases h with
    | @cons _ v _ vs h r =>
      unfold allFlat at q
      rw [List.all_cons, Bool.and_eq_true] at q
      have ih := flat_in (a := a) r q.2
      unfold inV at ih ⊢
      rw [List.any_cons, List.any_cons, ih]
      cases h with
      | «at» b => rw [flat_eq]
      | _ => cases q.1
/-- look-ups by data -/
def keyA : At → Option Key
  | .int i => some (.inl i)
  | .str x => some (.inr x)
  | _ => none
def keyD : D → Option Key
  | .at a => keyA a
  | _ => none
def keysD : List D → Option (List Key)
  | [] => some []
  | x :: xs => match keyD x with
    | none => none
    | some k => match keysD xs with
      | none => none
      | some ks => some (k :: ks)
def lookK (k : Key) : List D → Option D
  | .nd .tup [x, d] :: r => if keyD x = some k then some d else lookK k r
  | _ :: r => lookK k r
  | [] => none
def lookT (k : List Key) : List D → Option D
  | .nd .tup [.nd .tup xs, d] :: r => if keysD xs = some k then some d else lookT k r
  | _ :: r => lookT k r
  | [] => none
theorem keyD_kD {k : Key} : keyD (kD k) = some k := by cases k <;> rfl
theorem keysD_kD : ∀ {ks : List Key}, keysD (ks.map kD) = some ks
  | [] => rfl
  | k :: ks => by
    rw [List.map_cons]
    unfold keysD
    rw [keyD_kD, keysD_kD]
theorem keyD_v {d : D} {k : Key} {v : V} (e : keyD d = some k) (h : RdH Γ G H d v) : v = kV k := by
  cases d with
  | nd _ _ => cases e
  | «at» a =>
    have h : v = a.v := h
    subst h
    cases a with
    | int i => cases e; rfl
    | str x => cases e; rfl
    | non => cases e
    | bl b => cases e
theorem keysD_v : ∀ {xs : List D} {ks : List Key} {vs : List V}, keysD xs = some ks → RepA Γ G xs vs → vs = ks.map kV
  | [], ks, vs, e, h => by cases h; cases e; rfl
  | x :: xs, ks, vs, e, h => by
    cases h with
    | @cons _ v _ vs h r =>
      unfold keysD at e
      cases e1 : keyD x with
      | none => rw [e1] at e; cases e
      | some k =>
        rw [e1] at e
        cases e2 : keysD xs with
        | none => rw [e2] at e; cases e
        | some ks' =>
          rw [e2] at e
          cases e
          rw [List.map_cons, keysD_v e2 r, keyD_v e1 (RdH.ofRep (Γ := Γ) (G := G) (H := G) Sub.refl h)]
theorem lookK_ok {k : Key} : ∀ {xs : List D} {kvs : List (Key × V)}, RepK Γ G xs kvs → (lookK k xs = none ∧ valV kvs k = none) ∨ ∃ d v, lookK k xs = some d ∧ valV kvs k = some v ∧ Rep Γ G d v
  | [], _, h => by cases h; exact .inl ⟨rfl, rfl⟩
  | _ :: xs, _, h => by
    cases h with
    | @cons k' d v _ vs h r =>
      unfold lookK
      rw [keyD_kD]
      by_cases e : k' = k
      · rw [if_pos (by rw [e])]
        exact .inr ⟨d, v, rfl, valV_pos e, h⟩
      · rw [if_neg (fun z => e (Option.some.inj z)), valV_neg e]
        exact lookK_ok r
theorem lookT_ok {k : List Key} : ∀ {xs : List D} {kvs : List (List Key × V)}, RepT Γ G xs kvs → (lookT k xs = none ∧ valV kvs k = none) ∨ ∃ d v, lookT k xs = some d ∧ valV kvs k = some v ∧ Rep Γ G d v
  | [], _, h => by cases h; exact .inl ⟨rfl, rfl⟩
  | _ :: xs, _, h => by
    cases h with
    | @cons k' d v _ vs h r =>
      unfold lookT
      rw [keysD_kD]
      by_cases e : k' = k
      · rw [if_pos (by rw [e])]
        exact .inr ⟨d, v, rfl, valV_pos e, h⟩
      · rw [if_neg (fun z => e (Option.some.inj z)), valV_neg e]
        exact lookT_ok r
/-- what a dict's look-up gives, by data; the key itself must be of the dict's kind -/
def lookD (d : D) (k : D) : Option (Option D) :=
  match d with
  | .nd .dK xs => match keyD k with
    | some k => some (lookK k xs)
    | none => none
  | .nd .dT xs => match k with
    | .nd .tup ks => match keysD ks with
      | some ks => some (lookT ks xs)
      | none => none
    | _ => none
  | _ => none
theorem lookD_ok (T : TI Γ Z R G σ H fs) {d k : D} {u w : V} {o : Option D} (hd : RdH Γ G H d u) (hk : RdH Γ G H k w) (e : lookD d k = some o) :
    ∃ p r, u = .ref p ∧ DGet H p w r ∧ ((o = none ∧ r = none) ∨ ∃ x v, o = some x ∧ r = some v ∧ Rep Γ G x v) := by
  unfold lookD at e
  split at e
  · obtain ⟨p, kvs, rfl, h1, h2⟩ := hd
    cases ek : keyD k with
    | none => rw [ek] at e; cases e
    | some key =>
      rw [ek] at e
      cases e
      refine ⟨p, valV kvs key, rfl, .inl ⟨kvs, key, h1, keyD_v ek hk, rfl⟩, ?_⟩
      rcases lookK_ok (k := key) h2 with ⟨a, b⟩ | ⟨x, v, a, b, c⟩
      · exact .inl ⟨a, b⟩
      · exact .inr ⟨x, v, a, b, c⟩
  · obtain ⟨p, kvs, rfl, h1, h2⟩ := hd
    split at e
    · rename_i ks
      cases ek : keysD ks with
      | none => rw [ek] at e; cases e
      | some key =>
        rw [ek] at e
        cases e
        obtain ⟨q, vs, rfl, g1, g2⟩ := hk
        have ev := keysD_v ek g2
        subst ev
        refine ⟨p, valV kvs key, rfl, .inr ⟨kvs, key, q, h1, rfl, T.gh _ _ g1, rfl⟩, ?_⟩
        rcases lookT_ok (k := key) h2 with ⟨a, b⟩ | ⟨x, v, a, b, c⟩
        · exact .inl ⟨a, b⟩
        · exact .inr ⟨x, v, a, b, c⟩
    · cases e
  · cases e
/-! x in y -/
def inB (x y : D) : Option Bool :=
  match y with
  | .nd .lst ys => match x with
    | .at a => if allFlat ys = true then some (ys.any fun z => PyData.eqv z.py (D.at a).py) else ifS (SeqAt.shaped y.py = true ∧ SeqAt.shaped x.py = true) ((pys ys).any fun z => PyData.eqv z x.py)
    | _ => ifS (SeqAt.shaped y.py = true ∧ SeqAt.shaped x.py = true) ((pys ys).any fun z => PyData.eqv z x.py)
  | .nd .tup ys => match x with
    | .at a => ifS (allFlat ys = true) (ys.any fun z => PyData.eqv z.py (D.at a).py)
    | _ => none
  | .nd .ktp ys => match x with
    | .at a => ifS (allFlat ys = true) (ys.any fun z => PyData.eqv z.py (D.at a).py)
    | _ => none
  | .at (.str z) => match x with
    | .at (.str s) => match s.cps.toList with
      | [c] => some (decide (c ∈ z.cps.toList))
      | _ => none
    | _ => none
  | d => (lookD d x).map (·.isSome)
def rInA (K : PySem.W.Frag) (neg : Bool) : R2 := fun x y H Q => rIn K neg x y H Q ∨ ((if neg then rNotInD K x y H Q else rInD K x y H Q) ∨ ((∃ (c : Nat) (z : Str), x = .str ⟨#[c]⟩ ∧ y = .str z ∧ Q (.bl (if neg then !decide (c ∈ z.cps.toList) else decide (c ∈ z.cps.toList))) H) ∨
  ∃ a o, y = .ref a ∧ DGet H a x o ∧ Q (.bl (if neg then !o.isSome else o.isSome)) H))
theorem op_in_dct (hu : X.A.units + 1 < cLine) : OpR X (compareOp .In) (fun x y H Q => ∃ a o, y = .ref a ∧ DGet H a x o ∧ Q (.bl o.isSome) H) := by
  intro pins s σ H x y v u Q I rx ry h
  obtain ⟨a, o, rfl, g, q⟩ := h
  cases ry
  exact d_in hu I g rx fun s3 I3 => ⟨.bl o.isSome, H, I3, rfl, q⟩
theorem op_notin_dct (hu : X.A.units + 1 < cLine) : OpR X (compareOp .NotIn) (fun x y H Q => ∃ a o, y = .ref a ∧ DGet H a x o ∧ Q (.bl (!o.isSome)) H) := by
  intro pins s σ H x y v u Q I rx ry h
  obtain ⟨a, o, rfl, g, q⟩ := h
  cases ry
  exact d_notIn hu I g rx fun s3 I3 => ⟨.bl (!o.isSome), H, I3, rfl, q⟩
theorem op_inA (hu : X.A.units + 65 < cLine) : OpR X (compareOp .In) (rInA X.K false) := op_in_seq.or ((op_inD hu).or (op_in_sign.or (op_in_dct (by omega))))
theorem op_notInA (hu : X.A.units + 65 < cLine) : OpR X (compareOp .NotIn) (rInA X.K true) := op_notIn_seq.or ((op_notInD hu).or (op_notIn_sign.or (op_notin_dct (by omega))))
theorem sr_in (neg : Bool) : SR2 Γ W (rInA Γ.K neg) (dop2 fun x y => (inB x y).map fun b => aB (if neg then !b else b)) := by
  refine sr2_dop fun Z R G σ H fs d e u w t Q T hd he hg hq => ?_
  obtain ⟨b, hb, rfl⟩ := Option.map_eq_some_iff.mp hg
  have deep : ∀ {ys : List D}, e = .nd .lst ys → ifS (SeqAt.shaped e.py = true ∧ SeqAt.shaped d.py = true) ((pys ys).any fun z => PyData.eqv z d.py) = some b → rInA Γ.K neg u w H Q := by
    intro ys ee hb
    obtain ⟨⟨c1, c2⟩, rfl⟩ := ifS_some hb
    have h2 := he.dp T c1
    subst ee
    unfold D.py at h2 c1
    refine .inr (.inl ?_)
    cases neg with
    | false => exact ⟨_, _, hd.dp T c2, h2, c2, c1, hq.at T⟩
    | true => exact ⟨_, _, hd.dp T c2, h2, c2, c1, hq.at T⟩
  unfold inB at hb
  split at hb
  · split at hb
    · split at hb
      · rename_i ys _ a c
        cases hb
        obtain ⟨p, vs, rfl, h1, r⟩ := he
        cases hd
        exact .inl ⟨p, vs, rfl, .inl (SqL.of h1), flat_v, flat_all r c, by rw [flat_in r c]; exact hq.at T⟩
      · exact deep rfl hb
    · exact deep rfl hb
  · split at hb
    · obtain ⟨c, rfl⟩ := ifS_some hb
      obtain ⟨p, vs, rfl, h1, r⟩ := he
      cases hd
      exact .inl ⟨p, vs, rfl, .inr (SqT.of (T.gh _ _ h1)), flat_v, flat_all r c, by rw [flat_in r c]; exact hq.at T⟩
    · cases hb
  · split at hb
    · obtain ⟨c, rfl⟩ := ifS_some hb
      obtain ⟨p, vs, rfl, h1, r⟩ := he
      cases hd
      exact .inl ⟨p, vs, rfl, .inr h1, flat_v, flat_all r c, by rw [flat_in r c]; exact hq.at T⟩
    · cases hb
  · split at hb
    · rename_i s
      split at hb
      · rename_i c hc
        cases hb
        cases hd; cases he
        have es : s = ⟨#[c]⟩ := by
          obtain ⟨cps⟩ := s
          have : cps = #[c] := Array.ext' (by simpa using hc)
          rw [this]
        exact .inr (.inr (.inl ⟨c, _, by rw [es]; rfl, rfl, hq.at T⟩))
      · cases hb
    · cases hb
  · obtain ⟨o, ho, rfl⟩ := Option.map_eq_some_iff.mp hb
    obtain ⟨p, r, rfl, g, hr⟩ := lookD_ok T he hd ho
    refine .inr (.inr (.inr ⟨p, r, rfl, g, ?_⟩))
    have er : r.isSome = o.isSome := by
      rcases hr with ⟨rfl, rfl⟩ | ⟨x, v, rfl, rfl, _⟩ <;> rfl
    rw [er]
    exact hq.at T
/-! is None, is True -/
def isNonD : D → Bool
  | .at .non => true
  | _ => false
def isD (neg : Bool) (x y : D) : Option Tv :=
  match y with
  | .at .non => some (aB (xor neg (isNonD x)))
  | .at (.bl b) => match x with
    | .at (.bl a) => some (aB (xor neg (decide (a = b))))
    | _ => none
  | _ => none
def rIsA (neg : Bool) : R2 := fun x y H Q => (y = .non ∧ Q (.bl (xor neg (decide (x = .non)))) H) ∨ ∃ a b : Bool, x = .bl a ∧ y = .bl b ∧ Q (.bl (xor neg (decide (a = b)))) H
theorem op_isA : OpR X (compareOp .Is) (rIsA false) := by
  have h := (op_isN (X := X)).or op_isBl
  intro pins s σ H x y v u Q I rx ry q
  refine h pins s σ H x y v u Q I rx ry ?_
  rcases q with ⟨a, q⟩ | ⟨a, b, c, d, q⟩
  · exact .inl ⟨a, by simpa using q⟩
  · exact .inr ⟨a, b, c, d, by simpa using q⟩
theorem op_isNotA : OpR X (compareOp .IsNot) (rIsA true) := by
  have h := (op_notN (X := X)).or op_notBl
  intro pins s σ H x y v u Q I rx ry q
  refine h pins s σ H x y v u Q I rx ry ?_
  rcases q with ⟨a, q⟩ | ⟨a, b, c, d, q⟩
  · exact .inl ⟨a, by simpa using q⟩
  · exact .inr ⟨a, b, c, d, by simpa using q⟩
theorem RdH.non {d : D} {u : V} (h : RdH Γ G H d u) : isNonD d = decide (u = .non) := by
  cases d with
  | «at» a => cases h; cases a <;> rfl
  | nd k xs =>
    have : ∃ p, u = .ref p := by
      cases k with
      | lst => obtain ⟨p, _, rfl, _⟩ := h; exact ⟨p, rfl⟩
      | tup => obtain ⟨p, _, rfl, _⟩ := h; exact ⟨p, rfl⟩
      | scr => obtain ⟨p, _, rfl, _⟩ := h; exact ⟨p, rfl⟩
      | ktp => obtain ⟨p, _, rfl, _⟩ := h; exact ⟨p, rfl⟩
      | dK => obtain ⟨p, _, rfl, _⟩ := h; exact ⟨p, rfl⟩
      | dT => obtain ⟨p, _, rfl, _⟩ := h; exact ⟨p, rfl⟩
      | dKL => obtain ⟨p, _, _, rfl, _⟩ := h; exact ⟨p, rfl⟩
      | dTL => obtain ⟨p, _, _, rfl, _⟩ := h; exact ⟨p, rfl⟩
      | ins c ns => obtain ⟨p, _, _, _, rfl, _⟩ := h; exact ⟨p, rfl⟩
    obtain ⟨p, rfl⟩ := this
    rfl
theorem sr_is (neg : Bool) : SR2 Γ W (rIsA neg) (dop2 (isD neg)) := by
  refine sr2_dop fun Z R G σ H fs d e u w t Q T hd he hg hq => ?_
  unfold isD at hg
  split at hg
  · cases hg
    cases he
    exact .inl ⟨rfl, by rw [← hd.non]; exact hq.at T⟩
  · split at hg
    · cases hg
      cases hd; cases he
      exact .inr ⟨_, _, rfl, rfl, hq.at T⟩
    · cases hg
  · cases hg
/-! x[i] -/
def ixD (x y : D) : Option Tv :=
  match y with
  | .at (.int i) => match x with
    | .nd .lst xs => (atI xs i).map .frz
    | .nd .tup xs => (atI xs i).map .frz
    | .nd .scr xs => (atI xs i).map .frz
    | .nd .ktp xs => (atI xs i).map .frz
    | .at (.str z) => if z.length ≤ lineN then (atI z.cps.toList i).map fun c => aS ⟨#[c]⟩ else none
    | d => match lookD d y with
      | some (some v) => some (.frz v)
      | _ => none
  | k => match lookD x k with
    | some (some v) => some (.frz v)
    | _ => none
def rIxA (K : PySem.W.Frag) : R2 := fun x y H Q => rIx K x y H Q ∨ ∃ a v, x = .ref a ∧ DGet H a y (some v) ∧ Q v H
theorem ix_dct (hu : X.A.units + 1 < cLine) : IxR X (fun x y H Q => ∃ a v, x = .ref a ∧ DGet H a y (some v) ∧ Q v H) := by
  intro value slice pins s σ H x y v u Q I rx ry h hs
  obtain ⟨a, z, rfl, g, q⟩ := h
  cases rx
  exact tail_any (dict_typeIs I g) PySem.F.slot_dict_getitem.lookup (d_getItem hu I g ry fun w' s3 I3 rw' => ⟨z, H, I3, rw', q⟩) hs
theorem ix_A (hu : X.A.units + 1 < cLine) : IxR X (rIxA X.K) := ix_seq.or (ix_dct hu)
theorem atI_rep {xs : List D} {vs : List V} {i : Int} {d : D} (r : RepA Γ G xs vs) (e : atI xs i = some d) : ∃ v, atI vs i = some v ∧ Rep Γ G d v := by
  unfold atI at e ⊢
  rw [r.len] at e
  cases h : ixN vs.length i with
  | none => rw [h] at e; cases e
  | some j =>
    rw [h] at e
    obtain ⟨v, a, b⟩ := r.get' (i := j) e
    exact ⟨v, a, b⟩
theorem sr_ix : SR2 Γ W (rIxA Γ.K) (dop2 ixD) := by
  refine sr2_dop fun Z R G σ H fs d e u w t Q T hd he hg hq => ?_
  have viaD : (match lookD d e with | some (some v) => some (Tv.frz v) | _ => none) = some t → rIxA Γ.K u w H Q := by
    intro h
    cases ed : lookD d e with
    | none => rw [ed] at h; cases h
    | some o =>
      cases o with
      | none => rw [ed] at h; cases h
      | some v =>
        rw [ed] at h
        cases h
        obtain ⟨p, r, rfl, g, hr⟩ := lookD_ok T hd he ed
        rcases hr with ⟨z, _⟩ | ⟨x, v', z, rfl, rep⟩
        · cases z
        · cases z
          exact .inr ⟨p, v', rfl, g, hq.rep T rep⟩
  unfold ixD at hg
  split at hg
  · cases he
    split at hg
    · obtain ⟨x, hx, rfl⟩ := Option.map_eq_some_iff.mp hg
      obtain ⟨p, vs, rfl, h1, r⟩ := hd
      obtain ⟨v, e1, r1⟩ := atI_rep r hx
      exact .inl (.inl ⟨p, vs, _, v, rfl, rfl, SqL.of h1, e1, hq.rep T r1⟩)
    · obtain ⟨x, hx, rfl⟩ := Option.map_eq_some_iff.mp hg
      obtain ⟨p, vs, rfl, h1, r⟩ := hd
      obtain ⟨v, e1, r1⟩ := atI_rep r hx
      exact .inl (.inr (.inl ⟨p, vs, _, v, rfl, rfl, SqT.of (T.gh _ _ h1), e1, hq.rep T r1⟩))
    · obtain ⟨x, hx, rfl⟩ := Option.map_eq_some_iff.mp hg
      obtain ⟨p, vs, rfl, h1, r⟩ := hd
      obtain ⟨v, e1, r1⟩ := atI_rep r hx
      exact .inl (.inl ⟨p, vs, _, v, rfl, rfl, h1, e1, hq.rep T r1⟩)
    · obtain ⟨x, hx, rfl⟩ := Option.map_eq_some_iff.mp hg
      obtain ⟨p, vs, rfl, h1, r⟩ := hd
      obtain ⟨v, e1, r1⟩ := atI_rep r hx
      exact .inl (.inr (.inl ⟨p, vs, _, v, rfl, rfl, h1, e1, hq.rep T r1⟩))
    · split at hg
      · rename_i c
        obtain ⟨x, hx, rfl⟩ := Option.map_eq_some_iff.mp hg
        cases hd
        exact .inl (.inr (.inr ⟨_, _, x, rfl, rfl, line_le c, hx, hq.at T⟩))
      · cases hg
    · exact viaD hg
  · exact viaD hg
end
end TL

/-! The rules: what stands in the text does what a function over data does. -/
namespace TL
open PySem PySem.Spec PyProof.Rows L2

/-! ### canonical readings -/
abbrev GX (X : Cx) : Gm := ⟨X.K, X.mg⟩
def rE (Γ : Gm) (W : WX) (f : M Tv) : TE := fun σ H Q => ∃ Z R G fs, TI Γ Z R G σ H fs ∧ (f fs).Wp (PstE Γ Z R G σ Q) (PstX Γ Z R G σ W)
def rT (Γ : Gm) (W : WX) (f : M Bool) : TT := fun σ H Q => ∃ Z R G fs, TI Γ Z R G σ H fs ∧ (f fs).Wp (PstB Γ Z R G σ Q) (PstX Γ Z R G σ W)
def rA (Γ : Gm) (W : WX) (f : M (List Tv)) : TA := fun σ H Q => ∃ Z R G fs, TI Γ Z R G σ H fs ∧ (f fs).Wp (PstA Γ Z R G σ Q) (PstX Γ Z R G σ W)
def rI' (Γ : Gm) (W : WX) (f : M Itv) : L2.TI := fun σ H Q => ∃ Z R G fs, TI Γ Z R G σ H fs ∧ (f fs).Wp (PstI Γ Z R G σ Q) (PstX Γ Z R G σ W)
def rS (Γ : Gm) (W : WX) (g : S) : TS := fun D σ H => ∃ Z R G fs, TI Γ Z R G σ H fs ∧ SWp Γ Z R G W D (g fs)
structure TX (X : Cx) (W : WX) (e : Expr) (f : M Tv) : Prop where
  pe : PE X e (rE (GX X) W f)
structure TTX (X : Cx) (W : WX) (e : Expr) (f : M Bool) : Prop where
  pt : PT X e (rT (GX X) W f)
structure TWX (X : Cx) (W : WX) (e : Expr) (f : M Bool) : Prop where
  pw : PW X e (rT (GX X) W f)
structure TAX (X : Cx) (W : WX) (es : List Expr) (f : M (List Tv)) : Prop where
  pa : PA X es (rA (GX X) W f)
structure TIX (X : Cx) (W : WX) (tg e : Expr) (f : M Itv) : Prop where
  pi : PI X tg e (rI' (GX X) W f)
structure TSX (X : Cx) (W : WX) (st : Stmt) (g : S) : Prop where
  ps : PS X st (rS (GX X) W g)
structure TLX (X : Cx) (W : WX) (st : List Stmt) (g : S) : Prop where
  ps : PSs X st (rS (GX X) W g)
section
variable {X : Cx} {W : WX} {e a b c : Expr} {es : List Expr} {pos : Pos} {f fa fb fc : M Tv} {Γ : Gm}
theorem se_c : SE Γ W (rE Γ W f) f := fun Z R G σ H fs Q T h => ⟨Z, R, G, fs, T, h⟩
theorem st_c {f : M Bool} : ST Γ W (rT Γ W f) f := fun Z R G σ H fs Q T h => ⟨Z, R, G, fs, T, h⟩
theorem sa_c {f : M (List Tv)} : SA Γ W (rA Γ W f) f := fun Z R G σ H fs Q T h => ⟨Z, R, G, fs, T, h⟩
theorem si_c {f : M Itv} : SI Γ W (rI' Γ W f) f := fun Z R G σ H fs Q T h => ⟨Z, R, G, fs, T, h⟩
theorem ss_c {g : S} : SS Γ W (rS Γ W g) g := fun Z R G σ H fs D T h => ⟨Z, R, G, fs, T, h⟩
theorem TX.of {te : TE} (h : PE X e te) (s : SE (GX X) W te f) : TX X W e f := ⟨⟨fun pins st σ H Q I ⟨Z, R, G, fs, T, w⟩ => h.run pins st σ H Q I (s Z R G σ H fs Q T w)⟩⟩
theorem TTX.of {f : M Bool} {te : TT} (h : PT X e te) (s : ST (GX X) W te f) : TTX X W e f := ⟨⟨fun pins st σ H Q I ⟨Z, R, G, fs, T, w⟩ => h.run pins st σ H Q I (s Z R G σ H fs Q T w)⟩⟩
theorem TWX.of {f : M Bool} {te : TT} (h : PW X e te) (s : ST (GX X) W te f) : TWX X W e f := ⟨⟨fun wh pins st σ H Q I ⟨Z, R, G, fs, T, w⟩ => h.run wh pins st σ H Q I (s Z R G σ H fs Q T w)⟩⟩
theorem TAX.of {f : M (List Tv)} {te : TA} (h : PA X es te) (s : SA (GX X) W te f) : TAX X W es f := ⟨⟨fun pos pins st σ H Q I ⟨Z, R, G, fs, T, w⟩ => h.run pos pins st σ H Q I (s Z R G σ H fs Q T w)⟩⟩
theorem TIX.of {tg : Expr} {f : M Itv} {te : L2.TI} (h : PI X tg e te) (s : SI (GX X) W te f) : TIX X W tg e f := ⟨⟨fun pins st σ H Q I ⟨Z, R, G, fs, T, w⟩ => h.run pins st σ H Q I (s Z R G σ H fs Q T w)⟩⟩
theorem TSX.of {st : Stmt} {g : S} {te : TS} (h : PS X st te) (s : SS (GX X) W te g) : TSX X W st g := ⟨⟨fun pins sh σ H D I ⟨Z, R, G, fs, T, w⟩ => h.run pins sh σ H D I (s Z R G σ H fs D T w)⟩⟩
theorem TLX.of {st : List Stmt} {g : S} {te : TS} (h : PSs X st te) (s : SS (GX X) W te g) : TLX X W st g := ⟨⟨fun pins sh σ H D I ⟨Z, R, G, fs, T, w⟩ => h.run pins sh σ H D I (s Z R G σ H fs D T w)⟩⟩
/-- nothing is said -/
def badE {α : Type} : M α := fun _ => .bad
def badS : S := fun _ => .bad
theorem x_bad : TX X W e badE := ⟨⟨fun _ _ _ _ _ _ ⟨_, _, _, _, _, w⟩ => w.elim⟩⟩
theorem t_bad : TTX X W e badE := ⟨⟨fun _ _ _ _ _ _ ⟨_, _, _, _, _, w⟩ => w.elim⟩⟩
theorem i_bad {tg : Expr} : TIX X W tg e badE := ⟨⟨fun _ _ _ _ _ _ ⟨_, _, _, _, _, w⟩ => w.elim⟩⟩
theorem s_bad {st : Stmt} : TSX X W st badS := ⟨⟨fun _ _ _ _ _ _ ⟨_, _, _, _, _, w⟩ => w.elim⟩⟩
theorem l_bad {st : List Stmt} : TLX X W st badS := ⟨⟨fun _ _ _ _ _ _ ⟨_, _, _, _, _, w⟩ => w.elim⟩⟩

/-! ### names, constants -/
def vVar (i : Nat) : M Tv := fun fs =>
  match fs[i]? with
  | some (some (.frz, d)) => .ok (.frz d) fs
  | some (some _) => .ok (.slot i) fs
  | _ => .bad
theorem se_var {i : Nat} : SE Γ W (tVar i) (vVar i) := by
  intro Z R G σ H fs Q T h
  unfold vVar at h
  split at h
  · rename_i d e
    obtain ⟨v, hv, ok⟩ := T.sl i _ e
    exact ⟨v, hv, h G H v T Grow.refl ok⟩
  · rename_i s _ e
    obtain ⟨v, hv, ok⟩ := T.sl i _ e
    exact ⟨v, hv, h G H v T Grow.refl hv⟩
  · exact h.elim
theorem x_var (i : Nat) {x : Str} (hN : X.N[i]? = some x := by rfl) (hv : Vis X.env.scope x := by first | exact Or.inl rfl | exact Or.inr (Or.inl rfl) | exact Or.inr (Or.inr rfl)) (hd : (x == ("__debug__" : Str)) = false := by decide)
    (hcd : (x == ("__classdict__" : Str)) = false := by decide) : TX X W (.Name x pos) (vVar i) := .of (pv i hN hv hd hcd) se_var
def vAt (a : At) : M Tv := ret (.frz (.at a))
theorem se_at {a : At} : SE Γ W (tC a.v) (vAt a) := fun Z R G σ H fs Q T h => h G H a.v T Grow.refl (.at a)
theorem x_int {i : Int} {j : Nat} : TX X W (.Constant (.int i) j pos) (vAt (.int i)) := .of pe_int se_at
theorem x_bl {i : Bool} {j : Nat} : TX X W (.Constant (.bool i) j pos) (vAt (.bl i)) := .of pe_bl se_at
theorem x_non {j : Nat} : TX X W (.Constant .none j pos) (vAt .non) := .of pe_non se_at
theorem x_str {x : Str} {j : Nat} : TX X W (.Constant (.str x) j pos) (vAt (.str x)) := .of pe_str se_at
/-- what a module's name stands for, for ever -/
def Fix (Γ : Gm) (d : D) (v : V) : Prop := ∀ G, Rep Γ G d v
theorem x_con {x : Str} {d : D} {v : V} {u : Value} (hm : X.mg x = some u) (r : RelV v u) (k : Fix (GX X) d v) (hg : Gl X x := by rfl) (hd : (x == ("__debug__" : Str)) = false := by decide) : TX X W (.Name x pos) (ret (.frz d)) :=
  .of (pe_glob hg hm r hd) fun Z R G σ H fs Q T h => h G H v T Grow.refl (k G)

/-! ### operations -/
def vOp (g : D → D → Option Tv) (fa fb : M Tv) : M Tv := bnd fa fun x => bnd fb fun y => dop2 g x y
theorem x_op {op : Operator} {r : R2} {g : D → D → Option Tv} (ho : OpR X (binaryOp op) r) (hs : SR2 (GX X) W r (dop2 g)) (ha : TX X W a fa) (hb : TX X W b fb) : TX X W (.BinOp a op b pos) (vOp g fa fb) := .of (pe_op ho ha.pe hb.pe) (se_op se_c se_c hs)
theorem x_add (ha : TX X W a fa) (hb : TX X W b fb) : TX X W (.BinOp a .Add b pos) (vOp addD fa fb) := x_op op_addA sr_add ha hb
theorem x_sub (ha : TX X W a fa) (hb : TX X W b fb) : TX X W (.BinOp a .Sub b pos) (vOp subD fa fb) := x_op op_sub sr_sub ha hb
theorem x_mul (ha : TX X W a fa) (hb : TX X W b fb) : TX X W (.BinOp a .Mult b pos) (vOp mulD fa fb) := x_op op_mulA sr_mul ha hb
theorem x_fdiv (ha : TX X W a fa) (hb : TX X W b fb) : TX X W (.BinOp a .FloorDiv b pos) (vOp fdivD fa fb) := x_op op_fdivN sr_fdiv ha hb
theorem x_mod (ha : TX X W a fa) (hb : TX X W b fb) : TX X W (.BinOp a .Mod b pos) (vOp modD fa fb) := x_op op_modN sr_mod ha hb
theorem x_pow (ha : TX X W a fa) (hb : TX X W b fb) : TX X W (.BinOp a .Pow b pos) (vOp powD fa fb) := x_op op_pow sr_pow ha hb
theorem x_shl (ha : TX X W a fa) (hb : TX X W b fb) : TX X W (.BinOp a .LShift b pos) (vOp shlD fa fb) := x_op op_shl sr_shl ha hb
theorem x_shr (ha : TX X W a fa) (hb : TX X W b fb) : TX X W (.BinOp a .RShift b pos) (vOp shrD fa fb) := x_op op_shr sr_shr ha hb
theorem x_band (ha : TX X W a fa) (hb : TX X W b fb) : TX X W (.BinOp a .BitAnd b pos) (vOp (bitD Builtin.bitAnd) fa fb) := x_op op_and (sr_bit _) ha hb
theorem x_bor (ha : TX X W a fa) (hb : TX X W b fb) : TX X W (.BinOp a .BitOr b pos) (vOp (bitD Builtin.bitOr) fa fb) := x_op op_or (sr_bit _) ha hb
theorem x_bxor (ha : TX X W a fa) (hb : TX X W b fb) : TX X W (.BinOp a .BitXor b pos) (vOp (bitD Builtin.bitXor) fa fb) := x_op op_xor (sr_bit _) ha hb
def negD : D → Option Tv
  | .at (.int i) => some (aI (-i))
  | _ => none
theorem x_neg (ha : TX X W a fa) : TX X W (.UnaryOp .USub a pos) (bnd fa (dop1 negD)) := .of (pe_un un_neg ha.pe) (se_un se_c (sr1_dop fun Z R G σ H fs d u t Q T hd hg hq => by
  unfold negD at hg
  split at hg
  · cases hg
    cases hd
    exact ⟨_, rfl, hq.at T⟩
  · cases hg))

/-! ### comparisons -/
/-- what is told of the machine around: room for a comparison -/
structure Ctl (X : Cx) (W : WX) : Prop where
  calm : X.calm = true
  units : X.A.units + 100 < cLine
  tk : Takes X W
  nd : X.N.Nodup
  own : PassesOwn (model X.prog X.w) X.A X.env X.xe
theorem Ctl.pass (k : Ctl X W) (σ : L2.St) : PassesAt (L2.CX X.prog X.w) X σ (WE W σ) := passAt k.tk σ
structure CmpRd (X : Cx) (W : WX) (op : CmpOp) (g : D → D → Option Tv) : Prop where
  ex : ∃ r, OpR X (compareOp op) r ∧ SR2 (GX X) W r (dop2 g)
theorem c_eq (k : Ctl X W) : CmpRd X W .Eq eqD := ⟨_, (op_eqD (by have := k.units; omega)).or op_eq, sr_eq⟩
theorem c_ne (k : Ctl X W) : CmpRd X W .NotEq neD := ⟨_, (op_neD (by have := k.units; omega)).or op_ne, sr_ne⟩
theorem c_lt (k : Ctl X W) : CmpRd X W .Lt (cmpD fun i j => decide (i < j)) := ⟨_, op_lt, sr_cmp _⟩
theorem c_le (k : Ctl X W) : CmpRd X W .LtE (cmpD fun i j => decide (i ≤ j)) := ⟨_, op_le, sr_cmp _⟩
theorem c_gt (k : Ctl X W) : CmpRd X W .Gt (cmpD fun i j => decide (j < i)) := ⟨_, op_gt, sr_cmp _⟩
theorem c_ge (k : Ctl X W) : CmpRd X W .GtE (cmpD fun i j => decide (j ≤ i)) := ⟨_, op_ge, sr_cmp _⟩
def inT (x y : D) : Option Tv := (inB x y).map fun b => aB b
def ninT (x y : D) : Option Tv := (inB x y).map fun b => aB (!b)
theorem c_in (k : Ctl X W) : CmpRd X W .In inT := ⟨_, op_inA (by have := k.units; omega), sr_in false⟩
theorem c_nin (k : Ctl X W) : CmpRd X W .NotIn ninT := ⟨_, op_notInA (by have := k.units; omega), sr_in true⟩
theorem c_is (k : Ctl X W) : CmpRd X W .Is (isD false) := ⟨_, op_isA, sr_is false⟩
theorem c_isn (k : Ctl X W) : CmpRd X W .IsNot (isD true) := ⟨_, op_isNotA, sr_is true⟩
theorem x_cmp {op : CmpOp} {g : D → D → Option Tv} (r : CmpRd X W op g) (ha : TX X W a fa) (hb : TX X W b fb) (hm : behindInMarks op b = false := by rfl) : TX X W (.Compare a [op] [b] pos) (vOp g fa fb) := by
  obtain ⟨r, ho, hs⟩ := r
  exact .of (pe_cmpR ho ha.pe hb.pe hm) (se_op se_c se_c hs)
def boolV (x : Tv) : M Bool := fun fs =>
  match rdv x fs with
  | some (.at (.bl b)) => .ok b fs
  | _ => .bad
theorem st_test {te : TE} (h : SE Γ W te f) : ST Γ W (tTest te) (bnd f boolV) := by
  intro Z R G σ H fs Q T w
  refine h Z R G σ H fs _ T ((wp_bnd.mp w).mono (fun x fs1 h1 G1 H1 u T1 g1 v1 => ?_) fun _ _ q => q)
  unfold boolV at h1
  split at h1
  · rename_i b e
    have := T1.rd v1 e
    cases this
    exact ⟨b, rfl, h1 G1 H1 T1 g1⟩
  · exact h1.elim
theorem t_cmp {op : CmpOp} {g : D → D → Option Tv} (r : CmpRd X W op g) (ha : TX X W a fa) (hb : TX X W b fb) (hm : behindInMarks op b = false := by rfl) : TTX X W (.Compare a [op] [b] pos) (bnd (vOp g fa fb) boolV) := by
  obtain ⟨r, ho, hs⟩ := r
  exact .of (pt_cmpR ho ha.pe hb.pe hm) (st_test (se_op se_c se_c hs))
/-- a op1 b op2 c -/
def vChain (g g' : D → D → Option Tv) (fa fb fc : M Tv) : M Tv := bnd fa fun x => bnd fb fun y => if y.isOwn = true then badE else bnd (bnd (dop2 g x y) boolV) fun k => if k = true then bnd fc fun z => dop2 g' y z else ret (aB false)
theorem VOk.keep {Z : Zf} {R G G' H H' : Hp} {σ : L2.St} {fs fs' : Fs} {y : Tv} {w : V} (hn : y.isOwn = false) (g : Grow R G G') (h : VOk Γ R G σ H fs y w) : VOk Γ R G' σ H' fs' y w := by
  cases y with
  | frz d => exact Rep.mono g.1 h
  | own d => cases hn
  | slot i => exact h
theorem se_chain {r r' : R2} {g g' : D → D → Option Tv} {ta tb tc : TE} (h1 : SR2 Γ W r (dop2 g)) (h2 : SR2 Γ W r' (dop2 g')) (ha : SE Γ W ta fa) (hb : SE Γ W tb fb) (hc : SE Γ W tc fc) : SE Γ W (tChain r r' ta tb tc) (vChain g g' fa fb fc) := by
  intro Z R G σ H fs Q T h
  refine ha Z R G σ H fs _ T ((wp_bnd.mp h).mono (fun x fs1 h3 G1 H1 u T1 g1 v1 => ?_) fun _ _ q => q)
  obtain ⟨R1, s1, T1', _, back⟩ := T1.protect v1
  refine hb Z R1 G1 σ H1 fs1 _ T1' ((wp_bnd.mp h3).mono (fun y fs2 h4 G2 H2 w T2 g2 v2 => ?_) fun _ _ q => (q.grow g1).weak s1 T1.br)
  obtain ⟨T2', g2', v1', y'⟩ := back G2 H2 fs2 T2 g2
  obtain ⟨v2', ap⟩ := y' y w v2
  have gg := g1.trans g2'
  by_cases hy : y.isOwn = true
  · rw [if_pos hy] at h4
    exact h4.elim
  · rw [if_neg hy] at h4
    have hy : y.isOwn = false := by simpa using hy
    have h5 := wp_bnd.mp (wp_bnd.mp h4)
    refine h1 Z R G2 σ H2 fs2 x y u w _ T2' v1' v2' ap (h5.mono (fun t fs3 h6 G3 H3 z T3 g3 v3 => ?_) fun _ _ q => q.grow gg)
    unfold boolV at h6
    split at h6
    · rename_i k e
      have := T3.rd v3 e
      cases this
      refine ⟨k, rfl, ?_⟩
      have v2'' : VOk Γ R G3 σ H3 fs3 y w := v2'.keep (Z := Z) hy g3
      have h6 : ((if k = true then bnd fc fun z => dop2 g' y z else ret (aB false)) fs3).Wp (PstE Γ Z R G σ Q) (PstX Γ Z R G σ W) := h6
      by_cases hk : k = true
      · rw [if_pos hk] at h6 ⊢
        refine hc Z R G3 σ H3 fs3 _ T3 ((wp_bnd.mp h6).mono (fun z' fs4 h7 G4 H4 w' T4 g4 v4 => ?_) fun _ _ q => q.grow (gg.trans g3))
        exact h2 Z R G4 σ H4 fs4 y z' w w' Q T4 (v2''.keep (Z := Z) hy g4) v4 (fun a => by rw [hy] at a; cases a) (h7.mono (fun _ _ q => q.grow (gg.trans (g3.trans g4))) fun _ _ q => q.grow (gg.trans (g3.trans g4)))
      · rw [if_neg hk] at h6 ⊢
        exact h6 G3 H3 (.bl false) T3 (gg.trans g3) (.at (.bl false))
    · exact h6.elim
theorem x_chain {op op' : CmpOp} {g g' : D → D → Option Tv} (r : CmpRd X W op g) (r' : CmpRd X W op' g') (ha : TX X W a fa) (hb : TX X W b fb) (hc : TX X W c fc) (hm : lastMarks [op, op'] [b, c] = false := by with_unfolding_all rfl) : TX X W (.Compare a [op, op'] [b, c] pos) (vChain g g' fa fb fc) := by
  obtain ⟨r, ho, hs⟩ := r
  obtain ⟨r', ho', hs'⟩ := r'
  exact .of (pe_chain ho ho' ha.pe hb.pe hc.pe hm) (se_chain hs hs' se_c se_c se_c)
theorem t_chain {op op' : CmpOp} {g g' : D → D → Option Tv} (r : CmpRd X W op g) (r' : CmpRd X W op' g') (ha : TX X W a fa) (hb : TX X W b fb) (hc : TX X W c fc) (hm : lastMarks [op, op'] [b, c] = false := by with_unfolding_all rfl) : TTX X W (.Compare a [op, op'] [b, c] pos) (bnd (vChain g g' fa fb fc) boolV) := by
  obtain ⟨r, ho, hs⟩ := r
  obtain ⟨r', ho', hs'⟩ := r'
  exact .of (pt_chain ho ho' ha.pe hb.pe hc.pe hm) (st_test (se_chain hs hs' se_c se_c se_c))

/-! ### truth, and, or, not, if else -/
def truD : D → Option Bool
  | .at .non => some false
  | .at (.bl b) => some b
  | .at (.int i) => some (i != 0)
  | .at (.str x) => ifS (x.length ≤ lineN) ((x.length : Int) != 0)
  | .nd .lst xs => some (!xs.isEmpty)
  | .nd .scr xs => some (!xs.isEmpty)
  | .nd .tup xs => some (!xs.isEmpty)
  | .nd .ktp xs => some (!xs.isEmpty)
  | _ => none
theorem RepA.emp {G : Hp} {xs : List D} {vs : List V} (r : RepA Γ G xs vs) : xs.isEmpty = vs.isEmpty := by cases r <;> rfl
theorem truD_ok {Z : Zf} {R G H : Hp} {σ : L2.St} {fs : Fs} {d : D} {u : V} {k : Bool} (T : TI Γ Z R G σ H fs) (h : RdH Γ G H d u) (e : truD d = some k) : TruV Γ.K u H k := by
  unfold truD at e
  split at e
  · cases e; cases h; exact rfl
  · cases e; cases h; exact rfl
  · cases e; cases h; exact rfl
  · obtain ⟨c, rfl⟩ := ifS_some e
    cases h
    exact ⟨line_le c, rfl⟩
  · cases e
    obtain ⟨p, vs, rfl, h1, r⟩ := h
    exact .inl ⟨vs, SqL.of h1, by rw [r.emp]⟩
  · cases e
    obtain ⟨p, vs, rfl, h1, r⟩ := h
    exact .inl ⟨vs, h1, by rw [r.emp]⟩
  · cases e
    obtain ⟨p, vs, rfl, h1, r⟩ := h
    exact .inr (.inl ⟨vs, SqT.of (T.gh _ _ h1), by rw [r.emp]⟩)
  · cases e
    obtain ⟨p, vs, rfl, h1, r⟩ := h
    exact .inr (.inl ⟨vs, h1, by rw [r.emp]⟩)
  · cases e
def truV (x : Tv) : M Bool := fun fs =>
  match rdv x fs with
  | some d => match truD d with
    | some k => .ok k fs
    | none => .bad
  | none => .bad
theorem truV_out {Z : Zf} {R G H : Hp} {σ : L2.St} {fs : Fs} {x : Tv} {u : V} {P : Bool → Fs → Prop} {PX : Ex → Fs → Prop} (T : TI Γ Z R G σ H fs) (h : VOk Γ R G σ H fs x u) (w : (truV x fs).Wp P PX) : ∃ k, TruV Γ.K u H k ∧ P k fs := by
  unfold truV at w
  cases e : rdv x fs with
  | none => rw [e] at w; exact w.elim
  | some d =>
    rw [e] at w
    cases e2 : truD d with
    | none => simp only [e2] at w; exact w.elim
    | some k =>
      simp only [e2] at w
      exact ⟨k, truD_ok T (T.rd h e) e2, w⟩
theorem t_truth (ha : TX X W a fa) (he : ∀ whole, isTrue a X.env whole = (do let v ← whole; standAt a.pos; holding [v] (truthy v)) := by intro _; rfl) : TTX X W a (bnd fa truV) :=
  .of (pt_truth ha.pe he) fun Z R G σ H fs Q T h => se_c Z R G σ H fs _ T ((wp_bnd.mp h).mono (fun x fs1 h1 G1 H1 u T1 g1 v1 => let ⟨k, tk, q⟩ := truV_out T1 v1 h1; ⟨k, tk, q G1 H1 T1 g1⟩) fun _ _ q => q)
def bAnd (f g : M Bool) : M Bool := bnd f fun k => if k = true then g else ret false
def bOr (f g : M Bool) : M Bool := bnd f fun k => if k = true then ret true else g
def bNot (f : M Bool) : M Bool := bnd f fun k => ret (!k)
section
variable {p q r : M Bool} {rest : List Expr} {ta tb : TT}
theorem st_and (h1 : ST Γ W ta p) (h2 : ST Γ W tb q) : ST Γ W (tAnd ta tb) (bAnd p q) := fun Z R G σ H fs Q T h => h1 Z R G σ H fs _ T ((wp_bnd.mp h).mono (fun k fs1 w G1 H1 T1 g1 => by
  by_cases hk : k = true
  · rw [if_pos hk] at w ⊢
    exact h2 Z R G1 σ H1 fs1 Q T1 (w.mono (fun _ _ q => q.grow g1) fun _ _ q => q.grow g1)
  · rw [if_neg hk] at w ⊢
    exact w G1 H1 T1 g1) fun _ _ q => q)
theorem st_or (h1 : ST Γ W ta p) (h2 : ST Γ W tb q) : ST Γ W (tOr ta tb) (bOr p q) := fun Z R G σ H fs Q T h => h1 Z R G σ H fs _ T ((wp_bnd.mp h).mono (fun k fs1 w G1 H1 T1 g1 => by
  by_cases hk : k = true
  · rw [if_pos hk] at w ⊢
    exact w G1 H1 T1 g1
  · rw [if_neg hk] at w ⊢
    exact h2 Z R G1 σ H1 fs1 Q T1 (w.mono (fun _ _ q => q.grow g1) fun _ _ q => q.grow g1)) fun _ _ q => q)
theorem w_and1 (ha : TTX X W a p) : TWX X W (.BoolOp .And [a] pos) p := .of (pw_and1 ha.pt) st_c
theorem w_or1 (ha : TTX X W a p) : TWX X W (.BoolOp .Or [a] pos) p := .of (pw_or1 ha.pt) st_c
theorem w_and (ha : TTX X W a p) (hb : TWX X W (.BoolOp .And (b :: rest) pos) q) : TWX X W (.BoolOp .And (a :: b :: rest) pos) (bAnd p q) := .of (pw_and ha.pt hb.pw) (st_and st_c st_c)
theorem w_or (ha : TTX X W a p) (hb : TWX X W (.BoolOp .Or (b :: rest) pos) q) : TWX X W (.BoolOp .Or (a :: b :: rest) pos) (bOr p q) := .of (pw_or ha.pt hb.pw) (st_or st_c st_c)
theorem TWX.t (h : TWX X W e p) : TTX X W e p := ⟨h.pw.pt⟩
theorem t_not (ha : TTX X W a p) : TTX X W (.UnaryOp .Not a pos) (bNot p) := .of (pt_not ha.pt) fun Z R G σ H fs Q T h => st_c Z R G σ H fs _ T ((wp_bnd.mp h).mono (fun k fs1 w G1 H1 T1 g1 => w G1 H1 T1 g1) fun _ _ q => q)
/-- as values -/
def vAnd (f g : M Tv) : M Tv := bnd f fun x => bnd (truV x) fun k => if k = true then g else ret x
def vOr (f g : M Tv) : M Tv := bnd f fun x => bnd (truV x) fun k => if k = true then ret x else g
def vNot (f : M Tv) : M Tv := bnd f fun x => bnd (truV x) fun k => ret (aB (!k))
def vIf (t : M Bool) (f g : M Tv) : M Tv := bnd t fun k => if k = true then f else g
theorem x_one {op : BoolOp} (ha : TX X W a fa) : TX X W (.BoolOp op [a] pos) fa := ⟨pe_one ha.pe⟩
theorem x_and (ha : TX X W a fa) (hb : TX X W (.BoolOp .And (b :: rest) pos) fb) : TX X W (.BoolOp .And (a :: b :: rest) pos) (vAnd fa fb) :=
  .of (pe_andT ha.pe hb.pe) fun Z R G σ H fs Q T h => se_c Z R G σ H fs _ T ((wp_bnd.mp h).mono (fun x fs1 h1 G1 H1 u T1 g1 v1 => by
    obtain ⟨k, tk, w⟩ := truV_out T1 v1 (wp_bnd.mp h1)
    refine ⟨k, tk, ?_⟩
    by_cases hk : k = true
    · rw [if_pos hk] at w ⊢
      exact se_c Z R G1 σ H1 fs1 Q T1 (w.mono (fun _ _ q => q.grow g1) fun _ _ q => q.grow g1)
    · rw [if_neg hk] at w ⊢
      exact w G1 H1 u T1 g1 v1) fun _ _ q => q)
theorem x_or (ha : TX X W a fa) (hb : TX X W (.BoolOp .Or (b :: rest) pos) fb) : TX X W (.BoolOp .Or (a :: b :: rest) pos) (vOr fa fb) :=
  .of (pe_orT ha.pe hb.pe) fun Z R G σ H fs Q T h => se_c Z R G σ H fs _ T ((wp_bnd.mp h).mono (fun x fs1 h1 G1 H1 u T1 g1 v1 => by
    obtain ⟨k, tk, w⟩ := truV_out T1 v1 (wp_bnd.mp h1)
    refine ⟨k, tk, ?_⟩
    by_cases hk : k = true
    · rw [if_pos hk] at w ⊢
      exact w G1 H1 u T1 g1 v1
    · rw [if_neg hk] at w ⊢
      exact se_c Z R G1 σ H1 fs1 Q T1 (w.mono (fun _ _ q => q.grow g1) fun _ _ q => q.grow g1)) fun _ _ q => q)
theorem x_not (ha : TX X W a fa) : TX X W (.UnaryOp .Not a pos) (vNot fa) :=
  .of (pe_notT ha.pe) fun Z R G σ H fs Q T h => se_c Z R G σ H fs _ T ((wp_bnd.mp h).mono (fun x fs1 h1 G1 H1 u T1 g1 v1 => by
    obtain ⟨k, tk, w⟩ := truV_out T1 v1 (wp_bnd.mp h1)
    exact ⟨k, tk, w G1 H1 (.bl (!k)) T1 g1 (.at (.bl (!k)))⟩) fun _ _ q => q)
theorem x_if (hc : TTX X W c p) (ha : TX X W a fa) (hb : TX X W b fb) : TX X W (.IfExp c a b pos) (vIf p fa fb) :=
  .of (pe_ifExp hc.pt ha.pe hb.pe) fun Z R G σ H fs Q T h => st_c Z R G σ H fs _ T ((wp_bnd.mp h).mono (fun k fs1 w G1 H1 T1 g1 => by
    by_cases hk : k = true
    · rw [if_pos hk] at w ⊢
      exact se_c Z R G1 σ H1 fs1 Q T1 (w.mono (fun _ _ q => q.grow g1) fun _ _ q => q.grow g1)
    · rw [if_neg hk] at w ⊢
      exact se_c Z R G1 σ H1 fs1 Q T1 (w.mono (fun _ _ q => q.grow g1) fun _ _ q => q.grow g1)) fun _ _ q => q)
end

/-! ### argument lists, displays -/
def aCons (f : M Tv) (g : M (List Tv)) : M (List Tv) := bnd f fun x => bnd g fun xs => ret (x :: xs)
def aNil : M (List Tv) := ret []
theorem a_nil : TAX X W [] aNil := .of pa_nil sa_nil
theorem a_cons {g : M (List Tv)} (ha : TX X W e f) (hr : TAX X W es g) (hs : starEach (e :: es) X.env = (false, eval e X.env) :: starEach es X.env := by rfl) : TAX X W (e :: es) (aCons f g) := .of (pa_cons ha.pe hr.pa hs) (sa_cons se_c sa_c)
theorem n_nil : LenN aNil 0 := lenN_nil
theorem n_cons {g : M (List Tv)} {n : Nat} (h : LenN g n) : LenN (aCons f g) (n + 1) := lenN_cons h
theorem x_lst {g : M (List Tv)} (n : Nat) (hn : LenN g n) (h : TAX X W es g) (hl : n ≤ 1000 := by decide) : TX X W (.List es pos) (bnd g mkL) := .of (pe_lst h.pa) (se_lst n hl hn sa_c)
theorem x_tup {x1 : Nat} {g : M (List Tv)} (n : Nat) (hn : LenN g n) (h : TAX X W es g) (hl : n ≤ 1000 := by decide) : TX X W (.Tuple es x1 pos) (bnd g mkT) := .of (pe_tup h.pa) (se_tup n hl hn sa_c)

/-! ### subscripts, slices -/
theorem x_ix (k : Ctl X W) (ha : TX X W a fa) (hb : TX X W b fb) (hs : PlainIx b := by intro _ _; rfl) : TX X W (.Subscript a b pos) (vOp ixD fa fb) := .of (pe_ix (ix_A (by have := k.units; omega)) ha.pe hb.pe hs) (se_op se_c se_c sr_ix)
end
end TL

/-! The rules: slices, targets, statements, loops, comprehensions. -/
namespace TL
open PySem PySem.Spec PyProof.Rows L2
section
variable {X : Cx} {W : WX} {e a b c : Expr} {es : List Expr} {pos : Pos} {f fa fb fc : M Tv} {Γ : Gm}

/-! ### x[lo:hi] -/
def SO (Γ : Gm) (W : WX) (to : TO) (f : M (Option Int)) : Prop := ∀ (Z : Zf) (R G : Hp) (σ : L2.St) (H : Hp) (fs : Fs) (Q : Option Int → Hp → Prop), TI Γ Z R G σ H fs →
  (f fs).Wp (fun o fs' => ∀ (G' H' : Hp), TI Γ Z R G' σ H' fs' → Grow R G G' → Q o H') (PstX Γ Z R G σ W) → to σ H Q
structure TOX (X : Cx) (W : WX) (e : Option Expr) (f : M (Option Int)) : Prop where
  ex : ∃ to, PO X e to ∧ SO (GX X) W to f
def oNone : M (Option Int) := ret none
def oSome (f : M Tv) : M (Option Int) := bnd f fun x fs => match rdv x fs with
  | some (.at (.int i)) => .ok (some i) fs
  | _ => .bad
theorem o_none : TOX X W none oNone := ⟨_, po_none, fun Z R G σ H fs Q T h => h G H T Grow.refl⟩
theorem o_some (h : TX X W e f) : TOX X W (some e) (oSome f) := ⟨_, po_some h.pe, fun Z R G σ H fs Q T w => se_c Z R G σ H fs _ T ((wp_bnd.mp w).mono (fun x fs1 h1 G1 H1 u T1 g1 v1 => by
  split at h1
  · rename_i i e
    have := T1.rd v1 e
    cases this
    exact ⟨i, rfl, h1 G1 H1 T1 g1⟩
  · exact h1.elim) fun _ _ q => q)⟩
def cutD (xs : List D) (lo hi : Option Int) : List D := (xs.drop (HT.sIx xs.length 0 lo)).take (HT.sIx xs.length xs.length hi - HT.sIx xs.length 0 lo)
theorem RepA.cut {G : Hp} {xs : List D} {vs : List V} (r : RepA Γ G xs vs) (lo hi : Option Int) : RepA Γ G (cutD xs lo hi) (cutV vs lo hi) := by
  unfold cutD cutV
  rw [r.len]
  exact (r.drop _).take _
def slD (d : D) (lo hi : Option Int) : Option Tv :=
  match d with
  | .nd .lst xs => some (.own (.nd .lst (cutD xs lo hi)))
  | .nd .scr xs => some (.own (.nd .lst (cutD xs lo hi)))
  | .nd .tup xs => some (.frz (.nd .tup (cutD xs lo hi)))
  | .at (.str z) => ifS (z.length ≤ lineN) (aS (cutS z lo hi))
  | _ => none
def rSlAll (K : PySem.W.Frag) : V → Option Int → Option Int → Hp → VK → Prop := fun x lo hi H Q => rSlL K x lo hi H Q ∨ (rSlA K x lo hi H Q ∨ rSlS x lo hi H Q)
theorem sl_all : SlR X (rSlAll X.K) := sl_list.or (sl_tupA.or sl_str)
def vSl (f : M Tv) (l h : M (Option Int)) : M Tv := bnd f fun x => bnd l fun lo => bnd h fun hi => dop1 (fun d => slD d lo hi) x
theorem cutD_whole {xs : List D} {lo hi : Option Int} (h1 : HT.sIx xs.length 0 lo = 0) (h2 : HT.sIx xs.length xs.length hi = xs.length) : cutD xs lo hi = xs := by
  unfold cutD
  rw [h1, h2]
  simp
theorem x_sl {lo hi : Option Expr} {p2 : Pos} {l h : M (Option Int)} (ha : TX X W a fa) (hl : TOX X W lo l) (hh : TOX X W hi h) : TX X W (.Subscript a (.Slice lo hi none p2) pos) (vSl fa l h) := by
  obtain ⟨tl, pl, sl⟩ := hl
  obtain ⟨th, ph, sh⟩ := hh
  refine .of (pe_slice sl_all ha.pe pl ph) fun Z R G σ H fs Q T w => ?_
  refine se_c Z R G σ H fs _ T ((wp_bnd.mp w).mono (fun x fs1 h1 G1 H1 u T1 g1 v1 => ?_) fun _ _ q => q)
  obtain ⟨R1, s1, T1', _, back⟩ := T1.protect v1
  refine sl Z R1 G1 σ H1 fs1 _ T1' ((wp_bnd.mp h1).mono (fun o1 fs2 h2 G2 H2 T2 g2 => ?_) fun _ _ q => (q.grow g1).weak s1 T1.br)
  refine sh Z R1 G2 σ H2 fs2 _ T2 ((wp_bnd.mp h2).mono (fun o2 fs3 h3 G3 H3 T3 g3 => ?_) fun _ _ q => ((q.grow g1).weak s1 T1.br).grow g2)
  obtain ⟨T3', g3', v1', _⟩ := back G3 H3 fs3 T3 (g2.trans g3)
  unfold dop1 at h3
  cases e1 : rdv x fs3 with
  | none => rw [e1] at h3; exact h3.elim
  | some d =>
    rw [e1] at h3
    cases e2 : slD d o1 o2 with
    | none => simp only [e2] at h3; exact h3.elim
    | some t =>
      simp only [e2] at h3
      have hd := T3'.rd v1' e1
      have hq : PstE (GX X) Z R G3 σ Q t fs3 := PstE.grow (g1.trans g3') h3
      unfold slD at e2
      split at e2
      · cases e2
        obtain ⟨p, vs, rfl, h4, r⟩ := hd
        exact .inl ⟨p, vs, rfl, SqL.of h4, fun q hq' => hq.new T3' (r.cut o1 o2) hq'⟩
      · cases e2
        obtain ⟨p, vs, rfl, h4, r⟩ := hd
        exact .inl ⟨p, vs, rfl, h4, fun q hq' => hq.new T3' (r.cut o1 o2) hq'⟩
      · cases e2
        obtain ⟨p, vs, rfl, h4, r⟩ := hd
        refine .inr (.inl ⟨p, vs, rfl, SqT.of (T3'.gh _ _ h4), fun ⟨c1, c2⟩ => ?_, fun _ q hq' => hq.newT T3' (r.cut o1 o2) hq'⟩)
        rw [← r.len] at c1 c2
        rw [cutD_whole c1 c2] at hq
        exact hq.rep T3' (.tup h4 r)
      · obtain ⟨c, rfl⟩ := ifS_some e2
        cases hd
        exact .inr (.inr ⟨_, rfl, line_le c, hq.at T3'⟩)
      · cases e2
/-- x[::-1], a list -/
def revD : D → Option Tv
  | .nd .lst xs => some (.own (.nd .lst xs.reverse))
  | .nd .scr xs => some (.own (.nd .lst xs.reverse))
  | _ => none
theorem x_rev {k : Nat} {p1 p2 p3 : Pos} (ha : TX X W a fa) : TX X W (.Subscript a (.Slice none none (some (.UnaryOp .USub (.Constant (.int 1) k p1) p2)) p3) pos) (bnd fa (dop1 revD)) := by
  refine .of (pe_revL ha.pe) fun Z R G σ H fs Q T w => ?_
  refine se_c Z R G σ H fs _ T ((wp_bnd.mp w).mono (fun x fs1 h1 G1 H1 u T1 g1 v1 => ?_) fun _ _ q => q)
  unfold dop1 at h1
  cases e1 : rdv x fs1 with
  | none => rw [e1] at h1; exact h1.elim
  | some d =>
    rw [e1] at h1
    have hd := T1.rd v1 e1
    cases e2 : revD d with
    | none => simp only [e2] at h1; exact h1.elim
    | some t =>
      simp only [e2] at h1
      have hq : PstE (GX X) Z R G1 σ Q t fs1 := PstE.grow g1 h1
      unfold revD at e2
      split at e2
      · cases e2
        obtain ⟨p, vs, rfl, h4, r⟩ := hd
        exact ⟨p, vs, rfl, SqL.of h4, fun q hq' => hq.new T1 r.rev hq'⟩
      · cases e2
        obtain ⟨p, vs, rfl, h4, r⟩ := hd
        exact ⟨p, vs, rfl, h4, fun q hq' => hq.new T1 r.rev hq'⟩
      · cases e2

/-! ### targets -/
def rG (Γ : Gm) (p : Pat) : TG := fun u σ H Q => ∃ Z R G fs fs' d, TI Γ Z R G σ H fs ∧ Rep Γ G d u ∧ asg p d fs = some fs' ∧ ∀ σ', TI Γ Z R G σ' H fs' → Off p.sl σ σ' → Q σ' H
theorem sg_c {p : Pat} : SG Γ (rG Γ p) p := fun Z R G σ H fs fs' d u Q T r e q => ⟨Z, R, G, fs, fs', d, T, r, e, q⟩
structure TGX (X : Cx) (e : Expr) (p : Pat) : Prop where
  pg : PG X e (rG (GX X) p)
theorem TGX.of {p : Pat} {g : TG} (h : PG X e g) (s : SG (GX X) g p) : TGX X e p := ⟨⟨fun pins st σ H v u Q I r ⟨Z, R, G, fs, fs', d, T, rep, ea, q⟩ => h.run pins st σ H v u Q I r (s Z R G σ H fs fs' d v Q T rep ea q)⟩⟩
structure TGsX (X : Cx) (es : List Expr) (ps : List Pat) : Prop where
  ex : ∃ g, PGs X es g ∧ SGs (GX X) g ps
theorem g_name (i : Nat) {x : Str} (hN : X.N.Nodup) (hi : X.N[i]? = some x := by rfl) (hx : Loc X.env.scope x := by first | exact Or.inl rfl | exact Or.inr rfl) (hf : X.fn x = true ∨ X.env.scope.names.lookup x = some .local := by first | exact .inl rfl | exact .inr rfl | assumption) : TGX X (.Name x pos) (.nm i) := .of (pg_name hN hi hx hf) sg_name
theorem gs_nil : TGsX X [] [] := ⟨_, pgs_nil, sgs_nil⟩
theorem gs_cons {p : Pat} {ps : List Pat} (h : TGX X e p) (hs : TGsX X es ps) (h1 : (assignEach (e :: es) X.env).map (·.2) = assign e X.env :: (assignEach es X.env).map (·.2) := by rfl) : TGsX X (e :: es) (p :: ps) := by
  obtain ⟨g, pg, sg⟩ := hs
  exact ⟨_, pgs_cons h.pg pg h1, sgs_cons sg_c sg⟩
theorem g_tup {n : Nat} {ps : List Pat} {k : Nat} (hc : X.calm = true) (hs : TGsX X es ps) (hn : ps.length = n := by rfl) (hl : (assignEach es X.env).length = n := by rfl) (hst : (assignEach es X.env).findIdx? (·.1) = none := by rfl) : TGX X (.Tuple es k pos) (.tp ps) := by
  obtain ⟨g, pg, sg⟩ := hs
  exact .of (pg_tup hc pg hl hst) (sg_tup hn sg)

/-! ### statements -/
section
variable {st : Stmt} {sts : List Stmt} {g g1 g2 : S} {p : M Bool}
def sNext : S := .nx
theorem l_nil : TLX X W [] sNext := .of pss_nil ss_next
theorem l_cons (h1 : TSX X W st g1) (h2 : TLX X W sts g2) : TLX X W (st :: sts) (sseq g1 g2) := .of (pss_cons h1.ps h2.ps) (ss_seq ss_c ss_c)
theorem l_one (h1 : TSX X W st g1) : TLX X W [st] g1 := .of (pss_one h1.ps) ss_c
theorem s_pass : TSX X W (.Pass pos) sNext := .of ps_pass ss_next
def sBrk : S := .bk
def sCont : S := .ct
theorem s_brk : TSX X W (.Break pos) sBrk := .of ps_break ss_brk
theorem s_cont : TSX X W (.Continue pos) sCont := .of ps_continue ss_cont
theorem s_expr (h : TX X W e f) (hs : swapsWith e none pos.line X.env = pure false := by rfl) : TSX X W (.Expr e pos) (sdrop f) := .of (ps_expr h.pe hs) (ss_drop se_c)
theorem s_ret (h : TX X W e f) : TSX X W (.Return (some e) pos) (sret f) := .of (ps_ret h.pe) (ss_ret se_c)
def sRetN : S := .rt (.frz (.at .non))
theorem s_retN : TSX X W (.Return none pos) sRetN := .of ps_retN ss_retN
theorem s_if {ea eb : List Stmt} (hc : TTX X W c p) (h1 : TLX X W ea g1) (h2 : TLX X W eb g2) : TSX X W (.If c ea eb pos) (sif p g1 g2) := .of (ps_if hc.pt h1.ps h2.ps) (ss_if st_c ss_c ss_c)
theorem s_set (i : Nat) {x : Str} {pos' : Pos} (k : Ctl X W) (he : TX X W e f) (hi : X.N[i]? = some x := by rfl) (hx : Loc X.env.scope x := by first | exact Or.inl rfl | exact Or.inr rfl) (hs : swapsWith e (some (.Name x pos')) pos.line X.env = pure false := by rfl) (hf : X.fn x = true ∨ X.env.scope.names.lookup x = some .local := by first | exact .inl rfl | exact .inr rfl | assumption) :
    TSX X W (.Assign [.Name x pos'] e pos) (sset i f) := .of (ps_set k.nd hi hx he.pe hs hf) (ss_set se_c)
theorem s_asg {tg : Expr} {q : Pat} (he : TX X W e f) (hg : TGX X tg q) (hs : swapsWithSole [tg] e pos.line X.env = pure false := by rfl) (hw : swappedStores [tg] e X.env = pure none := by rfl) (h1 : (assignEach [tg] X.env).map (·.2) = [assign tg X.env] := by rfl) : TSX X W (.Assign [tg] e pos) (sasg q f) :=
  .of (ps_asg he.pe hg.pg hs hw h1) (ss_asg se_c sg_c)
theorem s_par (i j : Nat) {x y : Str} {a b : Expr} {fl : M (List Tv)} {px py pt : Pos} {kt k2 pt2} (k : Ctl X W) (ha : TAX X W [a, b] fl) (hi : X.N[i]? = some x := by rfl) (hj : X.N[j]? = some y := by rfl) (hij : i ≠ j := by decide)
    (hx : X.env.scope.names.lookup x = some .local := by rfl) (hy : X.env.scope.names.lookup y = some .local := by rfl)
    (hw : swappedStores [.Tuple [.Name x px, .Name y py] kt pt] (.Tuple [a, b] k2 pt2) X.env = pure (some [x, y]) := by rfl)
    (hs : swapsWithSole [.Tuple [.Name x px, .Name y py] kt pt] (.Tuple [a, b] k2 pt2) pos.line X.env = pure false := by rfl) :
    TSX X W (.Assign [.Tuple [.Name x px, .Name y py] kt pt] (.Tuple [a, b] k2 pt2) pos) (spar i j fl) := .of (ps_par k.calm k.nd hi hj hij hx hy ha.pa hw hs) (ss_par sa_c)
theorem s_while (n : Nat) (k : Ctl X W) (hc : TTX X W c p) (hb : TLX X W sts g) : TSX X W (.While c sts [] pos) (swhile p g n) := .of (ps_while k.own hc.pt hb.ps) (ss_while n st_c ss_c)
theorem s_for {tg iter : Expr} {q : Pat} {fi : M Itv} (k : Ctl X W) (hi : TIX X W tg iter fi) (hg : TGX X tg q) (hb : TLX X W sts g) (hs : ∀ x, foldedSetIterable iter X.env x = pure x := by intro _; rfl) : TSX X W (.For tg iter sts [] pos) (sfor fi q g) :=
  .of (ps_for k.own k.calm hi.pi hg.pg hb.ps hs) (ss_for si_c sg_c ss_c)
/-- i += e, ints -/
def saug (i : Nat) (h : D → D → Option Tv) (f : M Tv) : S := fun fs => match fs[i]? with
  | some (some (.frz, d)) => sset i (bnd f fun y => dop2 h (.frz d) y) fs
  | _ => .bad
end

/-! ### comprehensions -/
structure TTsX (X : Cx) (W : WX) (ifs : List Expr) (f : M Bool) : Prop where
  pts : PTs X ifs (rT (GX X) W f)
def yes : M Bool := ret true
theorem ts_nil : TTsX X W [] yes := ⟨⟨fun pins st σ H Q I ⟨Z, R, G, fs, T, w⟩ => pts_nil.run pins st σ H Q I (w G H T Grow.refl)⟩⟩
theorem ts_one {p : M Bool} (h : TTX X W c p) : TTsX X W [c] p := ⟨pts_one h.pt⟩
theorem Ctl.blk (k : Ctl X W) {s : Shared} {H : Hp} {scope : Scope} {cenv : Env} {fp : List Addr} : Ctl (X.blk s H scope cenv fp) W0 := ⟨k.calm, k.units, takes0, k.nd, PassesOwn.never⟩
theorem x_lc {elt tg iter : Expr} {ifs : List Expr} {scope : Scope} {own : List (Str × Nat)} {fi : M Itv} {p : Pat} {c : M Bool} (k : Ctl X W) (hi : TIX X W tg iter fi) (ok : blkC X.N X.env.scope scope own = true) (hp : ∀ i ∈ p.sl, i ∈ own.map (·.2))
    (hg : ∀ (s : Shared) (H : Hp) (C : Addr) (cl : List (Str × Addr)) (fp : List Addr), TGX (X.blk s H scope (compEnvC scope cl C X.env) fp) tg p)
    (ht : ∀ (s : Shared) (H : Hp) (C : Addr) (cl : List (Str × Addr)) (fp : List Addr), TTsX (X.blk s H scope (compEnvC scope cl C X.env) fp) W0 ifs c)
    (he : ∀ (s : Shared) (H : Hp) (C : Addr) (cl : List (Str × Addr)) (fp : List Addr), TX (X.blk s H scope (compEnvC scope cl C X.env) fp) W0 elt f) (hs : ∀ x, foldedSetIterable iter X.env x = pure x := by intro _; rfl) :
    TX X W (.ListComp elt [⟨tg, iter, ifs, 0⟩] scope pos) (lcomp fi p c (bnd f frzV) (own.map (·.2))) :=
  .of (pe_lc k.calm k.nd hi.pi (blkOk_by ok) (fun s H C cl fp => (hg s H C cl fp).pg) (fun s H C cl fp => (ht s H C cl fp).pts) (fun s H C cl fp => (he s H C cl fp).pe) hs) (se_lc hp si_c sg_c st_c (eld_of se_c))
theorem s_setLc (i : Nat) {y : Str} {py : Pos} {spos : Pos} {elt tg iter : Expr} {ifs : List Expr} {scope : Scope} {own : List (Str × Nat)} {fi : M Itv} {p : Pat} {c : M Bool} (k : Ctl X W) (hi : TIX X W tg iter fi) (ok : blkC X.N X.env.scope scope own = true) (hp : ∀ i ∈ p.sl, i ∈ own.map (·.2))
    (hg : ∀ (s : Shared) (H : Hp) (C : Addr) (cl : List (Str × Addr)) (fp : List Addr), TGX (X.blk s H scope (compEnvC scope cl C X.env) fp) tg p)
    (ht : ∀ (s : Shared) (H : Hp) (C : Addr) (cl : List (Str × Addr)) (fp : List Addr), TTsX (X.blk s H scope (compEnvC scope cl C X.env) fp) W0 ifs c)
    (he : ∀ (s : Shared) (H : Hp) (C : Addr) (cl : List (Str × Addr)) (fp : List Addr), TX (X.blk s H scope (compEnvC scope cl C X.env) fp) W0 elt f) (hy : X.N[i]? = some y := by rfl) (hyl : X.env.scope.names.lookup y = some .local := by rfl) (hl : (py.line == pos.line) = true := by rfl)
    (hk : X.env.scope.kind = .function := by rfl) (hn : (scope.names.any fun (n, k) => n == y && (k == .local || k == .cell)) = false := by rfl) (hs : ∀ x, foldedSetIterable iter X.env x = pure x := by intro _; rfl) :
    TSX X W (.Assign [.Name y py] (.ListComp elt [⟨tg, iter, ifs, 0⟩] scope pos) spos) (sset i (lcomp fi p c (bnd f frzV) (own.map (·.2)))) :=
  .of (ps_setLc k.calm k.nd hy hyl (sw_true hk hyl hl hn) hi.pi (blkOk_by ok) (fun s H C cl fp => (hg s H C cl fp).pg) (fun s H C cl fp => (ht s H C cl fp).pts) (fun s H C cl fp => (he s H C cl fp).pe) hs) (ss_set (se_lc hp si_c sg_c st_c (eld_of se_c)))
end
end TL

/-! What a loop walks. -/
namespace TL
open PySem PySem.Spec PyProof.Rows L2
section
variable {X : Cx} {W : WX} {e a b c tg : Expr} {es : List Expr} {pos p : Pos} {f fa fb fc : M Tv} {Γ : Gm} {Z : Zf} {R G H : Hp} {σ : L2.St} {fs fs' : Fs}
/-- the source of a walk: a list (tracked or written) that stays while the loop runs -/
def srcL (x : Tv) : M (List D × Option Nat) := fun fs =>
  match x with
  | .frz (.nd .lst xs) => .ok (xs, none) fs
  | .frz (.nd .scr xs) => .ok (xs, none) fs
  | .own (.nd .lst xs) => .ok (xs, none) fs
  | .slot i => match fs[i]? with
    | some (some (.own, .nd .lst xs)) => .ok (xs, some i) fs
    | some (some (.frz, .nd .lst xs)) => .ok (xs, none) fs
    | some (some (.frz, .nd .scr xs)) => .ok (xs, none) fs
    | some (some (.bor, .nd .lst xs)) => .ok (xs, none) fs
    | _ => .bad
  | _ => .bad
/-- all but the walk of a walk's promise -/
structure JPre (Γ : Gm) (Z : Zf) (R G : Hp) (σ : L2.St) (H : Hp) (fs : Fs) (lk : Option Nat) (Z1 : Zf) (R1 : Hp) : Prop where
  ti : TI Γ Z1 R1 G σ H (lkf lk fs)
  sub : Sub R R1
  pins : ∀ (q : Nat) (n : Md) (v : V), Z.io q n v → Z1.io q n v
  back : ∀ (σ' : L2.St) (G2 H2 : Hp) (fs2 : Fs), TI Γ Z1 R1 G2 σ' H2 fs2 → Grow R1 G G2 → TI Γ Z R G2 σ' H2 (unl lk fs2) ∧ ∀ (x : Tv) (u : V), VOk Γ R1 G2 σ' H2 fs2 x u → VOk Γ R G2 σ' H2 (unl lk fs2) x u
theorem JPre.no (T : TI Γ Z R G σ H fs) : JPre Γ Z R G σ H fs none Z R := ⟨T, Sub.refl, fun _ _ _ h => h, fun σ' G2 H2 fs2 T2 _ => ⟨T2, fun _ _ h => h⟩⟩
theorem JPre.jok {lk : Option Nat} {Z1 : Zf} {R1 : Hp} (j : JPre Γ Z R G σ H fs lk Z1 R1) {items : List D} {J : It} (w : Walk J items.length (fun H => Sub R1 H ∧ Sub G H) (Gives Γ G items)) : JOk Γ Z R G σ H fs ⟨items, lk⟩ J Z1 R1 :=
  ⟨j.ti, j.sub, j.pins, j.back, w⟩
/-- the list stays -/
structure Stay (Γ : Gm) (R1 G : Hp) (xs : List D) (u : V) : Prop where
  ex : ∃ a vs, u = .ref a ∧ (∀ H', Sub R1 H' → Sub G H' → SqL Γ.K H' a vs) ∧ RepA Γ G xs vs
theorem srcL_ok (T : TI Γ Z R G σ H fs) {x : Tv} {u : V} (h : VOk Γ R G σ H fs x u) {xs : List D} {lk : Option Nat} (e : srcL x fs = .ok (xs, lk) fs') :
    fs' = fs ∧ ∃ G' Z1 R1, TI Γ Z R G' σ H fs ∧ Grow R G G' ∧ JPre Γ Z R G' σ H fs lk Z1 R1 ∧ Stay Γ R1 G' xs u := by
  have frz : ∀ {k : Kd}, k = .lst ∨ k = .scr → Rep Γ G (.nd k xs) u → ∃ G' Z1 R1, TI Γ Z R G' σ H fs ∧ Grow R G G' ∧ JPre Γ Z R G' σ H fs none Z1 R1 ∧ Stay Γ R1 G' xs u := by
    intro k hk r
    refine ⟨G, Z, R, T, Grow.refl, JPre.no T, ⟨?_⟩⟩
    rcases hk with rfl | rfl
    · cases r with
      | lst hh r => exact ⟨_, _, rfl, fun H' _ s => SqL.of (s _ _ hh), r⟩
    · cases r with
      | scr hh r => exact ⟨_, _, rfl, fun H' _ s => s.sql hh, r⟩
  unfold srcL at e
  split at e
  · cases e
    exact ⟨rfl, frz (.inl rfl) h⟩
  · cases e
    exact ⟨rfl, frz (.inr rfl) h⟩
  · cases e
    obtain ⟨q, o, rfl, ho, gq, T', g, r⟩ := T.frzTemp h
    refine ⟨rfl, _, Z, R, T', g, JPre.no T', ⟨?_⟩⟩
    cases r with
    | lst h r => exact ⟨_, _, rfl, fun H' _ s => SqL.of (s _ _ h), r⟩
  · rename_i i
    have hu : σ[i]? = some (some u) := h
    split at e
    · rename_i ys ei
      cases e
      obtain ⟨q, o, Z1, R1, hv, ho, ow, T1, s1, pn, back⟩ := T.lock ei
      rw [hu] at hv
      cases hv
      refine ⟨rfl, G, Z1, R1, T, Grow.refl, ⟨T1, s1, pn, back⟩, ⟨?_⟩⟩
      obtain ⟨_, o', ho', vs, rfl, r⟩ := ow
      exact ⟨q, vs, rfl, fun H' s _ => SqL.of (s _ _ ho'), r⟩
    · rename_i ys ei
      cases e
      obtain ⟨v, hv, ok⟩ := T.sl i _ ei
      rw [hu] at hv
      cases hv
      exact ⟨rfl, frz (.inl rfl) ok⟩
    · rename_i ys ei
      cases e
      obtain ⟨v, hv, ok⟩ := T.sl i _ ei
      rw [hu] at hv
      cases hv
      exact ⟨rfl, frz (.inr rfl) ok⟩
    · rename_i ys ei
      cases e
      obtain ⟨v, hv, q, rfl, ow⟩ := T.sl i _ ei
      rw [hu] at hv
      cases hv
      obtain ⟨_, o', ho', vs, rfl, r⟩ := ow
      exact ⟨rfl, G, Z, R, T, Grow.refl, JPre.no T, ⟨q, vs, rfl, fun H' s _ => SqL.of (s _ _ (T.br _ _ ho')), r⟩⟩
    · cases e
  · cases e
theorem srcL_out (x : Tv) (fs : Fs) : (∃ xs lk, srcL x fs = .ok (xs, lk) fs) ∨ srcL x fs = .bad := by
  unfold srcL
  split
  · exact .inl ⟨_, _, rfl⟩
  · exact .inl ⟨_, _, rfl⟩
  · exact .inl ⟨_, _, rfl⟩
  · split <;> first | exact .inl ⟨_, _, rfl⟩ | exact .inr rfl
  · exact .inr rfl
/-- how a plain row of frozen things is given -/
theorem gives_at {items : List D} {vs : List V} (r : RepA Γ G items vs) {i : Nat} {H' : Hp} {x : V} (h : YAt vs i H x H') : Gives Γ G items i H x H' := by
  obtain ⟨d, h1, h2⟩ := r.get h.2
  exact ⟨d, h1, .inl ⟨h.1, h2⟩⟩
/-- a row, whole: tuples, texts -/
def srcT : D → Option (List D)
  | .nd .tup xs => some xs
  | .nd .ktp xs => some xs
  | .at (.str z) => some (z.cps.toList.map fun c => .at (.str ⟨#[c]⟩))
  | _ => none
def vSeq (f : M Tv) : M Itv := bnd f fun x => match x with
  | .frz (.nd .tup xs) => ret ⟨xs, none⟩
  | .frz (.nd .ktp xs) => ret ⟨xs, none⟩
  | .frz (.at (.str z)) => ret ⟨z.cps.toList.map fun c => .at (.str ⟨#[c]⟩), none⟩
  | x => bnd (srcL x) fun q => ret ⟨q.1, q.2⟩
theorem i_seq (he : TX X W e f) : TIX X W tg e (vSeq f) := by
  refine ⟨⟨fun pins st σ H Q I ⟨Z, R, G, fs, T, w⟩ => ?_⟩⟩
  cases ef : f fs with
  | bad => unfold vSeq bnd at w; rw [ef] at w; exact w.elim
  | ex x fs1 =>
    unfold vSeq bnd at w
    rw [ef] at w
    exact (pi_list he.pe).run pins st σ H Q I (se_c Z R G σ H fs _ T (by rw [ef]; exact w))
  | ok x fs1 =>
    unfold vSeq bnd at w
    rw [ef] at w
    have viaL : (bnd (srcL x) (fun q => ret (Itv.mk q.1 q.2)) fs1).Wp (PstI (GX X) Z R G σ Q) (PstX (GX X) Z R G σ W) → wpAny (model X.prog X.w) X.A (eval e X.env) (fun v s1 => wpAny (model X.prog X.w) X.A (pyIter v) (fun itv s2 => PIE X pins σ tg Q itv s2) X.xe s1) X.xe st := fun w => by
      refine (pi_list he.pe).run pins st σ H Q I (se_c Z R G σ H fs _ T ?_)
      rw [ef]
      intro G1 H1 u T1 g1 v1
      unfold bnd at w
      rcases srcL_out x fs1 with ⟨xs, lk, e1⟩ | e1
      · rw [e1] at w
        obtain ⟨_, G2, Z1, R1, T2, g2, j, ⟨a, vs, rfl, sq, r⟩⟩ := srcL_ok T1 v1 e1
        refine ⟨a, rfl, ⟨vs, sq _ (j.ti.rh) j.ti.gh⟩, w G2 H1 _ Z1 R1 T2 (g1.trans g2) (j.jok (J := Itl X.K a) ?_)⟩
        have hl := r.len
        show Walk (Itl X.K a) xs.length _ _
        rw [hl]
        exact walk_list.mono (fun H' s => sq H' s.1 s.2) fun i H x H' _ _ y => gives_at r y
      · rw [e1] at w
        exact w.elim
    have viaT : ∀ {k : Kd} {xs : List D}, k = .tup ∨ k = .ktp → x = .frz (.nd k xs) → PstI (GX X) Z R G σ Q ⟨xs, none⟩ fs1 → wpAny (model X.prog X.w) X.A (eval e X.env) (fun v s1 => wpAny (model X.prog X.w) X.A (pyIter v) (fun itv s2 => PIE X pins σ tg Q itv s2) X.xe s1) X.xe st := fun {k xs} hk ex w => by
      refine (pi_tup he.pe).run pins st σ H Q I (se_c Z R G σ H fs _ T ?_)
      rw [ef, ex]
      intro G1 H1 u T1 g1 v1
      have v1 : Rep (GX X) G1 (.nd k xs) u := v1
      have fin : ∀ {a : Addr} {vs : List V}, (∀ H', Sub G1 H' → SqT X.K H' a vs) → RepA (GX X) G1 xs vs → u = .ref a → ∃ a, u = .ref a ∧ (∃ xs, SqT X.K H1 a xs) ∧ Q (Itt X.K a) H1 := fun {a vs} sq r eu => by
        refine ⟨a, eu, ⟨vs, sq _ T1.gh⟩, w G1 H1 _ Z R T1 g1 ((JPre.no T1).jok (J := Itt X.K a) ?_)⟩
        have hl := r.len
        show Walk (Itt X.K a) xs.length _ _
        rw [hl]
        exact walk_tup.mono (fun H' s => sq H' s.2) fun i H x H' _ _ y => gives_at r y
      rcases hk with rfl | rfl
      · cases v1 with
        | tup h r => exact fin (fun H' s => SqT.of (s _ _ h)) r rfl
      · cases v1 with
        | ktp h r => exact fin (fun H' s => s.sqt h) r rfl
    dsimp only at w
    split at w
    · exact viaT (.inl rfl) rfl w
    · exact viaT (.inr rfl) rfl w
    · rename_i z
      refine (pi_str he.pe).run pins st σ H Q I (se_c Z R G σ H fs _ T ?_)
      rw [ef]
      intro G1 H1 u T1 g1 v1
      cases v1
      refine ⟨z, rfl, w G1 H1 _ Z R T1 g1 ((JPre.no T1).jok (J := Its z) ?_)⟩
      show Walk (Its z) (z.cps.toList.map _).length _ _
      rw [List.length_map, Array.length_toList]
      refine walk_str.mono (fun _ _ => True.intro) fun i H x H' _ _ ⟨e1, c, hc, ev⟩ => ?_
      refine ⟨.at (.str ⟨#[c]⟩), ?_, .inl ⟨e1, ?_⟩⟩
      · rw [List.getElem?_map, Array.getElem?_toList, hc]
        rfl
      · rw [ev]
        exact .at (.str ⟨#[c]⟩)
    · exact viaL w

/-! ### range -/
def rngD (lo c : Int) (n : Nat) : List D := (List.range n).map fun i => .at (.int (lo + (i : Nat) * c))
theorem rngD_len {lo c : Int} {n : Nat} : (rngD lo c n).length = n := by unfold rngD; rw [List.length_map, List.length_range]
theorem rngD_get {lo c : Int} {n i : Nat} (h : i < n) : (rngD lo c n)[i]? = some (.at (.int (lo + (i : Nat) * c))) := by
  unfold rngD
  rw [List.getElem?_map, List.getElem?_range h]
  rfl
def intOf (d : D) : Option Int := match d with
  | .at (.int i) => some i
  | _ => none
def vR (k : List Int → Option (Int × Int × Nat)) (fl : M (List Tv)) : M Itv := bnd fl fun xs fs => match xs.mapM (fun x => (rdv x fs).bind intOf) with
  | some is => match k is with
    | some (lo, c, n) => .ok ⟨rngD lo c n, none⟩ fs
    | none => .bad
  | none => .bad
def k1 : List Int → Option (Int × Int × Nat)
  | [j] => if -(2 ^ 62) ≤ j ∧ j < 2 ^ 62 then some (0, 1, j.toNat) else none
  | _ => none
def k2 : List Int → Option (Int × Int × Nat)
  | [i, j] => if -(2 ^ 62) ≤ i ∧ i < 2 ^ 62 ∧ -(2 ^ 62) ≤ j ∧ j < 2 ^ 62 then some (i, 1, (j - i).toNat) else none
  | _ => none
def k3 : List Int → Option (Int × Int × Nat)
  | [i, j, c] => if c ≠ 0 ∧ c.natAbs < 1073741824 ∧ Builtin.Range.small i j c = true ∧ Builtin.Range.rangeSize i j c = ((Builtin.Range.rangeSize i j c).toNat : Int) then some (i, c, (Builtin.Range.rangeSize i j c).toNat) else none
  | _ => none
theorem ints_v (T : TI Γ Z R G σ H fs) : ∀ {xs : List Tv} {us : List V} {is : List Int}, VsOk Γ R G σ H fs xs us → xs.mapM (fun x => (rdv x fs).bind intOf) = some is → us = is.map V.int
  | [], [], is, _, e => by
    cases e
    rfl
  | x :: xs, u :: us, is, h, e => by
    rw [List.mapM_cons] at e
    cases e1 : rdv x fs with
    | none => rw [e1] at e; cases e
    | some d =>
      rw [e1] at e
      cases d with
      | nd k l => cases e
      | «at» a =>
        cases a with
        | int i =>
          cases e2 : xs.mapM (fun x => (rdv x fs).bind intOf) with
          | none => simp only [e2] at e; cases e
          | some js =>
            simp only [e2] at e
            cases e
            have h1 := T.rd h.1 e1
            cases h1
            rw [ints_v T h.2.2 e2]
            rfl
        | _ => cases e
  | [], _ :: _, _, h, _ => h.elim
  | _ :: _, [], _, h, _ => h.elim
theorem gives_rng {lo c : Int} {n : Nat} {i : Nat} {H' : Hp} {x : V} (h : i < n) (y : YFn (fun i => .int (lo + (i : Nat) * c)) i H x H') : Gives Γ G (rngD lo c n) i H x H' :=
  ⟨_, rngD_get h, .inl ⟨y.1, by rw [y.2]; exact .at (.int _)⟩⟩
theorem si_rng {k : List Int → Option (Int × Int × Nat)} {ta : TA} {fl : M (List Tv)} (ha : SA Γ W ta fl) {wi : L2.TI} (hw : ∀ (σ : L2.St) (H : Hp) (Q : It → Hp → Prop), (ta σ H fun vs H1 => ∃ is lo c n, vs = is.map V.int ∧ k is = some (lo, c, n) ∧ ∀ J, Walk J n (fun _ => True) (YFn fun i => .int (lo + (i : Nat) * c)) → Q J H1) → wi σ H Q) : SI Γ W wi (vR k fl) := by
  intro Z R G σ H fs Q T w
  refine hw σ H Q (ha Z R G σ H fs _ T ((wp_bnd.mp w).mono (fun xs fs1 h1 G1 H1 us T1 g1 v1 => ?_) fun _ _ q => q))
  cases e1 : xs.mapM (fun x => (rdv x fs1).bind intOf) with
  | none => simp only [e1] at h1; exact h1.elim
  | some is =>
    simp only [e1] at h1
    cases e2 : k is with
    | none => simp only [e2] at h1; exact h1.elim
    | some q =>
      obtain ⟨lo, c, n⟩ := q
      simp only [e2] at h1
      refine ⟨is, lo, c, n, ints_v T1 v1 e1, e2, fun J wj => h1 G1 H1 J Z R T1 g1 ((JPre.no T1).jok ?_)⟩
      show Walk J (rngD lo c n).length _ _
      rw [rngD_len]
      exact wj.mono (fun _ _ => True.intro) fun i H x H' hi _ y => gives_rng hi y
theorem walk_r1 {lo : Int} {n : Nat} : Walk (Itr lo n) n (fun _ => True) (YFn fun i => .int (lo + (i : Nat) * 1)) := by
  have h : (fun i : Nat => V.int (lo + (i : Nat) * 1)) = fun i : Nat => V.int (lo + i) := by
    funext i
    rw [Int.mul_one]
  rw [h]
  exact walk_range
theorem i_rng1 {fl : M (List Tv)} (hm : X.mg "range" = none) (ha : TAX X W [a] fl) (hg : Gl X "range" := by rfl) (hs : starEach [a] X.env = [(false, eval a X.env)] := by rfl) : TIX X W tg (.Call (.Name "range" p) [a] [] pos) (vR k1 fl) :=
  .of (pi_range1 hg hm ha.pa hs) (si_rng sa_c fun σ H Q h => by
    obtain ⟨Z, R, G, fs, T, w⟩ := h
    refine ⟨Z, R, G, fs, T, w.mono (fun xs fs1 h1 G1 H1 us T1 g1 v1 => ?_) fun _ _ q => q⟩
    obtain ⟨is, lo, c, n, ev, ek, q⟩ := h1 G1 H1 us T1 g1 v1
    unfold k1 at ek
    split at ek
    · rename_i j
      split at ek
      · rename_i hj
        cases ek
        exact ⟨j, ev, hj.1, hj.2, q _ walk_r1⟩
      · cases ek
    · cases ek)
theorem i_rng2 {fl : M (List Tv)} (hm : X.mg "range" = none) (ha : TAX X W [a, b] fl) (hg : Gl X "range" := by rfl) (hs : starEach [a, b] X.env = [(false, eval a X.env), (false, eval b X.env)] := by rfl) (hs2 : starEach [b] X.env = [(false, eval b X.env)] := by rfl) : TIX X W tg (.Call (.Name "range" p) [a, b] [] pos) (vR k2 fl) :=
  .of (pi_range2 hg hm ha.pa hs hs2) (si_rng sa_c fun σ H Q h => by
    obtain ⟨Z, R, G, fs, T, w⟩ := h
    refine ⟨Z, R, G, fs, T, w.mono (fun xs fs1 h1 G1 H1 us T1 g1 v1 => ?_) fun _ _ q => q⟩
    obtain ⟨is, lo, c, n, ev, ek, q⟩ := h1 G1 H1 us T1 g1 v1
    unfold k2 at ek
    split at ek
    · rename_i i j
      split at ek
      · rename_i hj
        cases ek
        exact ⟨_, _, ev, hj, q _ walk_r1⟩
      · cases ek
    · cases ek)
theorem i_rng3 {fl : M (List Tv)} (hm : X.mg "range" = none) (ha : TAX X W [a, b, c] fl) (hg : Gl X "range" := by rfl) (hs : starEach [a, b, c] X.env = (false, eval a X.env) :: starEach [b, c] X.env := by rfl) (hpl : (backTo pos (starEach [b, c] X.env)).any (·.1) = false := by rfl) : TIX X W tg (.Call (.Name "range" p) [a, b, c] [] pos) (vR k3 fl) :=
  .of (pi_range3 hg hm ha.pa hs hpl) (si_rng sa_c fun σ H Q h => by
    obtain ⟨Z, R, G, fs, T, w⟩ := h
    refine ⟨Z, R, G, fs, T, w.mono (fun xs fs1 h1 G1 H1 us T1 g1 v1 => ?_) fun _ _ q => q⟩
    obtain ⟨is, lo, d, n, ev, ek, q⟩ := h1 G1 H1 us T1 g1 v1
    unfold k3 at ek
    split at ek
    · rename_i i j c
      split at ek
      · rename_i hj
        cases ek
        exact ⟨_, _, _, _, ev, ⟨hj.1, hj.2.1, hj.2.2.1, hj.2.2.2⟩, q _ walk_rangeC⟩
      · cases ek
    · cases ek)

/-! ### enumerate, zip: lists -/
def enumD : Nat → List D → List D
  | _, [] => []
  | i, x :: xs => .nd .tup [.at (.int (i : Nat)), x] :: enumD (i + 1) xs
theorem enumD_len : ∀ (i : Nat) (xs : List D), (enumD i xs).length = xs.length
  | _, [] => rfl
  | i, x :: xs => by unfold enumD; rw [List.length_cons, List.length_cons, enumD_len (i + 1) xs]
theorem enumD_get : ∀ {xs : List D} {k i : Nat} {d : D}, xs[i]? = some d → (enumD k xs)[i]? = some (.nd .tup [.at (.int ((k + i : Nat))), d])
  | [], _, _, _, h => by simp at h
  | x :: xs, k, 0, d, h => by
    simp at h
    subst h
    rfl
  | x :: xs, k, i + 1, d, h => by
    unfold enumD
    rw [List.getElem?_cons_succ, enumD_get (k := k + 1) (by simpa using h)]
    rw [show k + 1 + i = k + (i + 1) by omega]
theorem gives_pair {items : List D} {i : Nat} {H H' : Hp} {v x y : V} {T : Addr} {d e : D} (hi : items[i]? = some (.nd .tup [d, e])) (ev : v = .ref T) (hn : H T = none) (eh : H' = upd H T (.tup [x, y])) (r1 : Rep Γ G d x) (r2 : Rep Γ G e y) : Gives Γ G items i H v H' :=
  ⟨_, hi, .inr (.inl ⟨T, _, _, rfl, ev, hn, eh, .cons r1 (.cons r2 .nil)⟩)⟩
def vEnum (f : M Tv) : M Itv := bnd f fun x => bnd (srcL x) fun q => ret ⟨enumD 0 q.1, q.2⟩
theorem i_enum {tpos : Pos} {elts : List Expr} {kk : Nat} (hm : X.mg "enumerate" = none) (he : TX X W e f) (hg : Gl X "enumerate" := by rfl) (hs : starEach [e] X.env = [(false, eval e X.env)] := by rfl) : TIX X W (.Tuple elts kk tpos) (.Call (.Name "enumerate" p) [e] [] pos) (vEnum f) := by
  have ha : PA X [e] (tCons (rE (GX X) W f) tNil) := pa_cons he.pe pa_nil (by rw [hs]; rfl)
  refine .of (pi_enum hg hm ha hs) fun Z R G σ H fs Q T w => ?_
  refine se_c Z R G σ H fs _ T ((wp_bnd.mp w).mono (fun x fs1 h1 G1 H1 u T1 g1 v1 => ?_) fun _ _ q => q)
  unfold bnd at h1
  rcases srcL_out x fs1 with ⟨xs, lk, e1⟩ | e1
  · rw [e1] at h1
    obtain ⟨_, G2, Z1, R1, T2, g2, j, ⟨a, vs, rfl, sq, r⟩⟩ := srcL_ok T1 v1 e1
    refine ⟨a, vs, rfl, sq _ (j.ti.rh) j.ti.gh, h1 G2 H1 _ Z1 R1 T2 (g1.trans g2) (j.jok (J := Ite X.K a) ?_)⟩
    show Walk (Ite X.K a) (enumD 0 xs).length _ _
    rw [enumD_len, r.len]
    refine walk_enum.mono (fun H' s => sq H' s.1 s.2) fun i H v H' hi _ y => ?_
    obtain ⟨T, x, y, ev, hn, eh, h3, h4⟩ := y
    cases h3
    obtain ⟨d, hd, rd⟩ := r.get h4
    have := enumD_get (k := 0) hd
    rw [Nat.zero_add] at this
    exact gives_pair this ev hn eh (.at (.int (i : Nat))) rd
  · rw [e1] at h1
    exact h1.elim
end
end TL

/-! Calls of defs, of methods, of classes; fields. -/
namespace L2
open PySem PySem.Spec PyProof.Rows
section
variable {X : Cx} {CX : CXT} {k : Nat} {f C : Addr} {fd : FuncData} {ps : List Str} {sp : Sp} {E : St → XK} {x m : Str} {p pos apos : Pos} {e o : Expr} {es : List Expr} {ta : TE} {t : TA}
theorem pe_callS0 (F : FnOk X.prog X.w X.K X.mg X.base CX k f fd ps sp) (hr : Room k X.A) (hg : Gl X x) (hm : X.mg x = some (.ref f)) (hk : PySem.W.keepIn X.K (.ref f) = true) (hb : Binds X.K fd ps []) (hx : ∀ σ, PassesAt CX X σ (E σ))
    (hdb : (x == ("__debug__" : Str)) = false := by decide) : PE X (.Call (.Name x p) [] [] pos) (tCallS sp E tNil) := by
  refine ⟨fun pins s σ H Q I h => ?_⟩
  refine wpAny_Call_Name_kw (ld_glob I hg hm ?_ hdb)
  exact PySem.W.callWith_K0 I.kIn hk (run_fnS (us := []) F hr hb (hx σ) I .nil h)
def tMethW (C : Addr) (m : Str) (sp : Sp) (E : St → XK) (ta : TE) (t : TA) : TE := fun σ H Q => ta σ H fun x H1 => ∃ a dx fs, x = .ref a ∧ H1 a = some (.ins C dx fs) ∧ fs.lookup m = none ∧ t σ H1 fun vs H2 => sp (x :: vs) H2 Q (E σ)
theorem pe_methW {pl : Sem Bool} (he : PE X o ta) (c : Cls X.K C) (hm : Meth X.K C m f) (F : FnOk X.prog X.w X.K X.mg X.base CX k f fd ps sp) (hr : Room k X.A) (hb : Binds X.K fd ps []) (hx : ∀ σ, PassesAt CX X σ (E σ)) (ha : PA X (e :: es) t)
    (hst : starEach (e :: es) X.env = (false, eval e X.env) :: starEach es X.env := by rfl) (hpl : (backTo pos (starEach es X.env)).any (·.1) = false := by rfl)
    (ht : eval (.Call (.Attribute o m apos) (e :: es) [] pos) X.env = (do
      let ov ← eval o X.env
      standAt apos.atName
      let (f, first) ← holding [ov] (getMethod ov m pl)
      callWith pos f first (backTo pos (starEach (e :: es) X.env)) (backToKw pos (keywordEach [] X.env))) := by rfl) :
    PE X (.Call (.Attribute o m apos) (e :: es) [] pos) (tMethW C m sp E ta t) := by
  refine ⟨fun pins s σ H Q I h => ?_⟩
  refine PySem.W.methodCall_KW (pl := pl) (thn (he.run pins s σ H _ I h) fun u s1 ⟨x, H1, I1, rx, a, dx, fs, ex, ea, l, q⟩ => ?_) ht
  subst ex
  obtain rfl : u = Value.ref a := rx
  refine getmeth_ok I1 ea c hm l ?_
  refine PySem.W.callWith_K (first := [.ref a]) (h₀ := X.base) I.ok.mod.kin hm.kp (thn (ha.run pos pins s1 σ H1 _ I1 q) fun us s2 ⟨vs, H2, I2, r, q2⟩ => ⟨I2.kIn, ?_⟩) hst hpl
  exact run_fnS (us := .ref a :: us) (vs := .ref a :: vs) F hr hb (hx σ) I2 (.cons rfl r) q2
theorem pe_methW0 {pl : Sem Bool} (he : PE X o ta) (c : Cls X.K C) (hm : Meth X.K C m f) (F : FnOk X.prog X.w X.K X.mg X.base CX k f fd ps sp) (hr : Room k X.A) (hb : Binds X.K fd ps []) (hx : ∀ σ, PassesAt CX X σ (E σ))
    (ht : eval (.Call (.Attribute o m apos) [] [] pos) X.env = (do
      let ov ← eval o X.env
      standAt apos.atName
      let (f, first) ← holding [ov] (getMethod ov m pl)
      callWith pos f first (backTo pos (starEach [] X.env)) (backToKw pos (keywordEach [] X.env))) := by rfl) :
    PE X (.Call (.Attribute o m apos) [] [] pos) (tMethW C m sp E ta tNil) := by
  refine ⟨fun pins s σ H Q I h => ?_⟩
  refine PySem.W.methodCall_KW (pl := pl) (thn (he.run pins s σ H _ I h) fun u s1 ⟨x, H1, I1, rx, a, dx, fs, ex, ea, l, q⟩ => ?_) ht
  subst ex
  obtain rfl : u = Value.ref a := rx
  refine getmeth_ok I1 ea c hm l ?_
  exact PySem.W.callWith_K0 (first := [.ref a]) I1.kIn hm.kp (run_fnS (us := [.ref a]) (vs := [.ref a]) F hr hb (hx σ) I1 (.cons rfl .nil) q)
theorem run_makeS {pins : List (Addr × Obj)} {σ : St} {H : Hp} {s : Shared} {Q : VK} {us : List Value} {vs : List V} (M : Mk X.K C f) (F : FnOk X.prog X.w X.K X.mg X.base CX k f fd ps sp) (hr : Room (k + 1) X.A) (hb : Binds X.K fd ps [])
    (hx : PassesAt CX X σ (E σ)) (I : Inv X pins σ H s) (r : Vals vs us)
    (h : ∀ x dx, H x = none → H dx = none → dx ≠ x → sp (.ref x :: vs) (upd (upd H dx (.own x)) x (.ins C dx [])) (fun v H2 => v = .non ∧ Q (.ref x) H2) (E σ)) :
    wpAny (model X.prog X.w) X.A (call (.ref C) us) (EP X pins σ Q) X.xe s := by
  have hq := h (s.heap.objs.size + 1) s.heap.objs.size (I.hok.fresh (Nat.le_succ _)) (I.hok.fresh (Nat.le_refl _)) (Nat.ne_of_lt (Nat.lt_succ_self _))
  have I2 := Inv.made (C := C) I
  have r2 : Vals (V.ref (s.heap.objs.size + 1) :: vs) (Value.ref (s.heap.objs.size + 1) :: us) := .cons rfl r
  have hl : (Value.ref (s.heap.objs.size + 1) :: us).length = ps.length := by
    have e := r2.length
    rw [F.len _ _ _ _ hq] at e
    exact e.symm
  have b := hb _ (Value.ref (s.heap.objs.size + 1) :: us) I2.kIn (by rw [List.append_nil]; exact hl)
  rw [List.append_nil] at b
  refine wpAny_call (make_map (f := f) I.kIn M.makes M.init (beq_iff_eq.mp M.fn) (codeAny_mono (F.run _ X.stack _ _ ⟨Value.ref (s.heap.objs.size + 1) :: us, []⟩ (Value.ref (s.heap.objs.size + 1) :: us) _ _ (E σ) (hr.make C us [])
    (I2.env0.make C us []) b r2 hq) fun r s' hq' => ?_))
  cases r with
  | error e => exact hx pins _ _ e s' I2 hq'
  | ok fl =>
    cases fl with
    | ret u =>
      obtain ⟨v, H', I3, rv, ev, q3⟩ := I2.after hq'
      subst ev
      exact ⟨rv, ⟨V.ref (s.heap.objs.size + 1), H', I3, rfl, q3⟩⟩
    | next => exact False.elim hq'
    | brk => exact False.elim hq'
    | cont => exact False.elim hq'
def tMakeS (C : Addr) (sp : Sp) (E : St → XK) (t : TA) : TE := fun σ H Q => t σ H fun vs H1 => ∀ x dx, H1 x = none → H1 dx = none → dx ≠ x → sp (.ref x :: vs) (upd (upd H1 dx (.own x)) x (.ins C dx [])) (fun v H2 => v = .non ∧ Q (.ref x) H2) (E σ)
theorem pe_makeS (M : Mk X.K C f) (F : FnOk X.prog X.w X.K X.mg X.base CX k f fd ps sp) (hr : Room (k + 1) X.A) (hg : Gl X x) (hm : X.mg x = some (.ref C)) (hb : Binds X.K fd ps []) (hx : ∀ σ, PassesAt CX X σ (E σ))
    (ha : PA X (e :: es) t) (hdb : (x == ("__debug__" : Str)) = false := by decide) (he : starEach (e :: es) X.env = (false, eval e X.env) :: starEach es X.env := by rfl) (hpl : (backTo pos (starEach es X.env)).any (·.1) = false := by rfl) :
    PE X (.Call (.Name x p) (e :: es) [] pos) (tMakeS C sp E t) := by
  refine ⟨fun pins s σ H Q I h => ?_⟩
  refine wpAny_Call_Name_kw (ld_glob I hg hm ?_ hdb)
  refine PySem.W.callWith_K (h₀ := X.base) I.ok.mod.kin M.kp (thn (ha.run pos pins s σ H _ I h) fun us s1 ⟨vs, H1, I1, r, q⟩ => ⟨I1.kIn, ?_⟩) he hpl
  exact run_makeS M F hr hb (hx σ) I1 r q
end
end L2
namespace TL
open PySem PySem.Spec PyProof.Rows L2
section
variable {X : Cx} {W : WX} {e o a b c tg : Expr} {es : List Expr} {pos p apos : Pos} {f fa fb fc fo : M Tv} {fl : M (List Tv)} {Γ : Gm} {Z : Zf} {R G H : Hp} {σ : L2.St} {fs fs' : Fs}
/-- the one, or (where it says nothing) the other -/
def orE {α : Type} (f g : M α) : M α := fun fs => match f fs with
  | .bad => g fs
  | o => o
theorem x_alt {g : M Tv} (h1 : TX X W e f) (h2 : TX X W e g) : TX X W e (orE f g) := ⟨⟨fun pins st σ H Q I ⟨Z, R, G, fs, T, w⟩ => by
  unfold orE at w
  cases ef : f fs with
  | bad => rw [ef] at w; exact h2.pe.run pins st σ H Q I ⟨Z, R, G, fs, T, w⟩
  | ok x fs1 => rw [ef] at w; exact h1.pe.run pins st σ H Q I ⟨Z, R, G, fs, T, by rw [ef]; exact w⟩
  | ex x fs1 => rw [ef] at w; exact h1.pe.run pins st σ H Q I ⟨Z, R, G, fs, T, by rw [ef]; exact w⟩⟩⟩
theorem i_alt {f g : M Itv} (h1 : TIX X W tg e f) (h2 : TIX X W tg e g) : TIX X W tg e (orE f g) := ⟨⟨fun pins st σ H Q I ⟨Z, R, G, fs, T, w⟩ => by
  unfold orE at w
  cases ef : f fs with
  | bad => rw [ef] at w; exact h2.pi.run pins st σ H Q I ⟨Z, R, G, fs, T, w⟩
  | ok x fs1 => rw [ef] at w; exact h1.pi.run pins st σ H Q I ⟨Z, R, G, fs, T, by rw [ef]; exact w⟩
  | ex x fs1 => rw [ef] at w; exact h1.pi.run pins st σ H Q I ⟨Z, R, G, fs, T, by rw [ef]; exact w⟩⟩⟩

/-! ### calls of defs -/
/-- a def that keeps its promise; here there is room for it -/
structure Cal (X : Cx) (x : Str) (np : Nat) (fn : Fn) : Prop where
  ex : ∃ (j : Nat) (g : Addr) (fd : FuncData) (ps : List Str), FnOk X.prog X.w X.K X.mg X.base (L2.CX X.prog X.w) j g fd ps (spF (GX X) np fn) ∧ Room j X.A ∧ X.mg x = some (.ref g) ∧ PySem.W.keepIn X.K (.ref g) = true ∧ Binds X.K fd ps []
theorem ok_call {ta : TA} {np : Nat} {fn : Fn} {ms : List Bool} (hn : LenN fl np) (ha : SA Γ W ta fl) : SE Γ W (tCallS (spF Γ np fn) (WE W) ta) (bnd fl (callM fn ms)) := by
  intro Z R G σ H fs Q T w
  cases ef : fl fs with
  | bad => unfold bnd at w; rw [ef] at w; exact w.elim
  | ex x fs1 =>
    unfold bnd at w
    rw [ef] at w
    exact ha Z R G σ H fs _ T (by rw [ef]; exact w)
  | ok xs fs1 =>
    unfold bnd at w
    rw [ef] at w
    refine ha Z R G σ H fs _ T ?_
    rw [ef]
    exact fun G1 H1 us T1 g1 v1 => call_ok T1 v1 (hn _ _ _ ef) (w.mono (fun _ _ q => q.grow g1) fun _ _ q => q.grow g1)
theorem ok_callm {ta : TA} {np : Nat} {fn : Fn} {ms : List Bool} (hn : LenN fl np) (ha : SA Γ W ta fl) : SE Γ W (tCallS (spF Γ np fn) (WE W) ta) (bnd fl (callMm fn ms)) := by
  intro Z R G σ H fs Q T w
  cases ef : fl fs with
  | bad => unfold bnd at w; rw [ef] at w; exact w.elim
  | ex x fs1 =>
    unfold bnd at w
    rw [ef] at w
    exact ha Z R G σ H fs _ T (by rw [ef]; exact w)
  | ok xs fs1 =>
    unfold bnd at w
    rw [ef] at w
    refine ha Z R G σ H fs _ T ?_
    rw [ef]
    exact fun G1 H1 us T1 g1 v1 => callm_ok T1 v1 (hn _ _ _ ef) (w.mono (fun _ _ q => q.grow g1) fun _ _ q => q.grow g1)
theorem x_call {x : Str} {np : Nat} {fn : Fn} {ms : List Bool} (k : Ctl X W) (F : Cal X x np fn) (hn : LenN fl np) (ha : TAX X W (e :: es) fl) (hg : Gl X x := by rfl) (hdb : (x == ("__debug__" : Str)) = false := by decide) (he : starEach (e :: es) X.env = (false, eval e X.env) :: starEach es X.env := by rfl)
    (hpl : (backTo pos (starEach es X.env)).any (·.1) = false := by rfl) : TX X W (.Call (.Name x p) (e :: es) [] pos) (bnd fl (callM fn ms)) := by
  obtain ⟨j, g, fd, ps, F, hr, hm, hk, hb⟩ := F.ex
  exact .of (pe_callS F hr hg hm hk hb k.pass ha.pa hdb he hpl) (ok_call hn sa_c)
theorem x_callm {x : Str} {np : Nat} {fn : Fn} {ms : List Bool} (k : Ctl X W) (F : Cal X x np fn) (hn : LenN fl np) (ha : TAX X W (e :: es) fl) (hg : Gl X x := by rfl) (hdb : (x == ("__debug__" : Str)) = false := by decide) (he : starEach (e :: es) X.env = (false, eval e X.env) :: starEach es X.env := by rfl)
    (hpl : (backTo pos (starEach es X.env)).any (·.1) = false := by rfl) : TX X W (.Call (.Name x p) (e :: es) [] pos) (bnd fl (callMm fn ms)) := by
  obtain ⟨j, g, fd, ps, F, hr, hm, hk, hb⟩ := F.ex
  exact .of (pe_callS F hr hg hm hk hb k.pass ha.pa hdb he hpl) (ok_callm hn sa_c)
theorem x_call0 {x : Str} {fn : Fn} (k : Ctl X W) (F : Cal X x 0 fn) (hg : Gl X x := by rfl) (hdb : (x == ("__debug__" : Str)) = false := by decide) : TX X W (.Call (.Name x p) [] [] pos) (bnd aNil (callM fn [])) := by
  obtain ⟨j, g, fd, ps, F, hr, hm, hk, hb⟩ := F.ex
  exact .of (pe_callS0 F hr hg hm hk hb k.pass hdb) (ok_call lenN_nil sa_nil)

/-! ### classes -/
structure ClsX (X : Cx) (c : Str) (C : Addr) : Prop where
  mg : X.mg c = some (.ref C)
  cls : Cls X.K C
def insOf (c : Str) (d : D) : Option (List Str × List D) := match d with
  | .nd (.ins k ns) xs => if k = c then some (ns, xs) else none
  | _ => none
def getF (f : Str) : List Str → List D → Option D
  | n :: ns, x :: xs => if n = f then some x else getF f ns xs
  | _, _ => none
theorem getF_ok {f : Str} : ∀ {ns : List Str} {xs : List D} {vs : List V} {d : D}, RepA Γ G xs vs → getF f ns xs = some d → ∃ v, (ns.zip vs).lookup f = some v ∧ Rep Γ G d v
  | [], _, _, _, _, h => by unfold getF at h; cases h
  | _ :: _, [], _, _, _, h => by unfold getF at h; cases h
  | n :: ns, x :: xs, _, d, .cons hx r, h => by
    unfold getF at h
    rw [List.zip_cons_cons, List.lookup_cons]
    by_cases e : n = f
    · rw [if_pos e] at h
      cases h
      subst e
      rw [beq_self_eq_true]
      exact ⟨_, rfl, hx⟩
    · rw [if_neg e] at h
      rw [show (f == n) = false from beq_eq_false_iff_ne.mpr (Ne.symm e)]
      exact getF_ok r h
def fldD (c f : Str) (d : D) : Option Tv := match insOf c d with
  | some (ns, xs) => (getF f ns xs).map .frz
  | none => none
theorem RdH.ins {c : Str} {d : D} {u : V} {ns : List Str} {xs : List D} (h : RdH Γ G H d u) (e : insOf c d = some (ns, xs)) : ∃ p C dx vs, u = .ref p ∧ Γ.mg c = some (.ref C) ∧ H p = some (.ins C dx (ns.zip vs)) ∧ ns.length = vs.length ∧ RepA Γ G xs vs := by
  unfold insOf at e
  split at e
  · split at e
    · rename_i hk
      cases e
      subst hk
      exact h
    · cases e
  · cases e
theorem x_fld {c f : Str} {C : Addr} (K : ClsX X c C) (hn : NoAttr X.K C f) (ha : TX X W a fa) (hb : attributeBase a f X.env (eval a X.env) = eval a X.env := by rfl) : TX X W (.Attribute a f pos) (bnd fa (dop1 (fldD c f))) := by
  refine .of (pe_fld ha.pe hb) fun Z R G σ H fs Q T w => ?_
  refine se_c Z R G σ H fs _ T ((wp_bnd.mp w).mono (fun x fs1 h1 G1 H1 u T1 g1 v1 => ?_) fun _ _ q => q)
  unfold dop1 at h1
  cases e1 : rdv x fs1 with
  | none => rw [e1] at h1; exact h1.elim
  | some d =>
    rw [e1] at h1
    cases e2 : fldD c f d with
    | none => simp only [e2] at h1; exact h1.elim
    | some t =>
      simp only [e2] at h1
      unfold fldD at e2
      split at e2
      · rename_i ns xs e3
        obtain ⟨y, hy, rfl⟩ := Option.map_eq_some_iff.mp e2
        obtain ⟨q, C', dx, vs, rfl, hm, hh, hl, r⟩ := (T1.rd v1 e1).ins e3
        have := hm.symm.trans K.mg
        cases this
        obtain ⟨v, l, rv⟩ := getF_ok r hy
        exact ⟨q, C, dx, _, v, rfl, hh, K.cls, hn, l, (PstE.grow g1 h1).rep T1 rv⟩
      · cases e2

/-! ### methods -/
structure CalM (X : Cx) (c m : Str) (np : Nat) (fn : Fn) : Prop where
  ex : ∃ (C : Addr) (j : Nat) (g : Addr) (fd : FuncData) (ps : List Str), ClsX X c C ∧ Meth X.K C m g ∧ FnOk X.prog X.w X.K X.mg X.base (L2.CX X.prog X.w) j g fd ps (spF (GX X) np fn) ∧ Room j X.A ∧ Binds X.K fd ps []
def methM (c m : Str) (call : List Tv → M Tv) (fo : M Tv) (fl : M (List Tv)) : M Tv := bnd fo fun x fs => match rdv x fs with
  | some d => match insOf c d with
    | some (ns, _) => if ns.contains m = true then .bad else bnd fl (fun ys => call (x :: ys)) fs
    | none => .bad
  | none => .bad
theorem lookup_no {m : Str} : ∀ {ns : List Str} {vs : List V}, ns.contains m = false → (ns.zip vs).lookup m = none
  | [], _, _ => by rw [List.zip_nil_left]; rfl
  | n :: ns, [], _ => by rw [List.zip_nil_right]; rfl
  | n :: ns, v :: vs, h => by
    rw [List.contains_cons, Bool.or_eq_false_iff] at h
    rw [List.zip_cons_cons, List.lookup_cons, h.1]
    exact lookup_no h.2
theorem se_meth {c m : Str} {C : Addr} {np : Nat} {fn : Fn} {call : List Tv → M Tv} {to : TE} {ta : TA} (K : Γ.mg c = some (.ref C)) (hc : ∀ (Z : Zf) (R G : Hp) (σ : L2.St) (H : Hp) (fs : Fs) (xs : List Tv) (us : List V) (Q : VK), TI Γ Z R G σ H fs → VsOk Γ R G σ H fs xs us → xs.length = np → (call xs fs).Wp (PstE Γ Z R G σ Q) (PstX Γ Z R G σ W) → spF Γ np fn us H Q (fun c dd H' => W c dd σ H'))
    {n : Nat} (hn : LenN fl n) (hnp : n + 1 = np) (ho : SE Γ W to fo) (ha : SA Γ W ta fl) : SE Γ W (tMethW C m (spF Γ np fn) (WE W) to ta) (methM c m call fo fl) := by
  intro Z R G σ H fs Q T w
  refine ho Z R G σ H fs _ T ((wp_bnd.mp w).mono (fun x fs1 h1 G1 H1 u T1 g1 v1 => ?_) fun _ _ q => q)
  cases e1 : rdv x fs1 with
  | none => simp only [e1] at h1; exact h1.elim
  | some d =>
    simp only [e1] at h1
    cases e2 : insOf c d with
    | none => simp only [e2] at h1; exact h1.elim
    | some q =>
      obtain ⟨ns, xs⟩ := q
      simp only [e2] at h1
      by_cases hm : ns.contains m = true
      · rw [if_pos hm] at h1
        exact h1.elim
      · rw [if_neg hm] at h1
        obtain ⟨q, C', dx, vs, rfl, hmg, hh, hl, r⟩ := (T1.rd v1 e1).ins e2
        have := hmg.symm.trans K
        cases this
        refine ⟨q, dx, _, rfl, hh, lookup_no (by simpa using hm), ?_⟩
        obtain ⟨R1, s1, T1', _, back⟩ := T1.protect v1
        cases ef : fl fs1 with
        | bad => unfold bnd at h1; rw [ef] at h1; exact h1.elim
        | ex y fs2 =>
          unfold bnd at h1
          rw [ef] at h1
          exact ha Z R1 G1 σ H1 fs1 _ T1' (by rw [ef]; exact ((show PstX Γ Z R G σ W y fs2 from h1).grow g1).weak s1 T1.br)
        | ok ys fs2 =>
          unfold bnd at h1
          rw [ef] at h1
          refine ha Z R1 G1 σ H1 fs1 _ T1' ?_
          rw [ef]
          intro G2 H2 us T2 g2 v2
          obtain ⟨T2', g2', v1', y'⟩ := back G2 H2 fs2 T2 g2
          refine hc Z R G2 σ H2 fs2 (x :: ys) (.ref q :: us) Q T2' ⟨v1', fun hx i y w e1 e2 hy => (y' y w (v2.get e1 e2)).2 hx hy, v2.weak s1⟩ (by rw [List.length_cons, hn _ _ _ ef, hnp]) (h1.mono (fun _ _ q => q.grow (g1.trans g2')) fun _ _ q => q.grow (g1.trans g2'))
theorem x_meth {c m : Str} {np n : Nat} {fn : Fn} {ms : List Bool} (k : Ctl X W) (F : CalM X c m np fn) (hn : LenN fl n) (ho : TX X W o fo) (ha : TAX X W (e :: es) fl) (hnp : n + 1 = np := by rfl) {pl : Sem Bool}
    (hst : starEach (e :: es) X.env = (false, eval e X.env) :: starEach es X.env := by rfl) (hpl : (backTo pos (starEach es X.env)).any (·.1) = false := by rfl)
    (ht : eval (.Call (.Attribute o m apos) (e :: es) [] pos) X.env = (do
      let ov ← eval o X.env
      standAt apos.atName
      let (f, first) ← holding [ov] (getMethod ov m pl)
      callWith pos f first (backTo pos (starEach (e :: es) X.env)) (backToKw pos (keywordEach [] X.env))) := by rfl) : TX X W (.Call (.Attribute o m apos) (e :: es) [] pos) (methM c m (callM fn ms) fo fl) := by
  obtain ⟨C, j, g, fd, ps, K, hm, F, hr, hb⟩ := F.ex
  exact .of (pe_methW ho.pe K.cls hm F hr hb k.pass ha.pa hst hpl ht) (se_meth K.mg (fun Z R G σ H fs xs us Q T v l w => call_ok T v l w) hn hnp se_c sa_c)
theorem x_meth0 {c m : Str} {fn : Fn} {ms : List Bool} (k : Ctl X W) (F : CalM X c m 1 fn) (ho : TX X W o fo) {pl : Sem Bool}
    (ht : eval (.Call (.Attribute o m apos) [] [] pos) X.env = (do
      let ov ← eval o X.env
      standAt apos.atName
      let (f, first) ← holding [ov] (getMethod ov m pl)
      callWith pos f first (backTo pos (starEach [] X.env)) (backToKw pos (keywordEach [] X.env))) := by rfl) : TX X W (.Call (.Attribute o m apos) [] [] pos) (methM c m (callM fn ms) fo aNil) := by
  obtain ⟨C, j, g, fd, ps, K, hm, F, hr, hb⟩ := F.ex
  exact .of (pe_methW0 ho.pe K.cls hm F hr hb k.pass ht) (se_meth K.mg (fun Z R G σ H fs xs us Q T v l w => call_ok T v l w) lenN_nil rfl se_c sa_nil)
end
end TL

/-! New instances, stores to fields. -/
namespace TL
open PySem PySem.Spec PyProof.Rows L2
section
variable {X : Cx} {W : WX} {e o a b c tg : Expr} {es : List Expr} {pos p apos : Pos} {f fa fb fc fo : M Tv} {fl : M (List Tv)} {Γ : Gm} {Z : Zf} {R G H : Hp} {σ : L2.St} {fs fs' : Fs}
/-- an instance that is being made stands in a slot of its own, behind all others -/
def mkM (c : Str) (fn : Fn) (ms : List Bool) (ys : List Tv) : M Tv := fun fs =>
  match callMm fn ms (.slot fs.length :: ys) (fs ++ [some (.own, .nd (.ins c []) [])]) with
  | .ok (.frz (.at .non)) fs' => match fs'[fs.length]? with
    | some (some (.own, d)) => .ok (.own d) (fs'.take fs.length)
    | _ => .bad
  | .ex x fs' => .ex x (fs'.take fs.length)
  | _ => .bad
theorem VOk.alloc (T : TI Γ Z R G σ H fs) {q : Addr} {ob : HO} (n : H q = none) {x : Tv} {u : V} (h : VOk Γ R G σ H fs x u) : VOk Γ R G σ (upd H q ob) fs x u := by
  cases x with
  | frz d => exact h
  | slot i => exact h
  | own d =>
    obtain ⟨⟨p, rfl, rp, gp, ow⟩, ns⟩ := h
    obtain ⟨o, ho⟩ := ow.has
    exact ⟨⟨p, rfl, rp, gp, ow.mono Sub.refl (upd_ne (ne_of_none ho n))⟩, ns⟩
theorem VsOk.mono {R' G' H' : Hp} {σ' : L2.St} {fs' : Fs} (k : ∀ (y : Tv) (w : V), VOk Γ R G σ H fs y w → VOk Γ R' G' σ' H' fs' y w) : ∀ {xs : List Tv} {us : List V}, VsOk Γ R G σ H fs xs us → VsOk Γ R' G' σ' H' fs' xs us
  | [], [], h => h
  | x :: xs, u :: us, h => ⟨k x u h.1, h.2.1, VsOk.mono k h.2.2⟩
  | [], _ :: _, h => h.elim
  | _ :: _, [], h => h.elim
theorem lastAt {α : Type} {l : List α} {a : α} : (l ++ [a])[l.length]? = some a := by simp
theorem preAt {α : Type} {l : List α} {a b : α} {i : Nat} (h : l[i]? = some b) : (l ++ [a])[i]? = some b := by
  rw [List.getElem?_append_left (List.getElem?_eq_some_iff.mp h).1]
  exact h
theorem appAt {α : Type} {l : List α} {a b : α} {i : Nat} (h : (l ++ [a])[i]? = some b) : l[i]? = some b ∨ (i = l.length ∧ b = a) := by
  by_cases hi : i < l.length
  · rw [List.getElem?_append_left hi] at h
    exact .inl h
  · have e : i = l.length := by
      have := (List.getElem?_eq_some_iff.mp h).1
      rw [List.length_append] at this
      simp at this
      omega
    subst e
    rw [lastAt] at h
    exact .inr ⟨rfl, (Option.some.inj h).symm⟩
theorem TI.push (T : TI Γ Z R G σ H fs) {u : V} {d : D} (h : VOk Γ R G σ H fs (.own d) u) : TI Γ Z R G (σ ++ [some u]) H (fs ++ [some (.own, d)]) := by
  have far : ∀ {i : Nat} {s : Sl} {v : V}, fs[i]? = some (some s) → s.1.mut = true → (σ ++ [some u])[i]? = some (some v) → v = u → False := fun {i s v} e hm hv ev => by
    subst ev
    obtain ⟨q, h1, _⟩ := T.mutAt e hm
    rcases appAt hv with hv | ⟨hi, _⟩
    · exact h.2 i s e hm hv
    · have := (List.getElem?_eq_some_iff.mp e).1
      rw [T.len] at this
      omega
  refine ⟨T.gh, T.rh, T.br, by rw [List.length_append, List.length_append, T.len]; rfl, fun i s e => ?_, fun i j s t v e1 e2 m1 m2 v1 v2 => ?_, fun q n w hq => ?_, fun i d' e => ?_⟩
  · rcases appAt e with e | ⟨hi, e⟩
    · obtain ⟨v, a, b⟩ := T.sl i s e
      exact ⟨v, preAt a, b⟩
    · cases e
      refine ⟨u, ?_, h.1⟩
      rw [hi, T.len]
      exact lastAt
  · rcases appAt e1 with e1 | ⟨hi, e1⟩
    · rcases appAt e2 with e2 | ⟨hj, e2⟩
      · have w1 : σ[i]? = some (some v) := by
          obtain ⟨q, h1, _⟩ := T.mutAt e1 m1
          rw [preAt h1] at v1
          rw [h1, v1]
        have w2 : σ[j]? = some (some v) := by
          obtain ⟨q, h1, _⟩ := T.mutAt e2 m2
          rw [preAt h1] at v2
          rw [h1, v2]
        exact T.inj i j s t v e1 e2 m1 m2 w1 w2
      · have ev : v = u := by
          rw [hj, T.len, lastAt] at v2
          cases v2
          rfl
        exact (far e1 m1 v1 ev).elim
    · rcases appAt e2 with e2 | ⟨hj, e2⟩
      · have ev : v = u := by
          rw [hi, T.len, lastAt] at v1
          cases v1
          rfl
        exact (far e2 m2 v2 ev).elim
      · omega
  · obtain ⟨⟨d', h1, h2⟩, hm⟩ := T.io q n w hq
    exact ⟨⟨d', preAt h1, preAt h2⟩, hm⟩
  · rcases appAt e with e | ⟨_, e⟩
    · exact T.bp i d' e
    · cases e
theorem TI.pop {u : V} {gs : Fs} {H' G' : Hp} (T0 : TI Γ Z R G σ H fs) (T : TI Γ Z R G' (σ ++ [some u]) H' gs) : TI Γ Z R G' σ H' (gs.take fs.length) := by
  have hl : gs.length = fs.length + 1 := by rw [T.len, List.length_append, T0.len]; rfl
  have low : ∀ {i : Nat} {s : Option Sl}, (gs.take fs.length)[i]? = some s → i < fs.length ∧ gs[i]? = some s := fun {i s} e => by
    have hi := (List.getElem?_eq_some_iff.mp e).1
    rw [List.length_take, hl] at hi
    have hi : i < fs.length := by omega
    rw [List.getElem?_take_of_lt hi] at e
    exact ⟨hi, e⟩
  have lowv : ∀ {i : Nat} {v : Option V}, i < fs.length → ((σ ++ [some u])[i]? = some v ↔ σ[i]? = some v) := fun {i v} hi => by
    rw [List.getElem?_append_left (by rw [← T0.len]; exact hi)]
  refine ⟨T.gh, T.rh, T.br, by rw [List.length_take, hl, ← T0.len]; omega, fun i s e => ?_, fun i j s t v e1 e2 m1 m2 v1 v2 => ?_, fun q n w hq => ?_, fun i d' e => ?_⟩
  · obtain ⟨hi, e⟩ := low e
    obtain ⟨v, a, b⟩ := T.sl i s e
    exact ⟨v, (lowv hi).mp a, b⟩
  · obtain ⟨hi, e1⟩ := low e1
    obtain ⟨hj, e2⟩ := low e2
    exact T.inj i j s t v e1 e2 m1 m2 ((lowv hi).mpr v1) ((lowv hj).mpr v2)
  · obtain ⟨⟨d', h1, h2⟩, hm⟩ := T.io q n w hq
    obtain ⟨⟨d0, h3, _⟩, _⟩ := T0.io q n w hq
    have hi := (List.getElem?_eq_some_iff.mp h3).1
    exact ⟨⟨d', by rw [List.getElem?_take_of_lt hi]; exact h1, (lowv hi).mp h2⟩, hm⟩
  · exact T.bp i d' (low e).2
theorem se_make {c : Str} {C : Addr} {np n : Nat} {fn : Fn} {ms : List Bool} {ta : TA} (K : Γ.mg c = some (.ref C)) (hn : LenN fl n) (hnp : n + 1 = np) (ha : SA Γ W ta fl) : SE Γ W (tMakeS C (spF Γ np fn) (WE W) ta) (bnd fl (mkM c fn ms)) := by
  intro Z R G σ H fs Q T w
  cases ef : fl fs with
  | bad => unfold bnd at w; rw [ef] at w; exact w.elim
  | ex x fs1 =>
    unfold bnd at w
    rw [ef] at w
    exact ha Z R G σ H fs _ T (by rw [ef]; exact w)
  | ok ys fs1 =>
    unfold bnd at w
    rw [ef] at w
    refine ha Z R G σ H fs _ T ?_
    rw [ef]
    intro G1 H1 us T1 g1 v1 x dx nx ndx hne
    have nx2 : (upd H1 dx (.own x)) x = none := by rw [upd_ne hne.symm]; exact nx
    have T2 := T1.alloc (o := .own x) ndx
    have T3 := T2.alloc (o := .ins C dx []) nx2
    have vo : VOk Γ R G1 σ (upd (upd H1 dx (.own x)) x (.ins C dx [])) fs1 (.own (.nd (.ins c []) [])) (.ref x) := VOk.new T2 nx2 (by intro z; cases z) ⟨C, dx, [], K, rfl, rfl, .nil⟩
    have T4 := T3.push vo
    have v4 : VsOk Γ R G1 (σ ++ [some (.ref x)]) (upd (upd H1 dx (.own x)) x (.ins C dx [])) (fs1 ++ [some (.own, .nd (.ins c []) [])]) ys us := by
      refine v1.mono fun y w hy => ?_
      have hy3 := VOk.alloc T2 nx2 (ob := .ins C dx []) (VOk.alloc T1 ndx (ob := .own x) hy)
      cases y with
      | frz d => exact hy3
      | slot i => exact preAt hy3
      | own d =>
        refine ⟨hy3.1, fun i s ei hm hv => ?_⟩
        obtain ⟨⟨q, rfl, rq, gq, oq⟩, ns⟩ := hy
        rcases appAt ei with ei | ⟨hi, ei⟩
        · rcases appAt hv with hv | ⟨hi, hv⟩
          · exact ns i s ei hm hv
          · have := (List.getElem?_eq_some_iff.mp ei).1
            rw [T1.len] at this
            omega
        · rw [hi, T1.len, lastAt] at hv
          cases hv
          obtain ⟨o, ho⟩ := oq.has
          rw [nx] at ho
          cases ho
    -- the call of __init__ over the longer frame
    have hx : (σ ++ [some (V.ref x)]).take fs1.length = σ := by
      rw [List.take_append_of_le_length (by rw [T1.len]; exact Nat.le_refl _), T1.len, List.take_length]
    have fin := callm_ok (np := np) (f := fn) (ms := ms) (W := fun cc dd τ H' => W cc dd (τ.take fs1.length) H') (Q := fun v H2 => v = .non ∧ Q (.ref x) H2) (xs := .slot fs1.length :: ys) (us := .ref x :: us) T4
      ⟨by show (σ ++ [some (V.ref x)])[fs1.length]? = _; rw [T1.len]; exact lastAt, (fun z => by cases z), v4⟩ (by rw [List.length_cons, hn _ _ _ ef, hnp]) ?_
    · have e : (fun cc dd H' => W cc dd ((σ ++ [some (V.ref x)]).take fs1.length) H') = WE W σ := by
        funext cc dd H'
        rw [hx]
      rw [e] at fin
      exact fin
    · have w : (mkM c fn ms ys fs1).Wp (PstE Γ Z R G σ Q) (PstX Γ Z R G σ W) := w
      unfold mkM at w
      cases ec : callMm fn ms (.slot fs1.length :: ys) (fs1 ++ [some (.own, .nd (.ins c []) [])]) with
      | bad => rw [ec] at w; exact w.elim
      | ex y gs =>
        rw [ec] at w
        intro G' H' cc dd T' g' xo
        show W cc dd ((σ ++ [some (V.ref x)]).take fs1.length) H'
        rw [hx]
        exact w G' H' cc dd (T1.pop T') (g1.trans g') xo
      | ok t gs =>
        rw [ec] at w
        intro G' H' u T' g' vo'
        split at w
        · rename_i hh
          cases hh
          cases vo'
          refine ⟨rfl, ?_⟩
          split at w
          · rename_i d ed
            refine w G' H' (.ref x) (T1.pop T') (g1.trans g') ?_
            obtain ⟨v, hv, ok⟩ := T'.sl _ _ ed
            rw [T1.len, lastAt] at hv
            cases hv
            refine ⟨ok, fun i s ei hm hv => ?_⟩
            have hi := (List.getElem?_eq_some_iff.mp ei).1
            rw [List.length_take] at hi
            have hi : i < fs1.length := by omega
            rw [List.getElem?_take_of_lt hi] at ei
            have := T'.inj i fs1.length s _ _ ei ed hm rfl (preAt hv) (by rw [T1.len]; exact lastAt)
            omega
          · exact w.elim
        · rename_i hh
          cases hh
        · exact w.elim
structure CalK (X : Cx) (c : Str) (np : Nat) (fn : Fn) : Prop where
  ex : ∃ (C : Addr) (j : Nat) (g : Addr) (fd : FuncData) (ps : List Str), X.mg c = some (.ref C) ∧ Mk X.K C g ∧ FnOk X.prog X.w X.K X.mg X.base (L2.CX X.prog X.w) j g fd ps (spF (GX X) np fn) ∧ Room (j + 1) X.A ∧ Binds X.K fd ps []
theorem x_make {c : Str} {np n : Nat} {fn : Fn} {ms : List Bool} (k : Ctl X W) (F : CalK X c np fn) (hn : LenN fl n) (ha : TAX X W (e :: es) fl) (hnp : n + 1 = np := by rfl) (hg : Gl X c := by rfl) (hdb : (c == ("__debug__" : Str)) = false := by decide) (he : starEach (e :: es) X.env = (false, eval e X.env) :: starEach es X.env := by rfl)
    (hpl : (backTo pos (starEach es X.env)).any (·.1) = false := by rfl) : TX X W (.Call (.Name c p) (e :: es) [] pos) (bnd fl (mkM c fn ms)) := by
  obtain ⟨C, j, g, fd, ps, hm, M, F, hr, hb⟩ := F.ex
  exact .of (pe_makeS M F hr hg hm hb k.pass ha.pa hdb he hpl) (se_make hm hn hnp sa_c)

/-! ### o.f = e, o a slot's instance -/
def putD (f : Str) (y : D) : List Str → List D → Option (List Str × List D)
  | [], [] => some ([f], [y])
  | n :: ns, x :: xs => if n = f then some (n :: ns, y :: xs) else (putD f y ns xs).map fun q => (n :: q.1, x :: q.2)
  | _, _ => none
theorem putD_ok {f : Str} {y : D} {v : V} : ∀ {ns : List Str} {xs : List D} {vs : List V} {ns' : List Str} {xs' : List D}, RepA Γ G xs vs → Rep Γ G y v → putD f y ns xs = some (ns', xs') → ns.length = vs.length →
    ∃ vs', putF f v (ns.zip vs) = ns'.zip vs' ∧ ns'.length = vs'.length ∧ RepA Γ G xs' vs'
  | [], [], _, _, _, .nil, ry, h, _ => by
    unfold putD at h
    cases h
    exact ⟨[v], rfl, rfl, .cons ry .nil⟩
  | [], _ :: _, _, _, _, _, _, h, _ => by unfold putD at h; cases h
  | _ :: _, [], _, _, _, _, _, h, _ => by unfold putD at h; cases h
  | n :: ns, x :: xs, _, ns', xs', .cons (v := w) (vs := ws) hx r, ry, h, hl => by
    unfold putD at h
    rw [List.zip_cons_cons]
    unfold putF
    by_cases e : n = f
    · rw [if_pos e] at h ⊢
      cases h
      exact ⟨v :: ws, rfl, hl, .cons ry r⟩
    · rw [if_neg e] at h ⊢
      obtain ⟨q, hq, eq⟩ := Option.map_eq_some_iff.mp h
      cases eq
      obtain ⟨vs', h1, h2, h3⟩ := putD_ok r ry (ns' := q.1) (xs' := q.2) hq (by simpa using hl)
      exact ⟨w :: vs', by rw [h1]; rfl, by rw [List.length_cons, List.length_cons, h2], .cons hx h3⟩
def sfld (c f : Str) (fo fv : M Tv) : S := sbnd (bnd fv frzV) fun y => sbnd fo fun x fs => match x with
  | .slot i => match fs[i]? with
    | some (some (m, d)) => if m.mut = true then match insOf c d with
        | some (ns, xs) => if ns.length < 1000 then match putD f y ns xs with
            | some (ns', xs') => .nx (fs.set i (some (m, .nd (.ins c ns') xs')))
            | none => .bad
          else .bad
        | none => .bad
      else .bad
    | _ => .bad
  | _ => .bad
theorem OwnAt.ins {c : Str} {d : D} {q : Addr} {ns : List Str} {xs : List D} (h : OwnAt Γ G H q d) (e : insOf c d = some (ns, xs)) : ∃ C dx vs, Γ.mg c = some (.ref C) ∧ H q = some (.ins C dx (ns.zip vs)) ∧ ns.length = vs.length ∧ RepA Γ G xs vs := by
  unfold insOf at e
  split at e
  · split at e
    · rename_i hk
      cases e
      subst hk
      obtain ⟨_, o, ho, C, dx, vs, hm, rfl, hl, r⟩ := h
      exact ⟨C, dx, vs, hm, ho, hl, r⟩
    · cases e
  · cases e
theorem s_fld {c f : Str} {C : Addr} {fv : M Tv} {pos' : Pos} {value : Expr} (K : ClsX X c C) (hn : NoAttr X.K C f) (ho : TX X W o fo) (hv : TX X W value fv) (hs : swapsWith value (some (.Attribute o f pos')) pos.line X.env = pure false := by rfl) :
    TSX X W (.Assign [.Attribute o f pos'] value pos) (sfld c f fo fv) := by
  refine .of (ps_fld ho.pe hv.pe hs) fun Z R G σ H fs D T w => ?_
  have w2 : (bnd fv frzV fs).Wp (fun y fs1 => SWp (GX X) Z R G W D (sbnd fo (fun x fs => match x with
    | .slot i => match fs[i]? with
      | some (some (m, d)) => if m.mut = true then match insOf c d with
          | some (ns, xs) => if ns.length < 1000 then match putD f y ns xs with
              | some (ns', xs') => SOut.nx (fs.set i (some (m, .nd (.ins c ns') xs')))
              | none => .bad
            else .bad
          | none => .bad
        else .bad
      | _ => .bad
    | _ => .bad) fs1)) (PstX (GX X) Z R G σ W) := swp_bnd w fun _ _ q => q
  refine se_c Z R G σ H fs _ T ((wp_bnd.mp w2).mono (fun y fs1 h1 G1 H1 u T1 g1 v1 => ?_) fun _ _ q => q)
  rcases frzV_out y fs1 with ⟨dy, fs2, e⟩ | e
  · rw [e] at h1
    obtain ⟨G2, T2, g2, r2, _⟩ := T1.frzV v1 e
    have gg := g1.trans g2
    refine se_c Z R G2 σ H1 fs2 _ T2 (swp_bnd (SWp.grow gg h1) fun x fs3 h3 G3 H3 w3 T3 g3 v3 => ?_)
    split at h3
    · rename_i i
      have hi : σ[i]? = some (some w3) := v3
      split at h3
      · rename_i m d ei
        by_cases hm : m.mut = true
        · rw [if_pos hm] at h3
          split at h3
          · rename_i ns xs e3
            by_cases hl : ns.length < 1000
            · rw [if_pos hl] at h3
              split at h3
              · rename_i ns' xs' e4
                obtain ⟨q, hq, rq, gq, ow⟩ := T3.mutAt ei hm
                rw [hi] at hq
                cases hq
                obtain ⟨C', dx, vs, hmg, hh, hl2, r⟩ := ow.ins e3
                have := hmg.symm.trans K.mg
                cases this
                obtain ⟨vs', p1, p2, p3⟩ := putD_ok r (r2.mono g3.1) e4 hl2
                refine ⟨q, C, dx, _, rfl, hh, K.cls, hn, by rw [List.length_zip]; omega, ?_⟩
                rw [p1]
                exact h3 σ G3 _ (T3.write ei hm hi (by intro z; cases z) ⟨C, dx, vs', K.mg, rfl, p2, p3⟩) g3
              · exact h3.elim
            · rw [if_neg hl] at h3
              exact h3.elim
          · exact h3.elim
        · rw [if_neg hm] at h3
          exact h3.elim
      · exact h3.elim
    · exact h3.elim
  · rw [e] at h1
    exact h1.elim
end
end TL

/-! Built-in functions. -/
namespace TL
open PySem PySem.Spec PyProof.Rows L2
section
variable {X : Cx} {W : WX} {e o a b c tg : Expr} {es : List Expr} {pos p apos : Pos} {f fa fb fc fo : M Tv} {fl : M (List Tv)} {Γ : Gm} {Z : Zf} {R G H : Hp} {σ : L2.St} {fs fs' : Fs}
theorem x_cb {x : Str} {id : String} {r : List V → Hp → VK → Prop} {k : List Tv → M Tv} (hc : CallR X (.builtin id) r) (hs : SRA (GX X) W r k) (hm : X.mg x = none) (hv : bootBuiltins x = some (.builtin id)) (ha : TAX X W (e :: es) fl) (hg : Gl X x := by rfl) (hn : x ≠ "__name__" := by decide) (hdb : (x == ("__debug__" : Str)) = false := by decide)
    (he : starEach (e :: es) X.env = (false, eval e X.env) :: starEach es X.env := by rfl) (hpl : (backTo pos (starEach es X.env)).any (·.1) = false := by rfl) : TX X W (.Call (.Name x p) (e :: es) [] pos) (bnd fl k) := .of (pe_callB hc hg hm hv ha.pa hn hdb he hpl) (se_cb sa_c hs)
theorem x_ct {x : Str} {T : String} {r : List V → Hp → VK → Prop} {k : List Tv → M Tv} (hc : CallR X (.type T) r) (hs : SRA (GX X) W r k) (hm : X.mg x = none) (hv : bootBuiltins x = some (.type T)) (ha : TAX X W (e :: es) fl) (hg : Gl X x := by rfl) (hn : x ≠ "__name__" := by decide) (hdb : (x == ("__debug__" : Str)) = false := by decide)
    (he : starEach (e :: es) X.env = (false, eval e X.env) :: starEach es X.env := by rfl) (hpl : (backTo pos (starEach es X.env)).any (·.1) = false := by rfl) : TX X W (.Call (.Name x p) (e :: es) [] pos) (bnd fl k) := .of (pe_callTy hc hg hm hv ha.pa hn hdb he hpl) (se_cb sa_c hs)
def on1 (g : D → Option Tv) : List Tv → M Tv
  | [x] => dop1 g x
  | _ => badE
def on2 (g : D → D → Option Tv) : List Tv → M Tv
  | [x, y] => dop2 g x y
  | _ => badE
theorem sra1 {r : List V → Hp → VK → Prop} {g : D → Option Tv} (h : ∀ (Z : Zf) (R G : Hp) (σ : L2.St) (H : Hp) (fs : Fs) (d : D) (u : V) (t : Tv) (Q : VK), TI Γ Z R G σ H fs → RdH Γ G H d u → g d = some t → PstE Γ Z R G σ Q t fs → r [u] H Q) : SRA Γ W r (on1 g) := by
  intro Z R G σ H fs xs us Q T hv w
  match xs, us, hv, w with
  | [x], [u], hv, w => exact sr1_dop (r := fun v H Q => r [v] H Q) h Z R G σ H fs x u Q T hv.1 w
  | [], _, _, w => exact w.elim
  | _ :: _ :: _, _, _, w => exact w.elim
  | [_], [], hv, _ => exact hv.elim
  | [_], _ :: _ :: _, hv, _ => exact hv.2.2.elim
theorem sra2 {r : List V → Hp → VK → Prop} {g : D → D → Option Tv} (h : ∀ (Z : Zf) (R G : Hp) (σ : L2.St) (H : Hp) (fs : Fs) (d e : D) (u w : V) (t : Tv) (Q : VK), TI Γ Z R G σ H fs → RdH Γ G H d u → RdH Γ G H e w → g d e = some t → PstE Γ Z R G σ Q t fs → r [u, w] H Q) : SRA Γ W r (on2 g) := by
  intro Z R G σ H fs xs us Q T hv w
  match xs, us, hv, w with
  | [x, y], [u, v], hv, w => exact sr2_dop (r := fun u v H Q => r [u, v] H Q) h Z R G σ H fs x y u v Q T hv.1 hv.2.2.1 (fun a b => hv.2.1 a 0 y v rfl rfl b) w
  | [], _, _, w => exact w.elim
  | [_], _, _, w => exact w.elim
  | _ :: _ :: _ :: _, _, _, w => exact w.elim
  | [_, _], [], hv, _ => exact hv.elim
  | [_, _], [_], hv, _ => exact hv.2.2.elim
  | [_, _], _ :: _ :: _ :: _, hv, _ => exact hv.2.2.2.2.elim

/-! ### len -/
def lenD : D → Option Tv
  | .at (.str z) => ifS (z.length ≤ lineN) (aI (z.length : Nat))
  | .nd .lst xs => some (aI (xs.length : Nat))
  | .nd .scr xs => some (aI (xs.length : Nat))
  | .nd .tup xs => some (aI (xs.length : Nat))
  | .nd .ktp xs => some (aI (xs.length : Nat))
  | .nd .dK xs => some (aI (xs.length : Nat))
  | _ => none
def rLenA (K : PySem.W.Frag) : List V → Hp → VK → Prop := fun xs H Q => (∃ x n, xs = [x] ∧ LenV K x H n ∧ Q (.int n) H) ∨ ∃ a kvs, xs = [V.ref a] ∧ Rd H a (.dK kvs) ∧ Q (.int (kvs.length : Nat)) H
theorem call_lenR : CallR X (.builtin "len") (fun xs H Q => ∃ a kvs, xs = [V.ref a] ∧ Rd H a (.dK kvs) ∧ Q (.int (kvs.length : Nat)) H) := by
  intro pins s σ H xs us Q I r h
  obtain ⟨a, kvs, rfl, ha, q⟩ := h
  rw [Vals.ref1 r]
  exact d_len I ha fun t s' I' => ⟨.int _, H, I', ⟨t, rfl⟩, q⟩
theorem call_lenA : CallR X (.builtin "len") (rLenA X.K) := call_len.or call_lenR
theorem RepK.len : ∀ {d : List D} {v : List (Key × V)}, RepK Γ G d v → d.length = v.length
  | _, _, .nil => rfl
  | _, _, .cons _ r => by rw [List.length_cons, List.length_cons, r.len]
theorem sr_len : SRA Γ W (rLenA Γ.K) (on1 lenD) := sra1 fun Z R G σ H fs d u t Q T hd hg hq => by
  unfold lenD at hg
  split at hg
  · obtain ⟨c, rfl⟩ := ifS_some hg
    cases hd
    exact .inl ⟨_, _, rfl, ⟨line_le c, rfl⟩, hq.at T⟩
  · cases hg
    obtain ⟨p, vs, rfl, h, r⟩ := hd
    exact .inl ⟨_, _, rfl, .inl ⟨vs, SqL.of h, r.len⟩, hq.at T⟩
  · cases hg
    obtain ⟨p, vs, rfl, h, r⟩ := hd
    exact .inl ⟨_, _, rfl, .inl ⟨vs, h, r.len⟩, hq.at T⟩
  · cases hg
    obtain ⟨p, vs, rfl, h, r⟩ := hd
    exact .inl ⟨_, _, rfl, .inr ⟨vs, SqT.of (T.gh _ _ h), r.len⟩, hq.at T⟩
  · cases hg
    obtain ⟨p, vs, rfl, h, r⟩ := hd
    exact .inl ⟨_, _, rfl, .inr ⟨vs, h, r.len⟩, hq.at T⟩
  · cases hg
    obtain ⟨p, kvs, rfl, h, r⟩ := hd
    refine .inr ⟨p, kvs, rfl, h, ?_⟩
    rw [← r.len]
    exact hq.at T
  · cases hg
theorem x_len (hm : X.mg "len" = none) (ha : TAX X W (e :: es) fl) (hg : Gl X "len" := by rfl) (he : starEach (e :: es) X.env = (false, eval e X.env) :: starEach es X.env := by rfl) (hpl : (backTo pos (starEach es X.env)).any (·.1) = false := by rfl) : TX X W (.Call (.Name "len" p) (e :: es) [] pos) (bnd fl (on1 lenD)) :=
  x_cb call_lenA sr_len hm PySem.boot_len ha hg (by decide) (by decide) he hpl

/-! ### list, tuple -/
def listD : D → Option Tv
  | .nd .lst xs => some (.own (.nd .lst xs))
  | .nd .scr xs => some (.own (.nd .lst xs))
  | .nd .tup xs => some (.own (.nd .lst xs))
  | .nd .ktp xs => some (.own (.nd .lst xs))
  | _ => none
theorem sr_list : SRA Γ W (fun xs H Q => ∃ p ys, xs = [.ref p] ∧ (SqL Γ.K H p ys ∨ SqT Γ.K H p ys) ∧ ∀ l, H l = none → Q (.ref l) (upd H l (.lst ys))) (on1 listD) := sra1 fun Z R G σ H fs d u t Q T hd hg hq => by
  unfold listD at hg
  split at hg
  · cases hg
    obtain ⟨p, vs, rfl, h, r⟩ := hd
    exact ⟨p, vs, rfl, .inl (SqL.of h), fun q hn => hq.new T r hn⟩
  · cases hg
    obtain ⟨p, vs, rfl, h, r⟩ := hd
    exact ⟨p, vs, rfl, .inl h, fun q hn => hq.new T r hn⟩
  · cases hg
    obtain ⟨p, vs, rfl, h, r⟩ := hd
    exact ⟨p, vs, rfl, .inr (SqT.of (T.gh _ _ h)), fun q hn => hq.new T r hn⟩
  · cases hg
    obtain ⟨p, vs, rfl, h, r⟩ := hd
    exact ⟨p, vs, rfl, .inr h, fun q hn => hq.new T r hn⟩
  · cases hg
theorem x_list (hm : X.mg "list" = none) (ha : TAX X W (e :: es) fl) (hg : Gl X "list" := by rfl) (he : starEach (e :: es) X.env = (false, eval e X.env) :: starEach es X.env := by rfl) (hpl : (backTo pos (starEach es X.env)).any (·.1) = false := by rfl) : TX X W (.Call (.Name "list" p) (e :: es) [] pos) (bnd fl (on1 listD)) :=
  x_ct call_list_of sr_list hm PyProof.Rows.boot_list ha hg (by decide) (by decide) he hpl
def tupD : D → Option Tv
  | .nd .lst xs => some (.frz (.nd .tup xs))
  | .nd .scr xs => some (.frz (.nd .tup xs))
  | .nd .tup xs => some (.frz (.nd .tup xs))
  | _ => none
theorem sr_tuple : SRA Γ W (fun xs H Q => ∃ p ys, xs = [.ref p] ∧ ((SqL Γ.K H p ys ∧ ∀ l, H l = none → Q (.ref l) (upd H l (.tup ys))) ∨ (SqT Γ.K H p ys ∧ Q (.ref p) H))) (on1 tupD) := sra1 fun Z R G σ H fs d u t Q T hd hg hq => by
  unfold tupD at hg
  split at hg
  · cases hg
    obtain ⟨p, vs, rfl, h, r⟩ := hd
    exact ⟨p, vs, rfl, .inl ⟨SqL.of h, fun q hn => hq.newT T r hn⟩⟩
  · cases hg
    obtain ⟨p, vs, rfl, h, r⟩ := hd
    exact ⟨p, vs, rfl, .inl ⟨h, fun q hn => hq.newT T r hn⟩⟩
  · cases hg
    obtain ⟨p, vs, rfl, h, r⟩ := hd
    exact ⟨p, vs, rfl, .inr ⟨SqT.of (T.gh _ _ h), hq.rep T (.tup h r)⟩⟩
  · cases hg
theorem x_tuple (hm : X.mg "tuple" = none) (ha : TAX X W (e :: es) fl) (hg : Gl X "tuple" := by rfl) (he : starEach (e :: es) X.env = (false, eval e X.env) :: starEach es X.env := by rfl) (hpl : (backTo pos (starEach es X.env)).any (·.1) = false := by rfl) : TX X W (.Call (.Name "tuple" p) (e :: es) [] pos) (bnd fl (on1 tupD)) :=
  x_ct call_tuple_of sr_tuple hm PyProof.Rows.boot_tuple ha hg (by decide) (by decide) he hpl

/-! ### int, abs, max, min -/
def intD : D → Option Tv
  | .at (.int i) => some (aI i)
  | .at (.bl k) => some (aI (if k then 1 else 0))
  | _ => none
theorem x_intc (hm : X.mg "int" = none) (ha : TAX X W (e :: es) fl) (hg : Gl X "int" := by rfl) (he : starEach (e :: es) X.env = (false, eval e X.env) :: starEach es X.env := by rfl) (hpl : (backTo pos (starEach es X.env)).any (·.1) = false := by rfl) : TX X W (.Call (.Name "int" p) (e :: es) [] pos) (bnd fl (on1 intD)) :=
  x_ct call_int1 (sra1 fun Z R G σ H fs d u t Q T hd hg hq => by
    unfold intD at hg
    split at hg
    · cases hg; cases hd; exact .inl ⟨_, rfl, hq.at T⟩
    · cases hg; cases hd; exact .inr ⟨_, rfl, hq.at T⟩
    · cases hg) hm PyProof.Rows.boot_int ha hg (by decide) (by decide) he hpl
theorem b_abs : bootBuiltins "abs" = some (.builtin "abs") := by decide +kernel
theorem b_max : bootBuiltins "max" = some (.builtin "max") := by decide +kernel
theorem b_min : bootBuiltins "min" = some (.builtin "min") := by decide +kernel
theorem b_sum : bootBuiltins "sum" = some (.builtin "sum") := by decide +kernel
theorem b_any : bootBuiltins "any" = some (.builtin "any") := by decide +kernel
theorem b_all : bootBuiltins "all" = some (.builtin "all") := by decide +kernel
theorem b_sorted : bootBuiltins "sorted" = some (.builtin "sorted") := by decide +kernel
theorem b_isi : bootBuiltins "isinstance" = some (.builtin "isinstance") := by decide +kernel
def absD : D → Option Tv
  | .at (.int i) => some (aI (if i < 0 then -i else i))
  | _ => none
theorem x_abs (hm : X.mg "abs" = none) (ha : TAX X W (e :: es) fl) (hg : Gl X "abs" := by rfl) (he : starEach (e :: es) X.env = (false, eval e X.env) :: starEach es X.env := by rfl) (hpl : (backTo pos (starEach es X.env)).any (·.1) = false := by rfl) : TX X W (.Call (.Name "abs" p) (e :: es) [] pos) (bnd fl (on1 absD)) :=
  x_cb call_abs (sra1 fun Z R G σ H fs d u t Q T hd hg hq => by
    unfold absD at hg
    split at hg
    · cases hg; cases hd; exact ⟨_, rfl, hq.at T⟩
    · cases hg) hm b_abs ha hg (by decide) (by decide) he hpl
def maxD : D → D → Option Tv
  | .at (.int i), .at (.int j) => some (aI (if j > i then j else i))
  | _, _ => none
def minD : D → D → Option Tv
  | .at (.int i), .at (.int j) => some (aI (if j < i then j else i))
  | _, _ => none
theorem x_max2 (k : Ctl X W) (hm : X.mg "max" = none) (ha : TAX X W (e :: es) fl) (hg : Gl X "max" := by rfl) (he : starEach (e :: es) X.env = (false, eval e X.env) :: starEach es X.env := by rfl) (hpl : (backTo pos (starEach es X.env)).any (·.1) = false := by rfl) : TX X W (.Call (.Name "max" p) (e :: es) [] pos) (bnd fl (on2 maxD)) :=
  x_cb (call_max2 k.calm) (sra2 fun Z R G σ H fs d e u w t Q T hd he hg hq => by
    unfold maxD at hg
    split at hg
    · cases hg; cases hd; cases he; exact ⟨_, _, rfl, hq.at T⟩
    · cases hg) hm b_max ha hg (by decide) (by decide) he hpl
theorem x_min2 (k : Ctl X W) (hm : X.mg "min" = none) (ha : TAX X W (e :: es) fl) (hg : Gl X "min" := by rfl) (he : starEach (e :: es) X.env = (false, eval e X.env) :: starEach es X.env := by rfl) (hpl : (backTo pos (starEach es X.env)).any (·.1) = false := by rfl) : TX X W (.Call (.Name "min" p) (e :: es) [] pos) (bnd fl (on2 minD)) :=
  x_cb (call_min2 k.calm) (sra2 fun Z R G σ H fs d e u w t Q T hd he hg hq => by
    unfold minD at hg
    split at hg
    · cases hg; cases hd; cases he; exact ⟨_, _, rfl, hq.at T⟩
    · cases hg) hm b_min ha hg (by decide) (by decide) he hpl

/-! ### sum, any, all, sorted: lists -/
def intsD : List D → Option (List Int)
  | [] => some []
  | .at (.int i) :: r => (intsD r).map (i :: ·)
  | _ => none
def blsD : List D → Option (List Bool)
  | [] => some []
  | .at (.bl i) :: r => (blsD r).map (i :: ·)
  | _ => none
def strsD : List D → Option (List Str)
  | [] => some []
  | .at (.str i) :: r => (strsD r).map (i :: ·)
  | _ => none
theorem intsD_ok : ∀ {xs : List D} {vs : List V} {ns : List Int}, RepA Γ G xs vs → intsD xs = some ns → vs = ns.map V.int
  | [], _, ns, .nil, h => by cases h; rfl
  | .at (.int i) :: r, _, ns, .cons hx rr, h => by
    obtain ⟨ms, h1, rfl⟩ := Option.map_eq_some_iff.mp h
    cases hx
    rw [intsD_ok rr h1]
    rfl
  | .at .non :: _, _, _, _, h => by cases h
  | .at (.bl _) :: _, _, _, _, h => by cases h
  | .at (.str _) :: _, _, _, _, h => by cases h
  | .nd _ _ :: _, _, _, _, h => by cases h
theorem blsD_ok : ∀ {xs : List D} {vs : List V} {ns : List Bool}, RepA Γ G xs vs → blsD xs = some ns → vs = ns.map V.bl
  | [], _, ns, .nil, h => by cases h; rfl
  | .at (.bl i) :: r, _, ns, .cons hx rr, h => by
    obtain ⟨ms, h1, rfl⟩ := Option.map_eq_some_iff.mp h
    cases hx
    rw [blsD_ok rr h1]
    rfl
  | .at .non :: _, _, _, _, h => by cases h
  | .at (.int _) :: _, _, _, _, h => by cases h
  | .at (.str _) :: _, _, _, _, h => by cases h
  | .nd _ _ :: _, _, _, _, h => by cases h
theorem strsD_ok : ∀ {xs : List D} {vs : List V} {ns : List Str}, RepA Γ G xs vs → strsD xs = some ns → vs = ns.map V.str
  | [], _, ns, .nil, h => by cases h; rfl
  | .at (.str i) :: r, _, ns, .cons hx rr, h => by
    obtain ⟨ms, h1, rfl⟩ := Option.map_eq_some_iff.mp h
    cases hx
    rw [strsD_ok rr h1]
    rfl
  | .at .non :: _, _, _, _, h => by cases h
  | .at (.int _) :: _, _, _, _, h => by cases h
  | .at (.bl _) :: _, _, _, _, h => by cases h
  | .nd _ _ :: _, _, _, _, h => by cases h
theorem repA_ints : ∀ ns : List Int, RepA Γ G (ns.map fun i => D.at (.int i)) (ns.map V.int)
  | [] => .nil
  | i :: r => .cons (.at (.int i)) (repA_ints r)
theorem repA_strs : ∀ ns : List Str, RepA Γ G (ns.map fun i => D.at (.str i)) (ns.map V.str)
  | [] => .nil
  | i :: r => .cons (.at (.str i)) (repA_strs r)
/-- a list's items, and where it stands -/
def lstD : D → Option (List D)
  | .nd .lst xs => some xs
  | .nd .scr xs => some xs
  | _ => none
theorem lstD_ok {Z : Zf} {d : D} {u : V} {xs : List D} (h : RdH Γ G H d u) (e : lstD d = some xs) : ∃ a vs, u = .ref a ∧ SqL Γ.K H a vs ∧ RepA Γ G xs vs := by
  unfold lstD at e
  split at e
  · cases e
    obtain ⟨p, vs, rfl, h, r⟩ := h
    exact ⟨p, vs, rfl, SqL.of h, r⟩
  · cases e
    obtain ⟨p, vs, rfl, h, r⟩ := h
    exact ⟨p, vs, rfl, h, r⟩
  · cases e
def sumD (d : D) : Option Tv := (lstD d).bind fun xs => (intsD xs).map fun ns => aI ns.sum
theorem x_sum (k : Ctl X W) (hm : X.mg "sum" = none) (ha : TAX X W (e :: es) fl) (hg : Gl X "sum" := by rfl) (he : starEach (e :: es) X.env = (false, eval e X.env) :: starEach es X.env := by rfl) (hpl : (backTo pos (starEach es X.env)).any (·.1) = false := by rfl) : TX X W (.Call (.Name "sum" p) (e :: es) [] pos) (bnd fl (on1 sumD)) :=
  x_cb (cr_sum k.calm) (sra1 fun Z R G σ H fs d u t Q T hd hg hq => by
    obtain ⟨xs, e1, e2⟩ := Option.bind_eq_some_iff.mp hg
    obtain ⟨ns, e3, rfl⟩ := Option.map_eq_some_iff.mp e2
    obtain ⟨q, vs, rfl, hs, r⟩ := lstD_ok (Z := Z) hd e1
    exact ⟨q, ns, rfl, by rw [← intsD_ok r e3]; exact hs, hq.at T⟩) hm b_sum ha hg (by decide) (by decide) he hpl
def anyD (d : D) : Option Tv := (lstD d).bind fun xs => (blsD xs).map fun ns => aB (ns.any id)
def allD (d : D) : Option Tv := (lstD d).bind fun xs => (blsD xs).map fun ns => aB (ns.all id)
theorem x_any (k : Ctl X W) (hm : X.mg "any" = none) (ha : TAX X W (e :: es) fl) (hg : Gl X "any" := by rfl) (he : starEach (e :: es) X.env = (false, eval e X.env) :: starEach es X.env := by rfl) (hpl : (backTo pos (starEach es X.env)).any (·.1) = false := by rfl) : TX X W (.Call (.Name "any" p) (e :: es) [] pos) (bnd fl (on1 anyD)) :=
  x_cb (cr_any k.calm) (sra1 fun Z R G σ H fs d u t Q T hd hg hq => by
    obtain ⟨xs, e1, e2⟩ := Option.bind_eq_some_iff.mp hg
    obtain ⟨ns, e3, rfl⟩ := Option.map_eq_some_iff.mp e2
    obtain ⟨q, vs, rfl, hs, r⟩ := lstD_ok (Z := Z) hd e1
    exact ⟨q, ns, rfl, by rw [← blsD_ok r e3]; exact hs, hq.at T⟩) hm b_any ha hg (by decide) (by decide) he hpl
theorem x_all (k : Ctl X W) (hm : X.mg "all" = none) (ha : TAX X W (e :: es) fl) (hg : Gl X "all" := by rfl) (he : starEach (e :: es) X.env = (false, eval e X.env) :: starEach es X.env := by rfl) (hpl : (backTo pos (starEach es X.env)).any (·.1) = false := by rfl) : TX X W (.Call (.Name "all" p) (e :: es) [] pos) (bnd fl (on1 allD)) :=
  x_cb (cr_all k.calm) (sra1 fun Z R G σ H fs d u t Q T hd hg hq => by
    obtain ⟨xs, e1, e2⟩ := Option.bind_eq_some_iff.mp hg
    obtain ⟨ns, e3, rfl⟩ := Option.map_eq_some_iff.mp e2
    obtain ⟨q, vs, rfl, hs, r⟩ := lstD_ok (Z := Z) hd e1
    exact ⟨q, ns, rfl, by rw [← blsD_ok r e3]; exact hs, hq.at T⟩) hm b_all ha hg (by decide) (by decide) he hpl
/-- texts in order -/
def leS (x y : Str) : Bool := !ltCps y.cps.toList x.cps.toList
theorem leS_eq {x y : Str} : leS x y = !decide (y.cps.toList < x.cps.toList) := by unfold leS; rw [ltCps_eq]
def insS (x : Str) : List Str → List Str
  | [] => [x]
  | y :: r => if leS x y = true then x :: y :: r else y :: insS x r
def sortS (l : List Str) : List Str := l.foldr insS []
theorem insS_perm (x : Str) : ∀ l, (insS x l).Perm (x :: l)
  | [] => .refl _
  | y :: r => by
    unfold insS
    split
    · exact .refl _
    · exact ((insS_perm x r).cons y).trans (.swap x y r)
theorem sortS_perm : ∀ l, (sortS l).Perm l
  | [] => .refl _
  | x :: r => (insS_perm x _).trans ((sortS_perm r).cons x)
theorem lt_tri (a b : List Nat) (h1 : ¬ a < b) (h2 : ¬ b < a) : a = b := List.le_antisymm (List.not_lt.mp h2) (List.not_lt.mp h1)
theorem leS_anti {x y : Str} (h1 : leS x y = true) (h2 : leS y x = true) : x = y := by
  rw [leS_eq] at h1 h2
  have := lt_tri x.cps.toList y.cps.toList (by simpa using h2) (by simpa using h1)
  obtain ⟨a⟩ := x
  obtain ⟨b⟩ := y
  have : a = b := Array.ext' this
  rw [this]
theorem leS_trans {x y z : Str} (h1 : leS x y = true) (h2 : leS y z = true) : leS x z = true := by
  rw [leS_eq] at h1 h2 ⊢
  have a : ¬ y.cps.toList < x.cps.toList := by simpa using h1
  have b : ¬ z.cps.toList < y.cps.toList := by simpa using h2
  have : ¬ z.cps.toList < x.cps.toList := fun q => by
    have c := List.le_trans (List.not_lt.mp a) (List.not_lt.mp b)
    exact List.not_lt.mpr c q
  simpa using this
theorem leS_total {x y : Str} (h : leS x y = false) : leS y x = true := by
  rw [leS_eq] at h ⊢
  have a : y.cps.toList < x.cps.toList := by simpa using h
  have b : ¬ x.cps.toList < y.cps.toList := fun q => List.lt_irrefl _ (List.lt_trans a q)
  simpa using b
theorem insS_up (x : Str) : ∀ l, l.Pairwise (fun a b => leS a b = true) → (insS x l).Pairwise (fun a b => leS a b = true)
  | [], _ => .cons (fun _ h => by cases h) .nil
  | y :: r, h => by
    obtain ⟨h1, h2⟩ := List.pairwise_cons.mp h
    unfold insS
    split
    · rename_i c
      refine List.pairwise_cons.mpr ⟨fun z hz => ?_, h⟩
      rcases List.mem_cons.mp hz with rfl | hz
      · exact c
      · exact leS_trans c (h1 z hz)
    · rename_i c
      refine List.pairwise_cons.mpr ⟨fun z hz => ?_, insS_up x r h2⟩
      rcases List.mem_cons.mp ((insS_perm x r).mem_iff.mp hz) with rfl | hz
      · exact leS_total (by simpa using c)
      · exact h1 z hz
theorem sortS_up : ∀ l, (sortS l).Pairwise (fun a b => leS a b = true)
  | [] => .nil
  | x :: r => insS_up x _ (sortS_up r)
theorem rising_up : ∀ (r : List Str) (x : Str), risingS x r = true → (x :: r).Pairwise (fun a b => leS a b = true)
  | [], x, _ => .cons (fun _ h => by cases h) .nil
  | y :: r, x, h => by
    have h : (!ltCps y.cps.toList x.cps.toList && risingS y r) = true := h
    rw [Bool.and_eq_true] at h
    have p := rising_up r y h.2
    refine .cons (fun z hz => ?_) p
    have xy : leS x y = true := h.1
    rcases List.mem_cons.mp hz with rfl | hz
    · exact xy
    · exact leS_trans xy ((List.pairwise_cons.mp p).1 z hz)
theorem sorted_up : ∀ {ys : List Str}, sortedS ys = true → ys.Pairwise (fun a b => leS a b = true)
  | [], _ => .nil
  | x :: r, h => rising_up r x h
theorem eq_sortS {l l' : List Str} (hp : l'.Perm l) (hs : l'.Pairwise (fun a b => leS a b = true)) : l' = sortS l :=
  List.Perm.eq_of_pairwise (fun _ _ _ _ a b => leS_anti a b) hs (sortS_up l) (hp.trans (sortS_perm l).symm)
def sortD (d : D) : Option Tv := (lstD d).bind fun xs => if xs.length < 64 then match intsD xs with
    | some ns => some (.own (.nd .lst ((PySem.W.sortI ns).map fun i => .at (.int i))))
    | none => match strsD xs with
      | some ns => some (.own (.nd .lst ((sortS ns).map fun i => .at (.str i))))
      | none => none
  else none
theorem x_sorted (hm : X.mg "sorted" = none) (ha : TAX X W (e :: es) fl) (hg : Gl X "sorted" := by rfl) (he : starEach (e :: es) X.env = (false, eval e X.env) :: starEach es X.env := by rfl) (hpl : (backTo pos (starEach es X.env)).any (·.1) = false := by rfl) : TX X W (.Call (.Name "sorted" p) (e :: es) [] pos) (bnd fl (on1 sortD)) :=
  x_cb (cr_sorted.or cr_sortedS) (sra1 fun Z R G σ H fs d u t Q T hd hg hq => by
    obtain ⟨xs, e1, e2⟩ := Option.bind_eq_some_iff.mp hg
    obtain ⟨q, vs, rfl, hs, r⟩ := lstD_ok (Z := Z) hd e1
    split at e2
    · rename_i hl
      split at e2
      · rename_i ns e3
        cases e2
        have ev := intsD_ok r e3
        have hl2 : ns.length < 64 := by rw [r.len, ev, List.length_map] at hl; exact hl
        refine .inl ⟨q, ns, rfl, by rw [← ev]; exact hs, hl2, fun ns' p hp hw hn => ?_⟩
        rw [PySem.W.eq_sortI hp hw]
        exact hq.new T (repA_ints _) hn
      · split at e2
        · rename_i ns e3
          cases e2
          have ev := strsD_ok r e3
          have hl2 : ns.length < 64 := by rw [r.len, ev, List.length_map] at hl; exact hl
          refine .inr ⟨q, ns, rfl, by rw [← ev]; exact hs, hl2, fun ys p hp hw hn => ?_⟩
          rw [eq_sortS hp (sorted_up hw)]
          exact hq.new T (repA_strs _) hn
        · cases e2
    · cases e2) hm b_sorted ha hg (by decide) (by decide) he hpl

/-! ### isinstance -/
inductive Ty where
  | non | bl | int | str | lst | tup | dct
  deriving DecidableEq
def Ty.s : Ty → String
  | .non => "NoneType"
  | .bl => "bool"
  | .int => "int"
  | .str => "str"
  | .lst => "list"
  | .tup => "tuple"
  | .dct => "dict"
/-- a datum's type: a built-in one, or its class's name -/
def tagD : D → Option (Ty ⊕ Str)
  | .at .non => some (.inl .non)
  | .at (.bl _) => some (.inl .bl)
  | .at (.int _) => some (.inl .int)
  | .at (.str _) => some (.inl .str)
  | .nd .lst _ => some (.inl .lst)
  | .nd .tup _ => some (.inl .tup)
  | .nd (.ins c _) _ => some (.inr c)
  | _ => none
structure InsTy (K : PySem.W.Frag) (C : Addr) : Prop where
  cl : Cls K C
  ha : PySem.W.findIn K (.ref C) "__class__" = some (some (.builtin "object.__class__"))
  hn : PySem.W.specialIn K (.builtin "object.__class__") "__get__" = some (some (.builtin "getset_descriptor.__get__"))
  htk : PySem.W.takesIn K (.builtin "object.__class__") = some true
  hm : PySem.W.mroIn K C (.type "object") = some true
/-- isinstance of these classes' instances: the answer -/
structure IsiC (X : Cx) (T : Value) (c : Str) (b : Bool) : Prop where
  ex : ∃ C, X.mg c = some (.ref C) ∧ InsTy X.K C ∧ PySem.W.kitOne X.K (.ref C) T = some b
structure IsiX (X : Cx) (T : Value) (it : Ty ⊕ Str → Option Bool) : Prop where
  ok : ∀ t b, it t = some b → (∃ a, t = .inl a ∧ PySem.W.kitOne X.K (.type a.s) T = some b) ∨ ∃ c, t = .inr c ∧ IsiC X T c b
def isB (a T : Ty) : Bool := decide (a = T) || (decide (a = .bl) && decide (T = .int))
theorem kit_isB {K : PySem.W.Frag} (a T : Ty) : PySem.W.kitOne K (.type a.s) (.type T.s) = some (isB a T) := by
  cases a <;> cases T <;> exact kit_ty (by decide +kernel)
def isiV (it : Ty ⊕ Str → Option Bool) (x : Tv) : M Tv := fun fs => match rdv x fs with
  | some d => match tagD d with
    | some t => match it t with
      | some b => .ok (aB b) fs
      | none => .bad
    | none => .bad
  | none => .bad
theorem tag_ty {Z : Zf} {R : Hp} (T : TI Γ Z R G σ H fs) {d : D} {u : V} (h : RdH Γ G H d u) : (∀ a, tagD d = some (.inl a) → TyX Γ.K H u (.type a.s)) ∧ ∀ c C, tagD d = some (.inr c) → Γ.mg c = some (.ref C) → InsTy Γ.K C → TyX Γ.K H u (.ref C) := by
  refine ⟨fun a e => ?_, fun c C e hm I => ?_⟩
  · unfold tagD at e
    split at e
    · cases e; cases h; exact .base .non
    · cases e; cases h; exact .base (.bl _)
    · cases e; cases h; exact .base (.int _)
    · cases e; cases h; exact .base (.str _)
    · cases e
      obtain ⟨p, vs, rfl, h, r⟩ := h
      exact .base (.lst h)
    · cases e
      obtain ⟨p, vs, rfl, h, r⟩ := h
      exact .base (.tup (T.gh _ _ h))
    · cases e
    · cases e
  · unfold tagD at e
    split at e <;> try cases e
    obtain ⟨p, C', dx, vs, rfl, hm', hh, hl, r⟩ := h
    have := hm'.symm.trans hm
    cases this
    exact .base (.ins hh I.cl I.ha I.hn I.htk I.hm)
theorem x_isi0 {T : V} {Tu : Value} {ty : Expr} {it : Ty ⊕ Str → Option Bool} (hk : ClsV T Tu) (ht : PE X ty (tC T)) (I : IsiX X Tu it) (hm : X.mg "isinstance" = none) (ha : TX X W e f) (hg : Gl X "isinstance" := by rfl)
    (hs : starEach (e :: [ty]) X.env = (false, eval e X.env) :: starEach [ty] X.env := by rfl) (hs2 : starEach (ty :: []) X.env = (false, eval ty X.env) :: starEach [] X.env := by rfl)
    (hpl : (backTo pos (starEach [ty] X.env)).any (·.1) = false := by rfl) : TX X W (.Call (.Name "isinstance" p) [e, ty] [] pos) (bnd f (isiV it)) := by
  refine .of (pe_callB call_isi hg hm b_isi (pa_cons ha.pe (pa_cons ht pa_nil hs2) hs) (by decide) (by decide) hs hpl) fun Z R G σ H fs Q T' w => ?_
  refine se_c Z R G σ H fs _ T' ((wp_bnd.mp w).mono (fun x fs1 h1 G1 H1 u T1 g1 v1 => ?_) fun _ _ q => q)
  unfold isiV at h1
  split at h1
  · rename_i d e1
    split at h1
    · rename_i t e2
      split at h1
      · rename_i b e3
        obtain ⟨ty1, ty2⟩ := tag_ty T1 (T1.rd v1 e1)
        rcases I.ok t b e3 with ⟨a, rfl, k⟩ | ⟨c, rfl, ⟨C, hC, iC, k⟩⟩
        · exact ⟨u, T, _, _, b, rfl, hk, ty1 a e2, k, h1 G1 H1 (.bl b) T1 g1 (.at (.bl b))⟩
        · exact ⟨u, T, _, _, b, rfl, hk, ty2 c C e2 hC iC, k, h1 G1 H1 (.bl b) T1 g1 (.at (.bl b))⟩
      · exact h1.elim
    · exact h1.elim
  · exact h1.elim
/-- isinstance(x, a built-in type) -/
theorem x_isiT {T : Ty} {x : Str} {it : Ty ⊕ Str → Option Bool} {p2 : Pos} (hv : bootBuiltins x = some (.type T.s)) (hmx : X.mg x = none) (I : IsiX X (.type T.s) it) (hm : X.mg "isinstance" = none) (ha : TX X W e f) (hg : Gl X "isinstance" := by rfl) (hgx : Gl X x := by rfl) (hn : x ≠ "__name__" := by decide) (hdb : (x == ("__debug__" : Str)) = false := by decide)
    (hs : starEach (e :: [.Name x p2]) X.env = (false, eval e X.env) :: starEach [.Name x p2] X.env := by rfl) (hs2 : starEach ((.Name x p2) :: []) X.env = (false, eval (.Name x p2) X.env) :: starEach [] X.env := by rfl)
    (hpl : (backTo pos (starEach [.Name x p2] X.env)).any (·.1) = false := by rfl) : TX X W (.Call (.Name "isinstance" p) [e, .Name x p2] [] pos) (bnd f (isiV it)) :=
  x_isi0 (.ty T.s) (pe_bltn hgx hmx hv rfl hn hdb) I hm ha hg hs hs2 hpl
/-- isinstance(x, an own class) -/
theorem x_isiO {x : Str} {C : Addr} {it : Ty ⊕ Str → Option Bool} {p2 : Pos} (hmx : X.mg x = some (.ref C)) (I : IsiX X (.ref C) it) (hm : X.mg "isinstance" = none) (ha : TX X W e f) (hg : Gl X "isinstance" := by rfl) (hgx : Gl X x := by rfl) (hdb : (x == ("__debug__" : Str)) = false := by decide)
    (hs : starEach (e :: [.Name x p2]) X.env = (false, eval e X.env) :: starEach [.Name x p2] X.env := by rfl) (hs2 : starEach ((.Name x p2) :: []) X.env = (false, eval (.Name x p2) X.env) :: starEach [] X.env := by rfl)
    (hpl : (backTo pos (starEach [.Name x p2] X.env)).any (·.1) = false := by rfl) : TX X W (.Call (.Name "isinstance" p) [e, .Name x p2] [] pos) (bnd f (isiV it)) :=
  x_isi0 (.own C) (pe_glob hgx hmx rfl hdb) I hm ha hg hs hs2 hpl
end
end TL

/-! Methods of built-in types, stores to items, dicts. -/
namespace TL
open PySem PySem.Spec PyProof.Rows L2
section
variable {X : Cx} {W : WX} {e o a b c tg : Expr} {es : List Expr} {pos p apos cpos : Pos} {f fa fb fc fo : M Tv} {fl : M (List Tv)} {Γ : Gm} {Z : Zf} {R G H : Hp} {σ : L2.St} {fs fs' : Fs}
/-- o.m(e, ..): the receiver's kind is looked at first -/
def bmM (ok : D → Bool) (k : List Tv → M Tv) (fo : M Tv) (fl : M (List Tv)) : M Tv := bnd fo fun x fs => match rdv x fs with
  | some d => if ok d = true then bnd fl (fun ys => k (x :: ys)) fs else .bad
  | none => .bad
def RcV (r : V → List V → Hp → VK → Prop) : List V → Hp → VK → Prop
  | u :: us, H, Q => r u us H Q
  | [], _, _ => False
theorem se_bm {T : String} {r : V → List V → Hp → VK → Prop} {ok : D → Bool} {k : List Tv → M Tv} {to : TE} {ta : TA} (hk : ∀ (G H : Hp) (d : D) (u : V), ok d = true → RdH Γ G H d u → tyV Γ.K T u H) (hs : SRA Γ W (RcV r) k) (ho : SE Γ W to fo) (ha : SA Γ W ta fl) : SE Γ W (tBM Γ.K T r to ta) (bmM ok k fo fl) := by
  intro Z R G σ H fs Q T w
  refine ho Z R G σ H fs _ T ((wp_bnd.mp w).mono (fun x fs1 h1 G1 H1 u T1 g1 v1 => ?_) fun _ _ q => q)
  cases e1 : rdv x fs1 with
  | none => simp only [e1] at h1; exact h1.elim
  | some d =>
    simp only [e1] at h1
    by_cases hd : ok d = true
    · rw [if_pos hd] at h1
      refine ⟨hk G1 H1 d u hd (T1.rd v1 e1), ?_⟩
      obtain ⟨R1, s1, T1', _, back⟩ := T1.protect v1
      refine ha Z R1 G1 σ H1 fs1 _ T1' ((wp_bnd.mp h1).mono (fun ys fs2 h2 G2 H2 us T2 g2 v2 => ?_) fun _ _ q => (q.grow g1).weak s1 T1.br)
      obtain ⟨T2', g2', v1', y'⟩ := back G2 H2 fs2 T2 g2
      exact hs Z R G2 σ H2 fs2 (x :: ys) (u :: us) Q T2' ⟨v1', fun hx i y w e1 e2 hy => (y' y w (v2.get e1 e2)).2 hx hy, v2.weak s1⟩ (h2.mono (fun _ _ q => q.grow (g1.trans g2')) fun _ _ q => q.grow (g1.trans g2'))
    · rw [if_neg hd] at h1
      exact h1.elim
theorem se_bm0 {T : String} {r : V → List V → Hp → VK → Prop} {ok : D → Bool} {k : List Tv → M Tv} {to : TE} (hk : ∀ (G H : Hp) (d : D) (u : V), ok d = true → RdH Γ G H d u → tyV Γ.K T u H) (hs : SRA Γ W (RcV r) k) (ho : SE Γ W to fo) : SE Γ W (tBM0 Γ.K T r to) (bmM ok k fo aNil) := by
  intro Z R G σ H fs Q T w
  refine ho Z R G σ H fs _ T ((wp_bnd.mp w).mono (fun x fs1 h1 G1 H1 u T1 g1 v1 => ?_) fun _ _ q => q)
  cases e1 : rdv x fs1 with
  | none => simp only [e1] at h1; exact h1.elim
  | some d =>
    simp only [e1] at h1
    by_cases hd : ok d = true
    · rw [if_pos hd] at h1
      refine ⟨hk G1 H1 d u hd (T1.rd v1 e1), ?_⟩
      exact hs Z R G1 σ H1 fs1 [x] [u] Q T1 ⟨v1, fun _ i y w e => by simp at e, True.intro⟩ ((show ((k [x]) fs1).Wp _ _ from h1).mono (fun _ _ q => q.grow g1) fun _ _ q => q.grow g1)
    · rw [if_neg hd] at h1
      exact h1.elim
def isLst : D → Bool
  | .nd .lst _ => true
  | .nd .scr _ => true
  | _ => false
theorem isLst_ty {G H : Hp} {d : D} {u : V} (h : isLst d = true) (r : RdH Γ G H d u) : tyV Γ.K "list" u H := by
  unfold isLst at h
  split at h
  · obtain ⟨p, vs, rfl, h1, _⟩ := r
    exact .inl ⟨rfl, vs, SqL.of h1⟩
  · obtain ⟨p, vs, rfl, h1, _⟩ := r
    exact .inl ⟨rfl, vs, h1⟩
  · cases h
def isStr : D → Bool
  | .at (.str _) => true
  | _ => false
theorem isStr_ty {G H : Hp} {d : D} {u : V} (h : isStr d = true) (r : RdH Γ G H d u) : tyV Γ.K "str" u H := by
  unfold isStr at h
  split at h
  · cases r
    exact rfl
  · cases h

/-! ### a slot's own list is changed -/
/-- the new items, and what is handed back (frozen), by the old items and the arguments (frozen) -/
def chgM (g : List D → List D → Option (List D × D)) : List Tv → M Tv
  | .slot i :: ys => bnd (frzA ys) fun ds fs => match fs[i]? with
    | some (some (m, .nd .lst xs)) => if m.mut = true then match g xs ds with
        | some (xs', d) => .ok (.frz d) (fs.set i (some (m, .nd .lst xs')))
        | none => .bad
      else .bad
    | _ => .bad
  | _ => badE
theorem sra_chg {r : V → List V → Hp → VK → Prop} {g : List D → List D → Option (List D × D)}
    (h : ∀ (G H : Hp) (p : Addr) (us vs : List V) (xs ds xs' : List D) (d : D) (Q : VK), Sub G H → H p = some (.lst vs) → RepA Γ G xs vs → RepA Γ G ds us → g xs ds = some (xs', d) → (∀ vs' v, RepA Γ G xs' vs' → Rep Γ G d v → Q v (upd H p (.lst vs'))) → r (.ref p) us H Q) : SRA Γ W (RcV r) (chgM g) := by
  intro Z R G σ H fs zs ws Q T hv w
  match zs, ws, hv, w with
  | .slot i :: ys, u :: us, hv, w =>
    have hi : σ[i]? = some (some u) := hv.1
    have w := wp_bnd.mp w
    rcases frzA_out ys fs with ⟨ds, fs1, e⟩ | e
    · rw [e] at w
      obtain ⟨G1, T1, g1, r1⟩ := TI.frzA T hv.2.2 e
      have w : Out.Wp (match fs1[i]? with
        | some (some (m, .nd .lst xs)) => if m.mut = true then match g xs ds with
            | some (xs', d) => Out.ok (.frz d) (fs1.set i (some (m, .nd .lst xs')))
            | none => .bad
          else .bad
        | _ => .bad) (PstE Γ Z R G σ Q) (PstX Γ Z R G σ W) := w
      split at w
      · rename_i m xs ei
        by_cases hm : m.mut = true
        · rw [if_pos hm] at w
          split at w
          · rename_i xs' d eg
            obtain ⟨q, hq, rq, gq, ow⟩ := T1.mutAt ei hm
            rw [hi] at hq
            cases hq
            obtain ⟨_, ob, ho, vs, rfl, rv⟩ := ow
            exact h G1 H q us vs xs ds xs' d Q T1.gh ho rv r1 eg fun vs' v rv' rd => w G1 _ v (T1.write ei hm hi (by intro z; cases z) ⟨vs', rfl, rv'⟩) g1 rd
          · exact w.elim
        · rw [if_neg hm] at w
          exact w.elim
      · exact w.elim
    · rw [e] at w
      exact w.elim
  | .slot _ :: _, [], hv, _ => exact hv.elim
  | .frz _ :: _, _, _, w => exact w.elim
  | .own _ :: _, _, _, w => exact w.elim
  | [], _, _, w => exact w.elim
theorem x_lmeth {name : Str} {id : String} {r : V → List V → Hp → VK → Prop} {g : List D → List D → Option (List D × D)} (slot : Slot "list" name id) (hty : typeOf (.builtin id) = pure (.type "method_descriptor")) (hm : MtR X id r)
    (hs : SRA (GX X) W (RcV r) (chgM g)) (ho : TX X W o fo) (ha : TAX X W (e :: es) fl) (hbase : attributeBase o name X.env (eval o X.env) = eval o X.env := by rfl)
    (hfew : ((backTo cpos (starEach (e :: es) X.env)).all (fun x => !x.1) && (backToKw cpos (keywordEach [] X.env)).all (fun x => x.1.isSome)
      && decide ((e :: es).length + ([] : List Keyword).length + (if ([] : List Keyword).isEmpty then 0 else 1) < 30)) = true := by rfl)
    (hline : (apos.endLine == cpos.line) = true := by rfl) (hst : starEach (e :: es) X.env = (false, eval e X.env) :: starEach es X.env := by rfl) (hpl : (backTo cpos (starEach es X.env)).any (·.1) = false := by rfl) :
    TX X W (.Call (.Attribute o name apos) (e :: es) [] cpos) (bmM isLst (chgM g) fo fl) :=
  .of (pe_bm PySem.F.plainAttrs_list slot hty hm ho.pe ha.pa hbase hfew hline hst hpl) (se_bm (fun _ _ _ _ => isLst_ty) hs se_c sa_c)
def appG (xs ds : List D) : Option (List D × D) := match ds with
  | [d] => if xs.length < lineN then some (xs ++ [d], .at .non) else none
  | _ => none
theorem lt_line {n : Nat} (h : n < lineN) : n < sizeLine := by rw [sizeLine_eq]; exact h
theorem x_append (ho : TX X W o fo) (ha : TAX X W [e] fl) (hbase : attributeBase o "append" X.env (eval o X.env) = eval o X.env := by rfl)
    (hfew : ((backTo cpos (starEach [e] X.env)).all (fun x => !x.1) && (backToKw cpos (keywordEach [] X.env)).all (fun x => x.1.isSome)
      && decide ([e].length + ([] : List Keyword).length + (if ([] : List Keyword).isEmpty then 0 else 1) < 30)) = true := by rfl)
    (hline : (apos.endLine == cpos.line) = true := by rfl) (hst : starEach [e] X.env = (false, eval e X.env) :: starEach [] X.env := by rfl) (hpl : (backTo cpos (starEach [] X.env)).any (·.1) = false := by rfl) :
    TX X W (.Call (.Attribute o "append" apos) [e] [] cpos) (bmM isLst (chgM appG) fo fl) :=
  x_lmeth PySem.F.slot_list_append PySem.F.type_list_append mt_append (sra_chg fun G H p us vs xs ds xs' d Q _ hp rx rd hg hq => by
    unfold appG at hg
    split at hg
    · split at hg
      · rename_i hl
        cases hg
        cases rd with
        | cons rd rn =>
          cases rn
          exact ⟨p, vs, _, rfl, rfl, hp, by rw [← rx.len]; exact lt_line hl, hq _ _ (rx.app (.cons rd .nil)) (.at .non)⟩
      · cases hg
    · cases hg) ho ha hbase hfew hline hst hpl

/-! ### sep.join(list) , xs.index(x) -/
def joinD (x y : D) : Option Tv := match x with
  | .at (.str a) => (lstD y).bind fun xs => (strsD xs).bind fun ys => ifS ((ys.map (·.length)).sum + ys.length * a.length ≤ 16777216) (aS (Txt.join a ys))
  | _ => none
theorem x_join (ho : TX X W o fo) (ha : TAX X W [e] fl) (hbase : attributeBase o "join" X.env (eval o X.env) = eval o X.env := by rfl)
    (hfew : ((backTo cpos (starEach [e] X.env)).all (fun x => !x.1) && (backToKw cpos (keywordEach [] X.env)).all (fun x => x.1.isSome)
      && decide ([e].length + ([] : List Keyword).length + (if ([] : List Keyword).isEmpty then 0 else 1) < 30)) = true := by rfl)
    (hline : (apos.endLine == cpos.line) = true := by rfl) (hst : starEach [e] X.env = (false, eval e X.env) :: starEach [] X.env := by rfl) (hpl : (backTo cpos (starEach [] X.env)).any (·.1) = false := by rfl) :
    TX X W (.Call (.Attribute o "join" apos) [e] [] cpos) (bmM isStr (on2 joinD) fo fl) :=
  .of (pe_bm PySem.F.plainAttrs_str PySem.F.slot_str_join PySem.F.type_str_join mt_join ho.pe ha.pa hbase hfew hline hst hpl) (se_bm (fun _ _ _ _ => isStr_ty) (fun Z R G σ H fs zs ws Q T hv w => by
    refine sra2 (r := RcV _) (g := joinD) (fun Z R G σ H fs d e u w t Q T hd he hg hq => ?_) Z R G σ H fs zs ws Q T hv w
    unfold joinD at hg
    split at hg
    · cases hd
      obtain ⟨xs, e1, e2⟩ := Option.bind_eq_some_iff.mp hg
      obtain ⟨ys, e3, e4⟩ := Option.bind_eq_some_iff.mp e2
      obtain ⟨c, rfl⟩ := ifS_some e4
      obtain ⟨q, vs, rfl, hs, r⟩ := lstD_ok (Z := Z) he e1
      exact ⟨_, q, ys, rfl, rfl, .inl (by rw [← strsD_ok r e3]; exact hs), c, hq.at T⟩
    · cases hg) se_c sa_c)
def idxOf (x : D) : Nat → List D → Option Nat
  | _, [] => none
  | k, y :: ys => if PyData.eqv y.py x.py = true then some k else idxOf x (k + 1) ys
def indexD (x y : D) : Option Tv := (lstD x).bind fun xs => if allFlat xs = true ∧ flatD y = true then (idxOf y 0 xs).map fun k => aI (k : Nat) else none
theorem idxOf_ok {a : At} : ∀ {xs : List D} {vs : List V} {k j : Nat}, RepA Γ G xs vs → allFlat xs = true → idxOf (.at a) k xs = some j → k ≤ j ∧ ∃ z, vs[j - k]? = some z ∧ eqV z a.v = true ∧ ∀ m z', m < j - k → vs[m]? = some z' → eqV z' a.v = false
  | [], _, k, j, _, _, h => by unfold idxOf at h; cases h
  | y :: ys, _, k, j, .cons (v := v) (vs := vs) hy r, hf, h => by
    unfold idxOf at h
    have hf2 : flatD y = true ∧ allFlat ys = true := by
      have : (y :: ys).all flatD = true := hf
      rw [List.all_cons, Bool.and_eq_true] at this
      exact this
    have hv : eqV v a.v = PyData.eqv y.py (D.at a).py := by
      cases y with
      | nd _ _ => exact absurd hf2.1 (by simp [flatD])
      | «at» b =>
        cases hy
        exact flat_eq
    by_cases c : PyData.eqv y.py (D.at a).py = true
    · rw [if_pos c] at h
      cases h
      exact ⟨Nat.le_refl _, v, by rw [Nat.sub_self]; rfl, by rw [hv]; exact c, fun m z' hm => by omega⟩
    · rw [if_neg c] at h
      obtain ⟨h1, z, h2, h3, h4⟩ := idxOf_ok r hf2.2 h
      refine ⟨by omega, z, by rw [show j - k = (j - (k + 1)) + 1 by omega]; exact h2, h3, fun m z' hm hz => ?_⟩
      cases m with
      | zero =>
        cases hz
        rw [hv]
        simpa using c
      | succ m => exact h4 m z' (by omega) hz
theorem x_index (ho : TX X W o fo) (ha : TAX X W [e] fl) (hbase : attributeBase o "index" X.env (eval o X.env) = eval o X.env := by rfl)
    (hfew : ((backTo cpos (starEach [e] X.env)).all (fun x => !x.1) && (backToKw cpos (keywordEach [] X.env)).all (fun x => x.1.isSome)
      && decide ([e].length + ([] : List Keyword).length + (if ([] : List Keyword).isEmpty then 0 else 1) < 30)) = true := by rfl)
    (hline : (apos.endLine == cpos.line) = true := by rfl) (hst : starEach [e] X.env = (false, eval e X.env) :: starEach [] X.env := by rfl) (hpl : (backTo cpos (starEach [] X.env)).any (·.1) = false := by rfl) :
    TX X W (.Call (.Attribute o "index" apos) [e] [] cpos) (bmM isLst (on2 indexD) fo fl) :=
  .of (pe_bm PySem.F.plainAttrs_list PySem.F.slot_list_index PySem.F.type_list_index mt_index ho.pe ha.pa hbase hfew hline hst hpl) (se_bm (fun _ _ _ _ => isLst_ty) (fun Z R G σ H fs zs ws Q T hv w => by
    refine sra2 (r := RcV _) (g := indexD) (fun Z R G σ H fs d e u w t Q T hd he hg hq => ?_) Z R G σ H fs zs ws Q T hv w
    obtain ⟨xs, e1, e2⟩ := Option.bind_eq_some_iff.mp hg
    split at e2
    · rename_i c
      obtain ⟨j, e3, rfl⟩ := Option.map_eq_some_iff.mp e2
      obtain ⟨q, vs, rfl, hs, r⟩ := lstD_ok (Z := Z) hd e1
      cases e with
      | nd _ _ => exact absurd c.2 (by simp [flatD])
      | «at» a =>
        cases he
        obtain ⟨_, z, h2, h3, h4⟩ := idxOf_ok r c.1 e3
        exact ⟨q, vs, a.v, j, z, rfl, rfl, hs, flat_v, flat_all r c.1, h2, h3, fun m z' hm hz => h4 m z' (by omega) hz, hq.at T⟩
    · cases e2) se_c sa_c)
end
end TL

/-! Stores to items, new dicts, tuples by numbers, texts of data. -/
namespace TL
open PySem PySem.Spec PyProof.Rows L2
section
variable {X : Cx} {W : WX} {e o a b c i tg value : Expr} {es : List Expr} {pos pos' p apos cpos : Pos} {f fa fb fc fo fi fv : M Tv} {fl : M (List Tv)} {Γ : Gm} {Z : Zf} {R G H : Hp} {σ : L2.St} {fs fs' : Fs}
def orS (f g : S) : S := fun fs => match f fs with
  | .bad => g fs
  | o => o
theorem s_alt {st : Stmt} {f g : S} (h1 : TSX X W st f) (h2 : TSX X W st g) : TSX X W st (orS f g) := ⟨⟨fun pins sh σ H D I ⟨Z, R, G, fs, T, w⟩ => by
  unfold orS at w
  cases ef : f fs with
  | bad => simp only [ef] at w; exact h2.ps.run pins sh σ H D I ⟨Z, R, G, fs, T, w⟩
  | nx _ => simp only [ef] at w; exact h1.ps.run pins sh σ H D I ⟨Z, R, G, fs, T, by rw [ef]; exact w⟩
  | rt _ _ => simp only [ef] at w; exact h1.ps.run pins sh σ H D I ⟨Z, R, G, fs, T, by rw [ef]; exact w⟩
  | bk _ => simp only [ef] at w; exact h1.ps.run pins sh σ H D I ⟨Z, R, G, fs, T, by rw [ef]; exact w⟩
  | ct _ => simp only [ef] at w; exact h1.ps.run pins sh σ H D I ⟨Z, R, G, fs, T, by rw [ef]; exact w⟩
  | ex _ _ => simp only [ef] at w; exact h1.ps.run pins sh σ H D I ⟨Z, R, G, fs, T, by rw [ef]; exact w⟩⟩⟩
/-- o[i] = value, o a slot's own object: g gives what stands there afterwards -/
def sputF (g : D → D → D → Option D) (d : D) (x y : Tv) : S := fun fs => match x with
  | .slot i => match fs[i]? with
    | some (some (m, t)) => if m.mut = true then match rdv y fs with
        | some k => match g t k d with
          | some t' => .nx (fs.set i (some (m, t')))
          | none => .bad
        | none => .bad
      else .bad
    | _ => .bad
  | _ => .bad
def sput (g : D → D → D → Option D) (fo fi fv : M Tv) : S := sbnd (bnd fv frzV) fun d => sbnd fo fun x => sbnd fi fun y => sputF g d x y
/-- what is asked of g at the heap -/
structure PutOk (Γ : Gm) (g : D → D → D → Option D) (P : Hp → V → V → V → Hp → Prop) : Prop where
  ok : ∀ (Z : Zf) (R G : Hp) (σ : L2.St) (H : Hp) (fs : Fs) (q : Addr) (t k d t' : D) (y v : V), TI Γ Z R G σ H fs → OwnAt Γ G H q t → RdH Γ G H k y → Rep Γ G d v → g t k d = some t' → ∃ kd xs ob, t' = .nd kd xs ∧ kd ≠ .tup ∧ BodyOf Γ G kd xs ob ∧ P H (.ref q) y v (upd H q ob)
theorem ss_put {g : D → D → D → Option D} {P : Hp → V → V → V → Hp → Prop} {to ti tv : TE} (hg : PutOk Γ g P) (ho : SE Γ W to fo) (hi : SE Γ W ti fi) (hv : SE Γ W tv fv) : SS Γ W (fun D σ H => tv σ H fun v H1 => to σ H1 fun x H2 => ti σ H2 fun y H3 => ∃ H4, P H3 x y v H4 ∧ D.nx σ H4) (sput g fo fi fv) := by
  intro Z R G σ H fs D T w
  have w2 : (bnd fv frzV fs).Wp (fun d fs1 => SWp Γ Z R G W D (sbnd fo (fun x => sbnd fi fun y => sputF g d x y) fs1)) (PstX Γ Z R G σ W) := swp_bnd w fun _ _ q => q
  refine hv Z R G σ H fs _ T ((wp_bnd.mp w2).mono (fun d0 fs1 h1 G1 H1 v T1 g1 v1 => ?_) fun _ _ q => q)
  rcases frzV_out d0 fs1 with ⟨d, fs2, e⟩ | e
  · rw [e] at h1
    obtain ⟨G2, T2, g2, r2, _⟩ := T1.frzV v1 e
    have g12 := g1.trans g2
    refine ho Z R G2 σ H1 fs2 _ T2 (swp_bnd (SWp.grow g12 h1) fun x fs3 h3 G3 H3 u T3 g3 v3 => ?_)
    refine hi Z R G3 σ H3 fs3 _ T3 (swp_bnd (SWp.grow g3 h3) fun y fs4 h4 G4 H4 yv T4 g4 v4 => ?_)
    unfold sputF at h4
    cases x with
    | frz _ => exact h4.elim
    | own _ => exact h4.elim
    | slot j =>
      dsimp only at h4
      have hj : σ[j]? = some (some u) := v3
      split at h4
      · rename_i m t ei
        by_cases hm : m.mut = true
        · rw [if_pos hm] at h4
          split at h4
          · rename_i k ek
            split at h4
            · rename_i t' eg
              obtain ⟨q, hq, rq, gq, ow⟩ := T4.mutAt ei hm
              rw [hj] at hq
              cases hq
              obtain ⟨kd, xs, ob, rfl, hk, bo, pp⟩ := hg.ok Z R G4 σ H4 fs4 q t k d t' yv v T4 ow (T4.rd v4 ek) (r2.mono (g3.1.trans g4.1)) eg
              exact ⟨_, pp, h4 σ G4 _ (T4.write ei hm hj hk bo) g4⟩
            · exact h4.elim
          · exact h4.elim
        · rw [if_neg hm] at h4
          exact h4.elim
      · exact h4.elim
  · rw [e] at h1
    exact h1.elim
/-! xs[i] = v -/
def putL (t k d : D) : Option D := match t with
  | .nd .lst xs => match k with
    | .at (.int i) => (ixN xs.length i).map fun j => .nd .lst (xs.set j d)
    | _ => none
  | _ => none
theorem s_putL (ho : TX X W o fo) (hi : TX X W i fi) (hv : TX X W value fv) (hs : swapsWithSole [.Subscript o i pos'] value pos.line X.env = pure false := by rfl) (hw : swappedStores [.Subscript o i pos'] value X.env = pure none := by rfl)
    (h1 : (assignEach [.Subscript o i pos'] X.env).map (·.2) = [assign (.Subscript o i pos') X.env] := by rfl)
    (has : ∀ v, assign (.Subscript o i pos') X.env v = (holding [v] (eval o X.env) >>= fun ov => holding [v, ov] (eval i X.env) >>= fun iv => standAt pos' >>= fun _ => holding [v, ov, iv] (setItem ov iv v) >>= fun _ => release [v, ov, iv] []) := by intro _; rfl) : TSX X W (.Assign [.Subscript o i pos'] value pos) (sput putL fo fi fv) := by
  have P : PutOk (GX X) putL (fun H x y v H4 => ∃ p xs k j, x = .ref p ∧ y = .int k ∧ H p = some (.lst xs) ∧ ixN xs.length k = some j ∧ H4 = upd H p (.lst (xs.set j v))) := ⟨fun Z R G σ H fs q t k d t' y v T ow rk rd hg => by
    unfold putL at hg
    split at hg
    · rename_i xs
      split at hg
      · obtain ⟨j, hj, rfl⟩ := Option.map_eq_some_iff.mp hg
        cases rk
        obtain ⟨_, ob, ho, vs, rfl, rv⟩ := ow
        exact ⟨.lst, _, .lst (vs.set j v), rfl, (by intro z; cases z), ⟨_, rfl, rv.set rd j⟩, q, vs, _, j, rfl, rfl, ho, by rw [← rv.len]; exact hj, rfl⟩
      · cases hg
    · cases hg⟩
  refine .of (ps_asg hv.pe (pg_sub ho.pe hi.pe set_list has) hs hw h1) fun Z R G σ H fs D T w => ?_
  have z := ss_put (W := W) P (se_c (f := fo)) (se_c (f := fi)) (se_c (f := fv)) Z R G σ H fs D T w
  obtain ⟨Z1, R1, G1, fs1, T1, w1⟩ := z
  refine ⟨Z1, R1, G1, fs1, T1, w1.mono (fun x fs2 h2 G2 H2 v T2 g2 v2 => ?_) fun _ _ q => q⟩
  obtain ⟨Z3, R3, G3, fs3, T3, w3⟩ := h2 G2 H2 v T2 g2 v2
  refine ⟨Z3, R3, G3, fs3, T3, w3.mono (fun x fs4 h4 G4 H4 u T4 g4 v4 => ?_) fun _ _ q => q⟩
  obtain ⟨Z5, R5, G5, fs5, T5, w5⟩ := h4 G4 H4 u T4 g4 v4
  refine ⟨Z5, R5, G5, fs5, T5, w5.mono (fun x fs6 h6 G6 H6 y T6 g6 v6 => ?_) fun _ _ q => q⟩
  obtain ⟨H7, ⟨q, xs, k, j, rfl, rfl, e1, e2, rfl⟩, q7⟩ := h6 G6 H6 y T6 g6 v6
  exact ⟨q, xs, k, j, rfl, rfl, e1, e2, q7⟩
/-! d[k] = v -/
def replK (k : Key) (d : D) : List D → List D
  | .nd .tup [x, y] :: r => (if keyD x = some k then .nd .tup [x, d] else .nd .tup [x, y]) :: replK k d r
  | x :: r => x :: replK k d r
  | [] => []
def replT (k : List Key) (d : D) : List D → List D
  | .nd .tup [.nd .tup x, y] :: r => (if keysD x = some k then .nd .tup [.nd .tup x, d] else .nd .tup [.nd .tup x, y]) :: replT k d r
  | x :: r => x :: replT k d r
  | [] => []
theorem replK_ok {k : Key} {d : D} {v : V} (rd : Rep Γ G d v) : ∀ {xs : List D} {kvs : List (Key × V)}, RepK Γ G xs kvs → RepK Γ G (replK k d xs) (kvs.map fun kv => if kv.1 = k then (kv.1, v) else kv)
  | _, _, .nil => .nil
  | _, _, .cons (k := k') hd r => by
    unfold replK
    rw [List.map_cons, keyD_kD]
    by_cases e : k' = k
    · rw [if_pos (by rw [e]), if_pos e]
      exact .cons rd (replK_ok rd r)
    · rw [if_neg (fun z => e (Option.some.inj z)), if_neg e]
      exact .cons hd (replK_ok rd r)
theorem replT_ok {k : List Key} {d : D} {v : V} (rd : Rep Γ G d v) : ∀ {xs : List D} {kvs : List (List Key × V)}, RepT Γ G xs kvs → RepT Γ G (replT k d xs) (kvs.map fun kv => if kv.1 = k then (kv.1, v) else kv)
  | _, _, .nil => .nil
  | _, _, .cons (k := k') hd r => by
    unfold replT
    rw [List.map_cons, keysD_kD]
    by_cases e : k' = k
    · rw [if_pos (by rw [e]), if_pos e]
      exact .cons rd (replT_ok rd r)
    · rw [if_neg (fun z => e (Option.some.inj z)), if_neg e]
      exact .cons hd (replT_ok rd r)
theorem RepK.app : ∀ {d e : List D} {v w : List (Key × V)}, RepK Γ G d v → RepK Γ G e w → RepK Γ G (d ++ e) (v ++ w)
  | _, _, _, _, .nil, s => s
  | _, _, _, _, .cons h r, s => .cons h (RepK.app r s)
theorem RepT.app : ∀ {d e : List D} {v w : List (List Key × V)}, RepT Γ G d v → RepT Γ G e w → RepT Γ G (d ++ e) (v ++ w)
  | _, _, _, _, .nil, s => s
  | _, _, _, _, .cons h r, s => .cons h (RepT.app r s)
theorem RepT.len : ∀ {d : List D} {v : List (List Key × V)}, RepT Γ G d v → d.length = v.length
  | _, _, .nil => rfl
  | _, _, .cons _ r => by rw [List.length_cons, List.length_cons, r.len]
def putKD (k : Key) (d : D) (xs : List D) : List D := match lookK k xs with
  | some _ => replK k d xs
  | none => xs ++ [.nd .tup [kD k, d]]
def putTD (k : List Key) (d : D) (xs : List D) : List D := match lookT k xs with
  | some _ => replT k d xs
  | none => xs ++ [.nd .tup [.nd .tup (k.map kD), d]]
theorem putKD_ok {k : Key} {d : D} {v : V} {xs : List D} {kvs : List (Key × V)} (rd : Rep Γ G d v) (r : RepK Γ G xs kvs) : RepK Γ G (putKD k d xs) (putK kvs k v) := by
  unfold putKD putK
  rw [valV_any]
  rcases lookK_ok (k := k) r with ⟨a, b⟩ | ⟨z, u, a, b, _⟩
  · rw [a, b]
    exact r.app (.cons rd .nil)
  · rw [a, b]
    exact replK_ok rd r
theorem putTD_ok {k : List Key} {d : D} {v : V} {xs : List D} {kvs : List (List Key × V)} (rd : Rep Γ G d v) (r : RepT Γ G xs kvs) : RepT Γ G (putTD k d xs) (putK kvs k v) := by
  unfold putTD putK
  rw [valV_any]
  rcases lookT_ok (k := k) r with ⟨a, b⟩ | ⟨z, u, a, b, _⟩
  · rw [a, b]
    exact r.app (.cons rd .nil)
  · rw [a, b]
    exact replT_ok rd r
def putDic (t k d : D) : Option D := match t with
  | .nd .dK xs => if xs.length < lineN then (keyD k).map fun k => .nd .dK (putKD k d xs) else none
  | .nd .dT xs => if xs.length < lineN then match k with
      | .nd .tup ks => (keysD ks).map fun k => .nd .dT (putTD k d xs)
      | _ => none
    else none
  | _ => none
theorem s_putD (k : Ctl X W) (ho : TX X W o fo) (hi : TX X W i fi) (hv : TX X W value fv) (hs : swapsWith value (some (.Subscript o i pos')) pos.line X.env = pure false := by rfl) : TSX X W (.Assign [.Subscript o i pos'] value pos) (sput putDic fo fi fv) := by
  have P : PutOk (GX X) putDic (fun H x y v H4 => ∃ a, x = .ref a ∧ DPut H a y v H4) := ⟨fun Z R G σ H fs q t k d t' y v T ow rk rd hg => by
    unfold putDic at hg
    split at hg
    · rename_i xs
      split at hg
      · rename_i hl
        obtain ⟨key, hk, rfl⟩ := Option.map_eq_some_iff.mp hg
        obtain ⟨_, ob, ho, kvs, rfl, rv⟩ := ow
        refine ⟨.dK, _, .dK (putK kvs key v), rfl, (by intro z; cases z), ⟨_, rfl, putKD_ok rd rv⟩, q, rfl, ?_⟩
        rw [keyD_v hk rk]
        exact DPut.k ho (by rw [← rv.len]; exact lt_line hl)
      · cases hg
    · rename_i xs
      split at hg
      · rename_i hl
        split at hg
        · rename_i ks
          obtain ⟨key, hk, rfl⟩ := Option.map_eq_some_iff.mp hg
          obtain ⟨_, ob, ho, kvs, rfl, rv⟩ := ow
          obtain ⟨b, vs, rfl, hb, rb⟩ := rk
          have ev := keysD_v hk rb
          subst ev
          exact ⟨.dT, _, .dT (putK kvs key v), rfl, (by intro z; cases z), ⟨_, rfl, putTD_ok rd rv⟩, q, rfl, DPut.t ho (T.gh _ _ hb) (by rw [← rv.len]; exact lt_line hl)⟩
        · cases hg
      · cases hg
    · cases hg⟩
  refine .of (ps_dput (by have := k.units; omega) ho.pe hi.pe hv.pe hs) fun Z R G σ H fs D T w => ?_
  obtain ⟨Z1, R1, G1, fs1, T1, w1⟩ := ss_put (W := W) P (se_c (f := fo)) (se_c (f := fi)) (se_c (f := fv)) Z R G σ H fs D T w
  refine ⟨Z1, R1, G1, fs1, T1, w1.mono (fun x fs2 h2 G2 H2 v T2 g2 v2 => ?_) fun _ _ q => q⟩
  obtain ⟨Z3, R3, G3, fs3, T3, w3⟩ := h2 G2 H2 v T2 g2 v2
  refine ⟨Z3, R3, G3, fs3, T3, w3.mono (fun x fs4 h4 G4 H4 u T4 g4 v4 => ?_) fun _ _ q => q⟩
  obtain ⟨Z5, R5, G5, fs5, T5, w5⟩ := h4 G4 H4 u T4 g4 v4
  refine ⟨Z5, R5, G5, fs5, T5, w5.mono (fun x fs6 h6 G6 H6 y T6 g6 v6 => ?_) fun _ _ q => q⟩
  obtain ⟨H7, ⟨q, rfl, dp⟩, q7⟩ := h6 G6 H6 y T6 g6 v6
  exact ⟨q, H7, rfl, dp, q7⟩
/-! {} -/
def newK : M Tv := ret (.own (.nd .dK []))
def newT : M Tv := ret (.own (.nd .dT []))
theorem x_dicK : TX X W (.Dict [] [] pos) newK := .of pe_dnewK fun Z R G σ H fs Q T h p hn => h G _ _ (T.alloc hn) Grow.refl (VOk.new T hn (by intro z; cases z) ⟨[], rfl, .nil⟩)
theorem x_dicT : TX X W (.Dict [] [] pos) newT := .of pe_dnewT fun Z R G σ H fs Q T h p hn => h G _ _ (T.alloc hn) Grow.refl (VOk.new T hn (by intro z; cases z) ⟨[], rfl, .nil⟩)
/-! a tuple by a number -/
def mulT : D → D → Option Tv
  | .nd .tup xs, .at (.int k) => ifS (xs.isEmpty = false ∧ 2 ≤ k ∧ k ≤ 1000 ∧ xs.length ≤ 1000) (.frz (.nd .tup (List.replicate k.toNat xs).flatten))
  | _, _ => none
def mulA (x y : D) : Option Tv := match mulD x y with
  | some t => some t
  | none => mulT x y
theorem x_mulA (ha : TX X W a fa) (hb : TX X W b fb) : TX X W (.BinOp a .Mult b pos) (vOp mulA fa fb) := x_op (op_mulA.or op_repT) (by
  intro Z R G σ H fs x y u w Q T hx hy ap hw
  unfold dop2 at hw
  cases ex : rdv x fs with
  | none => simp only [ex] at hw; exact hw.elim
  | some d =>
    cases ey : rdv y fs with
    | none => simp only [ex, ey] at hw; exact hw.elim
    | some e =>
      simp only [ex, ey] at hw
      unfold mulA at hw
      cases em : mulD d e with
      | some t =>
        simp only [em] at hw
        exact .inl (sr_mul (W := W) Z R G σ H fs x y u w Q T hx hy ap (by unfold dop2; rw [ex, ey]; simp only [em]; exact hw))
      | none =>
        simp only [em] at hw
        cases et : mulT d e with
        | none => simp only [et] at hw; exact hw.elim
        | some t =>
          simp only [et] at hw
          have hd := T.rd hx ex
          have he := T.rd hy ey
          unfold mulT at et
          split at et
          · obtain ⟨c, rfl⟩ := ifS_some et
            cases he
            obtain ⟨q, vs, rfl, h1, r⟩ := hd
            exact .inr ⟨q, _, vs, rfl, rfl, SqT.of (T.gh _ _ h1), (fun z => by have c1 := c.1; rw [r.emp, z] at c1; cases c1), c.2.1, c.2.2.1, by rw [← r.len]; exact c.2.2.2, fun p hp => PstE.newT T hw (r.reps _) hp⟩
          · cases et) ha hb
/-! try: body / except C: suite, where the body raises nothing -/
def stry (g : S) : S := fun fs => match g fs with
  | .ex _ _ => .bad
  | o => o
theorem Ctl.tr (k : Ctl X W) {W' : WX} {pn : List (Addr × Obj)} {xe : Value → Shared → Prop} (tk : Takes (X.tr pn xe) W') (po : PassesOwn (model X.prog X.w) X.A X.env xe) : Ctl (X.tr pn xe) W' := ⟨k.calm, k.units, tk, k.nd, po⟩
theorem s_try {x : Str} {cv : Value} {body suite : List Stmt} {b0 : Stmt} {np : Pos} {g : S} (k : Ctl X W) (hc : X.mg x = some cv) (hb : ∀ (W' : WX) (pn : List (Addr × Obj)) (xe : Value → Shared → Prop), Ctl (X.tr pn xe) W' → TLX (X.tr pn xe) W' body g)
    (hg : Gl X x := by rfl) (hs : X.stack = X.env :: X.outer := by rfl) (hf : X.env.frame = some X.env.locals := by rfl) (hdb : (x == ("__debug__" : Str)) = false := by decide) :
    TSX X W (.Try body [.ExceptHandler (some (.Name x np)) none (b0 :: suite) pos'] [] [] pos) (stry g) := by
  refine .of (ps_try_only (tb := fun W' => rS (GX X) W' g) (ts := fun _ _ _ => tNever) hs hf ⟨hg, hdb, .inl hc⟩ k.tk (fun W' pn xe tk po => (hb W' pn xe (k.tr tk po)).ps) (fun a oe cls d pn _ _ => pss_never)) fun Z R G σ H fs D T w => ?_
  refine ⟨Z, R, G, fs, T, ?_⟩
  unfold stry at w
  cases eg : g fs with
  | ex _ _ => rw [eg] at w; exact w.elim
  | bad => rw [eg] at w; exact w
  | nx _ => rw [eg] at w; exact w
  | rt _ _ => rw [eg] at w; exact w
  | bk _ => rw [eg] at w; exact w
  | ct _ => rw [eg] at w; exact w
end
end TL

/-! Defs keep their promises; the law's end. -/
namespace TL
open PySem PySem.Spec PyProof.Rows L2
section
variable {X : Cx} {W : WX} {e : Expr} {es : List Expr} {pos p : Pos} {f : M Tv} {fl : M (List Tv)}
/-! ### constants of the module -/
theorem x_gint {x : Str} {i : Int} (h : ∃ t, X.mg x = some (.int i t)) (hg : Gl X x := by rfl) (hd : (x == ("__debug__" : Str)) = false := by decide) : TX X W (.Name x pos) (vAt (.int i)) := by
  obtain ⟨t, h⟩ := h
  exact x_con (d := .at (.int i)) (v := .int i) h ⟨t, rfl⟩ (fun G => .at (.int i)) hg hd
theorem x_gstr {x z : Str} (h : ∃ t, X.mg x = some (.str z t)) (hg : Gl X x := by rfl) (hd : (x == ("__debug__" : Str)) = false := by decide) : TX X W (.Name x pos) (vAt (.str z)) := by
  obtain ⟨t, h⟩ := h
  exact x_con (d := .at (.str z)) (v := .str z) h ⟨t, rfl⟩ (fun G => .at (.str z)) hg hd
/-! ### isinstance of built-in types -/
def itB (T : Ty) : Ty ⊕ Str → Option Bool
  | .inl a => some (isB a T)
  | .inr _ => none
theorem isi_itB (T : Ty) : IsiX X (.type T.s) (itB T) := ⟨fun t b h => by
  cases t with
  | inr c => cases h
  | inl a => cases h; exact .inl ⟨a, rfl, kit_isB a T⟩⟩
theorem b_str : bootBuiltins "str" = some (.type (Ty.s .str)) := by decide +kernel
theorem b_int : bootBuiltins "int" = some (.type (Ty.s .int)) := by decide +kernel
theorem b_bool : bootBuiltins "bool" = some (.type (Ty.s .bl)) := by decide +kernel
theorem b_list : bootBuiltins "list" = some (.type (Ty.s .lst)) := by decide +kernel
theorem b_tuple : bootBuiltins "tuple" = some (.type (Ty.s .tup)) := by decide +kernel
theorem b_dict : bootBuiltins "dict" = some (.type (Ty.s .dct)) := by decide +kernel
theorem x_isiB {T : Ty} {x : Str} {p2 : Pos} (hv : bootBuiltins x = some (.type T.s)) (hmx : X.mg x = none) (hm : X.mg "isinstance" = none) (ha : TX X W e f) (hg : Gl X "isinstance" := by rfl) (hgx : Gl X x := by rfl) (hn : x ≠ "__name__" := by decide) (hdb : (x == ("__debug__" : Str)) = false := by decide)
    (hs : starEach (e :: [.Name x p2]) X.env = (false, eval e X.env) :: starEach [.Name x p2] X.env := by rfl) (hs2 : starEach ((.Name x p2) :: []) X.env = (false, eval (.Name x p2) X.env) :: starEach [] X.env := by rfl)
    (hpl : (backTo pos (starEach [.Name x p2] X.env)).any (·.1) = false := by rfl) : TX X W (.Call (.Name "isinstance" p) [e, .Name x p2] [] pos) (bnd f (isiV (itB T))) := x_isiT hv hmx (isi_itB T) hm ha hg hgx hn hdb hs hs2 hpl
/-! ### str(x), x a list of lists ..: no repr runs around -/
def strD (d : D) : Option Tv := match d with
  | .nd .lst _ => ifS (SeqAt.shaped d.py = true ∧ PyData.showable d.py = true ∧ PyData.depth d.py ≤ 60 ∧ d.py.shown.length ≤ lineN) (aS d.py.shown)
  | _ => none
theorem call_strD (hu : X.A.units + 100 < cLine) (gd : X.A.guards = some []) : CallR X (.type "str") (fun xs H Q => ∃ a d, xs = [.ref a] ∧ Dp X.K H (.ref a) d ∧ PyData.hasDict d = false ∧ PyData.showable d = true ∧ PyData.depth d ≤ 60 ∧ d.shown.length ≤ sizeLine ∧ Q (.str d.shown) H) := by
  intro pins s σ H xs us Q I r h
  obtain ⟨a, d, rfl, hd, hn, hs, hp, hz, q⟩ := h
  rw [Vals.ref1 r]
  obtain ⟨as, rd⟩ := Dp.reads I _ _ _ hd rfl
  exact str_of_reads rd hs (PyData.noDict_hsm hn) gd (by omega) (fun _ _ z => z) (fun h' u tk k => ⟨.str d.shown, H, I.kept k, ⟨u, rfl⟩, q⟩) hz
theorem canLay_shaped {d : PyData} (h : SeqAt.shaped d = true) : PyData.canLay0 d = true := SeqAt.canLay_of_shaped h
theorem x_strc (k : Ctl X W) (gd : X.A.guards = some []) (hm : X.mg "str" = none) (ha : TAX X W (e :: es) fl) (hg : Gl X "str" := by rfl) (he : starEach (e :: es) X.env = (false, eval e X.env) :: starEach es X.env := by rfl) (hpl : (backTo pos (starEach es X.env)).any (·.1) = false := by rfl) : TX X W (.Call (.Name "str" p) (e :: es) [] pos) (bnd fl (on1 strD)) :=
  x_ct (call_strD k.units gd) (sra1 fun Z R G σ H fs d u t Q T hd hg hq => by
    unfold strD at hg
    split at hg
    · rename_i xs
      obtain ⟨⟨c1, c2, c3, c4⟩, rfl⟩ := ifS_some hg
      have dp := hd.dp T c1
      obtain ⟨a, vs, rfl, _⟩ := hd
      exact ⟨a, _, rfl, dp, PyData.hasDict_of_canLay _ (canLay_shaped c1), c2, c3, line_le c4, hq.at T⟩
    · cases hg) hm b_str ha hg (by decide) (by decide) he hpl
end
section
variable {P : Program} {w : World} {K : PySem.W.Frag} {mg : Str → Option Value} {base : Heap}
theorem ctl_def {N ps : List Str} {qual : Str} {scope : Scope} {f : Addr} {cd : Value} {A : Around} {outer : List Env} {s : Shared} {H : Hp} {E : XK} {k : Nat} (S : FnScope N ps scope) (hr : Room k (A.deeper (envOfC qual scope s.heap.objs.size f cd))) :
    Ctl (cxOf (L2.CX P w) P w K mg base N qual scope f cd A outer s H E) (fun c dd _ H => E c dd H) :=
  ⟨rfl, by have := hr.un; show (A.deeper (envOfC qual scope s.heap.objs.size f cd)).units + 100 < cLine; omega, takes_of rfl rfl rfl rfl, S.nd, PassesOwn.leaving⟩
/-- a def of the module, called by its name -/
structure CalH (P : Program) (w : World) (K : PySem.W.Frag) (mg : Str → Option Value) (base : Heap) (x : Str) (j np : Nat) (fn : Fn) : Prop where
  ex : ∃ (g : Addr) (fd : FuncData) (ps : List Str), FnOk P w K mg base (L2.CX P w) j g fd ps (spF ⟨K, mg⟩ np fn) ∧ mg x = some (.ref g) ∧ PySem.W.keepIn K (.ref g) = true ∧ Binds K fd ps []
theorem CalH.cal {X : Cx} {x : Str} {j np : Nat} {fn : Fn} {k : Nat} (h : CalH X.prog X.w X.K X.mg X.base x j np fn) (hr : Room k X.A) (hj : j ≤ k := by decide) : Cal X x np fn := by
  obtain ⟨g, fd, ps, F, hm, hk, hb⟩ := h.ex
  exact ⟨j, g, fd, ps, F, hr.mono hj, hm, hk, hb⟩
theorem calH_mk {x : Str} {st : Stmt} {f : Addr} {fd : FuncData} {N ps : List Str} {k np : Nat} {g : S} (F : FunD K x x (defArgs st) (defBody st) (defScope st) [] [] f fd) (hm : mg x = some (.ref f)) (S : FnScope N ps (defScope st)) (hb : Binds K fd ps []) (hnp : ps.length = np)
    (hbody : ∀ (cdv : Value) (A : Around) (outer : List Env) (s : Shared) (H : Hp) (E : XK), Room k (A.deeper (envOfC x (defScope st) s.heap.objs.size f cdv)) → Ctl (cxOf (L2.CX P w) P w K mg base N x (defScope st) f cdv A outer s H E) (fun c dd _ H => E c dd H) →
      TLX (cxOf (L2.CX P w) P w K mg base N x (defScope st) f cdv A outer s H E) (fun c dd _ H => E c dd H) (defBody st) g) : CalH P w K mg base x (k + 1) np (fnOf np N.length g) :=
  ⟨f, fd, ps, F.ok S (fun vs H Q E h => (spF_len h).trans hnp.symm) (fun cdv A outer s H vs Q E hr h => ⟨_, (hbody cdv A outer s H E hr (ctl_def S hr)).ps, fn_body (hs := ss_c) h⟩), hm, F.kp, hb⟩
/-- the law's def, called by the row's caller: no repr runs around it -/
structure LawAt (P : Program) (w : World) (K : PySem.W.Frag) (mg : Str → Option Value) (base : Heap) (f : Addr) (fd : FuncData) (ps : List Str) (sp : Sp) : Prop where
  run : ∀ (s : Shared) (H : Hp) (us : List Value) (vs : List V) (Q : VK) (E : XK), Env0 P w K mg base callerA [] s H → BindsTo s fd ⟨us, []⟩ (ps.zip us) → Vals vs us → sp vs H Q E →
    codeAny (model P w) callerA (.call (.ref f) ⟨us, []⟩) (CR (L2.CX P w) [] P w H s Q E) s
theorem lawAt_mk {x : Str} {st : Stmt} {f : Addr} {fd : FuncData} {N ps : List Str} {k np : Nat} {g : S} (F : FunD K x x (defArgs st) (defBody st) (defScope st) [] [] f fd) (S : FnScope N ps (defScope st)) (hnp : ps.length = np) (hk : Room (k + 1) callerA)
    (hbody : ∀ (cdv : Value) (s : Shared) (H : Hp) (E : XK), Room k (callerA.deeper (envOfC x (defScope st) s.heap.objs.size f cdv)) → (callerA.deeper (envOfC x (defScope st) s.heap.objs.size f cdv)).guards = some [] → Ctl (cxOf (L2.CX P w) P w K mg base N x (defScope st) f cdv callerA [] s H E) (fun c dd _ H => E c dd H) →
      TLX (cxOf (L2.CX P w) P w K mg base N x (defScope st) f cdv callerA [] s H E) (fun c dd _ H => E c dd H) (defBody st) g) : LawAt P w K mg base f fd ps (spF ⟨K, mg⟩ np (fnOf np N.length g)) := by
  refine ⟨fun s H us vs Q E e0 hb r hsp => ?_⟩
  obtain ⟨oc, od, dV, kV, doc, pm, an, cdv, ct, osl, rfl, lk, hcd, _, _⟩ := F.ex
  have hl : vs.length = ps.length := (spF_len hsp).trans hnp.symm
  have inK : K.In s.heap := e0.mod.kin.keeps fun b o e => (e0.bs b o e).1
  have hr := hk.deeper (envOfC x (defScope st) s.heap.objs.size f cdv)
  have T := (hbody cdv s H E hr rfl (ctl_def S hr)).ps
  refine codeAny_call_function hk.depth (inK _ _ lk) rfl S.co S.gen rfl (PySem.W.codeRec_of inK hcd) (hb _ _ _ _ ?_)
  refine wpAny_newFunctionEnv_cells S.kind (fun y hy => ?_) fun env he s1 nx => ?_
  · rcases S.par y.1 (List.of_mem_zip (a := y.1) (b := y.2) hy).1 with q | q
    · exact .inl q
    · exact .inr ⟨q, PySem.W.cellsFrom_some _ _ _ (.inl q)⟩
  · subst he
    have lim : s.heap.NoLimit := e0.mod.nolimit.keeps fun b o e => (e0.bs b o e).1
    refine ⟨lim.keeps nx.toInCall.keep, codeAny_func ?_⟩
    have I := inv_start (CX := L2.CX P w) (E := E) (f := f) (cd := cdv) (qual := x) S hk.hd e0 hl r nx
    refine wpAny_mono (T.run [] s1 (start N vs) H { nx := fun _ H' => Q .non H', rt := Q } I (fn_body (hs := ss_c) hsp)) (fun fl s' z => ?_) fun _ _ z => z
    match fl, z with
    | .ret u, ⟨v, σ', H', J, rv, q⟩ => exact ⟨v, H', J.os, J.bare, J.base, J.hok, rv, q⟩
    | .next, ⟨σ', H', J, q⟩ => exact ⟨.non, H', J.os, J.bare, J.base, J.hok, rfl, q⟩
    | .brk, ⟨_, _, _, q⟩ => exact q.elim
    | .cont, ⟨_, _, _, q⟩ => exact q.elim
end
end TL

/-! From the law's function over data to the row. -/
namespace TL
open PySem PySem.Spec PyProof.Rows L2
def scrD (ns : List Int) : D := .nd .scr (ns.map fun i => .at (.int i))
/-- the script is tracked, unless it is one of the module's own objects -/
def scrH (K : PySem.W.Frag) (a : Addr) (ob : Obj) (ns : List Int) : Hp := fun b => if b = a ∧ K.lookup a = none then some (.frz ob (.lst (ns.map V.int))) else none
theorem scrH_some {K : PySem.W.Frag} {a b : Addr} {ob : Obj} {ns : List Int} {o : HO} (h : scrH K a ob ns b = some o) : b = a ∧ K.lookup a = none ∧ o = .frz ob (.lst (ns.map V.int)) := by
  unfold scrH at h
  split at h
  · rename_i c
    cases h
    exact ⟨c.1, c.2, rfl⟩
  · cases h
theorem spF_start {Γ : Gm} {H : Hp} {a : Addr} {ns : List Int} {f : Fn} (h : SqL Γ.K H a (ns.map V.int)) (hf : ∃ as, f [(.frz, scrD ns)] = .ok (.frz, .at (.bl true)) as) : spF Γ 1 f [.ref a] H (fun v _ => v = .bl true) fun _ _ _ => False := by
  obtain ⟨as, hf⟩ := hf
  have r : Rep Γ H (scrD ns) (.ref a) := .scr h (repA_ints ns)
  refine ⟨rfl, ⟨fun _ => none, fun _ _ _ => False⟩, fun _ => none, H, [(.frz, scrD ns)], ⟨Sub.refl, (fun _ _ e => by cases e), (fun _ _ e => by cases e), rfl, fun i s e => ?_, fun i j s t v e1 e2 m1 m2 _ _ => ?_, fun _ _ _ z => z.elim, fun i d e => ?_⟩, fun i d e => ?_, ?_⟩
  · cases i with
    | zero => cases e; exact ⟨.ref a, rfl, r⟩
    | succ i => simp at e
  · cases i with
    | zero => cases e1; cases m1
    | succ i => simp at e1
  · cases i with
    | zero => cases e
    | succ i => simp at e
  · cases i with
    | zero => cases e
    | succ i => simp at e
  · rw [hf]
    intro G' H' u T g rs
    rcases rs with ⟨_, q⟩ | ⟨z, _⟩
    · cases q
      rfl
    · cases z
theorem law_go {P : Program} {w : World} {K : PySem.W.Frag} {mg mb : Str → Option Value} {fa a : Addr} {fd : FuncData} {x : Str} {f : Fn} {s1 : Shared} {vs : List Value} {ns : List Int}
    (KX : K.In s1.heap) (hns : s1.heap.Ns mainGlobals mg) (hb : s1.heap.Ns builtinsNs mb) (hbb : ∀ x : Str, x ≠ "__name__" → mb x = bootBuiltins x) (hlim : s1.heap.NoLimit) (hg : s1.gens = #[])
    (ha : s1.heap.get? a = some { cls := .type "list", data := .seq vs.toArray }) (hi : IntsAre vs ns) (hl : ns.length ≤ sizeLine)
    (F : ∀ base : Heap, K.In base → base.Ns mainGlobals mg → LawAt P w K mg base fa fd [x] (spF ⟨K, mg⟩ 1 f)) (hbind : ∀ (s : Shared) (u : Value), BindsTo s fd ⟨[u], []⟩ [(x, u)]) (hf : ∃ as, f [(.frz, scrD ns)] = .ok (.frz, .at (.bl true)) as) :
    codeAny (model P w) callerA (.call (.ref fa) ⟨[.ref a], []⟩) (fun r s' => r = .ok (.ret (.bool true)) ∧ OldK s1.heap s'.heap ∧ s'.os = s1.os ∧ AllBare s'.gens) s1 := by
  have rv := L2.vals_ints hi
  obtain ⟨H, eH⟩ : ∃ H, H = scrH K a { cls := .type "list", data := .seq vs.toArray } ns := ⟨_, rfl⟩
  have at_ : ∀ {b : Addr} {o : HO}, H b = some o → b = a ∧ K.lookup a = none ∧ o = .frz { cls := .type "list", data := .seq vs.toArray } (.lst (ns.map V.int)) := fun {b o} e => by
    rw [eH] at e
    exact scrH_some e
  have hok : HOk P w H s1.heap := fun b o e => by
    obtain ⟨rfl, _, rfl⟩ := at_ e
    exact ⟨ha, by rw [List.length_map]; exact hl, vs, _, rv, ha⟩
  have sq : SqL K H a (ns.map V.int) := by
    cases hk : K.lookup a with
    | none => exact .inl (.inr ⟨_, by rw [eH]; exact if_pos ⟨rfl, hk⟩⟩)
    | some o =>
      have e := KX a o hk
      rw [ha] at e
      cases e
      exact .inr ⟨_, vs.toArray, _, hk, rfl, rfl, rfl, by rw [List.size_toArray, hi.length]; exact hl, by simpa using rv⟩
  -- what is not tracked is the ground
  have gnd : ∀ {b : Addr} {o : Obj}, s1.heap.get? b = some o → (b = a → K.lookup a ≠ none) → (hidT s1.heap H).get? b = some o := fun {b o} e n => hidT_get e (by
    cases q : H b with
    | none => rfl
    | some u =>
      obtain ⟨h1, h2, _⟩ := at_ q
      exact absurd h2 (n h1))
  have ns_ : ∀ {b : Addr} {m : Str → Option Value}, s1.heap.Ns b m → (hidT s1.heap H).Ns b m := fun {b m} ⟨o, es, ep, e, d, r⟩ => ⟨o, es, ep, gnd e (fun z => by
    subst z
    rw [ha] at e
    cases e
    cases d), d, r⟩
  have kin : K.In (hidT s1.heap H) := fun b o e => gnd (KX b o e) fun z => by
    subst z
    rw [e]
    intro q
    cases q
  have M : Mod K mg (hidT s1.heap H) := ⟨kin, ns_ hns, ⟨mb, ns_ hb, hbb⟩, by obtain ⟨mc, h1, h2⟩ := hlim; exact ⟨mc, ns_ h1, h2⟩⟩
  have e0 : Env0 P w K mg (hidT s1.heap H) callerA [] s1 H := ⟨rfl, M, fun b o e => of_hidT e, Nat.le_of_eq (hidT_size _ _), trivial, (fun b hb => by cases hb), hok, .of_eq hg⟩
  refine codeAny_mono ((F _ kin (ns_ hns)).run s1 H [.ref a] [.ref a] _ _ e0 (hbind s1 (.ref a)) (.cons rfl .nil) (spF_start (Γ := ⟨K, mg⟩) sq hf)) fun r s' h => ?_
  match r, h with
  | .error e, h =>
    obtain ⟨_, _, _, _, _, _, _, _, _, _, _, _, z⟩ := h
    exact z.elim
  | .ok (.ret u), h =>
    obtain ⟨v, H', os, bare, un, hok', r', q⟩ := h
    have q : v = .bl true := q
    subst q
    cases (show u = Value.bool true from r')
    refine ⟨rfl, OldK.of_keep fun b o e => ?_, os, bare⟩
    cases q : H b with
    | none => exact un.keep b o e q (fun z => by cases z) (fun z => by cases z)
    | some u =>
      obtain ⟨_, _, rfl⟩ := at_ q
      obtain ⟨e1, _⟩ := hok b _ q
      obtain ⟨e2, _⟩ := hok' b _ (un.frzs b _ _ q)
      rw [e] at e1
      cases e1
      exact e2
theorem walk_law {l : PySem.W.OpenLaw} {n : Nat} {q : Program} {loose : List Str} {XP : (Str → Option Value) → Heap → Prop} {YP : World → Heap → Prop} {d : DefRec} {x : Str} {f : Fn}
    (hn : l.most = some n) (hn2 : n ≤ sizeLine) (hdf : d.params.defaults = []) (hf : ∀ ns : List Int, ns.length ≤ n → ∃ as, f [(.frz, scrD ns)] = .ok (.frz, .at (.bl true)) as)
    (F : ∀ (w : World) (mg : Str → Option Value) (fa : Addr) (h : Heap), YP w h → h.Ns mainGlobals mg → mg d.name = some (.ref fa) →
      ∃ (K : PySem.W.Frag) (fd : FuncData), K.In h ∧ (∀ (s : Shared) (u : Value), BindsTo s fd ⟨[u], []⟩ [(x, u)]) ∧ ∀ base : Heap, K.In base → base.Ns mainGlobals mg → LawAt l.prog w K mg base fa fd [x] (spF ⟨K, mg⟩ 1 f)) :
    PySem.W.WalkO q loose XP YP l.row.toRowW d [] (fun f vs => PySem.call f vs) := by
  refine Att.attach_call hn hdf fun w s₀ s1 mg mb fa o pm cd doc a vs ns G Y ho hd hcd hmg hobj hints hlen hg => ?_
  obtain ⟨K, fd, KX, hb, hF⟩ := F w mg fa _ Y G.T.g hmg
  exact law_go KX G.T.g G.T.b G.T.builtins G.T.nolimit hg hobj hints (Nat.le_trans hlen hn2) hF hb (hf ns hlen)
end TL

/-! More of dicts: constants of the module, look-ups by get, displays, comprehensions, walks over the keys and values. -/
namespace TL
open PySem PySem.Spec PyProof.Rows L2
section
variable {X : Cx} {W : WX} {e o a b c i tg value iter : Expr} {es : List Expr} {pos pos' p apos cpos : Pos} {f fa fb fc fo fi fv fe : M Tv} {fl : M (List Tv)} {Γ : Gm} {Z : Zf} {R G H : Hp} {σ : L2.St} {fs fs' : Fs}
/-! ### the module's constants -/
structure Cst (Γ : Gm) (x : Str) (d : D) : Prop where
  ex : ∃ (u : Value) (v : V), Γ.mg x = some u ∧ RelV v u ∧ Fix Γ d v
def vCst (d : D) : M Tv := ret (.frz d)
theorem x_gcst {x : Str} {d : D} (h : Cst (GX X) x d) (hg : Gl X x := by rfl) (hd : (x == ("__debug__" : Str)) = false := by decide) : TX X W (.Name x pos) (vCst d) := by
  obtain ⟨u, v, hm, r, k⟩ := h.ex
  exact x_con hm r k hg hd
/-- a dict with text keys -/
structure CstD (Γ : Gm) (w : World) (x : Str) (tab : List (Str × D)) : Prop where
  ex : ∃ (q : Addr) (es : Array DictEntry) (n : Nat), Γ.mg x = some (.ref q) ∧ KDict Γ.K w q es n ∧ ∀ z d, tab.lookup z = some d → ∃ u v, PySem.W.nsIn Γ.K q z = some (some u) ∧ RelV v u ∧ Fix Γ d v
def gdD (tab : List (Str × D)) (d : D) : Option Tv := match d with
  | .at (.str z) => (tab.lookup z).map .frz
  | _ => none
theorem ix_kd {q : Addr} {es : Array DictEntry} {n : Nat} (D : KDict X.K X.w q es n) : IxR X (fun x y H Q => ∃ (z : Str) (u0 : Value) (v0 : V), x = .ref q ∧ y = .str z ∧ PySem.W.nsIn X.K q z = some (some u0) ∧ RelV v0 u0 ∧ Q v0 H) := by
  intro value slice pins s σ H x y v u Q I rx ry h hs
  obtain ⟨z, u0, v0, rfl, rfl, e1, e2, q⟩ := h
  have h2 := op_item_kd D pins s σ H _ _ v u Q I rx ry ⟨z, u0, v0, rfl, rfl, e1, e2, q⟩
  cases rx
  exact tail_any (kd_type D I) PySem.F.slot_dict_getitem.lookup h2 hs
theorem x_gdic {x : Str} {tab : List (Str × D)} (h : CstD (GX X) X.w x tab) (hb : TX X W b fb) (hs : PlainIx b := by intro _ _; rfl) (hg : Gl X x := by rfl) (hd : (x == ("__debug__" : Str)) = false := by decide) :
    TX X W (.Subscript (.Name x p) b pos) (bnd fb (dop1 (gdD tab))) := by
  obtain ⟨q, es, n, hm, kd, val⟩ := h.ex
  refine .of (pe_ix (ix_kd kd) (pe_glob (v := .ref q) hg hm rfl hd) hb.pe hs) fun Z R G σ H fs Q T w => ?_
  show rE (GX X) W fb σ H _
  refine se_c Z R G σ H fs _ T ((wp_bnd.mp w).mono (fun y fs1 h1 G1 H1 u T1 g1 v1 => ?_) fun _ _ q => q)
  unfold dop1 at h1
  cases e1 : rdv y fs1 with
  | none => rw [e1] at h1; exact h1.elim
  | some d =>
    rw [e1] at h1
    cases e2 : gdD tab d with
    | none => simp only [e2] at h1; exact h1.elim
    | some t =>
      simp only [e2] at h1
      have rd := T1.rd v1 e1
      unfold gdD at e2
      split at e2
      · obtain ⟨d', e3, rfl⟩ := Option.map_eq_some_iff.mp e2
        cases rd
        obtain ⟨u0, v0, k1, k2, k3⟩ := val _ _ e3
        exact ⟨_, u0, v0, rfl, rfl, k1, k2, (PstE.grow g1 h1).rep T1 (k3 G1)⟩
      · cases e2
/-! ### look-ups by get -/
def isDic : D → Bool
  | .nd .dK _ => true
  | .nd .dT _ => true
  | _ => false
def getD (d k : D) : Option Tv := (lookD d k).map fun o => match o with
  | some v => .frz v
  | none => .frz (.at .non)
def vGet (fo fe : M Tv) : M Tv := bnd fo fun x fs => match rdv x fs with
  | some d => if isDic d = true then bnd fe (fun y => dop2 getD x y) fs else .bad
  | none => .bad
theorem isDic_ok {Z : Zf} {d : D} {u : V} (T : TI Γ Z R G σ H fs) (h : isDic d = true) (r : RdH Γ G H d u) : ∃ a, u = .ref a ∧ IsD H a := by
  unfold isDic at h
  split at h
  · obtain ⟨p, kvs, rfl, h1, _⟩ := r
    exact ⟨p, rfl, .inl ⟨kvs, h1⟩⟩
  · obtain ⟨p, kvs, rfl, h1, _⟩ := r
    exact ⟨p, rfl, .inr ⟨kvs, h1⟩⟩
  · cases h
theorem x_dget (k : Ctl X W) (ho : TX X W o fo) (he : TX X W e fe) (hbase : attributeBase o "get" X.env (eval o X.env) = eval o X.env := by rfl)
    (hfew : ((backTo cpos (starEach [e] X.env)).all (fun x => !x.1) && (backToKw cpos (keywordEach [] X.env)).all (fun x => x.1.isSome)
      && decide (([e] : List Expr).length + ([] : List Keyword).length + (if ([] : List Keyword).isEmpty then 0 else 1) < 30)) = true := by rfl)
    (hline : (apos.endLine == cpos.line) = true := by rfl) (ht : backTo cpos (starEach [e] X.env) = [(false, eval e X.env)] := by rfl) :
    TX X W (.Call (.Attribute o "get" apos) [e] [] cpos) (vGet fo fe) := by
  refine .of (pe_dget1 (by have := k.units; omega) ho.pe he.pe ⟨hbase, hfew, hline, ht⟩) fun Z R G σ H fs Q T w => ?_
  refine se_c Z R G σ H fs _ T ((wp_bnd.mp w).mono (fun x fs1 h1 G1 H1 u T1 g1 v1 => ?_) fun _ _ q => q)
  cases e1 : rdv x fs1 with
  | none => simp only [e1] at h1; exact h1.elim
  | some d =>
    simp only [e1] at h1
    by_cases hd : isDic d = true
    · rw [if_pos hd] at h1
      obtain ⟨a, rfl, isd⟩ := isDic_ok T1 hd (T1.rd v1 e1)
      refine ⟨a, rfl, isd, ?_⟩
      obtain ⟨R1, s1, T1', _, back⟩ := T1.protect v1
      refine se_c Z R1 G1 σ H1 fs1 _ T1' ((wp_bnd.mp h1).mono (fun y fs2 h2 G2 H2 w2 T2 g2 v2 => ?_) fun _ _ q => (q.grow g1).weak s1 T1.br)
      obtain ⟨T2', g2', v1', y'⟩ := back G2 H2 fs2 T2 g2
      have h2 : (dop2 getD x y fs2).Wp (PstE (GX X) Z R G σ Q) (PstX (GX X) Z R G σ W) := h2
      unfold dop2 at h2
      cases ex : rdv x fs2 with
      | none => simp only [ex] at h2; exact h2.elim
      | some d2 =>
        cases ey : rdv y fs2 with
        | none => simp only [ex, ey] at h2; exact h2.elim
        | some kd =>
          simp only [ex, ey] at h2
          cases eg : getD d2 kd with
          | none => simp only [eg] at h2; exact h2.elim
          | some t =>
            simp only [eg] at h2
            obtain ⟨ov, e3, rfl⟩ := Option.map_eq_some_iff.mp eg
            obtain ⟨q, r, eq, dg, hr⟩ := lookD_ok T2' (T2'.rd v1' ex) (T2'.rd (y' y w2 v2).1 ey) e3
            cases eq
            refine ⟨r, dg, ?_⟩
            have hq := PstE.grow (g1.trans g2') h2
            rcases hr with ⟨rfl, rfl⟩ | ⟨z, v, rfl, rfl, rz⟩
            · exact hq.rep T2' (.at .non)
            · exact hq.rep T2' rz
    · rw [if_neg hd] at h1
      exact h1.elim
/-! ### list(d) -/
def entK : D → Option D
  | .nd .tup [k, _] => some k
  | _ => none
def entV : D → Option D
  | .nd .tup [_, v] => some v
  | _ => none
def keysOf : List D → List D
  | [] => []
  | x :: xs => match entK x with
    | some k => k :: keysOf xs
    | none => keysOf xs
def valsOf : List D → List D
  | [] => []
  | x :: xs => match entV x with
    | some k => k :: valsOf xs
    | none => valsOf xs
theorem kD_rep (k : Key) : Rep Γ G (kD k) (kV k) := by cases k with
  | inl i => exact .at (.int i)
  | inr x => exact .at (.str x)
theorem kDs_rep : ∀ (ks : List Key), RepA Γ G (ks.map kD) (ks.map kV)
  | [] => .nil
  | k :: ks => .cons (kD_rep k) (kDs_rep ks)
theorem RepK.keys : ∀ {xs : List D} {kvs : List (Key × V)}, RepK Γ G xs kvs → RepA Γ G (keysOf xs) (kvs.map fun kv => kV kv.1)
  | _, _, .nil => .nil
  | _, _, .cons h r => .cons (kD_rep _) (RepK.keys r)
theorem RepK.vals : ∀ {xs : List D} {kvs : List (Key × V)}, RepK Γ G xs kvs → RepA Γ G (valsOf xs) (kvs.map fun kv => kv.2)
  | _, _, .nil => .nil
  | _, _, .cons h r => .cons h (RepK.vals r)
theorem RepT.keyAt : ∀ {xs : List D} {kvs : List (List Key × V)} {i : Nat} {k : List Key} {v : V}, RepT Γ G xs kvs → kvs[i]? = some (k, v) → (keysOf xs)[i]? = some (.nd .tup (k.map kD))
  | _, _, _, _, _, .nil, h => by simp at h
  | _, _, 0, _, _, .cons h r, e => by
    simp at e
    obtain ⟨rfl, rfl⟩ := e
    rfl
  | _, _, i + 1, _, _, .cons h r, e => RepT.keyAt (i := i) r (by simpa using e)
theorem RepT.keysLen : ∀ {xs : List D} {kvs : List (List Key × V)}, RepT Γ G xs kvs → (keysOf xs).length = kvs.length
  | _, _, .nil => rfl
  | _, _, .cons h r => by
    show (_ :: keysOf _).length = _
    rw [List.length_cons, List.length_cons, RepT.keysLen r]
def listA : D → Option Tv
  | .nd .dK xs => some (.own (.nd .lst (keysOf xs)))
  | .nd .lst xs => some (.own (.nd .lst xs))
  | .nd .scr xs => some (.own (.nd .lst xs))
  | .nd .tup xs => some (.own (.nd .lst xs))
  | .nd .ktp xs => some (.own (.nd .lst xs))
  | _ => none
theorem x_listA (k : Ctl X W) (hm : X.mg "list" = none) (ha : TAX X W (e :: es) fl) (hg : Gl X "list" := by rfl) (he : starEach (e :: es) X.env = (false, eval e X.env) :: starEach es X.env := by rfl) (hpl : (backTo pos (starEach es X.env)).any (·.1) = false := by rfl) :
    TX X W (.Call (.Name "list" p) (e :: es) [] pos) (bnd fl (on1 listA)) :=
  x_ct ((call_listD k.calm).or call_list_of) (sra1 fun Z R G σ H fs d u t Q T hd hg hq => by
    unfold listA at hg
    split at hg
    · cases hg
      obtain ⟨a, kvs, rfl, h1, h2⟩ := hd
      exact .inl ⟨a, kvs, rfl, h1, fun q hn => hq.new T h2.keys hn⟩
    · cases hg
      obtain ⟨p, vs, rfl, h, r⟩ := hd
      exact .inr ⟨p, vs, rfl, .inl (SqL.of h), fun q hn => hq.new T r hn⟩
    · cases hg
      obtain ⟨p, vs, rfl, h, r⟩ := hd
      exact .inr ⟨p, vs, rfl, .inl h, fun q hn => hq.new T r hn⟩
    · cases hg
      obtain ⟨p, vs, rfl, h, r⟩ := hd
      exact .inr ⟨p, vs, rfl, .inr (SqT.of (T.gh _ _ h)), fun q hn => hq.new T r hn⟩
    · cases hg
      obtain ⟨p, vs, rfl, h, r⟩ := hd
      exact .inr ⟨p, vs, rfl, .inr h, fun q hn => hq.new T r hn⟩
    · cases hg) hm PyProof.Rows.boot_list ha hg (by decide) (by decide) he hpl
/-! ### {k: v, ..} -/
def dPairs : List (M Tv × M Tv) → M (List (Key × D))
  | [] => ret []
  | (fk, fv) :: r => bnd fk fun x fs => match (rdv x fs).bind keyD with
    | some k => bnd (bnd fv frzV) (fun d => bnd (dPairs r) fun kds => ret ((k, d) :: kds)) fs
    | none => .bad
def mergeD (acc : List D) : List (Key × D) → List D
  | [] => acc
  | (k, d) :: r => mergeD (putKD k d acc) r
def vDisp (ps : List (M Tv × M Tv)) : M Tv := bnd (dPairs ps) fun kds => if kds.length ≤ 15 then ret (.own (.nd .dK (mergeD [] kds))) else badE
structure TPX (X : Cx) (W : WX) (pos : Pos) (keys : List (Option Expr)) (values : List Expr) (ps : List (M Tv × M Tv)) : Prop where
  pp : PPs X pos keys values (ps.map fun p => (rE (GX X) W p.1, rE (GX X) W p.2))
theorem d_nil : TPX X W pos [] [] [] := ⟨pps_nil⟩
theorem d_cons {k v : Expr} {ks : List (Option Expr)} {vs : List Expr} {fk fv : M Tv} {ps : List (M Tv × M Tv)} (hk : TX X W k fk) (hv : TX X W v fv) (hr : TPX X W pos ks vs ps) : TPX X W pos (some k :: ks) (v :: vs) ((fk, fv) :: ps) := ⟨pps_cons hk.pe hv.pe hr.pp⟩
inductive KDs (Γ : Gm) (G : Hp) : List (Key × D) → List (Key × V) → Prop
  | nil : KDs Γ G [] []
  | cons {k : Key} {d : D} {v : V} {ds : List (Key × D)} {vs : List (Key × V)} (h : Rep Γ G d v) (r : KDs Γ G ds vs) : KDs Γ G ((k, d) :: ds) ((k, v) :: vs)
theorem KDs.mono {G' : Hp} (s : Sub G G') : ∀ {ds : List (Key × D)} {vs : List (Key × V)}, KDs Γ G ds vs → KDs Γ G' ds vs
  | _, _, .nil => .nil
  | _, _, .cons h r => .cons (h.mono s) (r.mono s)
theorem KDs.len : ∀ {ds : List (Key × D)} {vs : List (Key × V)}, KDs Γ G ds vs → ds.length = vs.length
  | _, _, .nil => rfl
  | _, _, .cons h r => by rw [List.length_cons, List.length_cons, r.len]
theorem mergeD_ok {kds : List (Key × D)} {kvs : List (Key × V)} (h : KDs Γ G kds kvs) : ∀ {acc : List D} {av : List (Key × V)}, RepK Γ G acc av → RepK Γ G (mergeD acc kds) (mergeK av kvs) := by
  induction h with
  | nil => exact fun r => r
  | cons h t ih => exact fun r => ih (putKD_ok h r)
theorem pairs_ok : ∀ {ps : List (M Tv × M Tv)} {Z : Zf} {R G : Hp} {σ : L2.St} {H : Hp} {fs : Fs} {Q : List (V × V) → Hp → Prop}, TI Γ Z R G σ H fs →
    (dPairs ps fs).Wp (fun kds fs' => ∀ (G' H' : Hp) (kvs : List (Key × V)), TI Γ Z R G' σ H' fs' → Grow R G G' → KDs Γ G' kds kvs → Q (kvs.map fun kv => (kV kv.1, kv.2)) H') (PstX Γ Z R G σ W) →
    tPairs (ps.map fun p => (rE Γ W p.1, rE Γ W p.2)) σ H Q
  | [], Z, R, G, σ, H, fs, Q, T, w => w G H [] T Grow.refl .nil
  | (fk, fv) :: r, Z, R, G, σ, H, fs, Q, T, w => by
    unfold dPairs at w
    refine se_c Z R G σ H fs _ T ((wp_bnd.mp w).mono (fun x fs1 h1 G1 H1 u T1 g1 v1 => ?_) fun _ _ q => q)
    cases e1 : (rdv x fs1).bind keyD with
    | none => rw [e1] at h1; exact h1.elim
    | some k =>
      rw [e1] at h1
      obtain ⟨kd, e2, e3⟩ := Option.bind_eq_some_iff.mp e1
      have ku : u = kV k := keyD_v e3 (T1.rd v1 e2)
      have h1 := wp_bnd.mp (wp_bnd.mp h1)
      refine se_c Z R G1 σ H1 fs1 _ T1 (h1.mono (fun y fs2 h2 G2 H2 v T2 g2 v2 => ?_) fun _ _ q => q.grow g1)
      rcases frzV_out y fs2 with ⟨d, fs3, e⟩ | e
      · rw [e] at h2
        obtain ⟨G3, T3, g3, r3, _⟩ := T2.frzV v2 e
        have gg := g1.trans (g2.trans g3)
        have h2 := wp_bnd.mp (show (bnd (dPairs r) (fun kds => ret ((k, d) :: kds)) fs3).Wp _ _ from h2)
        refine pairs_ok T3 (h2.mono (fun kds fs4 h4 G4 H4 kvs T4 g4 k4 => ?_) fun _ _ q => q.grow gg)
        rw [ku]
        exact h4 G4 H4 ((k, v) :: kvs) T4 (gg.trans g4) (.cons (r3.mono g4.1) k4)
      · rw [e] at h2
        exact h2.elim
theorem x_disp {keys : List (Option Expr)} {values : List Expr} {ps : List (M Tv × M Tv)} (h : TPX X W pos keys values ps) (hall : keys.all (·.isSome) = true := by rfl) (hl : keys.length = values.length := by rfl) (h0 : keys ≠ [] := by intro z; cases z)
    (h15 : keys.length ≤ 15 := by decide) : TX X W (.Dict keys values pos) (vDisp ps) := by
  refine .of (pe_disp h.pp hall hl h0 h15) fun Z R G σ H fs Q T w p hp => ?_
  have vo : VOk (GX X) R G σ (upd H p (.dK [])) fs (.own (.nd .dK [])) (.ref p) := VOk.new T hp (by intro z; cases z) ⟨[], rfl, .nil⟩
  have T0 := T.alloc (o := .dK []) hp
  obtain ⟨R1, s1, T1, _, back⟩ := T0.protect vo
  unfold vDisp at w
  refine pairs_ok T1 ((wp_bnd.mp w).mono (fun kds fs2 h2 G2 H2 kvs T2 g2 k2 => ?_) fun _ _ q => q.weak s1 T.br)
  obtain ⟨T3, g3, v3, _⟩ := back G2 H2 fs2 T2 g2
  by_cases hl : kds.length ≤ 15
  · rw [if_pos hl] at h2
    obtain ⟨⟨q, eq, rq, gq, hk, ob, ho, kv0, rfl, rk⟩, ns⟩ := v3
    cases eq
    cases rk
    refine ⟨ho, kvs, rfl, by rw [← k2.len]; exact hl, h2 G2 _ (.ref p) (T3.upd rq gq ns) g3 ⟨⟨p, rfl, rq, gq, hk, _, upd_same, _, rfl, mergeD_ok k2 .nil⟩, ns⟩⟩
  · rw [if_neg hl] at h2
    exact h2.elim
/-! ### xs.extend(ys) -/
def extG (xs ds : List D) : Option (List D × D) := match ds with
  | [.nd .lst ys] => if xs.length + ys.length ≤ lineN then some (xs ++ ys, .at .non) else none
  | _ => none
theorem x_extend (ho : TX X W o fo) (ha : TAX X W [e] fl) (hbase : attributeBase o "extend" X.env (eval o X.env) = eval o X.env := by rfl)
    (hfew : ((backTo cpos (starEach [e] X.env)).all (fun x => !x.1) && (backToKw cpos (keywordEach [] X.env)).all (fun x => x.1.isSome)
      && decide ([e].length + ([] : List Keyword).length + (if ([] : List Keyword).isEmpty then 0 else 1) < 30)) = true := by rfl)
    (hline : (apos.endLine == cpos.line) = true := by rfl) (hst : starEach [e] X.env = (false, eval e X.env) :: starEach [] X.env := by rfl) (hpl : (backTo cpos (starEach [] X.env)).any (·.1) = false := by rfl) :
    TX X W (.Call (.Attribute o "extend" apos) [e] [] cpos) (bmM isLst (chgM extG) fo fl) :=
  x_lmeth PySem.F.slot_list_extend PySem.F.type_list_extend mt_extend (sra_chg fun G H p us vs xs ds xs' d Q gh hp rx rd hg hq => by
    unfold extG at hg
    split at hg
    · split at hg
      · rename_i hl
        cases hg
        cases rd with
        | cons rd rn =>
          cases rn
          cases rd with
          | lst h1 r1 =>
            exact ⟨p, _, vs, _, rfl, rfl, hp, gh _ _ h1, by rw [← rx.len, ← r1.len]; exact line_le hl, hq _ _ (rx.app r1) (.at .non)⟩
      · cases hg
    · cases hg) ho ha hbase hfew hline hst hpl
/-! ### n.bit_length() -/
def bitsD (d : D) : Option Tv := match d with
  | .at (.int i) => some (aI (Builtin.Int.intBits i : Nat))
  | _ => none
theorem x_bits (ho : TX X W o fo) (hbase : attributeBase o "bit_length" X.env (eval o X.env) = eval o X.env := by rfl) (hline : (apos.endLine == cpos.line) = true := by rfl) : TX X W (.Call (.Attribute o "bit_length" apos) [] [] cpos) (bnd fo (dop1 bitsD)) := by
  refine .of (pe_bits ho.pe hbase hline) fun Z R G σ H fs Q T w => ?_
  refine se_c Z R G σ H fs _ T ((wp_bnd.mp w).mono (fun y fs1 h1 G1 H1 u T1 g1 v1 => ?_) fun _ _ q => q)
  unfold dop1 at h1
  cases e1 : rdv y fs1 with
  | none => rw [e1] at h1; exact h1.elim
  | some d =>
    rw [e1] at h1
    cases e2 : bitsD d with
    | none => simp only [e2] at h1; exact h1.elim
    | some t =>
      simp only [e2] at h1
      have rd := T1.rd v1 e1
      unfold bitsD at e2
      split at e2
      · cases e2
        cases rd
        exact ⟨_, rfl, (PstE.grow g1 h1).at T1⟩
      · cases e2
end
end TL

/-! Walks over dicts (locked while they run), dict comprehensions. -/
namespace TL
open PySem PySem.Spec PyProof.Rows L2
section
variable {X : Cx} {W : WX} {e o a b c tg value iter : Expr} {es : List Expr} {pos pos' p apos cpos : Pos} {f fa fb fc fo fi fv fe : M Tv} {fl : M (List Tv)} {Γ : Gm} {Z : Zf} {R G H : Hp} {σ : L2.St} {fs fs' : Fs}
/-! ### locks -/
def lkD : D → Option D
  | .nd .dK xs => some (.nd .dKL xs)
  | .nd .dT xs => some (.nd .dTL xs)
  | _ => none
def ulD : D → D
  | .nd .dKL xs => .nd .dK xs
  | .nd .dTL xs => .nd .dT xs
  | d => d
def lockF (i : Nat) (fs : Fs) : Option Fs := match fs[i]? with
  | some (some (.own, d)) => (lkD d).map fun d' => fs.set i (some (.bor, d'))
  | _ => none
def unlF (i : Nat) (fs : Fs) : Fs := match fs[i]? with
  | some (some (.bor, d)) => fs.set i (some (.own, ulD d))
  | _ => fs
theorem lockD_ok (T : TI Γ Z R G σ H fs) {i : Nat} {d d' : D} (e : fs[i]? = some (some (.own, d))) (hd : lkD d = some d') : ∃ (p : Addr) (u : HO), σ[i]? = some (some (.ref p)) ∧ H p = some u ∧ Mut (some u) ∧ ∀ od : Obj, ∃ (Z1 : Zf) (R1 : Hp),
    TI Γ Z1 R1 G σ (upd H p (.frz od u)) (fs.set i (some (.bor, d'))) ∧ Sub R R1 ∧ ∀ (σ' : L2.St) (G2 H2 : Hp) (fs2 : Fs), TI Γ Z1 R1 G2 σ' H2 fs2 → Grow R1 G G2 → H2 p = some (.frz od u) ∧ Grow R G G2 ∧ TI Γ Z R G2 σ' (upd H2 p u) (unlF i fs2) ∧
      ∀ (x : Tv) (w : V), VOk Γ R1 G2 σ' H2 fs2 x w → VOk Γ R G2 σ' (upd H2 p u) (unlF i fs2) x w := by
  obtain ⟨p, hv, rp, gp, ow⟩ := T.mutAt e rfl
  -- the dict
  obtain ⟨o, ho, mo, lok⟩ : ∃ o, H p = some o ∧ Mut (some o) ∧ ∀ (od : Obj) (B : Hp), B p = some (.frz od o) → OwnAt Γ G B p d' := by
    unfold lkD at hd
    split at hd
    · cases hd
      obtain ⟨_, o, ho, kvs, rfl, r⟩ := ow
      exact ⟨_, ho, True.intro, fun od B hB => ⟨(by intro z; cases z), _, hB, od, kvs, rfl, r⟩⟩
    · cases hd
      obtain ⟨_, o, ho, kvs, rfl, r⟩ := ow
      exact ⟨_, ho, True.intro, fun od B hB => ⟨(by intro z; cases z), _, hB, od, kvs, rfl, r⟩⟩
    · cases hd
  have onf : ∀ od v, o ≠ .frz od v := fun od v z => by
    subst z
    exact mo
  have hi : i < fs.length := (List.getElem?_eq_some_iff.mp e).1
  have bp : Z.B p = none := T.br.free rp
  refine ⟨p, o, hv, ho, mo, fun od => ⟨⟨upd Z.B p (.frz od o), fun j m v => (j = i ∧ m = .bor ∧ v = .ref p) ∨ Z.io j m v⟩, upd R p (.frz od o), ?_, Sub.new rp, ?_⟩⟩
  · have oth : ∀ {j : Nat} {t : Sl}, (fs.set i (some (.bor, d')))[j]? = some (some t) → (j = i ∧ t = (.bor, d')) ∨ (j ≠ i ∧ fs[j]? = some (some t)) := fun {j t} e' => by
      by_cases hj : j = i
      · subst hj
        rw [List.getElem?_set_self hi] at e'
        cases e'
        exact .inl ⟨rfl, rfl⟩
      · rw [List.getElem?_set_ne (Ne.symm hj)] at e'
        exact .inr ⟨hj, e'⟩
    have mt : ∀ {j : Nat} {t : Sl}, (fs.set i (some (.bor, d')))[j]? = some (some t) → t.1.mut = true → j ≠ i ∧ fs[j]? = some (some t) := fun {j t} e' hm => by
      rcases oth e' with ⟨_, rfl⟩ | q
      · cases hm
      · exact q
    refine ⟨fun a v ea => ?_, fun a v ea => ?_, fun a v ea => ?_, by rw [List.length_set]; exact T.len, fun j t ej => ?_, fun a b s t v h1 h2 m1 m2 => T.inj a b s t v (mt h1 m1).2 (mt h2 m2).2 m1 m2, fun q n w hq => ?_, fun j d2 ej => ?_⟩
    · have ne : a ≠ p := fun z => by subst z; rw [gp] at ea; cases ea
      rw [upd_ne ne]
      exact T.gh a v ea
    · by_cases h : a = p
      · subst h
        rw [upd_same] at ea ⊢
        exact ea
      · rw [upd_ne h] at ea ⊢
        exact T.rh a v ea
    · by_cases h : a = p
      · subst h
        have ea : upd Z.B a (.frz od o) a = some v := ea
        rw [upd_same] at ea ⊢
        exact ea
      · have ea : upd Z.B p (.frz od o) a = some v := ea
        rw [upd_ne h] at ea ⊢
        exact T.br a v ea
    · rcases oth ej with ⟨rfl, rfl⟩ | ⟨hj, ej'⟩
      · exact ⟨_, hv, p, rfl, lok od _ (by show upd Z.B p (.frz od o) p = _; rw [upd_same])⟩
      · obtain ⟨v, a, b⟩ := T.sl j t ej'
        refine ⟨v, a, ?_⟩
        obtain ⟨m, e'⟩ := t
        cases m with
        | frz => exact b
        | own =>
          obtain ⟨q, rfl, rq, gq, oq⟩ := b
          have ne : q ≠ p := fun z => hj (T.inj j i _ _ _ ej' e rfl rfl a (by rw [hv, z]))
          exact ⟨q, rfl, by rw [upd_ne ne]; exact rq, gq, oq.mono Sub.refl (upd_ne ne)⟩
        | io =>
          obtain ⟨q, rfl, rq, gq, oq⟩ := b
          have ne : q ≠ p := fun z => hj (T.inj j i _ _ _ ej' e rfl rfl a (by rw [hv, z]))
          exact ⟨q, rfl, by rw [upd_ne ne]; exact rq, gq, oq.mono Sub.refl (upd_ne ne)⟩
        | bor =>
          obtain ⟨q, rfl, oq⟩ := b
          obtain ⟨oo, hoo⟩ := oq.has
          exact ⟨q, rfl, oq.mono Sub.refl (show upd Z.B p (.frz od o) q = Z.B q from upd_ne (ne_of_none hoo bp))⟩
    · rcases hq with ⟨rfl, rfl, rfl⟩ | hq
      · exact ⟨⟨d', List.getElem?_set_self hi, hv⟩, .inr rfl⟩
      · obtain ⟨⟨d2, h1, h2⟩, hm⟩ := T.io q n w hq
        refine ⟨⟨d2, ?_, h2⟩, hm⟩
        have hj : q ≠ i := fun z => by
          rw [z, e] at h1
          have z2 : Md.own = n := congrArg Prod.fst (Option.some.inj (Option.some.inj h1))
          rcases hm with z3 | z3 <;> (rw [z3] at z2; cases z2)
        rw [List.getElem?_set_ne (Ne.symm hj)]
        exact h1
    · rcases oth ej with ⟨rfl, _⟩ | ⟨_, q⟩
      · exact ⟨_, .inl ⟨rfl, rfl, rfl⟩⟩
      · obtain ⟨v, hv⟩ := T.bp j d2 q
        exact ⟨v, .inr hv⟩
  · intro σ' G2 H2 fs2 T2 g2
    obtain ⟨⟨d2, e2, v2⟩, _⟩ := T2.io i .bor (.ref p) (.inl ⟨rfl, rfl, rfl⟩)
    have e2 : fs2[i]? = some (some (.bor, d2)) := e2
    have v2 : σ'[i]? = some (some (.ref p)) := v2
    have hi2 : i < fs2.length := (List.getElem?_eq_some_iff.mp e2).1
    have uk : unlF i fs2 = fs2.set i (some (.own, ulD d2)) := by simp only [unlF, e2]
    have gp2 : G2 p = none := (g2.2 p _ upd_same (fun _ z => by cases z)).trans gp
    have hp2 : H2 p = some (.frz od o) := T2.rh p _ upd_same
    have ow2 : OwnAt Γ G2 (upd H2 p o) p (ulD d2) := by
      obtain ⟨v, a, q, rfl, oq⟩ := T2.sl i _ e2
      rw [v2] at a
      cases a
      have oq : OwnAt Γ G2 (upd Z.B p (.frz od o)) p d2 := oq
      cases d2 with
      | «at» a => exact oq.elim
      | nd kd xs =>
        obtain ⟨hk, ob, hb, bo⟩ := oq
        rw [upd_same] at hb
        cases hb
        cases kd with
        | scr => exact bo.elim
        | ktp => exact bo.elim
        | tup => exact absurd rfl hk
        | lst => obtain ⟨vs, z, _⟩ := bo; cases z
        | dK => obtain ⟨vs, z, _⟩ := bo; cases z
        | dT => obtain ⟨vs, z, _⟩ := bo; cases z
        | ins c ns => obtain ⟨C, dx, vs, _, z, _⟩ := bo; cases z
        | dKL =>
          obtain ⟨od', kvs, z, r⟩ := bo
          cases z
          exact ⟨(by intro z; cases z), _, upd_same, kvs, rfl, r⟩
        | dTL =>
          obtain ⟨od', kvs, z, r⟩ := bo
          cases z
          exact ⟨(by intro z; cases z), _, upd_same, kvs, rfl, r⟩
    have oth : ∀ {j : Nat} {t : Sl}, (fs2.set i (some (.own, ulD d2)))[j]? = some (some t) → (j = i ∧ t = (.own, ulD d2)) ∨ (j ≠ i ∧ fs2[j]? = some (some t)) := fun {j t} e' => by
      by_cases hj : j = i
      · subst hj
        rw [List.getElem?_set_self hi2] at e'
        cases e'
        exact .inl ⟨rfl, rfl⟩
      · rw [List.getElem?_set_ne (Ne.symm hj)] at e'
        exact .inr ⟨hj, e'⟩
    have apart : ∀ {j : Nat} {t : Sl}, fs2[j]? = some (some t) → t.1.mut = true → σ'[j]? ≠ some (some (.ref p)) := fun {j t} ej hm z => by
      obtain ⟨q, h1, h2, _⟩ := T2.mutAt ej hm
      rw [z] at h1
      cases h1
      rw [upd_same] at h2
      cases h2
    have off : ∀ {q : Addr}, upd R p (.frz od o) q = none → q ≠ p := fun {q} h z => by
      subst z
      rw [upd_same] at h
      cases h
    refine ⟨hp2, g2.sub (Sub.new rp), ?_⟩
    rw [uk]
    refine ⟨⟨fun a v ea => ?_, fun a v ea => ?_, T.br, by rw [List.length_set]; exact T2.len, fun j t ej => ?_, fun a b s t v h1 h2 m1 m2 a1 a2 => ?_, fun q n w hq => ?_, fun j d3 ej => ?_⟩, fun x u hx => ?_⟩
    · have ne : a ≠ p := fun z => by subst z; rw [gp2] at ea; cases ea
      rw [upd_ne ne]
      exact T2.gh a v ea
    · have ne : a ≠ p := fun z => by subst z; rw [rp] at ea; cases ea
      rw [upd_ne ne]
      exact T2.rh a v (by rw [upd_ne ne]; exact ea)
    · rcases oth ej with ⟨rfl, rfl⟩ | ⟨hj, ej'⟩
      · exact ⟨_, v2, p, rfl, rp, gp2, ow2⟩
      · obtain ⟨v, a, b⟩ := T2.sl j t ej'
        refine ⟨v, a, ?_⟩
        obtain ⟨m, e'⟩ := t
        cases m with
        | frz => exact b
        | own =>
          obtain ⟨q, rfl, rq, gq, oq⟩ := b
          exact ⟨q, rfl, (Sub.new rp).free rq, gq, oq.mono Sub.refl (upd_ne (off rq))⟩
        | io =>
          obtain ⟨q, rfl, rq, gq, oq⟩ := b
          exact ⟨q, rfl, (Sub.new rp).free rq, gq, oq.mono Sub.refl (upd_ne (off rq))⟩
        | bor =>
          obtain ⟨q, rfl, oq⟩ := b
          have ne : q ≠ p := fun z => by
            obtain ⟨v, hv'⟩ := T2.bp j e' ej'
            rcases hv' with z1 | z1
            · exact hj z1.1
            · obtain ⟨⟨_, _, a2⟩, _⟩ := T2.io _ _ _ (.inr z1)
              obtain ⟨⟨d1, b1, b2⟩, _⟩ := T.io _ _ _ z1
              obtain ⟨v3, c1, q3, rfl, oq3⟩ := T.sl j _ b1
              have a2 : σ'[j]? = some (some v) := a2
              have b2 : σ[j]? = some (some v) := b2
              rw [a] at a2
              cases a2
              rw [b2] at c1
              cases c1
              obtain ⟨oo, hoo⟩ := oq3.has
              rw [z, bp] at hoo
              cases hoo
          exact ⟨q, rfl, oq.mono Sub.refl (show Z.B q = upd Z.B p (.frz od o) q from (upd_ne ne).symm)⟩
    · rcases oth h1 with ⟨rfl, rfl⟩ | ⟨ha, h1'⟩
      · rcases oth h2 with ⟨rfl, rfl⟩ | ⟨hb, h2'⟩
        · rfl
        · rw [v2] at a1
          cases a1
          exact absurd a2 (apart h2' m2)
      · rcases oth h2 with ⟨rfl, rfl⟩ | ⟨hb, h2'⟩
        · rw [v2] at a2
          cases a2
          exact absurd a1 (apart h1' m1)
        · exact T2.inj a b s t v h1' h2' m1 m2 a1 a2
    · obtain ⟨⟨d3, h1, h2⟩, hm⟩ := T2.io q n w (.inr hq)
      refine ⟨⟨d3, ?_, h2⟩, hm⟩
      have hj : q ≠ i := fun z => by
        obtain ⟨⟨d1, b1, _⟩, _⟩ := T.io q n w hq
        rw [z, e] at b1
        have z2 : Md.own = n := congrArg Prod.fst (Option.some.inj (Option.some.inj b1))
        rcases hm with z3 | z3 <;> (rw [z3] at z2; cases z2)
      rw [List.getElem?_set_ne (Ne.symm hj)]
      exact h1
    · rcases oth ej with ⟨rfl, z⟩ | ⟨hj, q⟩
      · cases z
      · obtain ⟨v, hv'⟩ := T2.bp j d3 q
        rcases hv' with z1 | z1
        · exact absurd z1.1 hj
        · exact ⟨v, z1⟩
    · cases x with
      | frz d => exact hx
      | slot j => exact hx
      | own d3 =>
        obtain ⟨⟨q, rfl, rq, gq, oq⟩, nq⟩ := hx
        refine ⟨⟨q, rfl, (Sub.new rp).free rq, gq, oq.mono Sub.refl (upd_ne (off rq))⟩, fun j t ej hm => ?_⟩
        rcases oth ej with ⟨rfl, rfl⟩ | ⟨hj, ej'⟩
        · rw [v2]
          intro z
          cases z
          rw [upd_same] at rq
          cases rq
        · exact nq j t ej' hm
def lockE (i : Nat) (f : M Tv) : M Tv := fun fs => match lockF i fs with
  | some fs1 => match f fs1 with
    | .ok x fs2 => .ok x (unlF i fs2)
    | _ => .bad
  | none => .bad
theorem lockF_some {i : Nat} {fs fs1 : Fs} (h : lockF i fs = some fs1) : ∃ d d', fs[i]? = some (some (.own, d)) ∧ lkD d = some d' ∧ fs1 = fs.set i (some (.bor, d')) := by
  unfold lockF at h
  split at h
  · rename_i d e
    obtain ⟨d', h1, h2⟩ := Option.map_eq_some_iff.mp h
    exact ⟨d, d', e, h1, h2.symm⟩
  · cases h
theorem x_lock (i : Nat) (h : TX X W e f) : TX X W e (lockE i f) := .of (pe_lock h.pe) fun Z R G σ H fs Q T w => by
  unfold lockE at w
  cases e1 : lockF i fs with
  | none => rw [e1] at w; exact w.elim
  | some fs1 =>
    simp only [e1] at w
    obtain ⟨d, d', ei, hd, rfl⟩ := lockF_some e1
    obtain ⟨p, u, hv, hp, mu, lk⟩ := lockD_ok T ei hd
    refine ⟨p, u, hp, mu, fun od => ?_⟩
    obtain ⟨Z1, R1, T1, s1, back⟩ := lk od
    refine se_c Z1 R1 G σ _ _ _ T1 ?_
    cases e2 : f (fs.set i (some (.bor, d'))) with
    | bad => simp only [e2] at w; exact w.elim
    | ex _ _ => simp only [e2] at w; exact w.elim
    | ok x fs2 =>
      simp only [e2] at w
      intro G2 H2 v T2 g2 v2
      obtain ⟨b1, b2, b3, b4⟩ := back σ G2 H2 fs2 T2 g2
      exact ⟨b1, w G2 _ v b3 b2 (b4 x v v2)⟩
def lockS (i : Nat) (g : S) : S := fun fs => match lockF i fs with
  | some fs1 => match g fs1 with
    | .nx fs2 => .nx (unlF i fs2)
    | .rt x fs2 => .rt x (unlF i fs2)
    | .bk fs2 => .bk (unlF i fs2)
    | .ct fs2 => .ct (unlF i fs2)
    | _ => .bad
  | none => .bad
theorem s_lock {st : Stmt} {g : S} (i : Nat) (h : TSX X W st g) : TSX X W st (lockS i g) := .of (ps_lock h.ps) fun Z R G σ H fs Dn T w => by
  unfold lockS at w
  cases e1 : lockF i fs with
  | none => rw [e1] at w; exact w.elim
  | some fs1 =>
    simp only [e1] at w
    obtain ⟨d, d', ei, hd, rfl⟩ := lockF_some e1
    obtain ⟨p, u, hv, hp, mu, lk⟩ := lockD_ok T ei hd
    refine ⟨p, u, hp, mu, fun od => ?_⟩
    obtain ⟨Z1, R1, T1, s1, back⟩ := lk od
    refine ss_c Z1 R1 G σ _ _ _ T1 ?_
    cases e2 : g (fs.set i (some (.bor, d'))) with
    | bad => simp only [e2] at w; exact w.elim
    | ex _ _ => simp only [e2] at w; exact w.elim
    | nx fs2 =>
      simp only [e2] at w
      intro σ2 G2 H2 T2 g2
      obtain ⟨b1, b2, b3, b4⟩ := back σ2 G2 H2 fs2 T2 g2
      exact ⟨b1, w σ2 G2 _ b3 b2⟩
    | bk fs2 =>
      simp only [e2] at w
      intro σ2 G2 H2 T2 g2
      obtain ⟨b1, b2, b3, b4⟩ := back σ2 G2 H2 fs2 T2 g2
      exact ⟨b1, w σ2 G2 _ b3 b2⟩
    | ct fs2 =>
      simp only [e2] at w
      intro σ2 G2 H2 T2 g2
      obtain ⟨b1, b2, b3, b4⟩ := back σ2 G2 H2 fs2 T2 g2
      exact ⟨b1, w σ2 G2 _ b3 b2⟩
    | rt x fs2 =>
      simp only [e2] at w
      intro σ2 G2 H2 v T2 g2 v2
      obtain ⟨b1, b2, b3, b4⟩ := back σ2 G2 H2 fs2 T2 g2
      exact ⟨b1, w σ2 G2 _ v b3 b2 (b4 x v v2)⟩
/-! ### the keys, the values of a locked dict -/
def vKeys (f : M Tv) : M Itv := bnd f fun x fs => match x with
  | .slot i => match fs[i]? with
    | some (some (.bor, .nd .dKL xs)) => .ok ⟨keysOf xs, none⟩ fs
    | some (some (.bor, .nd .dTL xs)) => .ok ⟨keysOf xs, none⟩ fs
    | _ => .bad
  | _ => .bad
def vVals (f : M Tv) : M Itv := bnd f fun x fs => match x with
  | .slot i => match fs[i]? with
    | some (some (.bor, .nd .dKL xs)) => .ok ⟨valsOf xs, none⟩ fs
    | _ => .bad
  | _ => .bad
theorem i_keys (he : TX X W e f) : TIX X W tg e (vKeys f) := ⟨⟨fun pins st σ H Q I ⟨Z, R, G, fs, T, w⟩ => (pi_keys he.pe).run pins st σ H Q I (by
  refine se_c Z R G σ H fs _ T ((wp_bnd.mp w).mono (fun x fs1 h1 G1 H1 u T1 g1 v1 => ?_) fun _ _ q => q)
  split at h1
  · rename_i i
    have hi : σ[i]? = some (some u) := v1
    split at h1
    · rename_i xs ei
      obtain ⟨v, hv, q, rfl, ow⟩ := T1.sl i _ ei
      rw [hi] at hv
      cases hv
      obtain ⟨_, ob, hb, od, kvs, rfl, r⟩ := ow
      have hR : R q = some (.frz od (.dK kvs)) := T1.br q _ hb
      refine ⟨q, od, rfl, .inl ⟨kvs, T1.rh q _ hR, h1 G1 H1 _ Z R T1 g1 (JOk.plain T1 rfl ?_)⟩⟩
      have hl : (keysOf xs).length = kvs.length := by rw [r.keys.len, List.length_map]
      show Walk _ (keysOf xs).length _ _
      rw [hl]
      refine walk_keys.mono (fun H' hh => hh.1 q _ hR) fun j H2 x H3 hj hh y => ?_
      obtain ⟨rfl, k, v, e1, rfl⟩ := y
      obtain ⟨d, h1, h2⟩ := r.keys.get (i := j) (x := kV k) (by rw [List.getElem?_map, e1]; rfl)
      exact ⟨d, h1, .inl ⟨rfl, h2⟩⟩
    · rename_i xs ei
      obtain ⟨v, hv, q, rfl, ow⟩ := T1.sl i _ ei
      rw [hi] at hv
      cases hv
      obtain ⟨_, ob, hb, od, kvs, rfl, r⟩ := ow
      have hR : R q = some (.frz od (.dT kvs)) := T1.br q _ hb
      refine ⟨q, od, rfl, .inr ⟨kvs, T1.rh q _ hR, h1 G1 H1 _ Z R T1 g1 (JOk.plain T1 rfl ?_)⟩⟩
      show Walk _ (keysOf xs).length _ _
      rw [r.keysLen]
      refine walk_keysT.mono (fun H' hh => hh.1 q _ hR) fun j H2 x H3 hj hh y => ?_
      obtain ⟨rfl, k, v, q2, e1, rfl, e2⟩ := y
      exact ⟨_, r.keyAt e1, .inr (.inr ⟨q2, _, _, rfl, rfl, e2, rfl, kDs_rep k⟩)⟩
    · exact h1.elim
  · exact h1.elim)⟩⟩
theorem i_vals (he : TX X W e f) (hbase : attributeBase e "values" X.env (eval e X.env) = eval e X.env := by rfl) (hline : (apos.endLine == cpos.line) = true := by rfl) : TIX X W tg (.Call (.Attribute e "values" apos) [] [] cpos) (vVals f) := ⟨⟨fun pins st σ H Q I ⟨Z, R, G, fs, T, w⟩ => (pi_values he.pe hbase hline).run pins st σ H Q I (by
  refine se_c Z R G σ H fs _ T ((wp_bnd.mp w).mono (fun x fs1 h1 G1 H1 u T1 g1 v1 => ?_) fun _ _ q => q)
  split at h1
  · rename_i i
    have hi : σ[i]? = some (some u) := v1
    split at h1
    · rename_i xs ei
      obtain ⟨v, hv, q, rfl, ow⟩ := T1.sl i _ ei
      rw [hi] at hv
      cases hv
      obtain ⟨_, ob, hb, od, kvs, rfl, r⟩ := ow
      have hR : R q = some (.frz od (.dK kvs)) := T1.br q _ hb
      refine ⟨q, od, kvs, rfl, T1.rh q _ hR, h1 G1 H1 _ Z R T1 g1 (JOk.plain T1 rfl ?_)⟩
      have hl : (valsOf xs).length = kvs.length := by rw [r.vals.len, List.length_map]
      show Walk _ (valsOf xs).length _ _
      rw [hl]
      refine walk_values.mono (fun H' hh => hh.1 q _ hR) fun j H2 x H3 hj hh y => ?_
      obtain ⟨rfl, k, e1⟩ := y
      obtain ⟨d, h1, h2⟩ := r.vals.get (i := j) (x := x) (by rw [List.getElem?_map, e1]; rfl)
      exact ⟨d, h1, .inl ⟨rfl, h2⟩⟩
    · exact h1.elim
  · exact h1.elim)⟩⟩
/-! ### {k: v for ..} -/
def dloop (p : Pat) (c : M Bool) (fk : M Tv) (e : M D) (own : List Nat) : List D → List D → Fs → Out (List D)
  | [], acc, fs => .ok acc fs
  | d :: ds, acc, fs => match asg p d fs with
    | none => .bad
    | some fs1 => match c fs1 with
      | .ok true fs2 => match bnd fk (fun x fs => match (rdv x fs).bind keyD with | some k => .ok k fs | none => .bad) fs2 with
        | .ok k fs3 => match e fs3 with
          | .ok x fs4 => dloop p c fk e own ds (putKD k x acc) (wipeF own fs4)
          | _ => .bad
        | _ => .bad
      | .ok false fs2 => dloop p c fk e own ds acc (wipeF own fs2)
      | _ => .bad
def dcomp (f : M Itv) (p : Pat) (c : M Bool) (fk : M Tv) (e : M D) (own : List Nat) : M Tv := bnd f fun it fs =>
  if okOwn own (lkf it.lk fs) = true ∧ it.items.length ≤ 16777216 then
    match dloop p c fk e own it.items [] (wipeF own (lkf it.lk fs)) with
    | .ok xs fs' => .ok (.own (.nd .dK xs)) (unw own fs (unl it.lk fs'))
    | _ => .bad
  else .bad
theorem dc_it {J : It} {n : Nat} {GG : Hp → Prop} {Y : Nat → Hp → V → Hp → Prop} (w : Walk J n GG Y) {g : TG} {tt : TT} {tk tv : TE} {vs : List Nat} {σ : L2.St} {H1 : Hp} {D : Addr} {Qd : Hp → Prop} (Pv : Nat → Hp → Prop) (h0 : Pv 0 (upd H1 D (.dK []))) (hG : ∀ i H, i ≤ n → Pv i H → GG H)
    (hs : ∀ i x H H', i < n → Pv i H → Y i H x H' → g x (wipe σ vs) H' fun σ2 H2 => wipe σ2 vs = wipe σ vs ∧ tt σ2 H2 fun b H3 =>
      if b = true then tk σ2 H3 fun y H4 => tv σ2 H4 fun z H5 => ∃ kvs k, y = kV k ∧ H5 D = some (.dK kvs) ∧ kvs.length < sizeLine ∧ Pv (i + 1) (upd H5 D (.dK (putK kvs k z))) else Pv (i + 1) H3) (hd : ∀ H, Pv n H → Qd H) :
    ∃ W : Nat → Nat → Hp → Prop, (∃ m, W 0 m (upd H1 D (.dK []))) ∧ ∀ i m H, W i m H →
      (J.stop i H ∧ Qd H) ∨ (J.go i H ∧ ∃ Nx : Hp → Prop, (∀ H', Nx H' → ∃ m', m' < m ∧ W (i + 1) m' H') ∧ ∀ x H', J.yld i H x H' → g x (wipe σ vs) H' fun σ2 H2 => wipe σ2 vs = wipe σ vs ∧ tt σ2 H2 fun b H3 =>
        if b = true then tk σ2 H3 fun y H4 => tv σ2 H4 fun z H5 => ∃ kvs k, y = kV k ∧ H5 D = some (.dK kvs) ∧ kvs.length < sizeLine ∧ Nx (upd H5 D (.dK (putK kvs k z))) else Nx H3) := by
  refine ⟨fun i m H => m = n - i ∧ i ≤ n ∧ Pv i H, ⟨n, by simp, Nat.zero_le _, h0⟩, ?_⟩
  rintro i m H ⟨rfl, hi, p⟩
  have q := hG i H hi p
  by_cases hlt : i < n
  · exact .inr ⟨w.goes i H hlt q, Pv (i + 1), fun H' p' => ⟨n - (i + 1), by omega, rfl, hlt, p'⟩, fun x H' y => hs i x H H' hlt p (w.yields i H x H' hlt q y)⟩
  · have e : i = n := by omega
    subst e
    exact .inl ⟨w.stops H q, hd H p⟩
def DompP (Γ : Gm) (Z : Zf) (R G0 : Hp) (items : List TL.D) (p : Pat) (c : M Bool) (fk : M Tv) (e : M TL.D) (own : List Nat) (fin : List TL.D) (ff : Fs) (D0 : Addr) (σ : L2.St) (i : Nat) (H : Hp) : Prop :=
  ∃ (G : Hp) (fs : Fs) (acc : List TL.D), TI Γ Z R G σ H fs ∧ Grow R G0 G ∧ VOk Γ R G σ H fs (.own (.nd .dK acc)) (.ref D0) ∧ acc.length ≤ i ∧ dloop p c fk e own (items.drop i) acc fs = .ok fin ff
theorem putKD_len {k : Key} {d : TL.D} {xs : List TL.D} : (putKD k d xs).length ≤ xs.length + 1 := by
  unfold putKD
  cases lookK k xs with
  | none => simp
  | some o =>
    have : ∀ l : List TL.D, (replK k d l).length = l.length := fun l => by
      induction l with
      | nil => rfl
      | cons x l ih =>
        unfold replK
        split
        · rename_i h; cases h; split <;> simp [ih]
        · rename_i h; cases h; simp [ih]
        · rename_i h; cases h
    simp [this]
end
end TL

/-! Dict comprehensions. -/
namespace TL
open PySem PySem.Spec PyProof.Rows L2
section
variable {X : Cx} {W : WX} {Γ : Gm} {Z : Zf} {R G H : Hp} {σ : L2.St} {fs fs' : Fs}
theorem se_dc {wi : L2.TI} {g : TG} {tt : TT} {te : TE} {f : M Itv} {p : Pat} {c : M Bool} {fk : M Tv} {e : M TL.D} {own : List Nat} (hp : ∀ i ∈ p.sl, i ∈ own) (hi : SI Γ W wi f) (hg : SG Γ g p) (hc : ST Γ W0 tt c) (he : ELD Γ te e) :
    SE Γ W (tDc wi g tt (rE Γ W0 fk) te own) (dcomp f p c fk e own) := by
  intro Z R G σ H fs Q T h
  refine hi Z R G σ H fs _ T ((wp_bnd.mp h).mono (fun it fs0 hk G0 H0 J Z1 R1 T0 g0 jo => ?_) fun _ _ q => q)
  obtain ⟨items, lk⟩ := it
  by_cases ok : okOwn own (lkf lk fs0) = true ∧ items.length ≤ 16777216
  · rw [if_pos ok] at hk
    obtain ⟨ok, hlen⟩ := ok
    cases ef : dloop p c fk e own items [] (wipeF own (lkf lk fs0)) with
    | bad => simp only [ef] at hk; exact hk.elim
    | ex _ _ => simp only [ef] at hk; exact hk.elim
    | ok xs ff =>
      simp only [ef] at hk
      intro D0 nD
      have hq1 := pins_off jo.ti ok
      have hq0 : ∀ (q : Nat) (n : Md) (v : V), Z.io q n v → q ∉ own := fun q n w hq => hq1 q n w (jo.pins q n w hq)
      have Tw := jo.ti.wipe hq1
      have Tw' : TI Γ Z1 R1 G0 (wipe σ own) (upd H0 D0 (.dK [])) (wipeF own (lkf lk fs0)) := Tw.alloc nD
      refine dc_it jo.walk (DompP Γ Z1 R1 G0 items p c fk e own xs ff D0 (wipe σ own)) ⟨G0, _, [], Tw', Grow.refl, VOk.new Tw nD (by intro z; cases z) ⟨[], rfl, .nil⟩, Nat.le_refl _, ef⟩
        (fun i H _ ⟨G1, fs1, acc, T1, g1, _⟩ => ⟨T1.rh, g1.1.trans T1.gh⟩) ?_ ?_
      · rintro i x H1 H2 hi ⟨G1, fs1, acc, T1, g1, vo, hl, h1⟩ ⟨d, hd, gv⟩
        have hi : i < items.length := hi
        have hd : items[i]? = some d := hd
        have ed : items.drop i = d :: items.drop (i + 1) := by
          rw [List.drop_eq_getElem_cons hi]
          rw [List.getElem?_eq_getElem hi] at hd
          cases hd
          rfl
        rw [ed] at h1
        unfold dloop at h1
        cases ea : asg p d fs1 with
        | none => rw [ea] at h1; cases h1
        | some fs2 =>
          simp only [ea] at h1
          obtain ⟨⟨pD, eD, rD, gD, owD⟩, nsD⟩ := vo
          cases eD
          obtain ⟨hkD, oD, hoD, ⟨vsD, rfl, raD⟩⟩ := owD
          have lenD : vsD.length = acc.length := by rw [← raD.len]
          -- the dict that grows is kept while the turn is reckoned
          obtain ⟨R2, s2, T2, hR2⟩ : ∃ R2, Sub R1 R2 ∧ TI Γ Z1 R2 G1 (wipe σ own) H1 fs1 ∧ R2 = upd R1 D0 (.dK vsD) := by
            refine ⟨_, Sub.new rD, ⟨T1.gh, fun a v ea => ?_, T1.br.trans (Sub.new rD), T1.len, fun j s ej => ?_, T1.inj, T1.io, T1.bp⟩, rfl⟩
            · by_cases hh : a = D0
              · subst hh
                rw [upd_same] at ea
                rw [hoD, ea]
              · rw [upd_ne hh] at ea
                exact T1.rh a v ea
            · obtain ⟨v, a, b⟩ := T1.sl j s ej
              refine ⟨v, a, ?_⟩
              obtain ⟨m, d'⟩ := s
              cases m with
              | frz => exact b
              | bor => exact b
              | own =>
                obtain ⟨q, rfl, r, t⟩ := b
                have ne : q ≠ D0 := fun z => nsD j _ ej rfl (by rw [a, z])
                exact ⟨q, rfl, by rw [upd_ne ne]; exact r, t⟩
              | io =>
                obtain ⟨q, rfl, r, t⟩ := b
                have ne : q ≠ D0 := fun z => nsD j _ ej rfl (by rw [a, z])
                exact ⟨q, rfl, by rw [upd_ne ne]; exact r, t⟩
          have keepD : ∀ {G3 H3 : Hp} {σ3 : L2.St} {fs3 : Fs}, TI Γ Z1 R2 G3 σ3 H3 fs3 → Grow R2 G1 G3 → H3 D0 = some (.dK vsD) ∧ G3 D0 = none ∧ ∀ (j : Nat) (s : Sl), fs3[j]? = some (some s) → s.1.mut = true → σ3[j]? ≠ some (some (.ref D0)) := by
            intro G3 H3 σ3 fs3 T3 g3
            refine ⟨T3.rh D0 _ (by rw [hR2, upd_same]), (g3.2 D0 (.dK vsD) (by rw [hR2, upd_same]) (fun _ z => by cases z)).trans gD, fun j s ej hm z => ?_⟩
            obtain ⟨q, a1, a2, _⟩ := T3.mutAt ej hm
            rw [z] at a1
            cases a1
            rw [hR2, upd_same] at a2
            cases a2
          have turn : ∀ {G2 : Hp} {σ2 : L2.St}, TI Γ Z1 R2 G2 σ2 H2 fs2 → Grow R2 G1 G2 → Off p.sl (wipe σ own) σ2 → wipe σ2 own = wipe σ own ∧ tt σ2 H2 fun b H3 =>
              if b = true then rE Γ W0 fk σ2 H3 fun y H4 => te σ2 H4 fun z H5 => ∃ kvs k, y = kV k ∧ H5 D0 = some (.dK kvs) ∧ kvs.length < sizeLine ∧ DompP Γ Z1 R1 G0 items p c fk e own xs ff D0 (wipe σ own) (i + 1) (upd H5 D0 (.dK (putK kvs k z)))
              else DompP Γ Z1 R1 G0 items p c fk e own xs ff D0 (wipe σ own) (i + 1) H3 := by
            intro G2 σ2 T2' g2 o2
            have ew : wipe σ2 own = wipe σ own := by
              rw [← wipe_wipe (σ := σ)]
              exact wipe_ext ⟨o2.1, fun j hj => o2.2 j fun z => hj (hp j z)⟩
            refine ⟨ew, hc Z1 R2 G2 σ2 H2 fs2 _ T2' ?_⟩
            cases ec : c fs2 with
            | bad => simp only [ec] at h1; cases h1
            | ex _ _ => simp only [ec] at h1; cases h1
            | ok b fs3 =>
              simp only [ec] at h1
              intro G3 H3 T3 g3
              cases b with
              | false =>
                show DompP Γ Z1 R1 G0 items p c fk e own xs ff D0 (wipe σ own) (i + 1) H3
                have gg := g2.trans g3
                obtain ⟨k1, k2, k3⟩ := keepD T3 gg
                have Tw3 := (T3.weak s2 T1.br).wipe hq1
                rw [ew] at Tw3
                refine ⟨G3, _, acc, Tw3, g1.trans (gg.sub s2), ⟨⟨D0, rfl, rD, k2, hkD, _, k1, vsD, rfl, raD.mono gg.1⟩, fun j s ej hm => ?_⟩, Nat.le_succ_of_le hl, h1⟩
                by_cases hj : j ∈ own
                · exact absurd ej (wipeF_in hj)
                · rw [wipeF_off hj] at ej
                  rw [← ew, wipe_out hj]
                  exact k3 j s ej hm
              | true =>
                show rE Γ W0 fk σ2 H3 _
                refine se_c Z1 R2 G3 σ2 H3 fs3 _ T3 ?_
                cases ek : fk fs3 with
                | bad => simp only [bnd, ek] at h1; cases h1
                | ex _ _ => simp only [bnd, ek] at h1; cases h1
                | ok y fs4 =>
                  simp only [bnd, ek] at h1
                  intro G4 H4 u T4 g4 v4
                  cases ekk : (rdv y fs4).bind keyD with
                  | none => simp only [ekk] at h1; cases h1
                  | some key =>
                    simp only [ekk] at h1
                    obtain ⟨kd, z1, z2⟩ := Option.bind_eq_some_iff.mp ekk
                    have ku : u = kV key := keyD_v z2 (T4.rd v4 z1)
                    refine he Z1 R2 G4 σ2 H4 fs4 _ T4 ?_
                    cases ee : e fs4 with
                    | bad => simp only [ee] at h1; cases h1
                    | ex _ _ => simp only [ee] at h1; cases h1
                    | ok x5 fs5 =>
                      simp only [ee] at h1
                      intro G5 H5 v T5 g5 r5
                      have gg := g2.trans (g3.trans (g4.trans g5))
                      obtain ⟨k1, k2, k3⟩ := keepD T5 gg
                      have Tw5 := (T5.weak s2 T1.br).wipe hq1
                      rw [ew] at Tw5
                      have k3' : ∀ (j : Nat) (s : Sl), (wipeF own fs5)[j]? = some (some s) → s.1.mut = true → (wipe σ own)[j]? ≠ some (some (.ref D0)) := fun j s ej hm => by
                        by_cases hj : j ∈ own
                        · exact absurd ej (wipeF_in hj)
                        · rw [wipeF_off hj] at ej
                          rw [← ew, wipe_out hj]
                          exact k3 j s ej hm
                      exact ⟨vsD, key, ku, k1, by rw [lenD, sizeLine_eq]; omega, G5, _, putKD key x5 acc, Tw5.upd rD k2 k3', g1.trans (gg.sub s2), ⟨⟨D0, rfl, rD, k2, hkD, _, upd_same, _, rfl, putKD_ok r5 (raD.mono gg.1)⟩, k3'⟩, Nat.le_trans putKD_len (by omega), h1⟩
          rcases gv with ⟨rfl, r⟩ | ⟨q, ds, vs, rfl, rfl, hn, rfl, ra⟩ | ⟨q, ds, vs, rfl, rfl, hn, rfl, ra⟩
          · exact hg Z1 R2 G1 _ H2 fs1 fs2 d x _ T2 (r.mono g1.1) ea fun σ2 T3 o => turn T3 Grow.refl o
          · obtain ⟨T3, g3⟩ := T2.newFrz (o := .tup vs) hn
            exact hg Z1 R2 _ _ _ fs1 fs2 _ _ _ T3 (.tup upd_same ((ra.mono g1.1).mono g3.1)) ea fun σ2 T4 o => turn T4 g3 o
          · obtain ⟨T3, g3⟩ := T2.tupFrz hn
            exact hg Z1 R2 _ _ _ fs1 fs2 _ _ _ T3 (.tup upd_same ((ra.mono g1.1).mono g3.1)) ea fun σ2 T4 o => turn T4 g3 o
      · rintro H1 ⟨G1, fs1, acc, T1, g1, vo, hl, h1⟩
        have el : items.drop items.length = [] := List.drop_length
        have h1 : dloop p c fk e own (items.drop items.length) acc fs1 = .ok xs ff := h1
        rw [el] at h1
        cases h1
        obtain ⟨b1, b2⟩ := jo.back _ G1 H1 _ T1 g1
        obtain ⟨u1, u2⟩ := TI.unw T0 g1.1 b1 hq0
        exact hk G1 H1 _ u1 (g0.trans (g1.sub jo.sub)) (u2 _ _ (b2 _ _ vo) rfl)
  · rw [if_neg ok] at hk
    exact hk.elim
theorem x_dc {kx vx tg iter : Expr} {ifs : List Expr} {scope : Scope} {own : List (Str × Nat)} {pos : Pos} {fi : M Itv} {p : Pat} {c : M Bool} {fk f : M Tv} (k : Ctl X W) (hi : TIX X W tg iter fi) (ok : blkC X.N X.env.scope scope own = true) (hp : ∀ i ∈ p.sl, i ∈ own.map (·.2))
    (hg : ∀ (s : Shared) (H : Hp) (C : Addr) (cl : List (Str × Addr)) (fp : List Addr), TGX (X.blk s H scope (compEnvC scope cl C X.env) fp) tg p)
    (ht : ∀ (s : Shared) (H : Hp) (C : Addr) (cl : List (Str × Addr)) (fp : List Addr), TTsX (X.blk s H scope (compEnvC scope cl C X.env) fp) W0 ifs c)
    (hk : ∀ (s : Shared) (H : Hp) (C : Addr) (cl : List (Str × Addr)) (fp : List Addr), TX (X.blk s H scope (compEnvC scope cl C X.env) fp) W0 kx fk)
    (he : ∀ (s : Shared) (H : Hp) (C : Addr) (cl : List (Str × Addr)) (fp : List Addr), TX (X.blk s H scope (compEnvC scope cl C X.env) fp) W0 vx f) (hs : ∀ x, foldedSetIterable iter X.env x = pure x := by intro _; rfl) :
    TX X W (.DictComp kx vx [⟨tg, iter, ifs, 0⟩] scope pos) (dcomp fi p c fk (bnd f frzV) (own.map (·.2))) :=
  .of (pe_dc k.calm k.nd hi.pi (blkOk_by ok) (fun s H C cl fp => (hg s H C cl fp).pg) (fun s H C cl fp => (ht s H C cl fp).pts) (fun s H C cl fp => (hk s H C cl fp).pe) (fun s H C cl fp => (he s H C cl fp).pe) hs) (se_dc hp si_c sg_c st_c (eld_of se_c))
end
end TL

/-! Classes: methods and makers keep their promises; constants read off the module. -/
namespace TL
open PySem PySem.Spec PyProof.Rows L2
def clsBody (s : Stmt) : List Stmt := match s with
  | .ClassDef _ _ _ body _ _ _ _ _ _ _ => body
  | _ => []
section
variable {P : Program} {w : World} {K : PySem.W.Frag} {mg : Str → Option Value} {base : Heap}
/-- a method, called by an instance of its class -/
structure CalHM (P : Program) (w : World) (K : PySem.W.Frag) (mg : Str → Option Value) (base : Heap) (c m : Str) (j np : Nat) (fn : Fn) : Prop where
  ex : ∃ (C g : Addr) (fd : FuncData) (ps : List Str), mg c = some (.ref C) ∧ Cls K C ∧ Meth K C m g ∧ FnOk P w K mg base (L2.CX P w) j g fd ps (spF ⟨K, mg⟩ np fn) ∧ Binds K fd ps []
theorem CalHM.cal {X : Cx} {c m : Str} {j np : Nat} {fn : Fn} {k : Nat} (h : CalHM X.prog X.w X.K X.mg X.base c m j np fn) (hr : Room k X.A) (hj : j ≤ k := by decide) : CalM X c m np fn := by
  obtain ⟨C, g, fd, ps, hm, cl, me, F, hb⟩ := h.ex
  exact ⟨C, j, g, fd, ps, ⟨hm, cl⟩, me, F, hr.mono hj, hb⟩
theorem fnOk_mk {x qual : Str} {st : Stmt} {f : Addr} {fd : FuncData} {N ps : List Str} {k np : Nat} {g : S} (F : FunD K x qual (defArgs st) (defBody st) (defScope st) [] [] f fd) (S : FnScope N ps (defScope st)) (hnp : ps.length = np)
    (hbody : ∀ (cdv : Value) (A : Around) (outer : List Env) (s : Shared) (H : Hp) (E : XK), Room k (A.deeper (envOfC qual (defScope st) s.heap.objs.size f cdv)) → Ctl (cxOf (L2.CX P w) P w K mg base N qual (defScope st) f cdv A outer s H E) (fun c dd _ H => E c dd H) →
      TLX (cxOf (L2.CX P w) P w K mg base N qual (defScope st) f cdv A outer s H E) (fun c dd _ H => E c dd H) (defBody st) g) : FnOk P w K mg base (L2.CX P w) (k + 1) f fd ps (spF ⟨K, mg⟩ np (fnOf np N.length g)) :=
  F.ok S (fun vs H Q E h => (spF_len h).trans hnp.symm) (fun cdv A outer s H vs Q E hr h => ⟨_, (hbody cdv A outer s H E hr (ctl_def S hr)).ps, fn_body (hs := ss_c) h⟩)
/-- what the head tells of a class: its name, its own look-ups -/
structure ClsT (K : PySem.W.Frag) (mg : Str → Option Value) (c : Str) (C : Addr) : Prop where
  mg : mg c = some (.ref C)
  cls : Cls K C
theorem ClsT.x {X : Cx} {c : Str} {C : Addr} (h : ClsT X.K X.mg c C) : ClsX X c C := ⟨h.mg, h.cls⟩
theorem calHM_mk {c m qual : Str} {C : Addr} {st : Stmt} {f : Addr} {fd : FuncData} {N ps : List Str} {k np : Nat} {g : S} (F : FunD K m qual (defArgs st) (defBody st) (defScope st) [] [] f fd) (hc : ClsT K mg c C) (hm : Meth K C m f) (S : FnScope N ps (defScope st)) (hb : Binds K fd ps []) (hnp : ps.length = np)
    (hbody : ∀ (cdv : Value) (A : Around) (outer : List Env) (s : Shared) (H : Hp) (E : XK), Room k (A.deeper (envOfC qual (defScope st) s.heap.objs.size f cdv)) → Ctl (cxOf (L2.CX P w) P w K mg base N qual (defScope st) f cdv A outer s H E) (fun c dd _ H => E c dd H) →
      TLX (cxOf (L2.CX P w) P w K mg base N qual (defScope st) f cdv A outer s H E) (fun c dd _ H => E c dd H) (defBody st) g) : CalHM P w K mg base c m (k + 1) np (fnOf np N.length g) :=
  ⟨C, f, fd, ps, hc.mg, hc.cls, hm, fnOk_mk F S hnp hbody, hb⟩
/-- a class whose instances are made by a def -/
structure CalHK (P : Program) (w : World) (K : PySem.W.Frag) (mg : Str → Option Value) (base : Heap) (c : Str) (j np : Nat) (fn : Fn) : Prop where
  ex : ∃ (C g : Addr) (fd : FuncData) (ps : List Str), mg c = some (.ref C) ∧ Mk K C g ∧ FnOk P w K mg base (L2.CX P w) j g fd ps (spF ⟨K, mg⟩ np fn) ∧ Binds K fd ps []
theorem CalHK.cal {X : Cx} {c : Str} {j np : Nat} {fn : Fn} {k : Nat} (h : CalHK X.prog X.w X.K X.mg X.base c j np fn) (hr : Room k X.A) (hj : j + 1 ≤ k := by decide) : CalK X c np fn := by
  obtain ⟨C, g, fd, ps, hm, me, F, hb⟩ := h.ex
  exact ⟨C, j, g, fd, ps, hm, me, F, hr.mono hj, hb⟩
theorem calHK_mk {c m qual : Str} {C : Addr} {st : Stmt} {f : Addr} {fd : FuncData} {N ps : List Str} {k np : Nat} {g : S} (F : FunD K m qual (defArgs st) (defBody st) (defScope st) [] [] f fd) (hc : ClsT K mg c C) (hm : Mk K C f) (S : FnScope N ps (defScope st)) (hb : Binds K fd ps []) (hnp : ps.length = np)
    (hbody : ∀ (cdv : Value) (A : Around) (outer : List Env) (s : Shared) (H : Hp) (E : XK), Room k (A.deeper (envOfC qual (defScope st) s.heap.objs.size f cdv)) → Ctl (cxOf (L2.CX P w) P w K mg base N qual (defScope st) f cdv A outer s H E) (fun c dd _ H => E c dd H) →
      TLX (cxOf (L2.CX P w) P w K mg base N qual (defScope st) f cdv A outer s H E) (fun c dd _ H => E c dd H) (defBody st) g) : CalHK P w K mg base c (k + 1) np (fnOf np N.length g) :=
  ⟨C, f, fd, ps, hc.mg, hm, fnOk_mk F S hnp hbody, hb⟩
/-! ### constants by the head -/
mutual
def cstB (K : PySem.W.Frag) : D → Value → Bool
  | .at a, u => He.relB a.v u
  | .nd .ktp xs, .ref a => match K.lookup a with
    | some ⟨.type c, _, .seq its _, _⟩ => decide (c = "tuple") && (decide (its.size ≤ sizeLine) && cstsB K xs its.toList)
    | _ => false
  | .nd .scr xs, .ref a => match K.lookup a with
    | some ⟨.type c, none, .seq its _, _⟩ => decide (c = "list") && (decide (its.size ≤ sizeLine) && cstsB K xs its.toList)
    | _ => false
  | _, _ => false
def cstsB (K : PySem.W.Frag) : List D → List Value → Bool
  | [], [] => true
  | d :: ds, u :: us => cstB K d u && cstsB K ds us
  | _, _ => false
end
mutual
theorem cstB_ok : ∀ {d : D} {u : Value}, cstB K d u = true → ∃ v, RelV v u ∧ Fix ⟨K, mg⟩ d v
  | .at a, u, h => ⟨a.v, He.relB_ok h, fun G => .at a⟩
  | .nd .ktp xs, .ref a, h => by
    unfold cstB at h
    cases q : K.lookup a with
    | none => rw [q] at h; cases h
    | some o =>
      obtain ⟨oc, od, dt, osl⟩ := o
      rw [q] at h
      cases oc with
      | type c =>
        cases dt with
        | seq its n =>
          obtain ⟨h1, h2⟩ := He.ba (show (decide (c = "tuple") && (decide (its.size ≤ sizeLine) && cstsB K xs its.toList)) = true from h)
          obtain ⟨h3, h4⟩ := He.ba h2
          obtain ⟨vs, r1, r2⟩ := cstsB_ok h4
          exact ⟨.ref a, rfl, fun G => .ktp (.inr ⟨_, its, n, q, congrArg Value.type (of_decide_eq_true h1), rfl, of_decide_eq_true h3, r1⟩) (r2 G)⟩
        | _ => cases h
      | _ => cases dt <;> cases h
  | .nd .scr xs, .ref a, h => by
    unfold cstB at h
    cases q : K.lookup a with
    | none => rw [q] at h; cases h
    | some o =>
      obtain ⟨oc, od, dt, osl⟩ := o
      rw [q] at h
      cases oc with
      | type c =>
        cases od with
        | none =>
          cases dt with
          | seq its n =>
            obtain ⟨h1, h2⟩ := He.ba (show (decide (c = "list") && (decide (its.size ≤ sizeLine) && cstsB K xs its.toList)) = true from h)
            obtain ⟨h3, h4⟩ := He.ba h2
            obtain ⟨vs, r1, r2⟩ := cstsB_ok h4
            exact ⟨.ref a, rfl, fun G => .scr (.inr ⟨_, its, n, q, congrArg Value.type (of_decide_eq_true h1), rfl, rfl, of_decide_eq_true h3, r1⟩) (r2 G)⟩
          | _ => cases h
        | some b => cases dt <;> cases h
      | _ => cases od <;> cases dt <;> cases h
theorem cstsB_ok : ∀ {ds : List D} {us : List Value}, cstsB K ds us = true → ∃ vs, Vals vs us ∧ ∀ G, RepA ⟨K, mg⟩ G ds vs
  | [], [], _ => ⟨[], .nil, fun _ => .nil⟩
  | d :: ds, u :: us, h => by
    unfold cstsB at h
    obtain ⟨h1, h2⟩ := He.ba h
    obtain ⟨v, a, b⟩ := cstB_ok h1
    obtain ⟨vs, a2, b2⟩ := cstsB_ok h2
    exact ⟨v :: vs, .cons a a2, fun G => .cons (b G) (b2 G)⟩
  | [], _ :: _, h => by unfold cstsB at h; cases h
  | _ :: _, [], h => by unfold cstsB at h; cases h
end
def gcB (x : Str) (d : D) (K : PySem.W.Frag) : Bool := match PySem.W.nsIn K mainGlobals x with
  | some (some u) => cstB K d u
  | _ => false
theorem gcB_ok {h : Heap} (X : K.In h) (G : h.Ns mainGlobals mg) {x : Str} {d : D} (c : gcB x d K = true) : Cst ⟨K, mg⟩ x d := by
  unfold gcB at c
  split at c
  · rename_i u e
    obtain ⟨v, a, b⟩ := cstB_ok (mg := mg) c
    exact ⟨u, v, PySem.W.mg_of X G e, a, b⟩
  · cases c
def tabB (x : Str) (tab : List (Str × D)) (K : PySem.W.Frag) : Bool := tab.all fun q => match PySem.W.nsIn K (He.ga K x) q.1 with
  | some (some u) => cstB K q.2 u
  | _ => false
theorem lookup_mem' {x : Str} {d : D} : ∀ {tab : List (Str × D)}, tab.lookup x = some d → (x, d) ∈ tab
  | [], h => by cases h
  | (y, e) :: r, h => by
    rw [List.lookup_cons] at h
    cases q : (x == y) with
    | true =>
      rw [q] at h
      cases h
      rw [beq_iff_eq.mp q]
      exact List.mem_cons_self
    | false =>
      rw [q] at h
      exact List.mem_cons_of_mem _ (lookup_mem' h)
theorem tabB_ok {x : Str} {tab : List (Str × D)} (hm : mg x = some (.ref (He.ga K x))) (hd : ∃ es n, KDict K w (He.ga K x) es n) (c : tabB x tab K = true) : CstD ⟨K, mg⟩ w x tab := by
  obtain ⟨es, n, kd⟩ := hd
  refine ⟨_, es, n, hm, kd, fun z d e => ?_⟩
  have c2 := List.all_eq_true.mp c (z, d) (lookup_mem' e)
  cases q : PySem.W.nsIn K (He.ga K x) z with
  | none => rw [q] at c2; cases c2
  | some o =>
    cases o with
    | none => rw [q] at c2; cases c2
    | some u =>
      rw [q] at c2
      obtain ⟨v, a, b⟩ := cstB_ok (mg := mg) c2
      exact ⟨u, v, rfl, a, b⟩
end
end TL

/-! str(None). -/
namespace TL
open PySem PySem.Spec PyProof.Rows L2
section
variable {prog : Program} {w : World} {A : Around} {E : Value → Shared → Prop} {s : Shared}
theorem str_of_none {Q : Value → Shared → Prop} (h : Q (.str "None" s.toks) { s with toks := s.toks + 1 }) : wpAny (model prog w) A (call (.type "str") [.none]) Q E s :=
  PySem.callType_new PySem.F.called_str (by decide) (PySem.F.typeCall_str_1 _) (PySem.F.newCall_str_1 _) (fun obj => PySem.F.args_object_init_2 obj _) PySem.F.entry_str_new
    (PySem.meets_str_new (S := fun _ R s => R (.ok (.ret (.str "None" s.toks))) { s with toks := s.toks + 1 }) fun _ _ _ _ s hq =>
      PySem.wpAny_strOf_gives rfl (PySem.typeIs_none s) PySem.F.slot_NoneType_str PySem.F.slot_NoneType_repr PySem.F.entry_NoneType_repr (PySem.F.args_NoneType_repr_1 _) PySem.gives_none_repr hq (hsz := by decide)) ⟨PySem.typeIs_str _ _ _, h⟩
end
section
variable {X : Cx} {W : WX} {e : Expr} {es : List Expr} {pos p : Pos} {fl : M (List Tv)}
theorem call_strN : CallR X (.type "str") (fun xs H Q => xs = [.non] ∧ Q (.str "None") H) := by
  intro pins s σ H xs us Q I r h
  obtain ⟨rfl, q⟩ := h
  obtain ⟨u, rfl, r1⟩ := vals1 r
  cases r1
  exact str_of_none ⟨.str "None", H, I.tok _, ⟨_, rfl⟩, q⟩
/-- str of data, or of None -/
def strA (d : D) : Option Tv := match d with
  | .at .non => some (aS "None")
  | d => strD d
theorem x_strA (k : Ctl X W) (gd : X.A.guards = some []) (hm : X.mg "str" = none) (ha : TAX X W (e :: es) fl) (hg : Gl X "str" := by rfl) (he : starEach (e :: es) X.env = (false, eval e X.env) :: starEach es X.env := by rfl) (hpl : (backTo pos (starEach es X.env)).any (·.1) = false := by rfl) : TX X W (.Call (.Name "str" p) (e :: es) [] pos) (bnd fl (on1 strA)) :=
  x_ct (call_strN.or (call_strD k.units gd)) (sra1 fun Z R G σ H fs d u t Q T hd hg hq => by
    unfold strA at hg
    split at hg
    · cases hg
      cases hd
      exact .inl ⟨rfl, hq.at T⟩
    · unfold strD at hg
      split at hg
      · rename_i xs
        obtain ⟨⟨c1, c2, c3, c4⟩, rfl⟩ := ifS_some hg
        have dp := hd.dp T c1
        obtain ⟨a, vs, rfl, _⟩ := hd
        exact .inr ⟨a, _, rfl, dp, PyData.hasDict_of_canLay _ (canLay_shaped c1), c2, c3, line_le c4, hq.at T⟩
      · cases hg) hm b_str ha hg (by decide) (by decide) he hpl
end
end TL

/-! Plain functions with named values in place of frames: a frame function does what a plain one says. -/
namespace TL
open PySem PySem.Spec PyProof.Rows L2
inductive R (α : Type) where
  | ok (a : α) | ex (x : Ex) | bad
inductive C (σ β ρ : Type) where
  | nx (s : σ) | rt (r : ρ) | bk (s : β) | ct (s : β) | ex (x : Ex) | bad
class PB (π : Type) where
  ex : Ex → π
  bad : π
class OB (ω : Type) where
  ex : Ex → Fs → ω
  bad : ω
instance {α : Type} : PB (R α) := ⟨.ex, .bad⟩
instance {σ β ρ : Type} : PB (C σ β ρ) := ⟨.ex, .bad⟩
instance {α : Type} : OB (Out α) := ⟨.ex, .bad⟩
instance : OB SOut := ⟨.ex, .bad⟩
def yb {α π : Type} [PB π] (m : R α) (k : α → π) : π := match m with
  | .ok a => k a
  | .ex x => PB.ex x
  | .bad => PB.bad
def xb {α ω : Type} [OB ω] (f : M α) (k : α → Fs → ω) (fs : Fs) : ω := match f fs with
  | .ok a fs' => k a fs'
  | .ex x fs' => OB.ex x fs'
  | .bad => OB.bad
structure AR (ω π : Type) [OB ω] [PB π] where
  rel : ω → π → Prop
  hx : ∀ x fs, rel (OB.ex x fs) (PB.ex x)
  hb : ∀ o, rel o PB.bad
/-- an expression's answer: the value V b, the frame stands as fs1 -/
def AV {α β : Type} (V : β → α) (F : β → Fs) : AR (Out α) (R β) := ⟨fun o r => match r with | .bad => True | .ok b => o = .ok (V b) (F b) | .ex x => ∃ fs, o = .ex x fs, fun x fs => ⟨fs, rfl⟩, fun _ => True.intro⟩
/-- a statement's answer -/
def AS {σ β ρ : Type} (N : σ → Fs → Prop) (B : β → Fs → Prop) (T : ρ → Tv → Fs → Prop) : AR SOut (C σ β ρ) := ⟨fun o c => match c with
  | .bad => True
  | .nx s => ∃ fs, o = .nx fs ∧ N s fs
  | .rt r => ∃ v fs, o = .rt v fs ∧ T r v fs
  | .bk s => ∃ fs, o = .bk fs ∧ B s fs
  | .ct s => ∃ fs, o = .ct fs ∧ B s fs
  | .ex x => ∃ fs, o = .ex x fs, fun x fs => ⟨fs, rfl⟩, fun _ => True.intro⟩
/-! pure combinators -/
def opF (o : Option Tv) : R D := match o with
  | some (.frz d) => .ok d
  | _ => .bad
def opO (o : Option Tv) : R D := match o with
  | some (.own d) => .ok d
  | _ => .bad
def opA (o : Option Tv) : R D := match o with
  | some (.own d) => .ok d
  | some (.frz d) => .ok d
  | _ => .bad
def optR {α : Type} (o : Option α) : R α := match o with
  | some d => .ok d
  | none => .bad
def bolR (d : D) : R Bool := match d with
  | .at (.bl b) => .ok b
  | _ => .bad
def truR (d : D) : R Bool := optR (truD d)
def isiR (it : Ty ⊕ Str → Option Bool) (d : D) : R D := match tagD d with
  | some t => match it t with
    | some b => .ok (.at (.bl b))
    | none => .bad
  | none => .bad
def intR (d : D) : R (Option Int) := match d with
  | .at (.int i) => .ok (some i)
  | _ => .bad
def andR (m n : R Bool) : R Bool := yb m fun b => if b = true then n else .ok false
def orR (m n : R Bool) : R Bool := yb m fun b => if b = true then .ok true else n
def lstR (d : D) : R (List D) := match d with
  | .nd .lst xs => .ok xs
  | _ => .bad
/-- a frozen row -/
def seqR (d : D) : R (List D) := match d with
  | .nd .lst xs => .ok xs
  | .nd .scr xs => .ok xs
  | .nd .tup xs => .ok xs
  | .nd .ktp xs => .ok xs
  | .at (.str z) => .ok (z.cps.toList.map fun c => .at (.str ⟨#[c]⟩))
  | _ => .bad
def lscR (d : D) : R (List D) := match d with
  | .nd .lst xs => .ok xs
  | .nd .scr xs => .ok xs
  | _ => .bad
def rngR (k : List Int → Option (Int × Int × Nat)) (ds : List D) : R (List D) := match ds.mapM intOf with
  | some is => match k is with
    | some (lo, c, n) => .ok (rngD lo c n)
    | none => .bad
  | none => .bad
def unT2 (d : D) : R (D × D) := match d with
  | .nd .tup [a, b] => .ok (a, b)
  | _ => .bad
def unT3 (d : D) : R (D × D × D) := match d with
  | .nd .tup [a, b, c] => .ok (a, b, c)
  | _ => .bad
def unT4 (d : D) : R (D × D × D × D) := match d with
  | .nd .tup [a, b, c, e] => .ok (a, b, c, e)
  | _ => .bad
def forC {σ β ρ : Type} : List D → σ → (D → σ → C σ σ ρ) → C σ β ρ
  | [], s, _ => .nx s
  | d :: ds, s, f => match f d s with
    | .nx s' => forC ds s' f
    | .ct s' => forC ds s' f
    | .bk s' => .nx s'
    | .rt r => .rt r
    | .ex x => .ex x
    | .bad => .bad
def whileC {σ β ρ : Type} (t : σ → R Bool) (f : σ → C σ σ ρ) : Nat → σ → C σ β ρ
  | 0, _ => .bad
  | n + 1, s => yb (t s) fun b => if b = true then match f s with
      | .nx s' => whileC t f n s'
      | .ct s' => whileC t f n s'
      | .bk s' => .nx s'
      | .rt r => .rt r
      | .ex x => .ex x
      | .bad => .bad
    else .nx s
def bC {σ τ β ρ : Type} (m : C σ β ρ) (k : σ → C τ β ρ) : C τ β ρ := match m with
  | .nx s => k s
  | .rt r => .rt r
  | .bk s => .bk s
  | .ct s => .ct s
  | .ex x => .ex x
  | .bad => .bad
/-- a comprehension: each turn gives something or nothing, and the state -/
def compS {σ : Type} (f : D → σ → R (Option D × σ)) : List D → σ → R (List D × σ)
  | [], s => .ok ([], s)
  | d :: ds, s => match f d s with
    | .ok (o, s') => match compS f ds s' with
      | .ok (xs, s2) => .ok (match o with | some x => x :: xs | none => xs, s2)
      | _ => .bad
    | _ => .bad
def compR (f : D → R (Option D)) : List D → R (List D)
  | [] => .ok []
  | d :: ds => match f d with
    | .ok o => match compR f ds with
      | .ok xs => .ok (match o with | some x => x :: xs | none => xs)
      | _ => .bad
    | _ => .bad
/-- the length that is allowed -/
def capR (xs : List D) : R (List D) := if xs.length ≤ 16777216 then .ok xs else .bad
def runR {β : Type} (c : C Unit β D) : R D := match c with
  | .nx _ => .ok (.at .non)
  | .rt d => .ok d
  | .ex x => .ex x
  | _ => .bad
def runM {β : Type} (c : C D β (D × D)) : R (D × D) := match c with
  | .nx p => .ok (.at .non, p)
  | .rt d => .ok d
  | .ex x => .ex x
  | _ => .bad

section
variable {ω π α β γ : Type} [OB ω] [PB π] {A : AR ω π} {fs fs1 fs2 : Fs} {c : π}
theorem q_bnd {f : M α} {g : α → M β} {k : β → Fs → ω} (h : A.rel (xb f (fun x => xb (g x) k) fs) c) : A.rel (xb (bnd f g) k fs) c := by
  unfold xb bnd at *
  cases e : f fs with
  | ok a fs' => simp only [e] at h ⊢; exact h
  | ex x fs' => simp only [e] at h ⊢; exact h
  | bad => simp only [e] at h ⊢; exact h
theorem q_ret {a : α} {k : α → Fs → ω} (h : A.rel (k a fs) c) : A.rel (xb (TL.ret a) k fs) c := h
theorem q_at {a : At} {k : Tv → Fs → ω} (h : A.rel (k (.frz (.at a)) fs) c) : A.rel (xb (vAt a) k fs) c := h
theorem q_var {i : Nat} {d : D} {k : Tv → Fs → ω} (e : fs[i]? = some (some (.frz, d))) (h : A.rel (k (.frz d) fs) c) : A.rel (xb (vVar i) k fs) c := by
  unfold xb vVar
  simp only [e]
  exact h
theorem q_slot {i : Nat} {m : Md} {d : D} {k : Tv → Fs → ω} (e : fs[i]? = some (some (m, d))) (hm : m ≠ .frz) (h : A.rel (k (.slot i) fs) c) : A.rel (xb (vVar i) k fs) c := by
  unfold xb vVar
  cases m with
  | frz => exact absurd rfl hm
  | _ => simp only [e]; exact h
theorem q_own {i : Nat} {d : D} {k : Tv → Fs → ω} (e : fs[i]? = some (some (.own, d))) (h : A.rel (k (.slot i) fs) c) : A.rel (xb (vVar i) k fs) c := q_slot e (by intro z; cases z) h
theorem q_io {i : Nat} {d : D} {k : Tv → Fs → ω} (e : fs[i]? = some (some (.io, d))) (h : A.rel (k (.slot i) fs) c) : A.rel (xb (vVar i) k fs) c := q_slot e (by intro z; cases z) h
theorem q_bor {i : Nat} {d : D} {k : Tv → Fs → ω} (e : fs[i]? = some (some (.bor, d))) (h : A.rel (k (.slot i) fs) c) : A.rel (xb (vVar i) k fs) c := q_slot e (by intro z; cases z) h
theorem q_op {g : D → D → Option Tv} {fa fb : M Tv} {k : Tv → Fs → ω} (h : A.rel (xb fa (fun x => xb fb (fun y => xb (dop2 g x y) k)) fs) c) : A.rel (xb (vOp g fa fb) k fs) c := by
  unfold vOp
  refine q_bnd ?_
  have e : (fun x => xb (bnd fb fun y => dop2 g x y) k) = fun x => xb fb (fun y => xb (dop2 g x y) k) := by
    funext x fs
    unfold xb bnd
    cases fb fs <;> rfl
  rw [e]
  exact h
theorem q_dF {g : D → D → Option Tv} {x y : Tv} {d e : D} {k : Tv → Fs → ω} {c : D → π} (hx : rdv x fs = some d) (hy : rdv y fs = some e) (h : ∀ a, A.rel (k (.frz a) fs) (c a)) : A.rel (xb (dop2 g x y) k fs) (yb (opF (g d e)) c) := by
  unfold xb dop2
  simp only [hx, hy]
  cases g d e with
  | none => exact A.hb _
  | some t => cases t with
    | frz a => exact h a
    | own _ => exact A.hb _
    | slot _ => exact A.hb _
theorem q_dO {g : D → D → Option Tv} {x y : Tv} {d e : D} {k : Tv → Fs → ω} {c : D → π} (hx : rdv x fs = some d) (hy : rdv y fs = some e) (h : ∀ a, A.rel (k (.own a) fs) (c a)) : A.rel (xb (dop2 g x y) k fs) (yb (opO (g d e)) c) := by
  unfold xb dop2
  simp only [hx, hy]
  cases g d e with
  | none => exact A.hb _
  | some t => cases t with
    | frz a => exact A.hb _
    | own a => exact h a
    | slot _ => exact A.hb _
theorem q_1F {g : D → Option Tv} {x : Tv} {d : D} {k : Tv → Fs → ω} {c : D → π} (hx : rdv x fs = some d) (h : ∀ a, A.rel (k (.frz a) fs) (c a)) : A.rel (xb (dop1 g x) k fs) (yb (opF (g d)) c) := by
  unfold xb dop1
  simp only [hx]
  cases g d with
  | none => exact A.hb _
  | some t => cases t with
    | frz a => exact h a
    | own _ => exact A.hb _
    | slot _ => exact A.hb _
theorem q_1O {g : D → Option Tv} {x : Tv} {d : D} {k : Tv → Fs → ω} {c : D → π} (hx : rdv x fs = some d) (h : ∀ a, A.rel (k (.own a) fs) (c a)) : A.rel (xb (dop1 g x) k fs) (yb (opO (g d)) c) := by
  unfold xb dop1
  simp only [hx]
  cases g d with
  | none => exact A.hb _
  | some t => cases t with
    | frz a => exact A.hb _
    | own a => exact h a
    | slot _ => exact A.hb _
/-- frozen at once -/
def vFz (f : M Tv) : M Tv := bnd f fun x => bnd (frzV x) fun d => TL.ret (.frz d)
theorem q_fz {f : M Tv} {k : Tv → Fs → ω} (h : A.rel (xb f (fun x => xb (frzV x) fun d => k (.frz d)) fs) c) : A.rel (xb (vFz f) k fs) c := by
  unfold vFz
  refine q_bnd ?_
  have e : (fun x => xb (bnd (frzV x) fun d => TL.ret (.frz d)) k) = fun x => xb (frzV x) fun d => k (.frz d) := by
    funext x fs
    unfold xb bnd
    cases frzV x fs <;> rfl
  rw [e]
  exact h
theorem q_frz {d : D} {k : D → Fs → ω} (h : A.rel (k d fs) c) : A.rel (xb (frzV (.frz d)) k fs) c := h
theorem q_frzO {d : D} {k : D → Fs → ω} (h : A.rel (k d fs) c) : A.rel (xb (frzV (.own d)) k fs) c := h
theorem q_frzS {i : Nat} {d : D} {k : D → Fs → ω} (e : frzV (.slot i) fs = .ok d fs1) (h : A.rel (k d fs1) c) : A.rel (xb (frzV (.slot i)) k fs) c := by
  unfold xb
  simp only [e]
  exact h
/-- of two data, whatever comes: frozen at once -/
theorem q_dA {g : D → D → Option Tv} {x y : Tv} {d e : D} {k : D → Fs → ω} {c : D → π} (hx : rdv x fs = some d) (hy : rdv y fs = some e) (h : ∀ a, A.rel (k a fs) (c a)) : A.rel (xb (dop2 g x y) (fun x => xb (frzV x) k) fs) (yb (opA (g d e)) c) := by
  unfold xb dop2
  simp only [hx, hy]
  cases g d e with
  | none => exact A.hb _
  | some t => cases t with
    | frz a => exact h a
    | own a => exact h a
    | slot _ => exact A.hb _
theorem q_1A {g : D → Option Tv} {x : Tv} {d : D} {k : D → Fs → ω} {c : D → π} (hx : rdv x fs = some d) (h : ∀ a, A.rel (k a fs) (c a)) : A.rel (xb (dop1 g x) (fun x => xb (frzV x) k) fs) (yb (opA (g d)) c) := by
  unfold xb dop1
  simp only [hx]
  cases g d with
  | none => exact A.hb _
  | some t => cases t with
    | frz a => exact h a
    | own a => exact h a
    | slot _ => exact A.hb _
theorem q_bol {x : Tv} {d : D} {k : Bool → Fs → ω} {c : Bool → π} (hx : rdv x fs = some d) (h : ∀ b, A.rel (k b fs) (c b)) : A.rel (xb (boolV x) k fs) (yb (bolR d) c) := by
  unfold xb boolV bolR
  simp only [hx]
  cases d with
  | nd _ _ => exact A.hb _
  | «at» a => cases a with
    | bl b => exact h b
    | _ => exact A.hb _
theorem q_tru {x : Tv} {d : D} {k : Bool → Fs → ω} {c : Bool → π} (hx : rdv x fs = some d) (h : ∀ b, A.rel (k b fs) (c b)) : A.rel (xb (truV x) k fs) (yb (truR d) c) := by
  unfold xb truV truR
  simp only [hx]
  cases truD d with
  | none => exact A.hb _
  | some b => exact h b
theorem q_isi {it : Ty ⊕ Str → Option Bool} {x : Tv} {d : D} {k : Tv → Fs → ω} {c : D → π} (hx : rdv x fs = some d) (h : ∀ a, A.rel (k (.frz a) fs) (c a)) : A.rel (xb (isiV it x) k fs) (yb (isiR it d) c) := by
  unfold xb isiV isiR
  simp only [hx]
  cases tagD d with
  | none => exact A.hb _
  | some t =>
    simp only
    cases it t with
    | none => exact A.hb _
    | some b => exact h _
theorem q_on1 {g : D → Option Tv} {x : Tv} {k : Tv → Fs → ω} (h : A.rel (xb (dop1 g x) k fs) c) : A.rel (xb (on1 g [x]) k fs) c := h
theorem q_on2 {g : D → D → Option Tv} {x y : Tv} {k : Tv → Fs → ω} (h : A.rel (xb (dop2 g x y) k fs) c) : A.rel (xb (on2 g [x, y]) k fs) c := h
/-! rows of arguments -/
theorem q_aNil {k : List Tv → Fs → ω} (h : A.rel (k [] fs) c) : A.rel (xb aNil k fs) c := h
theorem q_aCons {f : M Tv} {g : M (List Tv)} {k : List Tv → Fs → ω} (h : A.rel (xb f (fun x => xb g (fun xs => k (x :: xs))) fs) c) : A.rel (xb (aCons f g) k fs) c := by
  unfold aCons
  refine q_bnd ?_
  have e : (fun x => xb (bnd g fun xs => TL.ret (x :: xs)) k) = fun x => xb g (fun xs => k (x :: xs)) := by
    funext x fs
    unfold xb bnd
    cases g fs <;> rfl
  rw [e]
  exact h
theorem q_mkL {xs : List Tv} {ds : List D} {k : Tv → Fs → ω} (e : frzA xs fs = .ok ds fs1) (h : A.rel (k (.own (.nd .lst ds)) fs1) c) : A.rel (xb (mkL xs) k fs) c := by
  unfold xb mkL bnd
  simp only [e]
  exact h
theorem q_mkT {xs : List Tv} {ds : List D} {k : Tv → Fs → ω} (e : frzA xs fs = .ok ds fs1) (h : A.rel (k (.frz (.nd .tup ds)) fs1) c) : A.rel (xb (mkT xs) k fs) c := by
  unfold xb mkT bnd
  simp only [e]
  exact h
/-! slices -/
theorem q_oNone {k : Option Int → Fs → ω} (h : A.rel (k none fs) c) : A.rel (xb oNone k fs) c := h
def intV (x : Tv) : M (Option Int) := fun fs => match rdv x fs with | some (.at (.int i)) => .ok (some i) fs | _ => .bad
theorem q_oSome {f : M Tv} {k : Option Int → Fs → ω} (h : A.rel (xb f (fun x => xb (intV x) k) fs) c) : A.rel (xb (oSome f) k fs) c := q_bnd h
theorem q_int {x : Tv} {d : D} {k : Option Int → Fs → ω} {c : Option Int → π} (hx : rdv x fs = some d) (h : ∀ i, A.rel (k i fs) (c i)) : A.rel (xb (intV x) k fs) (yb (intR d) c) := by
  unfold xb intV intR
  simp only [hx]
  cases d with
  | nd _ _ => exact A.hb _
  | «at» a => cases a with
    | int i => exact h _
    | _ => exact A.hb _
theorem q_sl {f : M Tv} {l h : M (Option Int)} {k : Tv → Fs → ω} (hh : A.rel (xb f (fun x => xb l fun lo => xb h fun hi => xb (dop1 (fun d => slD d lo hi) x) k) fs) c) : A.rel (xb (vSl f l h) k fs) c := by
  unfold vSl
  refine q_bnd ?_
  have e : (fun x => xb (bnd l fun lo => bnd h fun hi => dop1 (fun d => slD d lo hi) x) k) = fun x => xb l fun lo => xb h fun hi => xb (dop1 (fun d => slD d lo hi) x) k := by
    funext x fs
    unfold xb bnd
    cases l fs with
    | ok a fs1 => dsimp only; cases h fs1 <;> rfl
    | ex _ _ => rfl
    | bad => rfl
  rw [e]
  exact hh
/-! parts that end in one value -/
theorem q_sub {f : M α} {V : β → α} {F : β → Fs} {m : R β} {k : α → Fs → ω} {c : β → π} (h : (AV V F).rel (f fs) m) (hk : ∀ b, A.rel (k (V b) (F b)) (c b)) : A.rel (xb f k fs) (yb m c) := by
  unfold xb yb
  cases m with
  | ok b =>
    have e : f fs = .ok (V b) (F b) := h
    rw [e]
    exact hk b
  | ex x =>
    obtain ⟨fs', e⟩ : ∃ fs', f fs = .ex x fs' := h
    rw [e]
    exact A.hx x fs'
  | bad => exact A.hb _
theorem q_in {f : M α} {V : β → α} {F : β → Fs} {m : R β} (h : (AV V F).rel (xb f (fun a fs => Out.ok a fs) fs) m) : (AV V F).rel (f fs) m := by
  have e : xb f (fun a fs => Out.ok a fs) fs = f fs := by unfold xb; cases f fs <;> rfl
  rw [e] at h
  exact h
theorem q_ok {V : β → α} {F : β → Fs} {a : α} {b : β} (h : a = V b) (h2 : fs = F b) : (AV V F).rel (Out.ok a fs) (.ok b) := by rw [h, h2]; exact rfl
theorem q_ite {b : Bool} {o p : ω} {c1 c2 : π} (h1 : b = true → A.rel o c1) (h2 : b = false → A.rel p c2) : A.rel (if b = true then o else p) (if b = true then c1 else c2) := by
  cases b
  · exact h2 rfl
  · exact h1 rfl
theorem q_iteF {b : Bool} {o p : Fs → ω} {c1 c2 : π} (h1 : A.rel (o fs) c1) (h2 : A.rel (p fs) c2) : A.rel ((if b = true then o else p) fs) (if b = true then c1 else c2) := by
  cases b
  · exact h2
  · exact h1
theorem q_and {f g : M Bool} {m n : R Bool} (h1 : (AV id fun _ => fs).rel (f fs) m) (h2 : (AV id fun _ => fs).rel (g fs) n) : (AV id fun _ => fs).rel (bAnd f g fs) (andR m n) := by
  cases m with
  | ok b =>
    have e : f fs = .ok b fs := h1
    unfold bAnd bnd andR yb
    rw [e]
    cases b
    · exact rfl
    · exact h2
  | ex x =>
    obtain ⟨fs', e⟩ : ∃ fs', f fs = .ex x fs' := h1
    unfold bAnd bnd andR yb
    rw [e]
    exact ⟨fs', rfl⟩
  | bad => exact True.intro
theorem q_or {f g : M Bool} {m n : R Bool} (h1 : (AV id fun _ => fs).rel (f fs) m) (h2 : (AV id fun _ => fs).rel (g fs) n) : (AV id fun _ => fs).rel (bOr f g fs) (orR m n) := by
  cases m with
  | ok b =>
    have e : f fs = .ok b fs := h1
    unfold bOr bnd orR yb
    rw [e]
    cases b
    · exact h2
    · exact rfl
  | ex x =>
    obtain ⟨fs', e⟩ : ∃ fs', f fs = .ex x fs' := h1
    unfold bOr bnd orR yb
    rw [e]
    exact ⟨fs', rfl⟩
  | bad => exact True.intro
theorem q_not {f : M Bool} {k : Bool → Fs → ω} (h : A.rel (xb f (fun b => k (!b)) fs) c) : A.rel (xb (bNot f) k fs) c := q_bnd h
theorem q_vNot {f : M Tv} {k : Tv → Fs → ω} (h : A.rel (xb f (fun x => xb (truV x) fun b => k (aB (!b))) fs) c) : A.rel (xb (vNot f) k fs) c := by
  unfold vNot
  refine q_bnd ?_
  have e : (fun x => xb (bnd (truV x) fun k => TL.ret (aB (!k))) k) = fun x => xb (truV x) fun b => k (aB (!b)) := by
    funext x fs
    unfold xb bnd
    cases truV x fs <;> rfl
  rw [e]
  exact h
/-- values by choice: each part frozen -/
theorem q_vIf {t : M Bool} {f g : M Tv} {k : Tv → Fs → ω} (h : A.rel (xb t (fun b => if b = true then xb f k else xb g k) fs) c) : A.rel (xb (vIf t f g) k fs) c := by
  unfold vIf
  refine q_bnd ?_
  have e : (fun b => xb (if b = true then f else g) k) = fun b => if b = true then xb f k else xb g k := by
    funext b
    cases b <;> rfl
  rw [e]
  exact h
theorem q_vOr {f g : M Tv} {k : Tv → Fs → ω} (h : A.rel (xb f (fun x => xb (truV x) fun b => if b = true then k x else xb g k) fs) c) : A.rel (xb (vOr f g) k fs) c := by
  unfold vOr
  refine q_bnd ?_
  have e : (fun x => xb (bnd (truV x) fun k => if k = true then TL.ret x else g) k) = fun x => xb (truV x) fun b => if b = true then k x else xb g k := by
    funext x fs
    unfold xb bnd
    cases truV x fs with
    | ok b fs1 => cases b <;> rfl
    | ex _ _ => rfl
    | bad => rfl
  rw [e]
  exact h
theorem q_vAnd {f g : M Tv} {k : Tv → Fs → ω} (h : A.rel (xb f (fun x => xb (truV x) fun b => if b = true then xb g k else k x) fs) c) : A.rel (xb (vAnd f g) k fs) c := by
  unfold vAnd
  refine q_bnd ?_
  have e : (fun x => xb (bnd (truV x) fun k => if k = true then g else TL.ret x) k) = fun x => xb (truV x) fun b => if b = true then xb g k else k x := by
    funext x fs
    unfold xb bnd
    cases truV x fs with
    | ok b fs1 => cases b <;> rfl
    | ex _ _ => rfl
    | bad => rfl
  rw [e]
  exact h
theorem q_chain {g g' : D → D → Option Tv} {fa fb fc : M Tv} {k : Tv → Fs → ω} (h : A.rel (xb fa (fun x => xb fb (fun y => if y.isOwn = true then fun _ => OB.bad else xb (dop2 g x y) fun t => xb (boolV t) fun b => if b = true then xb fc (fun z => xb (dop2 g' y z) k) else k (aB false))) fs) c) : A.rel (xb (vChain g g' fa fb fc) k fs) c := by
  unfold vChain
  refine q_bnd ?_
  have e : (fun x => xb (bnd fb fun y => if y.isOwn = true then badE else bnd (bnd (dop2 g x y) boolV) fun k => if k = true then bnd fc fun z => dop2 g' y z else TL.ret (aB false)) k) = fun x => xb fb (fun y => if y.isOwn = true then fun _ => OB.bad else xb (dop2 g x y) fun t => xb (boolV t) fun b => if b = true then xb fc (fun z => xb (dop2 g' y z) k) else k (aB false)) := by
    funext x fs
    unfold xb bnd
    cases fb fs with
    | ok y fs1 =>
      dsimp only
      cases y.isOwn with
      | true => rfl
      | false =>
        simp only [Bool.false_eq_true, if_false]
        cases dop2 g x y fs1 with
        | ok t fs2 =>
          dsimp only
          cases boolV t fs2 with
          | ok b fs3 =>
            cases b with
            | false => rfl
            | true =>
              simp only [if_true]
              cases fc fs3 <;> rfl
          | ex _ _ => rfl
          | bad => rfl
        | ex _ _ => rfl
        | bad => rfl
    | ex _ _ => rfl
    | bad => rfl
  rw [e]
  exact h
theorem q_noOwn {y : Tv} {f g : Fs → ω} (hy : y.isOwn = false) (h : A.rel (g fs) c) : A.rel ((if y.isOwn = true then f else g) fs) c := by
  rw [if_neg (by rw [hy]; exact Bool.false_ne_true)]
  exact h
/-! iterables -/
def seqK (x : Tv) (k : Itv → Fs → ω) : Fs → ω := xb (match x with
  | .frz (.nd .tup xs) => TL.ret ⟨xs, none⟩
  | .frz (.nd .ktp xs) => TL.ret ⟨xs, none⟩
  | .frz (.at (.str z)) => TL.ret ⟨z.cps.toList.map fun c => .at (.str ⟨#[c]⟩), none⟩
  | x => bnd (srcL x) fun q => TL.ret ⟨q.1, q.2⟩) k
theorem q_seq {f : M Tv} {k : Itv → Fs → ω} (h : A.rel (xb f (fun x => seqK x k) fs) c) : A.rel (xb (vSeq f) k fs) c := q_bnd h
theorem q_seqF {d : D} {k : Itv → Fs → ω} {c : List D → π} (h : ∀ xs, A.rel (k ⟨xs, none⟩ fs) (c xs)) : A.rel (seqK (.frz d) k fs) (yb (seqR d) c) := by
  unfold seqK
  cases d with
  | «at» a => cases a with
    | str z => exact h _
    | _ => exact A.hb _
  | nd kk xs => cases kk with
    | lst => exact h _
    | tup => exact h _
    | scr => exact h _
    | ktp => exact h _
    | _ => exact A.hb _
theorem q_seqO {d : D} {k : Itv → Fs → ω} {c : List D → π} (h : ∀ xs, A.rel (k ⟨xs, none⟩ fs) (c xs)) : A.rel (seqK (.own d) k fs) (yb (lstR d) c) := by
  unfold seqK
  cases d with
  | «at» a => exact A.hb _
  | nd kk xs => cases kk with
    | lst => exact h _
    | _ => exact A.hb _
def srcM (i : Nat) (m : Md) (d : D) (fs : Fs) : Out (List D × Option Nat) := match d with
  | .nd .lst xs => .ok (xs, if m = .own then some i else none) fs
  | _ => .bad
theorem srcL_slot {i : Nat} {m : Md} {d : D} (e : fs[i]? = some (some (m, d))) (hm : m = .own ∨ m = .bor) : srcL (.slot i) fs = srcM i m d fs := by
  unfold srcL srcM
  simp only [e]
  rcases hm with rfl | rfl
  · cases d with
    | «at» a => rfl
    | nd kk xs => cases kk <;> rfl
  · cases d with
    | «at» a => rfl
    | nd kk xs => cases kk <;> rfl
theorem q_seqS {i : Nat} {d : D} {k : Itv → Fs → ω} {c : List D → π} (e : fs[i]? = some (some (.own, d))) (h : ∀ xs, A.rel (k ⟨xs, some i⟩ fs) (c xs)) : A.rel (seqK (.slot i) k fs) (yb (lstR d) c) := by
  unfold seqK xb bnd
  dsimp only
  rw [srcL_slot e (.inl rfl)]
  cases d with
  | «at» a => exact A.hb _
  | nd kk xs => cases kk with
    | lst => exact h _
    | _ => exact A.hb _
theorem q_seqB {i : Nat} {d : D} {k : Itv → Fs → ω} {c : List D → π} (e : fs[i]? = some (some (.bor, d))) (h : ∀ xs, A.rel (k ⟨xs, none⟩ fs) (c xs)) : A.rel (seqK (.slot i) k fs) (yb (lstR d) c) := by
  unfold seqK xb bnd
  dsimp only
  rw [srcL_slot e (.inr rfl)]
  cases d with
  | «at» a => exact A.hb _
  | nd kk xs => cases kk with
    | lst => exact h _
    | _ => exact A.hb _
def enuK (x : Tv) (k : Itv → Fs → ω) : Fs → ω := xb (bnd (srcL x) fun q => TL.ret ⟨enumD 0 q.1, q.2⟩) k
theorem q_enu {f : M Tv} {k : Itv → Fs → ω} (h : A.rel (xb f (fun x => enuK x k) fs) c) : A.rel (xb (vEnum f) k fs) c := q_bnd h
theorem q_enuF {d : D} {k : Itv → Fs → ω} {c : List D → π} (h : ∀ xs, A.rel (k ⟨enumD 0 xs, none⟩ fs) (c xs)) : A.rel (enuK (.frz d) k fs) (yb (lscR d) c) := by
  unfold enuK
  cases d with
  | «at» a => exact A.hb _
  | nd kk xs => cases kk with
    | lst => exact h _
    | scr => exact h _
    | _ => exact A.hb _
theorem q_enuO {d : D} {k : Itv → Fs → ω} {c : List D → π} (h : ∀ xs, A.rel (k ⟨enumD 0 xs, none⟩ fs) (c xs)) : A.rel (enuK (.own d) k fs) (yb (lstR d) c) := by
  unfold enuK
  cases d with
  | «at» a => exact A.hb _
  | nd kk xs => cases kk with
    | lst => exact h _
    | _ => exact A.hb _
theorem q_enuS {i : Nat} {d : D} {k : Itv → Fs → ω} {c : List D → π} (e : fs[i]? = some (some (.own, d))) (h : ∀ xs, A.rel (k ⟨enumD 0 xs, some i⟩ fs) (c xs)) : A.rel (enuK (.slot i) k fs) (yb (lstR d) c) := by
  unfold enuK xb bnd
  dsimp only
  rw [srcL_slot e (.inl rfl)]
  cases d with
  | «at» a => exact A.hb _
  | nd kk xs => cases kk with
    | lst => exact h _
    | _ => exact A.hb _
theorem q_enuB {i : Nat} {d : D} {k : Itv → Fs → ω} {c : List D → π} (e : fs[i]? = some (some (.bor, d))) (h : ∀ xs, A.rel (k ⟨enumD 0 xs, none⟩ fs) (c xs)) : A.rel (enuK (.slot i) k fs) (yb (lstR d) c) := by
  unfold enuK xb bnd
  dsimp only
  rw [srcL_slot e (.inr rfl)]
  cases d with
  | «at» a => exact A.hb _
  | nd kk xs => cases kk with
    | lst => exact h _
    | _ => exact A.hb _
def rngK (j : List Int → Option (Int × Int × Nat)) (xs : List Tv) (k : Itv → Fs → ω) : Fs → ω := xb (fun fs => match xs.mapM (fun x => (rdv x fs).bind intOf) with
  | some is => match j is with
    | some (lo, c, n) => .ok ⟨rngD lo c n, none⟩ fs
    | none => .bad
  | none => .bad) k
theorem q_rng {j : List Int → Option (Int × Int × Nat)} {fl : M (List Tv)} {k : Itv → Fs → ω} (h : A.rel (xb fl (fun xs => rngK j xs k) fs) c) : A.rel (xb (vR j fl) k fs) c := q_bnd h
theorem q_rngK {j : List Int → Option (Int × Int × Nat)} {xs : List Tv} {ds : List D} {k : Itv → Fs → ω} {c : List D → π} (e : xs.mapM (fun x => rdv x fs) = some ds) (h : ∀ ys, A.rel (k ⟨ys, none⟩ fs) (c ys)) : A.rel (rngK j xs k fs) (yb (rngR j ds) c) := by
  have e2 : xs.mapM (fun x => (rdv x fs).bind intOf) = ds.mapM intOf := by
    clear h
    induction xs generalizing ds with
    | nil => cases e; rfl
    | cons x xs ih =>
      rw [List.mapM_cons] at e
      cases e1 : rdv x fs with
      | none => rw [e1] at e; cases e
      | some d =>
        rw [e1] at e
        cases e2 : xs.mapM (fun x => rdv x fs) with
        | none => simp only [e2] at e; cases e
        | some es =>
          simp only [e2] at e
          cases e
          rw [List.mapM_cons, List.mapM_cons, e1, ih e2]
          rfl
  unfold rngK xb rngR
  simp only [e2]
  cases ds.mapM intOf with
  | none => exact A.hb _
  | some is =>
    dsimp only
    cases j is with
    | none => exact A.hb _
    | some q => exact h _
/-! patterns -/
def asgL : List (Pat × D) → (Fs → ω) → Fs → ω
  | [], g => g
  | (p, d) :: r, g => fun fs => match asg p d fs with
    | some fs' => asgL r g fs'
    | none => OB.bad
theorem q_a0 {g : Fs → ω} (h : A.rel (g fs) c) : A.rel (asgL [] g fs) c := h
theorem q_an {i : Nat} {d : D} {r : List (Pat × D)} {g : Fs → ω} (hf : freeAt fs i = true) (h : A.rel (asgL r g (fs.set i (some (.frz, d)))) c) : A.rel (asgL ((.nm i, d) :: r) g fs) c := by
  unfold asgL asg
  rw [if_pos hf]
  exact h
theorem asgL_tup {ps : List Pat} {ds : List D} {r : List (Pat × D)} {g : Fs → ω} (hl : ps.length = ds.length) : asgL ((.tp ps, .nd .tup ds) :: r) g fs = asgL (ps.zip ds ++ r) g fs := by
  show (match asg (.tp ps) (.nd .tup ds) fs with | some fs' => asgL r g fs' | none => OB.bad) = _
  rw [asg]
  induction ps generalizing ds fs with
  | nil =>
    cases ds with
    | nil => rfl
    | cons d ds => cases hl
  | cons p ps ih =>
    cases ds with
    | nil => cases hl
    | cons d ds =>
      rw [asgs]
      show _ = asgL ((p, d) :: (ps.zip ds ++ r)) g fs
      rw [asgL]
      cases e : asg p d fs with
      | none => simp only [e]
      | some fs' =>
        simp only [e]
        exact ih (by simpa using hl)
theorem asgL_no {ps : List Pat} {d : D} {r : List (Pat × D)} {g : Fs → ω} (h : ∀ ds, d = .nd .tup ds → ds.length ≠ ps.length) : asgL ((.tp ps, d) :: r) g fs = OB.bad := by
  show (match asg (.tp ps) d fs with | some fs' => asgL r g fs' | none => OB.bad) = _
  have hl : ∀ {ps : List Pat} {ds : List D} {fs fs' : Fs}, asgs ps ds fs = some fs' → ds.length = ps.length := by
    intro ps
    induction ps with
    | nil =>
      intro ds fs fs' e
      cases ds with
      | nil => rfl
      | cons d ds => unfold asgs at e; cases e
    | cons p ps ih =>
      intro ds fs fs' e
      cases ds with
      | nil => unfold asgs at e; cases e
      | cons d ds =>
        unfold asgs at e
        cases e1 : asg p d fs with
        | none => rw [e1] at e; cases e
        | some fs1 =>
          rw [e1] at e
          rw [List.length_cons, List.length_cons, ih e]
  cases e : asg (.tp ps) d fs with
  | none => rfl
  | some fs' =>
    cases d with
    | «at» a => unfold asg at e; cases e
    | nd kk ds => cases kk with
      | tup =>
        unfold asg at e
        exact absurd (hl e) (h ds rfl)
      | _ => unfold asg at e; cases e
theorem q_a2 {p q : Pat} {d : D} {r : List (Pat × D)} {g : Fs → ω} {c : D × D → π} (h : ∀ a : D × D, A.rel (asgL ((p, a.1) :: (q, a.2) :: r) g fs) (c a)) : A.rel (asgL ((.tp [p, q], d) :: r) g fs) (yb (unT2 d) c) := by
  unfold unT2
  split
  · rename_i a b
    rw [asgL_tup rfl]
    exact h (a, b)
  · exact A.hb _
theorem q_a3 {p q s : Pat} {d : D} {r : List (Pat × D)} {g : Fs → ω} {c : D × D × D → π} (h : ∀ a : D × D × D, A.rel (asgL ((p, a.1) :: (q, a.2.1) :: (s, a.2.2) :: r) g fs) (c a)) : A.rel (asgL ((.tp [p, q, s], d) :: r) g fs) (yb (unT3 d) c) := by
  unfold unT3
  split
  · rename_i a b e
    rw [asgL_tup rfl]
    exact h (a, b, e)
  · exact A.hb _
theorem q_a4 {p q s t : Pat} {d : D} {r : List (Pat × D)} {g : Fs → ω} {c : D × D × D × D → π} (h : ∀ a : D × D × D × D, A.rel (asgL ((p, a.1) :: (q, a.2.1) :: (s, a.2.2.1) :: (t, a.2.2.2) :: r) g fs) (c a)) : A.rel (asgL ((.tp [p, q, s, t], d) :: r) g fs) (yb (unT4 d) c) := by
  unfold unT4
  split
  · rename_i a b e f
    rw [asgL_tup rfl]
    exact h (a, b, e, f)
  · exact A.hb _
end
end TL

/-! Plain functions: comprehensions, calls, statements, ghosts. -/
namespace TL
open PySem PySem.Spec PyProof.Rows L2
def okR (b : Bool) : R Unit := if b = true then .ok () else .bad
/-- a list is changed: what stands then, what is handed back -/
def chgR (g : List D → List D → Option (List D × D)) (t : D) (ds : List D) : R (D × D) := match t with
  | .nd .lst xs => match g xs ds with
    | some (xs', d) => .ok (.nd .lst xs', d)
    | none => .bad
  | _ => .bad
def noexC {σ β ρ : Type} (c : C σ β ρ) : C σ β ρ := match c with
  | .ex _ => .bad
  | c => c
/-- a def without changes of its arguments -/
def Rf0 (f : Fn) (as : List Sl) (rm : Md) (r : R D) : Prop := match r with
  | .bad => True
  | .ok d => ∃ as', f as = .ok (rm, d) as'
  | .ex x => ∃ as', f as = .ex x as'
/-- a def that may change what its first argument is -/
def Rf1 (f : Fn) (p : D) (as : List Sl) (rm : Md) (r : R (D × D)) : Prop := match r with
  | .bad => True
  | .ok d => ∃ as', f ((.io, p) :: as) = .ok (rm, d.1) ((.io, d.2) :: as')
  | .ex x => ∃ p' as', f ((.io, p) :: as) = .ex x ((.io, p') :: as')
section
variable {ω π α β γ σ τ ρ : Type} [OB ω] [PB π] {A : AR ω π} {fs fs1 fs2 : Fs} {c : π}
/-! tests whose parts change something -/
def andS (m : R (Bool × σ)) (n : σ → R (Bool × σ)) : R (Bool × σ) := yb m fun a => if a.1 = true then n a.2 else .ok (false, a.2)
def orS' (m : R (Bool × σ)) (n : σ → R (Bool × σ)) : R (Bool × σ) := yb m fun a => if a.1 = true then .ok (true, a.2) else n a.2
theorem q_andS {L : σ → Fs} {f g : M Bool} {m : R (Bool × σ)} {n : σ → R (Bool × σ)} (h1 : (AV (fun a : Bool × σ => a.1) fun a => L a.2).rel (f fs) m) (h2 : ∀ s, (AV (fun a : Bool × σ => a.1) fun a => L a.2).rel (g (L s)) (n s)) : (AV (fun a : Bool × σ => a.1) fun a => L a.2).rel (bAnd f g fs) (andS m n) := by
  cases m with
  | ok a =>
    have e : f fs = .ok a.1 (L a.2) := h1
    unfold bAnd bnd andS yb
    rw [e]
    obtain ⟨b, s⟩ := a
    cases b
    · exact rfl
    · exact h2 s
  | ex x =>
    obtain ⟨fs', e⟩ : ∃ fs', f fs = .ex x fs' := h1
    unfold bAnd bnd andS yb
    rw [e]
    exact ⟨fs', rfl⟩
  | bad => exact True.intro
theorem q_orS {L : σ → Fs} {f g : M Bool} {m : R (Bool × σ)} {n : σ → R (Bool × σ)} (h1 : (AV (fun a : Bool × σ => a.1) fun a => L a.2).rel (f fs) m) (h2 : ∀ s, (AV (fun a : Bool × σ => a.1) fun a => L a.2).rel (g (L s)) (n s)) : (AV (fun a : Bool × σ => a.1) fun a => L a.2).rel (bOr f g fs) (orS' m n) := by
  cases m with
  | ok a =>
    have e : f fs = .ok a.1 (L a.2) := h1
    unfold bOr bnd orS' yb
    rw [e]
    obtain ⟨b, s⟩ := a
    cases b
    · exact h2 s
    · exact rfl
  | ex x =>
    obtain ⟨fs', e⟩ : ∃ fs', f fs = .ex x fs' := h1
    unfold bOr bnd orS' yb
    rw [e]
    exact ⟨fs', rfl⟩
  | bad => exact True.intro
/-! comprehensions -/
def stepK (c : M Bool) (e : M D) (own : List Nat) : Fs → Out (Option D) := xb c fun b => if b = true then xb e fun x fs => .ok (some x) (wipeF own fs) else fun fs => .ok none (wipeF own fs)
def compK (it : Itv) (p : Pat) (c : M Bool) (e : M D) (own : List Nat) (k : Tv → Fs → ω) : Fs → ω := xb (fun fs =>
  if okOwn own (lkf it.lk fs) = true ∧ it.items.length ≤ 16777216 then
    match cloop p c e own it.items [] (wipeF own (lkf it.lk fs)) with
    | .ok xs fs' => .ok (.own (.nd .lst xs)) (unw own fs (unl it.lk fs'))
    | _ => .bad
  else .bad) k
theorem q_lc {f : M Itv} {p : Pat} {c' : M Bool} {e : M D} {own : List Nat} {k : Tv → Fs → ω} (h : A.rel (xb f (fun it => compK it p c' e own k) fs) c) : A.rel (xb (lcomp f p c' e own) k fs) c := q_bnd h
theorem cloop_S {L : σ → Fs} {p : Pat} {c : M Bool} {e : M D} {own : List Nat} {body : D → σ → R (Option D × σ)} (hb : ∀ d s, (AV (fun a : Option D × σ => a.1) (fun a => L a.2)).rel (asgL [(p, d)] (stepK c e own) (L s)) (body d s)) :
    ∀ (items acc : List D) (s : σ) (r : List D × σ), compS body items s = .ok r → cloop p c e own items acc (L s) = .ok (acc.reverse ++ r.1) (L r.2)
  | [], acc, s, r, h => by
    cases h
    rw [List.append_nil]
    rfl
  | d :: ds, acc, s, r, h => by
    unfold compS at h
    have hd := hb d s
    cases eb : body d s with
    | ex _ => rw [eb] at h; cases h
    | bad => rw [eb] at h; cases h
    | ok q =>
      obtain ⟨o, s'⟩ := q
      rw [eb] at h hd
      dsimp only at h
      cases er : compS body ds s' with
      | ex _ => rw [er] at h; cases h
      | bad => rw [er] at h; cases h
      | ok q2 =>
        obtain ⟨xs, s2⟩ := q2
        rw [er] at h
        cases h
        have hd : asgL [(p, d)] (stepK c e own) (L s) = .ok o (L s') := hd
        unfold cloop
        unfold asgL at hd
        cases ea : asg p d (L s) with
        | none => simp only [ea] at hd; cases hd
        | some f1 =>
          simp only [ea] at hd
          unfold asgL stepK xb at hd
          dsimp only
          cases ec : c f1 with
          | ex _ _ => rw [ec] at hd; cases hd
          | bad => rw [ec] at hd; cases hd
          | ok b f2 =>
            rw [ec] at hd
            dsimp only at hd ⊢
            cases b with
            | false =>
              simp only [Bool.false_eq_true, if_false] at hd
              obtain ⟨z1, z2⟩ := Out.ok.inj hd
              subst z1
              dsimp only
              rw [z2]
              exact cloop_S hb ds acc s' _ er
            | true =>
              simp only [if_true] at hd
              cases ee : e f2 with
              | ex _ _ => rw [ee] at hd; cases hd
              | bad => rw [ee] at hd; cases hd
              | ok x f3 =>
                rw [ee] at hd
                dsimp only at hd ⊢
                obtain ⟨z1, z2⟩ := Out.ok.inj hd
                subst z1
                rw [ee]
                dsimp only
                rw [z2, cloop_S hb ds (x :: acc) s' _ er]
                simp
theorem q_compS (L : σ → Fs) {lk : Option Nat} {items : List D} {p : Pat} {c' : M Bool} {e : M D} {own : List Nat} {k : Tv → Fs → ω} {s0 : σ} {body : D → σ → R (Option D × σ)} {cc : List D × σ → π}
    (ho : okOwn own (lkf lk fs) = true) (h0 : wipeF own (lkf lk fs) = L s0) (hb : ∀ d s, (AV (fun a : Option D × σ => a.1) (fun a => L a.2)).rel (asgL [(p, d)] (stepK c' e own) (L s)) (body d s))
    (h2 : ∀ a : List D × σ, A.rel (k (.own (.nd .lst a.1)) (unw own fs (unl lk (L a.2)))) (cc a)) : A.rel (compK ⟨items, lk⟩ p c' e own k fs) (yb (capR items) fun items => yb (compS body items s0) cc) := by
  unfold capR
  by_cases hl : items.length ≤ 16777216
  · rw [if_pos hl]
    show A.rel _ (yb (compS body items s0) cc)
    cases er : compS body items s0 with
    | ex _ =>
      have : ∀ (l : List D) (s : σ) x, compS body l s ≠ .ex x := by
        intro l
        induction l with
        | nil => intro s x h; cases h
        | cons d ds ih =>
          intro s x h
          unfold compS at h
          cases e1 : body d s with
          | ok q =>
            rw [e1] at h
            dsimp only at h
            cases e2 : compS body ds q.2 with
            | ok _ => rw [e2] at h; cases h
            | ex _ => rw [e2] at h; cases h
            | bad => rw [e2] at h; cases h
          | ex _ => rw [e1] at h; cases h
          | bad => rw [e1] at h; cases h
      exact absurd er (this _ _ _)
    | bad => exact A.hb _
    | ok r =>
      have e1 := cloop_S hb items [] s0 r er
      unfold compK xb
      dsimp only
      rw [if_pos ⟨ho, hl⟩, h0, e1]
      exact h2 r
  · rw [if_neg hl]
    exact A.hb _
theorem comp_RS {body : D → R (Option D)} : ∀ (l : List D), compS (fun d (_ : Unit) => yb (body d) fun o => R.ok (o, ())) l () = yb (compR body l) fun xs => R.ok (xs, ())
  | [] => rfl
  | d :: ds => by
    unfold compS compR
    cases e1 : body d with
    | ok o =>
      have ih := comp_RS (body := body) ds
      simp only [yb] at ih ⊢
      rw [ih]
      cases compR body ds <;> rfl
    | ex _ => rfl
    | bad => rfl
theorem q_comp {lk : Option Nat} {items : List D} {p : Pat} {c' : M Bool} {e : M D} {own : List Nat} {k : Tv → Fs → ω} {body : D → R (Option D)} {cc : List D → π} {f0 : Fs}
    (ho : okOwn own (lkf lk fs) = true) (h0 : wipeF own (lkf lk fs) = f0) (hb : ∀ d, (AV (fun a : Option D => a) (fun _ => f0)).rel (asgL [(p, d)] (stepK c' e own) f0) (body d))
    (h2 : ∀ a, A.rel (k (.own (.nd .lst a)) (unw own fs (unl lk f0))) (cc a)) : A.rel (compK ⟨items, lk⟩ p c' e own k fs) (yb (capR items) fun items => yb (compR body items) cc) := by
  have h3 : A.rel (compK ⟨items, lk⟩ p c' e own k fs) (yb (capR items) fun items => yb (compS (fun d (_ : Unit) => yb (body d) fun o => R.ok (o, ())) items ()) fun a => cc a.1) := by
    refine q_compS (fun _ : Unit => f0) ho h0 (fun d s => ?_) fun a => h2 a.1
    have := hb d
    cases e1 : body d with
    | ok o => rw [e1] at this; exact this
    | ex x => rw [e1] at this; exact this
    | bad => exact True.intro
  have e2 : (fun items => yb (compS (fun d (_ : Unit) => yb (body d) fun o => R.ok (o, ())) items ()) fun a => cc a.1) = fun items => yb (compR body items) cc := by
    funext items
    rw [comp_RS]
    cases compR body items <;> rfl
  rw [e2] at h3
  exact h3
/-- in a turn: what it gives -/
theorem q_step {c' : M Bool} {e : M D} {own : List Nat} {A : AR (Out (Option D)) π} {c : π} (h : A.rel (xb c' (fun b => if b = true then xb e fun x fs => .ok (some x) (wipeF own fs) else fun fs => .ok none (wipeF own fs)) fs) c) : A.rel (stepK c' e own fs) c := h
theorem q_yes {k : Fs → ω} {k2 : Fs → ω} (h : A.rel (k fs) c) : A.rel (xb yes (fun b => if b = true then k else k2) fs) c := h
/-! calls -/
theorem q_callF {f : Fn} {ms : List Bool} {xs ys : List Tv} {as : List Sl} {m : R D} {k : Tv → Fs → ω} {c : D → π} (h1 : pass1 ms xs fs = .ok ys fs1) (h2 : args1 none fs1 ys = some as) (hf : Rf0 f as .frz m) (h : ∀ d, A.rel (k (.frz d) fs1) (c d)) : A.rel (xb (callM f ms xs) k fs) (yb m c) := by
  unfold xb callM bnd
  rw [h1]
  dsimp only
  rw [h2]
  dsimp only
  cases m with
  | bad => exact A.hb _
  | ok d => obtain ⟨as', e⟩ := hf; rw [e]; exact h d
  | ex x => obtain ⟨as', e⟩ := hf; rw [e]; exact A.hx x _
theorem q_callO {f : Fn} {ms : List Bool} {xs ys : List Tv} {as : List Sl} {m : R D} {k : Tv → Fs → ω} {c : D → π} (h1 : pass1 ms xs fs = .ok ys fs1) (h2 : args1 none fs1 ys = some as) (hf : Rf0 f as .own m) (h : ∀ d, A.rel (k (.own d) fs1) (c d)) : A.rel (xb (callM f ms xs) k fs) (yb m c) := by
  unfold xb callM bnd
  rw [h1]
  dsimp only
  rw [h2]
  dsimp only
  cases m with
  | bad => exact A.hb _
  | ok d => obtain ⟨as', e⟩ := hf; rw [e]; exact h d
  | ex x => obtain ⟨as', e⟩ := hf; rw [e]; exact A.hx x _
theorem q_callmF {f : Fn} {ms : List Bool} {i : Nat} {mo : Md} {p : D} {xs ys : List Tv} {as : List Sl} {m : R (D × D)} {k : Tv → Fs → ω} {c : D × D → π} (h1 : pass1 ms xs fs = .ok ys fs1) (e : fs1[i]? = some (some (mo, p))) (hm : mo.mut = true) (h2 : args1 (some i) fs1 ys = some as) (hf : Rf1 f p as .frz m)
    (h : ∀ d, A.rel (k (.frz d.1) (fs1.set i (some (mo, d.2)))) (c d)) : A.rel (xb (callMm f ms (.slot i :: xs)) k fs) (yb m c) := by
  unfold xb callMm bnd
  dsimp only
  rw [h1]
  dsimp only
  rw [e]
  dsimp only
  rw [if_pos hm, h2]
  dsimp only
  cases m with
  | bad => exact A.hb _
  | ok d => obtain ⟨as', e⟩ := hf; rw [e]; exact h d
  | ex x => obtain ⟨p', as', e⟩ := hf; rw [e]; exact A.hx x _
theorem q_callmO {f : Fn} {ms : List Bool} {i : Nat} {mo : Md} {p : D} {xs ys : List Tv} {as : List Sl} {m : R (D × D)} {k : Tv → Fs → ω} {c : D × D → π} (h1 : pass1 ms xs fs = .ok ys fs1) (e : fs1[i]? = some (some (mo, p))) (hm : mo.mut = true) (h2 : args1 (some i) fs1 ys = some as) (hf : Rf1 f p as .own m)
    (h : ∀ d, A.rel (k (.own d.1) (fs1.set i (some (mo, d.2)))) (c d)) : A.rel (xb (callMm f ms (.slot i :: xs)) k fs) (yb m c) := by
  unfold xb callMm bnd
  dsimp only
  rw [h1]
  dsimp only
  rw [e]
  dsimp only
  rw [if_pos hm, h2]
  dsimp only
  cases m with
  | bad => exact A.hb _
  | ok d => obtain ⟨as', e⟩ := hf; rw [e]; exact h d
  | ex x => obtain ⟨p', as', e⟩ := hf; rw [e]; exact A.hx x _
/-! methods -/
def bmK (ok : D → Bool) (x : Tv) (k : Fs → ω) : Fs → ω := fun fs => match rdv x fs with
  | some d => if ok d = true then k fs else OB.bad
  | none => OB.bad
theorem q_bm {ok : D → Bool} {kk : List Tv → M Tv} {fo : M Tv} {fl : M (List Tv)} {k : Tv → Fs → ω} (h : A.rel (xb fo (fun x => bmK ok x (xb fl fun ys => xb (kk (x :: ys)) k)) fs) c) : A.rel (xb (bmM ok kk fo fl) k fs) c := by
  unfold bmM
  refine q_bnd ?_
  have e : (fun x => xb (fun fs => match rdv x fs with | some d => if ok d = true then bnd fl (fun ys => kk (x :: ys)) fs else .bad | none => .bad) k) = fun x => bmK ok x (xb fl fun ys => xb (kk (x :: ys)) k) := by
    funext x fs
    unfold bmK xb bnd
    dsimp only
    cases ex : rdv x fs with
    | none => simp only [ex]
    | some d =>
      simp only [ex]
      by_cases hd : ok d = true
      · rw [if_pos hd, if_pos hd]
        cases fl fs <;> rfl
      · rw [if_neg hd, if_neg hd]
  rw [← e] at h
  exact h
theorem q_bmK {ok : D → Bool} {x : Tv} {d : D} {k : Fs → ω} {c : Unit → π} (hx : rdv x fs = some d) (h : A.rel (k fs) (c ())) : A.rel (bmK ok x k fs) (yb (okR (ok d)) c) := by
  unfold bmK okR
  simp only [hx]
  by_cases hd : ok d = true
  · rw [if_pos hd, if_pos hd]; exact h
  · rw [if_neg hd, if_neg hd]; exact A.hb _
theorem q_chg {g : List D → List D → Option (List D × D)} {i : Nat} {m : Md} {t : D} {ys : List Tv} {ds : List D} {k : Tv → Fs → ω} {c : D × D → π} (e : frzA ys fs = .ok ds fs1) (hi : fs1[i]? = some (some (m, t))) (hm : m.mut = true) (h : ∀ a, A.rel (k (.frz a.2) (fs1.set i (some (m, a.1)))) (c a)) :
    A.rel (xb (chgM g (.slot i :: ys)) k fs) (yb (chgR g t ds) c) := by
  unfold xb chgM bnd chgR
  dsimp only
  rw [e]
  dsimp only
  rw [hi]
  cases t with
  | «at» a => exact A.hb _
  | nd kk xs => cases kk with
    | lst =>
      dsimp only
      rw [if_pos hm]
      cases eg : g xs ds with
      | none => exact A.hb _
      | some q => exact h (_, q.2)
    | _ => exact A.hb _
end
/-! ### ghosts: a slot is frozen, or forgotten -/
inductive Gh where
  | fz (i : Nat) | dl (i : Nat)
def gh1 : Gh → Fs → Option Fs
  | .fz i, fs => match fs[i]? with
    | some (some (.own, d)) => some (fs.set i (some (.frz, d)))
    | some (some (.frz, _)) => some fs
    | _ => none
  | .dl i, fs => if freeAt fs i = true then some (fs.set i none) else none
def ghF : List Gh → Fs → Option Fs
  | [], fs => some fs
  | o :: os, fs => match gh1 o fs with
    | some fs' => ghF os fs'
    | none => none
def gh (os : List Gh) (g : S) : S := fun fs => match ghF os fs with
  | some fs' => g fs'
  | none => .bad
/-! ### statements -/
section
variable {π : Type} [PB π] {A : AR SOut π} {fs fs1 fs2 : Fs} {c : π} {σ τ β ρ : Type} {g g2 : S}
theorem q_assoc {x y : S} (h : A.rel (sseq x (sseq y g) fs) c) : A.rel (sseq (sseq x y) g fs) c := by
  have e : sseq (sseq x y) g fs = sseq x (sseq y g) fs := by
    unfold sseq
    cases x fs <;> rfl
  rw [e]
  exact h
theorem q_skip (h : A.rel (g fs) c) : A.rel (sseq sNext g fs) c := h
theorem q_sret {f : M Tv} (h : A.rel (xb f (fun v fs => SOut.rt v fs) fs) c) : A.rel (sseq (sret f) g fs) c := by
  have e : sseq (sret f) g fs = xb f (fun v fs => SOut.rt v fs) fs := by
    unfold sseq sret sbnd xb
    cases f fs <;> rfl
  rw [e]
  exact h
theorem q_retN (h : A.rel (SOut.rt (.frz (.at .non)) fs) c) : A.rel (sseq sRetN g fs) c := h
theorem q_brk (h : A.rel (SOut.bk fs) c) : A.rel (sseq sBrk g fs) c := h
theorem q_cont (h : A.rel (SOut.ct fs) c) : A.rel (sseq sCont g fs) c := h
theorem q_drop {f : M Tv} (h : A.rel (xb f (fun _ => g) fs) c) : A.rel (sseq (sdrop f) g fs) c := by
  have e : sseq (sdrop f) g fs = xb f (fun _ => g) fs := by
    unfold sseq sdrop sbnd xb
    cases f fs <;> rfl
  rw [e]
  exact h
def setK (i : Nat) (v : Tv) (g : S) : S := fun fs => match resV v fs with
  | .ok s fs' => if freeAt fs' i = true then g (fs'.set i (some s)) else .bad
  | .ex x fs' => .ex x fs'
  | .bad => .bad
theorem q_set {i : Nat} {f : M Tv} (h : A.rel (xb f (fun v => setK i v g) fs) c) : A.rel (sseq (sset i f) g fs) c := by
  have e : sseq (sset i f) g fs = xb f (fun v => setK i v g) fs := by
    unfold sseq sset sbnd xb bnd
    cases f fs with
    | ok v f1 =>
      dsimp only
      unfold setK
      cases resV v f1 with
      | ok s f2 =>
        dsimp only
        unfold put
        by_cases hf : freeAt f2 i = true
        · rw [if_pos hf, if_pos hf]
        · rw [if_neg hf, if_neg hf]
      | ex _ _ => rfl
      | bad => rfl
    | ex _ _ => rfl
    | bad => rfl
  rw [e]
  exact h
theorem q_setF {i : Nat} {d : D} (hf : freeAt fs i = true) (h : A.rel (g (fs.set i (some (.frz, d)))) c) : A.rel (setK i (.frz d) g fs) c := by
  have e : setK i (.frz d) g fs = g (fs.set i (some (.frz, d))) := if_pos hf
  rw [e]
  exact h
theorem q_setO {i : Nat} {d : D} (hf : freeAt fs i = true) (h : A.rel (g (fs.set i (some (.own, d)))) c) : A.rel (setK i (.own d) g fs) c := by
  have e : setK i (.own d) g fs = g (fs.set i (some (.own, d))) := if_pos hf
  rw [e]
  exact h
theorem q_setS {i j : Nat} {d : D} (e1 : frzV (.slot j) fs = .ok d fs1) (hf : freeAt fs1 i = true) (h : A.rel (g (fs1.set i (some (.frz, d)))) c) : A.rel (setK i (.slot j) g fs) c := by
  have e : setK i (.slot j) g fs = g (fs1.set i (some (.frz, d))) := by
    unfold setK
    have e2 : resV (.slot j) fs = .ok (.frz, d) fs1 := by
      show bnd (frzV (.slot j)) (fun d => TL.ret (Md.frz, d)) fs = _
      unfold bnd
      rw [e1]
      rfl
    rw [e2]
    exact if_pos hf
  rw [e]
  exact h
def putK (h : D → D → D → Option D) (d : D) (x y : Tv) (g : S) : S := fun fs => match sputF h d x y fs with
  | .nx fs' => g fs'
  | o => o
theorem q_sput {h : D → D → D → Option D} {fo fi fv : M Tv} (hh : A.rel (xb fv (fun v => xb (frzV v) fun d => xb fo fun x => xb fi fun y => putK h d x y g) fs) c) : A.rel (sseq (sput h fo fi fv) g fs) c := by
  have e : sseq (sput h fo fi fv) g fs = xb fv (fun v => xb (frzV v) fun d => xb fo fun x => xb fi fun y => putK h d x y g) fs := by
    unfold sseq sput sbnd xb bnd
    cases fv fs with
    | ok v f1 =>
      dsimp only
      cases frzV v f1 with
      | ok d f2 =>
        dsimp only
        cases fo f2 with
        | ok x f3 =>
          dsimp only
          cases fi f3 with
          | ok y f4 => rfl
          | ex _ _ => rfl
          | bad => rfl
        | ex _ _ => rfl
        | bad => rfl
      | ex _ _ => rfl
      | bad => rfl
    | ex _ _ => rfl
    | bad => rfl
  rw [e]
  exact hh
theorem q_putK {h : D → D → D → Option D} {i : Nat} {m : Md} {t d k : D} {y : Tv} {c : D → π} (e : fs[i]? = some (some (m, t))) (hm : m.mut = true) (hy : rdv y fs = some k) (hh : ∀ t', A.rel (g (fs.set i (some (m, t')))) (c t')) : A.rel (putK h d (.slot i) y g fs) (yb (optR (h t k d)) c) := by
  unfold putK sputF optR
  dsimp only
  rw [e]
  dsimp only
  rw [if_pos hm, hy]
  dsimp only
  cases h t k d with
  | none => exact A.hb _
  | some t' => exact hh t'
theorem q_asg {p : Pat} {f : M Tv} (h : A.rel (xb f (fun v => xb (frzV v) fun d => asgL [(p, d)] g) fs) c) : A.rel (sseq (sasg p f) g fs) c := by
  have e : sseq (sasg p f) g fs = xb f (fun v => xb (frzV v) fun d => asgL [(p, d)] g) fs := by
    unfold sseq sasg sbnd xb bnd asgL
    cases f fs with
    | ok v f1 =>
      dsimp only
      cases frzV v f1 with
      | ok d f2 =>
        dsimp only
        cases asg p d f2 <;> rfl
      | ex _ _ => rfl
      | bad => rfl
    | ex _ _ => rfl
    | bad => rfl
  rw [e]
  exact h
/-- two names at once -/
def parK (i j : Nat) (vs : List Tv) (g : S) : S := fun fs => match vs with
  | [v, w] => match resV v fs with
    | .ok s f1 => match resV w f1 with
      | .ok t f2 => if freeAt f2 i = true then (if freeAt (f2.set i (some s)) j = true then g ((f2.set i (some s)).set j (some t)) else .bad) else .bad
      | .ex x f => .ex x f
      | .bad => .bad
    | .ex x f => .ex x f
    | .bad => .bad
  | _ => .bad
theorem q_par {i j : Nat} {f : M (List Tv)} (h : A.rel (xb f (fun vs => parK i j vs g) fs) c) : A.rel (sseq (spar i j f) g fs) c := by
  have e : sseq (spar i j f) g fs = xb f (fun vs => parK i j vs g) fs := by
    unfold sseq spar sbnd xb
    cases f fs with
    | ok vs f1 =>
      dsimp only
      unfold parK
      match vs with
      | [] => rfl
      | [_] => rfl
      | _ :: _ :: _ :: _ => rfl
      | [v, w] =>
        dsimp only
        unfold bnd
        cases resV v f1 with
        | ok s f2 =>
          dsimp only
          cases resV w f2 with
          | ok t f3 =>
            dsimp only [TL.ret]
            unfold sseq put
            by_cases h1 : freeAt f3 i = true
            · rw [if_pos h1, if_pos h1]
              dsimp only
              by_cases h2 : freeAt (f3.set i (some s)) j = true
              · rw [if_pos h2, if_pos h2]
              · rw [if_neg h2, if_neg h2]
            · rw [if_neg h1, if_neg h1]
          | ex _ _ => rfl
          | bad => rfl
        | ex _ _ => rfl
        | bad => rfl
    | ex _ _ => rfl
    | bad => rfl
  rw [e]
  exact h
theorem q_parK {i j : Nat} {v w : Tv} {s t : Sl} (h1 : resV v fs = .ok s fs1) (h2 : resV w fs1 = .ok t fs2) (h3 : freeAt fs2 i = true) (h4 : freeAt (fs2.set i (some s)) j = true) (h : A.rel (g ((fs2.set i (some s)).set j (some t))) c) : A.rel (parK i j [v, w] g fs) c := by
  unfold parK
  dsimp only
  rw [h1]
  dsimp only
  rw [h2]
  dsimp only
  rw [if_pos h3, if_pos h4]
  exact h
theorem q_if {t : M Bool} {a b : S} (h : A.rel (xb t (fun k => if k = true then sseq a g else sseq b g) fs) c) : A.rel (sseq (sif t a b) g fs) c := by
  have e : sseq (sif t a b) g fs = xb t (fun k => if k = true then sseq a g else sseq b g) fs := by
    unfold sseq sif sbnd xb
    cases t fs with
    | ok k f1 => cases k <;> rfl
    | ex _ _ => rfl
    | bad => rfl
  rw [e]
  exact h
variable {N : σ → Fs → Prop} {B : β → Fs → Prop} {T : ρ → Tv → Fs → Prop}
theorem q_end {s : σ} (h : N s fs) : (AS N B T).rel (sNext fs) (.nx s) := ⟨fs, rfl, h⟩
theorem q_bk {s : β} (h : B s fs) : (AS N B T).rel (SOut.bk fs) (.bk s) := ⟨fs, rfl, h⟩
theorem q_ct {s : β} (h : B s fs) : (AS N B T).rel (SOut.ct fs) (.ct s) := ⟨fs, rfl, h⟩
theorem q_rt {r : ρ} {v : Tv} (h : T r v fs) : (AS N B T).rel (SOut.rt v fs) (.rt r) := ⟨v, fs, rfl, h⟩
/-- both ways go on, as L says -/
theorem q_ifJ (L : τ → Fs) {t : M Bool} {a b : S} {ci : C τ β ρ} {cc : τ → C σ β ρ} (h1 : (AS (fun s fs => fs = L s) B T).rel (xb t (fun k => if k = true then a else b) fs) ci) (h2 : ∀ s, (AS N B T).rel (g (L s)) (cc s)) : (AS N B T).rel (sseq (sif t a b) g fs) (bC ci cc) := by
  have e : sif t a b fs = xb t (fun k => if k = true then a else b) fs := by
    unfold sif sbnd xb
    cases t fs <;> rfl
  rw [← e] at h1
  unfold sseq
  cases ci with
  | bad => exact True.intro
  | nx s =>
    obtain ⟨f1, e1, e2⟩ := h1
    rw [e1]
    show (AS N B T).rel (g f1) (cc s)
    rw [e2]
    exact h2 s
  | rt r => obtain ⟨v, f1, e1, e2⟩ := h1; rw [e1]; exact ⟨v, f1, rfl, e2⟩
  | bk s => obtain ⟨f1, e1, e2⟩ := h1; rw [e1]; exact ⟨f1, rfl, e2⟩
  | ct s => obtain ⟨f1, e1, e2⟩ := h1; rw [e1]; exact ⟨f1, rfl, e2⟩
  | ex x => obtain ⟨f1, e1⟩ := h1; rw [e1]; exact ⟨f1, rfl⟩
theorem q_tryN (L : τ → Fs) {a : S} {ci : C τ β ρ} {cc : τ → C σ β ρ} (h1 : (AS (fun s fs => fs = L s) B T).rel (a fs) ci) (h2 : ∀ s, (AS N B T).rel (g (L s)) (cc s)) : (AS N B T).rel (sseq (stry a) g fs) (bC (noexC ci) cc) := by
  unfold sseq stry
  cases ci with
  | bad => exact True.intro
  | nx s =>
    obtain ⟨f1, e1, e2⟩ := h1
    rw [e1]
    show (AS N B T).rel (g f1) (cc s)
    rw [e2]
    exact h2 s
  | rt r => obtain ⟨v, f1, e1, e2⟩ := h1; rw [e1]; exact ⟨v, f1, rfl, e2⟩
  | bk s => obtain ⟨f1, e1, e2⟩ := h1; rw [e1]; exact ⟨f1, rfl, e2⟩
  | ct s => obtain ⟨f1, e1, e2⟩ := h1; rw [e1]; exact ⟨f1, rfl, e2⟩
  | ex x => exact True.intro
theorem q_badS (hb : c = PB.bad) : A.rel (sseq badS g fs) c := by rw [hb]; exact A.hb _
theorem q_ghS {os : List Gh} (e : ghF os fs = some fs1) (h : A.rel (sseq g g2 fs1) c) : A.rel (sseq (gh os g) g2 fs) c := by
  have e2 : sseq (gh os g) g2 fs = sseq g g2 fs1 := by
    unfold sseq gh
    rw [e]
  rw [e2]
  exact h
/-! for -/
def forK (it : Itv) (p : Pat) (b g : S) : S := fun fs => match unlS it.lk (sloop p b it.items (lkf it.lk fs)) with
  | .nx fs' => g fs'
  | o => o
theorem q_for {f : M Itv} {p : Pat} {b : S} (h : A.rel (xb f (fun it => forK it p b g) fs) c) : A.rel (sseq (sfor f p b) g fs) c := by
  have e : sseq (sfor f p b) g fs = xb f (fun it => forK it p b g) fs := by
    unfold sseq sfor sbnd xb
    cases f fs <;> rfl
  rw [e]
  exact h
theorem sloop_C (L : τ → Fs) {T : ρ → Tv → Fs → Prop} {p : Pat} {b : S} {body : D → τ → C τ τ ρ} (hb : ∀ d s, (AS (fun s fs => fs = L s) (fun s fs => fs = L s) T).rel (asgL [(p, d)] b (L s)) (body d s)) :
    ∀ (items : List D) (s : τ), (AS (σ := τ) (β := β) (fun s fs => fs = L s) (fun _ _ => False) T).rel (sloop p b items (L s)) (forC items s body)
  | [], s => ⟨_, rfl, rfl⟩
  | d :: ds, s => by
    have h := hb d s
    unfold forC sloop
    unfold asgL at h
    cases ea : asg p d (L s) with
    | none =>
      simp only [ea] at h ⊢
      cases eb : body d s with
      | bad => exact True.intro
      | nx s' => rw [eb] at h; obtain ⟨f1, e1, _⟩ := h; cases e1
      | ct s' => rw [eb] at h; obtain ⟨f1, e1, _⟩ := h; cases e1
      | bk s' => rw [eb] at h; obtain ⟨f1, e1, _⟩ := h; cases e1
      | rt r => rw [eb] at h; obtain ⟨v, f1, e1, _⟩ := h; cases e1
      | ex x => rw [eb] at h; obtain ⟨f1, e1⟩ := h; cases e1
    | some f0 =>
      simp only [ea] at h ⊢
      unfold asgL at h
      cases eb : body d s with
      | bad => exact True.intro
      | nx s' =>
        rw [eb] at h; obtain ⟨f1, e1, e2⟩ := h; rw [e1]
        dsimp only
        rw [e2]
        exact sloop_C L hb ds s'
      | ct s' =>
        rw [eb] at h; obtain ⟨f1, e1, e2⟩ := h; rw [e1]
        dsimp only
        rw [e2]
        exact sloop_C L hb ds s'
      | bk s' => rw [eb] at h; obtain ⟨f1, e1, e2⟩ := h; rw [e1]; exact ⟨f1, rfl, e2⟩
      | rt r => rw [eb] at h; obtain ⟨v, f1, e1, e2⟩ := h; rw [e1]; exact ⟨v, f1, rfl, e2⟩
      | ex x => rw [eb] at h; obtain ⟨f1, e1⟩ := h; rw [e1]; exact ⟨f1, rfl⟩
theorem q_forK (L : τ → Fs) {lk : Option Nat} {items : List D} {p : Pat} {b : S} {s0 : τ} {body : D → τ → C τ τ ρ} {cc : τ → C σ β ρ} (h0 : lkf lk fs = L s0)
    (hb : ∀ d s, (AS (fun s fs => fs = L s) (fun s fs => fs = L s) fun r v fs => T r v (unl lk fs)).rel (asgL [(p, d)] b (L s)) (body d s)) (h2 : ∀ s, (AS N B T).rel (g (unl lk (L s))) (cc s)) : (AS N B T).rel (forK ⟨items, lk⟩ p b g fs) (bC (forC items s0 body) cc) := by
  have h := sloop_C (β := β) L hb items s0
  unfold forK
  dsimp only
  rw [h0]
  cases ef : (forC items s0 body : C τ β ρ) with
  | bad => exact True.intro
  | nx s =>
    rw [ef] at h
    obtain ⟨f1, e1, e2⟩ := h
    rw [e1]
    show (AS N B T).rel (g (unl lk f1)) (cc s)
    rw [e2]
    exact h2 s
  | rt r => rw [ef] at h; obtain ⟨v, f1, e1, e2⟩ := h; rw [e1]; exact ⟨v, _, rfl, e2⟩
  | bk s => rw [ef] at h; obtain ⟨f1, e1, e2⟩ := h; exact e2.elim
  | ct s => rw [ef] at h; obtain ⟨f1, e1, e2⟩ := h; exact e2.elim
  | ex x => rw [ef] at h; obtain ⟨f1, e1⟩ := h; rw [e1]; exact ⟨_, rfl⟩
/-! while -/
theorem swhile_C (L : τ → Fs) {T : ρ → Tv → Fs → Prop} {t : M Bool} {b : S} {tt : τ → R Bool} {body : τ → C τ τ ρ} (ht : ∀ s, (AV id fun _ => L s).rel (t (L s)) (tt s)) (hb : ∀ s, (AS (fun s fs => fs = L s) (fun s fs => fs = L s) T).rel (b (L s)) (body s)) :
    ∀ (n : Nat) (s : τ), (AS (σ := τ) (β := β) (fun s fs => fs = L s) (fun _ _ => False) T).rel (swhile t b n (L s)) (whileC tt body n s)
  | 0, s => True.intro
  | n + 1, s => by
    have h1 := ht s
    have h := hb s
    unfold whileC swhile sbnd yb
    cases et : tt s with
    | bad => exact True.intro
    | ex x => rw [et] at h1; obtain ⟨f1, e1⟩ := h1; rw [e1]; exact ⟨f1, rfl⟩
    | ok k =>
      rw [et] at h1
      have e1 : t (L s) = .ok k (L s) := h1
      rw [e1]
      cases k with
      | false => exact ⟨_, rfl, rfl⟩
      | true =>
        simp only [if_true]
        cases eb : body s with
        | bad => exact True.intro
        | nx s' =>
          rw [eb] at h; obtain ⟨f1, e1, e2⟩ := h; rw [e1]
          dsimp only
          rw [e2]
          exact swhile_C L ht hb n s'
        | ct s' =>
          rw [eb] at h; obtain ⟨f1, e1, e2⟩ := h; rw [e1]
          dsimp only
          rw [e2]
          exact swhile_C L ht hb n s'
        | bk s' => rw [eb] at h; obtain ⟨f1, e1, e2⟩ := h; rw [e1]; exact ⟨f1, rfl, e2⟩
        | rt r => rw [eb] at h; obtain ⟨v, f1, e1, e2⟩ := h; rw [e1]; exact ⟨v, f1, rfl, e2⟩
        | ex x => rw [eb] at h; obtain ⟨f1, e1⟩ := h; rw [e1]; exact ⟨f1, rfl⟩
theorem q_while (L : τ → Fs) {t : M Bool} {b : S} {n : Nat} {s0 : τ} {tt : τ → R Bool} {body : τ → C τ τ ρ} {cc : τ → C σ β ρ} (h0 : fs = L s0) (ht : ∀ s, (AV id fun _ => L s).rel (t (L s)) (tt s))
    (hb : ∀ s, (AS (fun s fs => fs = L s) (fun s fs => fs = L s) T).rel (b (L s)) (body s)) (h2 : ∀ s, (AS N B T).rel (g (L s)) (cc s)) : (AS N B T).rel (sseq (swhile t b n) g fs) (bC (whileC tt body n s0) cc) := by
  have h := swhile_C (β := β) L ht hb n s0
  unfold sseq
  rw [h0]
  cases ef : (whileC tt body n s0 : C τ β ρ) with
  | bad => exact True.intro
  | nx s =>
    rw [ef] at h
    obtain ⟨f1, e1, e2⟩ := h
    rw [e1]
    show (AS N B T).rel (g f1) (cc s)
    rw [e2]
    exact h2 s
  | rt r => rw [ef] at h; obtain ⟨v, f1, e1, e2⟩ := h; rw [e1]; exact ⟨v, _, rfl, e2⟩
  | bk s => rw [ef] at h; obtain ⟨f1, e1, e2⟩ := h; exact e2.elim
  | ct s => rw [ef] at h; obtain ⟨f1, e1, e2⟩ := h; exact e2.elim
  | ex x => rw [ef] at h; obtain ⟨f1, e1⟩ := h; rw [e1]; exact ⟨_, rfl⟩
end
theorem q_gh {π : Type} [PB π] {A : AR SOut π} {fs fs1 : Fs} {c : π} {os : List Gh} {g : S} (e : ghF os fs = some fs1) (h : A.rel (g fs1) c) : A.rel (gh os g fs) c := by
  unfold gh
  rw [e]
  exact h
section
variable {Γ : Gm} {Z : Zf} {R G H : Hp} {σ : L2.St} {fs fs' : Fs}
theorem TI.del (T : TI Γ Z R G σ H fs) {i : Nat} (hf : freeAt fs i = true) : TI Γ Z R G σ H (fs.set i none) := by
  have back : ∀ {j : Nat} {s : Sl}, (fs.set i none)[j]? = some (some s) → j ≠ i ∧ fs[j]? = some (some s) := fun {j s} e => by
    by_cases hj : j = i
    · subst hj
      by_cases hl : j < fs.length
      · rw [List.getElem?_set_self hl] at e
        cases e
      · rw [List.getElem?_eq_none (by rw [List.length_set]; omega)] at e
        cases e
    · rw [List.getElem?_set_ne (Ne.symm hj)] at e
      exact ⟨hj, e⟩
  refine ⟨T.gh, T.rh, T.br, by rw [List.length_set]; exact T.len, fun j s e => T.sl j s (back e).2, fun a b s t v h1 h2 => T.inj a b s t v (back h1).2 (back h2).2, fun q n v hq => ?_, fun j d e => T.bp j d (back e).2⟩
  obtain ⟨⟨d, h1, h2⟩, hm⟩ := T.io q n v hq
  have hj : q ≠ i := fun z => by
    unfold freeAt at hf
    rw [← z, h1] at hf
    rcases hm with z3 | z3 <;> (rw [z3] at hf; cases hf)
  exact ⟨⟨d, by rw [List.getElem?_set_ne (Ne.symm hj)]; exact h1, h2⟩, hm⟩
theorem TI.gh1 (T : TI Γ Z R G σ H fs) {o : Gh} (e : TL.gh1 o fs = some fs') : ∃ G', TI Γ Z R G' σ H fs' ∧ Grow R G G' := by
  cases o with
  | fz i =>
    unfold TL.gh1 at e
    dsimp only at e
    split at e
    · rename_i d ei
      cases e
      obtain ⟨p, ob, _, _, _, _, T', g, _⟩ := T.frzSlot ei
      exact ⟨_, T', g⟩
    · cases e
      exact ⟨G, T, Grow.refl⟩
    · cases e
  | dl i =>
    unfold TL.gh1 at e
    dsimp only at e
    split at e
    · rename_i hf
      cases e
      exact ⟨G, T.del hf, Grow.refl⟩
    · cases e
theorem TI.ghF : ∀ {os : List Gh} {G : Hp} {fs fs' : Fs}, TI Γ Z R G σ H fs → TL.ghF os fs = some fs' → ∃ G', TI Γ Z R G' σ H fs' ∧ Grow R G G'
  | [], G, fs, fs', T, e => by
    cases e
    exact ⟨G, T, Grow.refl⟩
  | o :: os, G, fs, fs', T, e => by
    unfold TL.ghF at e
    cases e1 : TL.gh1 o fs with
    | none => rw [e1] at e; cases e
    | some f1 =>
      rw [e1] at e
      obtain ⟨G1, T1, g1⟩ := T.gh1 e1
      obtain ⟨G2, T2, g2⟩ := T1.ghF e
      exact ⟨G2, T2, g1.trans g2⟩
end
theorem l_gh {X : Cx} {W : WX} {sts : List Stmt} {g : S} {os : List Gh} (h : TLX X W sts g) : TLX X W sts (gh os g) := ⟨⟨fun pins sh σ H D I ⟨Z, R, G, fs, T, w⟩ => by
  unfold gh at w
  cases e : ghF os fs with
  | none => rw [e] at w; exact w.elim
  | some fs' =>
    rw [e] at w
    obtain ⟨G', T', g'⟩ := T.ghF e
    exact h.ps.run pins sh σ H D I ⟨Z, R, G', fs', T', w.grow g'⟩⟩⟩
theorem x_fz {X : Cx} {W : WX} {e : Expr} {f : M Tv} (h : TX X W e f) : TX X W e (vFz f) := ⟨⟨fun pins st σ H Q I ⟨Z, R, G, fs, T, w⟩ => by
  refine h.pe.run pins st σ H Q I ⟨Z, R, G, fs, T, (wp_bnd.mp w).mono (fun x fs1 h1 G1 H1 u T1 g1 v1 => ?_) fun _ _ q => q⟩
  rcases frzV_out x fs1 with ⟨d, fs2, e1⟩ | e1
  · unfold bnd at h1
    rw [e1] at h1
    obtain ⟨G2, T2, g2, r2, _⟩ := T1.frzV v1 e1
    exact h1 G2 H1 u T2 (g1.trans g2) r2
  · unfold bnd at h1
    rw [e1] at h1
    exact h1.elim⟩⟩
/-! ### defs -/
theorem outs_io {p p' : D} {as : List Sl} {fs : Fs} (h : fs[0]? = some (some (.io, p'))) : ∃ as', outs ((.io, p) :: as) fs = (.io, p') :: as' := by
  unfold outs
  cases fs with
  | nil => simp at h
  | cons o fs =>
    simp at h
    subst h
    exact ⟨_, rfl⟩
theorem q_def {β : Type} {np n : Nat} {b : S} {as : List Sl} {cc : C Unit β D} {rm : Md} (fs0 : Fs) (hl : as.length = np) (ho : as.all (fun a => a.1 != .own) = true) (e0 : as.map some ++ List.replicate (n - np) none = fs0)
    (h : (AS (fun (_ : Unit) _ => rm = .frz) (fun _ _ => False) fun d v fs => retV v fs = some (rm, d)).rel (b fs0) cc) : Rf0 (fnOf np n b) as rm (runR cc) := by
  unfold Rf0 fnOf
  simp only [if_pos (show as.length = np ∧ as.all (fun a => a.1 != .own) = true from ⟨hl, ho⟩), e0]
  cases cc with
  | bad => exact True.intro
  | nx s => obtain ⟨f1, e1, e2⟩ := h; rw [e1, e2]; exact ⟨_, rfl⟩
  | rt r => obtain ⟨v, f1, e1, e2⟩ := h; rw [e1]; dsimp only; rw [e2]; exact ⟨_, rfl⟩
  | bk s => exact True.intro
  | ct s => exact True.intro
  | ex x => obtain ⟨f1, e1⟩ := h; rw [e1]; exact ⟨_, rfl⟩
theorem q_defM {β : Type} {np n : Nat} {b : S} {p : D} {as : List Sl} {cc : C D β (D × D)} {rm : Md} (fs0 : Fs) (hl : as.length + 1 = np) (ho : as.all (fun a => a.1 != .own) = true) (e0 : ((Md.io, p) :: as).map some ++ List.replicate (n - np) none = fs0)
    (h : (AS (fun (p' : D) fs => rm = .frz ∧ fs[0]? = some (some (.io, p'))) (fun _ _ => False) fun d v fs => retV v fs = some (rm, d.1) ∧ fs[0]? = some (some (.io, d.2))).rel (b fs0) cc) : Rf1 (fnOf np n b) p as rm (runM cc) := by
  unfold Rf1 fnOf
  simp only [if_pos (show ((Md.io, p) :: as).length = np ∧ ((Md.io, p) :: as).all (fun a => a.1 != .own) = true from ⟨hl, by rw [List.all_cons, ho]; rfl⟩), e0]
  cases cc with
  | bad => exact True.intro
  | nx s =>
    obtain ⟨f1, e1, e2, e3⟩ := h
    rw [e1, e2]
    obtain ⟨as', e4⟩ := outs_io (p := p) (as := as) e3
    exact ⟨as', by dsimp only; rw [e4]⟩
  | rt r =>
    obtain ⟨v, f1, e1, e2, e3⟩ := h
    obtain ⟨as', e4⟩ := outs_io (p := p) (as := as) e3
    rw [e1]
    dsimp only
    rw [e2]
    exact ⟨as', by dsimp only; rw [e4]⟩
  | bk s => exact True.intro
  | ct s => exact True.intro
  | ex x =>
    obtain ⟨f1, e1⟩ := h
    rw [e1]
    refine ⟨(outOne (.io, p) f1.head?).2, outs as f1.tail, ?_⟩
    have e : outOne (.io, p) f1.head? = (.io, (outOne (.io, p) f1.head?).2) := by
      unfold outOne
      dsimp only
      split <;> rfl
    have e3 : outs ((.io, p) :: as) f1 = outOne (.io, p) f1.head? :: outs as f1.tail := rfl
    dsimp only
    rw [e3, ← e]
end TL

/-! Plain functions: what is known of the single steps, and how whole ones are reasoned about. -/
namespace TL
open PySem PySem.Spec PyProof.Rows L2
abbrev dI (i : Int) : D := .at (.int i)
abbrev dS (x : Str) : D := .at (.str x)
abbrev dB (b : Bool) : D := .at (.bl b)
abbrev dN : D := .at .non
abbrev dL (xs : List D) : D := .nd .lst xs
abbrev dTu (xs : List D) : D := .nd .tup xs
abbrev ltD : D → D → Option Tv := cmpD fun i j => decide (i < j)
abbrev leD : D → D → Option Tv := cmpD fun i j => decide (i ≤ j)
abbrev gtD : D → D → Option Tv := cmpD fun i j => decide (j < i)
abbrev geD : D → D → Option Tv := cmpD fun i j => decide (j ≤ i)
abbrev isT : D → D → Option Tv := isD false
abbrev isnT : D → D → Option Tv := isD true
section
variable {ω π : Type} [OB ω] [PB π] {A : AR ω π} {fs : Fs}
theorem q_seqL {d : D} {k : Itv → Fs → ω} {c : List D → π} (h : ∀ xs, A.rel (k ⟨xs, none⟩ fs) (c xs)) : A.rel (seqK (.frz d) k fs) (yb (lstR d) c) := by
  unfold seqK
  cases d with
  | «at» a => exact A.hb _
  | nd kk xs => cases kk with
    | lst => exact h _
    | _ => exact A.hb _
theorem q_enuL {d : D} {k : Itv → Fs → ω} {c : List D → π} (h : ∀ xs, A.rel (k ⟨enumD 0 xs, none⟩ fs) (c xs)) : A.rel (enuK (.frz d) k fs) (yb (lstR d) c) := by
  unfold enuK
  cases d with
  | «at» a => exact A.hb _
  | nd kk xs => cases kk with
    | lst => exact h _
    | _ => exact A.hb _
end
/-! ### what a plain part gives -/
/-- m gives a value as P wants -/
def OK {α : Type} (m : R α) (P : α → Prop) : Prop := ∃ a, m = .ok a ∧ P a
structure Wc (σ β ρ : Type) where
  nx : σ → Prop
  rt : ρ → Prop
  bk : β → Prop
  ct : β → Prop
def CW {σ β ρ : Type} (c : C σ β ρ) (W : Wc σ β ρ) : Prop := match c with
  | .nx s => W.nx s
  | .rt r => W.rt r
  | .bk s => W.bk s
  | .ct s => W.ct s
  | _ => False
section
variable {α γ σ τ β ρ : Type} {P : α → Prop} {W : Wc σ β ρ}
theorem OK.mono {m : R α} {P Q : α → Prop} (h : OK m P) (i : ∀ a, P a → Q a) : OK m Q := let ⟨a, e, p⟩ := h; ⟨a, e, i a p⟩
@[simp] theorem ok_ok {a : α} : OK (.ok a) P ↔ P a := ⟨fun ⟨_, e, p⟩ => by cases e; exact p, fun p => ⟨a, rfl, p⟩⟩
@[simp] theorem ok_bad : OK (.bad) P ↔ False := ⟨fun ⟨_, e, _⟩ => (by cases e), fun h => h.elim⟩
@[simp] theorem ok_ex {x : Ex} : OK (.ex x) P ↔ False := ⟨fun ⟨_, e, _⟩ => (by cases e), fun h => h.elim⟩
@[simp] theorem ok_yb {m : R α} {k : α → R γ} {P : γ → Prop} : OK (yb m k) P ↔ OK m fun a => OK (k a) P := by
  cases m with
  | ok a => exact ⟨fun h => ⟨a, rfl, h⟩, fun ⟨_, e, h⟩ => by cases e; exact h⟩
  | ex x => exact ⟨fun ⟨_, e, _⟩ => (by cases e), fun ⟨_, e, _⟩ => (by cases e)⟩
  | bad => exact ⟨fun ⟨_, e, _⟩ => (by cases e), fun ⟨_, e, _⟩ => (by cases e)⟩
@[simp] theorem cw_yb {m : R α} {k : α → C σ β ρ} : CW (yb m k) W ↔ OK m fun a => CW (k a) W := by
  cases m with
  | ok a => exact ⟨fun h => ⟨a, rfl, h⟩, fun ⟨_, e, h⟩ => by cases e; exact h⟩
  | ex x => exact ⟨fun h => h.elim, fun ⟨_, e, _⟩ => by cases e⟩
  | bad => exact ⟨fun h => h.elim, fun ⟨_, e, _⟩ => by cases e⟩
@[simp] theorem cw_nx {s : σ} : CW (.nx s) W ↔ W.nx s := Iff.rfl
@[simp] theorem cw_rt {r : ρ} : CW (.rt r) W ↔ W.rt r := Iff.rfl
@[simp] theorem cw_bk {s : β} : CW (.bk s) W ↔ W.bk s := Iff.rfl
@[simp] theorem cw_ct {s : β} : CW (.ct s) W ↔ W.ct s := Iff.rfl
@[simp] theorem cw_bad : CW (.bad) W ↔ False := Iff.rfl
@[simp] theorem cw_ex {x : Ex} : CW (.ex x) W ↔ False := Iff.rfl
theorem CW.mono {c : C σ β ρ} {W V : Wc σ β ρ} (h : CW c W) (h1 : ∀ s, W.nx s → V.nx s) (h2 : ∀ s, W.rt s → V.rt s) (h3 : ∀ s, W.bk s → V.bk s) (h4 : ∀ s, W.ct s → V.ct s) : CW c V := by
  cases c with
  | nx s => exact h1 _ h
  | rt s => exact h2 _ h
  | bk s => exact h3 _ h
  | ct s => exact h4 _ h
  | ex _ => exact h
  | bad => exact h
@[simp] theorem cw_bC {c : C σ β ρ} {k : σ → C τ β ρ} {W : Wc τ β ρ} : CW (bC c k) W ↔ CW c ⟨fun s => CW (k s) W, W.rt, W.bk, W.ct⟩ := by cases c <;> exact Iff.rfl
@[simp] theorem ok_runR {c : C Unit β D} {P : D → Prop} : OK (runR c) P ↔ CW c ⟨fun _ => P dN, P, fun _ => False, fun _ => False⟩ := by
  cases c with
  | nx s => exact ok_ok
  | rt s => exact ok_ok
  | bk s => exact ok_bad
  | ct s => exact ok_bad
  | ex _ => exact ok_ex
  | bad => exact ok_bad
@[simp] theorem ok_runM {c : C D β (D × D)} {P : D × D → Prop} : OK (runM c) P ↔ CW c ⟨fun p => P (dN, p), P, fun _ => False, fun _ => False⟩ := by
  cases c with
  | nx s => exact ok_ok
  | rt s => exact ok_ok
  | bk s => exact ok_bad
  | ct s => exact ok_bad
  | ex _ => exact ok_ex
  | bad => exact ok_bad
theorem cw_ite {b : Bool} {c1 c2 : C σ β ρ} (h1 : b = true → CW c1 W) (h2 : b = false → CW c2 W) : CW (if b = true then c1 else c2) W := by cases b; exact h2 rfl; exact h1 rfl
/-- a part known by what it gives -/
theorem cw_by {m : R α} {k : α → C σ β ρ} {Q : α → Prop} (h : OK m Q) (i : ∀ a, Q a → CW (k a) W) : CW (yb m k) W := cw_yb.mpr (h.mono i)
theorem ok_by {m : R α} {k : α → R γ} {Q : α → Prop} {P : γ → Prop} (h : OK m Q) (i : ∀ a, Q a → OK (k a) P) : OK (yb m k) P := ok_yb.mpr (h.mono i)
theorem cw_cut {c : C σ β ρ} {k : σ → C τ β ρ} {W : Wc τ β ρ} (Q : σ → Prop) (h : CW c ⟨Q, W.rt, W.bk, W.ct⟩) (i : ∀ s, Q s → CW (k s) W) : CW (bC c k) W := cw_bC.mpr (h.mono i (fun _ z => z) (fun _ z => z) fun _ z => z)
theorem cw_eq {m : R α} {a : α} {k : α → C σ β ρ} (h : m = .ok a) : CW (yb m k) W ↔ CW (k a) W := by rw [h]; exact Iff.rfl
@[simp] theorem bC_nx {s : σ} {k : σ → C τ β ρ} : bC (.nx s) k = k s := rfl
/-! single steps -/
@[simp] theorem yb_ok {π : Type} [PB π] {a : α} {k : α → π} : yb (.ok a) k = k a := rfl
@[simp] theorem opF_f {d : D} : opF (some (.frz d)) = .ok d := rfl
@[simp] theorem opO_o {d : D} : opO (some (.own d)) = .ok d := rfl
@[simp] theorem opA_f {d : D} : opA (some (.frz d)) = .ok d := rfl
@[simp] theorem opA_o {d : D} : opA (some (.own d)) = .ok d := rfl
@[simp] theorem bolR_b {b : Bool} : bolR (dB b) = .ok b := rfl
@[simp] theorem optR_s {a : α} : optR (some a) = .ok a := rfl
@[simp] theorem okR_t : okR true = .ok () := rfl
@[simp] theorem intR_i {i : Int} : intR (dI i) = .ok (some i) := rfl
@[simp] theorem lstR_l {xs : List D} : lstR (dL xs) = .ok xs := rfl
@[simp] theorem seqR_l {xs : List D} : seqR (dL xs) = .ok xs := rfl
@[simp] theorem seqR_t {xs : List D} : seqR (dTu xs) = .ok xs := rfl
@[simp] theorem lscR_l {xs : List D} : lscR (dL xs) = .ok xs := rfl
@[simp] theorem unT2_t {a b : D} : unT2 (dTu [a, b]) = .ok (a, b) := rfl
@[simp] theorem unT3_t {a b c : D} : unT3 (dTu [a, b, c]) = .ok (a, b, c) := rfl
@[simp] theorem isLst_l {xs : List D} : isLst (dL xs) = true := rfl
@[simp] theorem isStr_s {x : Str} : isStr (dS x) = true := rfl
@[simp] theorem andR_t {n : R Bool} : andR (.ok true) n = n := rfl
@[simp] theorem andR_f {n : R Bool} : andR (.ok false) n = .ok false := rfl
@[simp] theorem orR_t {n : R Bool} : orR (.ok true) n = .ok true := rfl
@[simp] theorem orR_f {n : R Bool} : orR (.ok false) n = n := rfl
theorem andR_ok {m n : R Bool} {a b : Bool} (h1 : m = .ok a) (h2 : a = true → n = .ok b) : andR m n = .ok (a && b) := by
  subst h1
  cases a
  · rfl
  · exact h2 rfl
theorem orR_ok {m n : R Bool} {a b : Bool} (h1 : m = .ok a) (h2 : a = false → n = .ok b) : orR m n = .ok (a || b) := by
  subst h1
  cases a
  · exact h2 rfl
  · rfl
variable {i j : Int} {x y : Str} {a b : Bool} {xs : List D}
theorem ifS_pos {α : Type} {c : Prop} [Decidable c] {v : α} (h : c) : ifS c v = some v := if_pos h
@[simp] theorem add_i : addD (dI i) (dI j) = some (aI (i + j)) := rfl
@[simp] theorem sub_i : subD (dI i) (dI j) = some (aI (i - j)) := rfl
theorem mul_r (h : -(2 ^ 64) < j ∧ j < 2 ^ 64) : mulD (dI i) (dI j) = some (aI (i * j)) := by
  unfold mulD
  refine ifS_pos ?_
  unfold mulOk
  rw [decide_eq_true h, Bool.or_true, Bool.true_or]
theorem mul_l (h : -(2 ^ 64) < i ∧ i < 2 ^ 64) : mulD (dI i) (dI j) = some (aI (i * j)) := by
  unfold mulD
  refine ifS_pos ?_
  unfold mulOk
  rw [decide_eq_true h, Bool.true_or, Bool.true_or]
@[simp] theorem mod_i (h : j ≠ 0) : modD (dI i) (dI j) = some (aI (i.fmod j)) := by
  unfold modD
  exact ifS_pos h
theorem fdiv_i (h : j ≠ 0 ∧ j.natAbs < 1073741824) : fdivD (dI i) (dI j) = some (aI (i.fdiv j)) := by
  unfold fdivD
  exact ifS_pos h
@[simp] theorem int_i : TL.intD (dI i) = some (aI i) := rfl
@[simp] theorem int_b : TL.intD (dB b) = some (aI (if b then 1 else 0)) := rfl
@[simp] theorem abs_i : absD (dI i) = some (aI (if i < 0 then -i else i)) := rfl
@[simp] theorem cmp_i {f : Int → Int → Bool} : cmpD f (dI i) (dI j) = some (aB (f i j)) := rfl
@[simp] theorem lt_i : ltD (dI i) (dI j) = some (aB (decide (i < j))) := rfl
@[simp] theorem le_i : leD (dI i) (dI j) = some (aB (decide (i ≤ j))) := rfl
@[simp] theorem gt_i : gtD (dI i) (dI j) = some (aB (decide (j < i))) := rfl
@[simp] theorem ge_i : geD (dI i) (dI j) = some (aB (decide (j ≤ i))) := rfl
@[simp] theorem eq_i : eqD (dI i) (dI j) = some (aB (i == j)) := by
  rw [eqD_sh rfl rfl]
  rfl
@[simp] theorem ne_i : neD (dI i) (dI j) = some (aB (!(i == j))) := by
  rw [neD_sh rfl rfl]
  rfl
@[simp] theorem eq_s : eqD (dS x) (dS y) = some (aB (x == y)) := rfl
@[simp] theorem ne_s : neD (dS x) (dS y) = some (aB (!(x == y))) := rfl
@[simp] theorem len_l : lenD (dL xs) = some (aI (xs.length : Nat)) := rfl
@[simp] theorem len_s : lenD (.nd .scr xs) = some (aI (xs.length : Nat)) := rfl
@[simp] theorem len_t : lenD (dTu xs) = some (aI (xs.length : Nat)) := rfl
theorem len_str (h : x.length ≤ lineN) : lenD (dS x) = some (aI (x.length : Nat)) := ifS_pos h
@[simp] theorem tru_b : truR (dB b) = .ok b := rfl
@[simp] theorem tru_l : truR (dL xs) = .ok (!xs.isEmpty) := rfl
@[simp] theorem ix_l : ixD (dL xs) (dI i) = (atI xs i).map .frz := rfl
@[simp] theorem ix_s : ixD (.nd .scr xs) (dI i) = (atI xs i).map .frz := rfl
@[simp] theorem ix_t : ixD (dTu xs) (dI i) = (atI xs i).map .frz := rfl
@[simp] theorem putL_l {d : D} : putL (dL xs) (dI i) d = (ixN xs.length i).map fun j => dL (xs.set j d) := rfl
theorem atI_n {α : Type} {xs : List α} (n : Nat) : atI xs (n : Int) = xs[n]? := by
  unfold atI ixN
  by_cases h : (n : Int) < (xs.length : Int)
  · rw [if_pos (by omega), if_pos h]
    rfl
  · rw [if_pos (by omega), if_neg h, List.getElem?_eq_none (by omega)]
    rfl
@[simp] theorem at0 {α : Type} {xs : List α} : atI xs 0 = xs[0]? := atI_n 0
@[simp] theorem at1 {α : Type} {xs : List α} : atI xs 1 = xs[1]? := atI_n 1
@[simp] theorem at2 {α : Type} {xs : List α} : atI xs 2 = xs[2]? := atI_n 2
@[simp] theorem at3 {α : Type} {xs : List α} : atI xs 3 = xs[3]? := atI_n 3
theorem ixN_n {m n : Nat} (h : n < m) : ixN m (n : Int) = some n := by
  unfold ixN
  rw [if_pos (by omega), if_pos (by omega)]
  rfl
theorem atI_in {α : Type} {xs : List α} {r : Int} (h0 : 0 ≤ r) (h1 : r < xs.length) : ∃ (n : Nat) (hn : n < xs.length), r = n ∧ atI xs r = some xs[n] := by
  have hr : r.toNat < xs.length := by omega
  refine ⟨r.toNat, hr, by omega, ?_⟩
  have e : r = (r.toNat : Int) := by omega
  have e2 : atI xs r = atI xs (r.toNat : Int) := by rw [← e]
  rw [e2, atI_n, List.getElem?_eq_getElem hr]
theorem ix_in {α : Type} {xs : List α} {r : Int} (h0 : 0 ≤ r) (h1 : r < xs.length) : ∃ x ∈ xs, atI xs r = some x := by
  obtain ⟨n, hn, _, e⟩ := atI_in h0 h1
  exact ⟨xs[n], List.getElem_mem hn, e⟩
theorem add_l {ys : List D} (h : xs.length + ys.length ≤ lineN) : addD (dL xs) (dL ys) = some (.own (dL (xs ++ ys))) := ifS_pos h
theorem add_s (h : x.length + y.length ≤ lineN) : addD (dS x) (dS y) = some (aS (x ++ y)) := ifS_pos h
theorem app_l {d : D} (h : xs.length < 16777216) : chgR appG (dL xs) [d] = .ok (dL (xs ++ [d]), dN) := by
  unfold chgR appG
  dsimp only
  rw [if_pos h]
theorem cap_ok (h : xs.length ≤ 16777216) : capR xs = .ok xs := if_pos h
theorem rngR_of {k : List Int → Option (Int × Int × Nat)} {ds : List D} {is : List Int} {lo c : Int} {n : Nat} (h : ds.mapM intOf = some is) (h2 : k is = some (lo, c, n)) : rngR k ds = .ok (rngD lo c n) := by
  unfold rngR
  rw [h]
  dsimp only
  rw [h2]
theorem intOf_i {i : Int} : intOf (dI i) = some i := rfl
theorem mapM_1 {i : Int} : [dI i].mapM intOf = some [i] := by simp [List.mapM_cons, intOf_i]
theorem mapM_2 {i j : Int} : [dI i, dI j].mapM intOf = some [i, j] := by simp [List.mapM_cons, intOf_i]
theorem k1_i {j : Int} (h : -(2 ^ 62) ≤ j ∧ j < 2 ^ 62) : k1 [j] = some (0, 1, j.toNat) := if_pos h
theorem k2_i {i j : Int} (h : -(2 ^ 62) ≤ i ∧ i < 2 ^ 62 ∧ -(2 ^ 62) ≤ j ∧ j < 2 ^ 62) : k2 [i, j] = some (i, 1, (j - i).toNat) := if_pos h
theorem rng1 {n : Nat} (h : n < 4611686018427387904) : rngR k1 [dI n] = .ok ((List.range n).map fun i => dI (i : Nat)) := by
  rw [rngR_of mapM_1 (k1_i (by omega)), Int.toNat_natCast]
  congr 1
  unfold rngD
  refine List.map_congr_left fun i _ => ?_
  rw [Int.mul_one, Int.zero_add]
theorem rng1' {r : Int} (h0 : 0 ≤ r) (h : r < 4611686018427387904) : rngR k1 [dI r] = .ok ((List.range r.toNat).map fun i => dI (i : Nat)) := by
  have : r = (r.toNat : Int) := by omega
  rw [this]
  exact rng1 (by omega)
theorem rng2 {m n : Nat} (h : m < 4611686018427387904) (h2 : n < 4611686018427387904) : rngR k2 [dI m, dI n] = .ok ((List.range (n - m)).map fun i => dI ((m + i : Nat))) := by
  rw [rngR_of mapM_2 (k2_i (by omega)), show ((n : Int) - (m : Int)).toNat = n - m by omega]
  congr 1
  unfold rngD
  refine List.map_congr_left fun i _ => ?_
  rw [Int.mul_one]
  rfl
/-! loops -/
@[simp] theorem for_nil {s : σ} {f : D → σ → C σ σ ρ} : forC (β := β) [] s f = .nx s := rfl
theorem for_inv {s : σ} {f : D → σ → C σ σ ρ} {items : List D} (I : List D → σ → Prop) (h0 : I items s) (hs : ∀ d ds s, I (d :: ds) s → CW (f d s) ⟨I ds, W.rt, W.nx, I ds⟩) (hd : ∀ s, I [] s → W.nx s) : CW (forC items s f) W := by
  induction items generalizing s with
  | nil => exact hd s h0
  | cons d ds ih =>
    have h := hs d ds s h0
    unfold forC
    cases e : f d s with
    | nx s' => rw [e] at h; exact ih h
    | ct s' => rw [e] at h; exact ih h
    | bk s' => rw [e] at h; exact h
    | rt r => rw [e] at h; exact h
    | ex _ => rw [e] at h; exact h
    | bad => rw [e] at h; exact h
/-- over data made of plain things -/
theorem for_map {δ : Type} {g : δ → D} {s : σ} {f : D → σ → C σ σ ρ} {items : List δ} (I : List δ → σ → Prop) (h0 : I items s) (hs : ∀ d ds s, I (d :: ds) s → CW (f (g d) s) ⟨I ds, W.rt, W.nx, I ds⟩) (hd : ∀ s, I [] s → W.nx s) : CW (forC (items.map g) s f) W := by
  induction items generalizing s with
  | nil => exact hd s h0
  | cons d ds ih =>
    have h := hs d ds s h0
    rw [List.map_cons]
    unfold forC
    cases e : f (g d) s with
    | nx s' => rw [e] at h; exact ih h
    | ct s' => rw [e] at h; exact ih h
    | bk s' => rw [e] at h; exact h
    | rt r => rw [e] at h; exact h
    | ex _ => rw [e] at h; exact h
    | bad => rw [e] at h; exact h
theorem while_inv {s : σ} {t : σ → R Bool} {f : σ → C σ σ ρ} {n : Nat} (I : σ → Prop) (m : σ → Nat) (h0 : I s) (hn : m s < n) (hs : ∀ s, I s → OK (t s) fun b => if b = true then CW (f s) ⟨fun s' => I s' ∧ m s' < m s, W.rt, W.nx, fun s' => I s' ∧ m s' < m s⟩ else W.nx s) : CW (whileC t f n s) W := by
  induction n generalizing s with
  | zero => omega
  | succ n ih =>
    have h := hs s h0
    unfold whileC
    rw [cw_yb]
    refine h.mono fun b h => ?_
    cases b with
    | false => exact h
    | true =>
      simp only [if_true] at h ⊢
      cases e : f s with
      | nx s' => rw [e] at h; exact ih h.1 (by have := h.2; omega)
      | ct s' => rw [e] at h; exact ih h.1 (by have := h.2; omega)
      | bk s' => rw [e] at h; exact h
      | rt r => rw [e] at h; exact h
      | ex _ => rw [e] at h; exact h
      | bad => rw [e] at h; exact h
/-- a loop that goes on or returns, by its plain step -/
def smR {δ τ ρ : Type} (st : δ → τ → Except ρ τ) : List δ → τ → Except ρ τ
  | [], s => .ok s
  | d :: ds, s => match st d s with
    | .ok s' => smR st ds s'
    | .error r => .error r
def smC {σ β ρ τ : Type} (enc : τ → σ) (e : Except ρ τ) : C σ β ρ := match e with
  | .ok s => .nx (enc s)
  | .error r => .rt r
theorem for_sm {δ τ : Type} {g : δ → D} {enc : τ → σ} {st : δ → τ → Except ρ τ} {f : D → σ → C σ σ ρ} (I : List δ → τ → Prop) (hs : ∀ d ds s, I (d :: ds) s → f (g d) (enc s) = smC enc (st d s) ∧ ∀ s', st d s = .ok s' → I ds s') :
    ∀ {items : List δ} {s : τ}, I items s → forC (β := β) (items.map g) (enc s) f = smC enc (smR st items s) ∧ ∀ s', smR st items s = .ok s' → I [] s'
  | [], s, h => ⟨rfl, fun s' e => by cases e; exact h⟩
  | d :: ds, s, h => by
    obtain ⟨h1, h2⟩ := hs d ds s h
    rw [List.map_cons]
    unfold forC smR
    rw [h1]
    cases e : st d s with
    | ok s' => exact for_sm I hs (h2 s' e)
    | error r => exact ⟨rfl, fun s' z => by cases z⟩
/-! comprehensions -/
theorem compR_ids {f : D → R (Option D)} {k : D → D} : ∀ {items : List D}, (∀ d ∈ items, f d = .ok (some (k d))) → compR f items = .ok (items.map k)
  | [], _ => rfl
  | d :: ds, h => by
    unfold compR
    rw [h d (List.mem_cons_self ..), compR_ids fun d' hd => h d' (List.mem_cons_of_mem _ hd)]
    rfl
theorem compR_map {δ : Type} {g : δ → D} {f : D → R (Option D)} {k : δ → Option D} : ∀ {items : List δ}, (∀ d ∈ items, f (g d) = .ok (k d)) → compR f (items.map g) = .ok (items.filterMap k)
  | [], _ => rfl
  | d :: ds, h => by
    rw [List.map_cons]
    unfold compR
    rw [h d (List.mem_cons_self ..), compR_map fun d' hd => h d' (List.mem_cons_of_mem _ hd)]
    cases e : k d with
    | none => rw [List.filterMap_cons_none e]
    | some x => rw [List.filterMap_cons_some e]
theorem compR_all {δ : Type} {g : δ → D} {f : D → R (Option D)} {k : δ → D} {items : List δ} (h : ∀ d ∈ items, f (g d) = .ok (some (k d))) : compR f (items.map g) = .ok (items.map k) := by
  rw [compR_map (k := fun d => some (k d)) h, List.filterMap_eq_map']
theorem compR_filter {δ : Type} {g : δ → D} {f : D → R (Option D)} {p : δ → Bool} {k : δ → D} {items : List δ} (h : ∀ d ∈ items, f (g d) = if p d = true then .ok (some (k d)) else .ok none) : compR f (items.map g) = .ok ((items.filter p).map k) := by
  rw [compR_map (k := fun d => if p d = true then some (k d) else none) fun d hd => by rw [h d hd]; split <;> rfl]
  congr 1
  clear h
  induction items with
  | nil => rfl
  | cons d ds ih =>
    by_cases hp : p d = true
    · rw [List.filterMap_cons_some (b := k d) (by rw [if_pos hp]), List.filter_cons_of_pos hp, ih, List.map_cons]
    · rw [List.filterMap_cons_none (by rw [if_neg hp]), List.filter_cons_of_neg hp, ih]
theorem compS_inv {f : D → σ → R (Option D × σ)} {items : List D} {s : σ} {P : List D × σ → Prop} (I : List D → List D → σ → Prop) (h0 : I items [] s) (hs : ∀ d ds acc s, I (d :: ds) acc s → OK (f d s) fun a => I ds (match a.1 with | some x => acc ++ [x] | none => acc) a.2) (hd : ∀ acc s, I [] acc s → P (acc, s)) : OK (compS f items s) P := by
  have gen : ∀ (items acc : List D) (s : σ), I items acc s → OK (compS f items s) fun a => P (acc ++ a.1, a.2) := by
    intro items
    induction items with
    | nil =>
      intro acc s h
      exact ⟨([], s), rfl, by show P (acc ++ [], s); rw [List.append_nil]; exact hd acc s h⟩
    | cons d ds ih =>
      intro acc s h
      obtain ⟨⟨o, s'⟩, e1, h1⟩ := hs d ds acc s h
      obtain ⟨⟨xs, s2⟩, e2, h2⟩ := ih _ s' h1
      cases o with
      | none =>
        refine ⟨(xs, s2), ?_, h2⟩
        unfold compS
        simp only [e1, e2]
      | some x =>
        refine ⟨(x :: xs, s2), ?_, ?_⟩
        · unfold compS
          simp only [e1, e2]
        · have h2 : P ((acc ++ [x]) ++ xs, s2) := h2
          rw [List.append_assoc] at h2
          exact h2
  have := gen items [] s h0
  simpa using this
end
end TL

/-! Plain functions: constants, dicts, classes. -/
namespace TL
open PySem PySem.Spec PyProof.Rows L2
/-- an atom is frozen, an object one's own -/
def mdOf : D → Md
  | .at _ => .frz
  | _ => .own
def optC {π : Type} (d : D) (f g : D → π) : π := match d with
  | .at a => f (.at a)
  | d => g d
/-- an object of one's own is handed back -/
def rtN {σ β : Type} (d : D) : C σ β D := match d with
  | .at _ => .bad
  | d => .rt d
def dicR (d : D) : R (Bool × List D) := match d with
  | .nd .dK xs => .ok (false, xs)
  | .nd .dT xs => .ok (true, xs)
  | _ => .bad
def lkOf (q : Bool × List D) : D := if q.1 = true then .nd .dTL q.2 else .nd .dKL q.2
def noexR {α : Type} (m : R α) : R α := match m with
  | .ex _ => .bad
  | m => m
def keyR (d : D) : R Key := optR (keyD d)
def mkR (m : R (D × D)) : R D := match m with
  | .ok (.at .non, d) => .ok d
  | .ok _ => .bad
  | .ex x => .ex x
  | .bad => .bad
def insNo (c m : Str) (d : D) : Bool := match insOf c d with
  | some (ns, _) => !ns.contains m
  | none => false
def putI (c f : Str) (y d : D) : Option D := match insOf c d with
  | some (ns, xs) => if ns.length < 1000 then (putD f y ns xs).map fun q => .nd (.ins c q.1) q.2 else none
  | none => none
/-- a dict comprehension -/
def compD (f : D → R (Option (Key × D))) : List D → List D → R (List D)
  | [], acc => .ok acc
  | d :: ds, acc => match f d with
    | .ok (some q) => compD f ds (putKD q.1 q.2 acc)
    | .ok none => compD f ds acc
    | _ => .bad
section
variable {ω π α β γ σ τ ρ : Type} [OB ω] [PB π] {A : AR ω π} {fs fs1 fs2 : Fs} {c : π}
theorem q_any {o : ω} (h : c = PB.bad) : A.rel o c := by rw [h]; exact A.hb _
theorem q_cst {d : D} {k : Tv → Fs → ω} (h : A.rel (k (.frz d) fs) c) : A.rel (xb (vCst d) k fs) c := h
/-! get -/
def getK (fe : M Tv) (x : Tv) (k : Tv → Fs → ω) : Fs → ω := fun fs => match rdv x fs with
  | some d => if isDic d = true then xb fe (fun y => xb (dop2 getD x y) k) fs else OB.bad
  | none => OB.bad
theorem q_get {fo fe : M Tv} {k : Tv → Fs → ω} (h : A.rel (xb fo (fun x => getK fe x k) fs) c) : A.rel (xb (vGet fo fe) k fs) c := by
  unfold vGet
  refine q_bnd ?_
  have e : (fun x => xb (fun fs => match rdv x fs with | some d => if isDic d = true then bnd fe (fun y => dop2 getD x y) fs else .bad | none => .bad) k) = fun x => getK fe x k := by
    funext x fs
    unfold getK xb bnd
    dsimp only
    cases rdv x fs with
    | none => rfl
    | some d =>
      dsimp only
      by_cases hd : isDic d = true
      · rw [if_pos hd, if_pos hd]
        cases fe fs <;> rfl
      · rw [if_neg hd, if_neg hd]
  rw [← e] at h
  exact h
theorem q_getK {fe : M Tv} {x : Tv} {d : D} {k : Tv → Fs → ω} {c : Unit → π} (hx : rdv x fs = some d) (h : A.rel (xb fe (fun y => xb (dop2 getD x y) k) fs) (c ())) : A.rel (getK fe x k fs) (yb (okR (isDic d)) c) := by
  unfold getK okR
  simp only [hx]
  by_cases hd : isDic d = true
  · rw [if_pos hd, if_pos hd]; exact h
  · rw [if_neg hd, if_neg hd]; exact A.hb _
/-! displays -/
theorem q_disp {ps : List (M Tv × M Tv)} {k : Tv → Fs → ω} (h : A.rel (xb (dPairs ps) (fun kds => if kds.length ≤ 15 then k (.own (.nd .dK (mergeD [] kds))) else fun _ => OB.bad) fs) c) : A.rel (xb (vDisp ps) k fs) c := by
  unfold vDisp
  refine q_bnd ?_
  have e : (fun kds : List (Key × D) => xb (if kds.length ≤ 15 then TL.ret (.own (.nd .dK (mergeD [] kds))) else badE) k) = fun kds => if kds.length ≤ 15 then k (.own (.nd .dK (mergeD [] kds))) else fun _ => OB.bad := by
    funext kds
    by_cases hd : kds.length ≤ 15
    · rw [if_pos hd, if_pos hd]; rfl
    · rw [if_neg hd, if_neg hd]; rfl
  rw [e]
  exact h
theorem q_d0 {k : List (Key × D) → Fs → ω} (h : A.rel (k [] fs) c) : A.rel (xb (dPairs []) k fs) c := h
def keyK (x : Tv) (k : Key → Fs → ω) : Fs → ω := fun fs => match (rdv x fs).bind keyD with
  | some q => k q fs
  | none => OB.bad
theorem q_d1 {fk fv : M Tv} {ps : List (M Tv × M Tv)} {k : List (Key × D) → Fs → ω} (h : A.rel (xb fk (fun x => keyK x fun q => xb fv fun v => xb (frzV v) fun d => xb (dPairs ps) fun kds => k ((q, d) :: kds)) fs) c) : A.rel (xb (dPairs ((fk, fv) :: ps)) k fs) c := by
  unfold dPairs
  refine q_bnd ?_
  have e : (fun x => xb (fun fs => match (rdv x fs).bind keyD with | some k => bnd (bnd fv frzV) (fun d => bnd (dPairs ps) fun kds => TL.ret ((k, d) :: kds)) fs | none => .bad) k) = fun x => keyK x fun q => xb fv fun v => xb (frzV v) fun d => xb (dPairs ps) fun kds => k ((q, d) :: kds) := by
    funext x fs
    unfold keyK xb bnd
    dsimp only
    cases (rdv x fs).bind keyD with
    | none => rfl
    | some q =>
      dsimp only
      cases fv fs with
      | ok v f1 =>
        dsimp only
        cases frzV v f1 with
        | ok d f2 =>
          dsimp only
          cases dPairs ps f2 <;> rfl
        | ex _ _ => rfl
        | bad => rfl
      | ex _ _ => rfl
      | bad => rfl
  rw [← e] at h
  exact h
theorem q_key {x : Tv} {d : D} {k : Key → Fs → ω} {c : Key → π} (hx : rdv x fs = some d) (h : ∀ q, A.rel (k q fs) (c q)) : A.rel (keyK x k fs) (yb (keyR d) c) := by
  unfold keyK keyR
  simp only [hx, Option.bind_some]
  cases keyD d with
  | none => exact A.hb _
  | some q => exact h q
theorem q_15 {kds : List (Key × D)} {f g : Fs → ω} (hl : kds.length ≤ 15) (h : A.rel (f fs) c) : A.rel ((if kds.length ≤ 15 then f else g) fs) c := by
  rw [if_pos hl]
  exact h
/-! locks -/
theorem unl_same {i : Nat} {d d' : D} (e : fs[i]? = some (some (.own, d))) (hd : ulD d' = d) : unlF i (fs.set i (some (.bor, d'))) = fs := by
  have hi : i < fs.length := (List.getElem?_eq_some_iff.mp e).1
  unfold unlF
  rw [List.getElem?_set_self hi]
  dsimp only
  rw [List.set_set, hd]
  refine List.ext_getElem? fun j => ?_
  by_cases hj : j = i
  · subst hj
    rw [List.getElem?_set_self hi, e]
  · rw [List.getElem?_set_ne (Ne.symm hj)]
theorem q_lock {i : Nat} {d : D} {f : M Tv} {V : β → Tv} {m : Bool × List D → R β} {k : Tv → Fs → ω} {c : β → π} (e : fs[i]? = some (some (.own, d))) (h1 : ∀ q, (AV V fun _ => fs.set i (some (.bor, lkOf q))).rel (f (fs.set i (some (.bor, lkOf q)))) (m q)) (h2 : ∀ b, A.rel (k (V b) fs) (c b)) :
    A.rel (xb (lockE i f) k fs) (yb (dicR d) fun q => yb (noexR (m q)) c) := by
  have go : ∀ q : Bool × List D, lkD d = some (lkOf q) → ulD (lkOf q) = d → A.rel (xb (lockE i f) k fs) (yb (noexR (m q)) c) := by
    intro q hl hu
    have := h1 q
    cases em : m q with
    | bad => exact A.hb _
    | ex x => exact A.hb _
    | ok b =>
      rw [em] at this
      have e2 : f (fs.set i (some (.bor, lkOf q))) = .ok (V b) (fs.set i (some (.bor, lkOf q))) := this
      have e3 : lockF i fs = some (fs.set i (some (.bor, lkOf q))) := by
        unfold lockF
        simp only [e, hl, Option.map_some]
      unfold xb lockE
      rw [e3]
      dsimp only
      rw [e2]
      dsimp only
      rw [unl_same e hu]
      exact h2 b
  unfold dicR
  split
  · exact go (false, _) rfl rfl
  · exact go (true, _) rfl rfl
  · exact A.hb _
def keysK (x : Tv) (k : Itv → Fs → ω) : Fs → ω := xb (fun fs => match x with
  | .slot i => match fs[i]? with
    | some (some (.bor, .nd .dKL xs)) => .ok ⟨keysOf xs, none⟩ fs
    | some (some (.bor, .nd .dTL xs)) => .ok ⟨keysOf xs, none⟩ fs
    | _ => .bad
  | _ => .bad) k
def valsK (x : Tv) (k : Itv → Fs → ω) : Fs → ω := xb (fun fs => match x with
  | .slot i => match fs[i]? with
    | some (some (.bor, .nd .dKL xs)) => .ok ⟨valsOf xs, none⟩ fs
    | _ => .bad
  | _ => .bad) k
theorem q_keys {f : M Tv} {k : Itv → Fs → ω} (h : A.rel (xb f (fun x => keysK x k) fs) c) : A.rel (xb (vKeys f) k fs) c := q_bnd h
theorem q_vals {f : M Tv} {k : Itv → Fs → ω} (h : A.rel (xb f (fun x => valsK x k) fs) c) : A.rel (xb (vVals f) k fs) c := q_bnd h
theorem q_keysK {i : Nat} {q : Bool × List D} {k : Itv → Fs → ω} (e : fs[i]? = some (some (.bor, lkOf q))) (h : A.rel (k ⟨keysOf q.2, none⟩ fs) c) : A.rel (keysK (.slot i) k fs) c := by
  obtain ⟨b, xs⟩ := q
  unfold keysK xb
  dsimp only
  rw [e]
  cases b <;> exact h
theorem q_valsK {i : Nat} {q : Bool × List D} {k : Itv → Fs → ω} {c : Unit → π} (e : fs[i]? = some (some (.bor, lkOf q))) (h : A.rel (k ⟨valsOf q.2, none⟩ fs) (c ())) : A.rel (valsK (.slot i) k fs) (yb (okR (!q.1)) c) := by
  obtain ⟨b, xs⟩ := q
  unfold valsK xb
  dsimp only
  rw [e]
  cases b with
  | false => exact h
  | true => exact A.hb _
/-! dict comprehensions -/
def stepD (c : M Bool) (fk : M Tv) (e : M D) (own : List Nat) : Fs → Out (Option (Key × D)) := xb c fun b => if b = true then xb fk fun x => keyK x fun q => xb e fun d fs => .ok (some (q, d)) (wipeF own fs) else fun fs => .ok none (wipeF own fs)
def dompK (it : Itv) (p : Pat) (c : M Bool) (fk : M Tv) (e : M D) (own : List Nat) (k : Tv → Fs → ω) : Fs → ω := xb (fun fs =>
  if okOwn own (lkf it.lk fs) = true ∧ it.items.length ≤ 16777216 then
    match dloop p c fk e own it.items [] (wipeF own (lkf it.lk fs)) with
    | .ok xs fs' => .ok (.own (.nd .dK xs)) (unw own fs (unl it.lk fs'))
    | _ => .bad
  else .bad) k
theorem q_dc {f : M Itv} {p : Pat} {c' : M Bool} {fk : M Tv} {e : M D} {own : List Nat} {k : Tv → Fs → ω} (h : A.rel (xb f (fun it => dompK it p c' fk e own k) fs) c) : A.rel (xb (dcomp f p c' fk e own) k fs) c := q_bnd h
theorem q_stepD {c' : M Bool} {fk : M Tv} {e : M D} {own : List Nat} {A : AR (Out (Option (Key × D))) π} {c : π} (h : A.rel (xb c' (fun b => if b = true then xb fk fun x => keyK x fun q => xb e fun d fs => .ok (some (q, d)) (wipeF own fs) else fun fs => .ok none (wipeF own fs)) fs) c) : A.rel (stepD c' fk e own fs) c := h
theorem dloop_R {p : Pat} {c : M Bool} {fk : M Tv} {e : M D} {own : List Nat} {f0 : Fs} {body : D → R (Option (Key × D))} (hb : ∀ d, (AV (fun a : Option (Key × D) => a) (fun _ => f0)).rel (asgL [(p, d)] (stepD c fk e own) f0) (body d)) :
    ∀ (items acc r : List D), compD body items acc = .ok r → dloop p c fk e own items acc f0 = .ok r f0
  | [], acc, r, h => by cases h; rfl
  | d :: ds, acc, r, h => by
    unfold compD at h
    have hd := hb d
    cases eb : body d with
    | ex _ => rw [eb] at h; cases h
    | bad => rw [eb] at h; cases h
    | ok o =>
      rw [eb] at h hd
      have hd : asgL [(p, d)] (stepD c fk e own) f0 = .ok o f0 := hd
      unfold dloop
      unfold asgL at hd
      cases ea : asg p d f0 with
      | none => simp only [ea] at hd; cases hd
      | some f1 =>
        simp only [ea] at hd
        unfold asgL stepD xb at hd
        dsimp only
        cases ec : c f1 with
        | ex _ _ => rw [ec] at hd; cases hd
        | bad => rw [ec] at hd; cases hd
        | ok b f2 =>
          rw [ec] at hd
          dsimp only at hd ⊢
          cases b with
          | false =>
            simp only [Bool.false_eq_true, if_false] at hd
            obtain ⟨z1, z2⟩ := Out.ok.inj hd
            subst z1
            dsimp only
            rw [z2]
            exact dloop_R hb ds acc r h
          | true =>
            simp only [if_true] at hd
            unfold bnd
            cases ek : fk f2 with
            | ex _ _ => rw [ek] at hd; cases hd
            | bad => rw [ek] at hd; cases hd
            | ok x f3 =>
              rw [ek] at hd
              dsimp only at hd ⊢
              rw [ek]
              dsimp only
              unfold keyK at hd
              cases eq : (rdv x f3).bind keyD with
              | none => simp only [eq] at hd; cases hd
              | some q =>
                simp only [eq] at hd ⊢
                cases ee : e f3 with
                | ex _ _ => rw [ee] at hd; cases hd
                | bad => rw [ee] at hd; cases hd
                | ok d' f4 =>
                  rw [ee] at hd
                  dsimp only at hd ⊢
                  obtain ⟨z1, z2⟩ := Out.ok.inj hd
                  subst z1
                  dsimp only at h
                  rw [z2]
                  exact dloop_R hb ds _ r h
theorem q_comD {lk : Option Nat} {items : List D} {p : Pat} {c' : M Bool} {fk : M Tv} {e : M D} {own : List Nat} {k : Tv → Fs → ω} {body : D → R (Option (Key × D))} {cc : List D → π} {f0 : Fs}
    (ho : okOwn own (lkf lk fs) = true) (h0 : wipeF own (lkf lk fs) = f0) (hb : ∀ d, (AV (fun a : Option (Key × D) => a) (fun _ => f0)).rel (asgL [(p, d)] (stepD c' fk e own) f0) (body d))
    (h2 : ∀ a, A.rel (k (.own (.nd .dK a)) (unw own fs (unl lk f0))) (cc a)) : A.rel (dompK ⟨items, lk⟩ p c' fk e own k fs) (yb (capR items) fun items => yb (compD body items []) cc) := by
  unfold capR
  by_cases hl : items.length ≤ 16777216
  · rw [if_pos hl]
    show A.rel _ (yb (compD body items []) cc)
    cases er : compD body items [] with
    | ex _ =>
      have : ∀ (l acc : List D) x, compD body l acc ≠ .ex x := by
        intro l
        induction l with
        | nil => intro acc x h; cases h
        | cons d ds ih =>
          intro acc x h
          unfold compD at h
          split at h
          · exact ih _ _ h
          · exact ih _ _ h
          · cases h
      exact absurd er (this _ _ _)
    | bad => exact A.hb _
    | ok r =>
      have e1 := dloop_R hb items [] r er
      unfold dompK xb
      dsimp only
      rw [if_pos ⟨ho, hl⟩, h0, e1]
      exact h2 r
  · rw [if_neg hl]
    exact A.hb _
/-! calls -/
/-- a def that hands back an object of its own, or an atom -/
def RfO (f : Fn) (as : List Sl) (r : R D) : Prop := match r with
  | .bad => True
  | .ok d => ∃ as', f as = .ok (mdOf d, d) as'
  | .ex x => ∃ as', f as = .ex x as'
theorem q_callA {f : Fn} {ms : List Bool} {xs ys : List Tv} {as : List Sl} {m : R D} {k : Tv → Fs → ω} {c1 c2 : D → π} (h1 : pass1 ms xs fs = .ok ys fs1) (h2 : args1 none fs1 ys = some as) (hf : RfO f as m) (ha : ∀ d, A.rel (k (.frz d) fs1) (c1 d)) (hn : ∀ d, A.rel (k (.own d) fs1) (c2 d)) :
    A.rel (xb (callM f ms xs) k fs) (yb m fun d => optC d c1 c2) := by
  unfold xb callM bnd
  rw [h1]
  dsimp only
  rw [h2]
  dsimp only
  cases m with
  | bad => exact A.hb _
  | ok d =>
    obtain ⟨as', e⟩ := hf
    rw [e]
    cases d with
    | «at» a => exact ha _
    | nd kk xs => exact hn _
  | ex x => obtain ⟨as', e⟩ := hf; rw [e]; exact A.hx x _
theorem q_callZ {f : Fn} {ms : List Bool} {xs ys : List Tv} {as : List Sl} {m : R D} {k : D → Fs → ω} {c : D → π} (h1 : pass1 ms xs fs = .ok ys fs1) (h2 : args1 none fs1 ys = some as) (hf : RfO f as m) (h : ∀ d, A.rel (k d fs1) (c d)) :
    A.rel (xb (callM f ms xs) (fun x => xb (frzV x) k) fs) (yb m c) := by
  unfold xb callM bnd
  rw [h1]
  dsimp only
  rw [h2]
  dsimp only
  cases m with
  | bad => exact A.hb _
  | ok d =>
    obtain ⟨as', e⟩ := hf
    rw [e]
    cases d with
    | «at» a => exact h _
    | nd kk xs => exact h _
  | ex x => obtain ⟨as', e⟩ := hf; rw [e]; exact A.hx x _
theorem q_mk {cl : Str} {f : Fn} {ms : List Bool} {xs ys : List Tv} {as : List Sl} {m : R (D × D)} {k : Tv → Fs → ω} {c : D → π} (h1 : pass1 ms xs (fs ++ [some (.own, .nd (.ins cl []) [])]) = .ok ys fs1) (e : fs1[fs.length]? = some (some (.own, .nd (.ins cl []) []))) (h2 : args1 (some fs.length) fs1 ys = some as)
    (hf : Rf1 f (.nd (.ins cl []) []) as .frz m) (h : ∀ d, A.rel (k (.own d) (fs1.take fs.length)) (c d)) : A.rel (xb (mkM cl f ms xs) k fs) (yb (mkR m) c) := by
  have hl : fs.length < fs1.length := (List.getElem?_eq_some_iff.mp e).1
  have e0 : callMm f ms (.slot fs.length :: xs) (fs ++ [some (.own, .nd (.ins cl []) [])]) = match f ((.io, .nd (.ins cl []) []) :: as) with
      | .ok s ((_, d') :: _) => .ok (tvOf s) (fs1.set fs.length (some (.own, d')))
      | .ex x ((_, d') :: _) => .ex x (fs1.set fs.length (some (.own, d')))
      | _ => .bad := by
    unfold callMm bnd
    dsimp only
    rw [h1]
    dsimp only
    rw [e]
    dsimp only
    rw [if_pos (show Md.own.mut = true from rfl), h2]
    try rfl
  have tk : ∀ d, (fs1.set fs.length (some (Md.own, d))).take fs.length = fs1.take fs.length := fun d => by
    rw [List.take_set_of_le (Nat.le_refl _)]
  unfold xb mkM
  rw [e0]
  cases m with
  | bad => exact A.hb _
  | ex x =>
    obtain ⟨p', as', e⟩ := hf
    rw [e]
    exact A.hx x _
  | ok q =>
    obtain ⟨as', e1⟩ := hf
    obtain ⟨r, d⟩ := q
    rw [e1]
    cases r with
    | nd _ _ => exact A.hb _
    | «at» a => cases a with
      | non =>
        dsimp only [tvOf]
        rw [List.getElem?_set_self hl]
        dsimp only
        rw [tk]
        exact h d
      | _ => exact A.hb _
/-! methods of classes -/
def methK (c m : Str) (x : Tv) (k : Fs → ω) : Fs → ω := fun fs => match rdv x fs with
  | some d => match insOf c d with
    | some (ns, _) => if ns.contains m = true then OB.bad else k fs
    | none => OB.bad
  | none => OB.bad
theorem q_meth {cl m : Str} {call : List Tv → M Tv} {fo : M Tv} {fl : M (List Tv)} {k : Tv → Fs → ω} (h : A.rel (xb fo (fun x => methK cl m x (xb fl fun ys => xb (call (x :: ys)) k)) fs) c) : A.rel (xb (methM cl m call fo fl) k fs) c := by
  unfold methM
  refine q_bnd ?_
  have e : (fun x => xb (fun fs => match rdv x fs with
    | some d => match insOf cl d with
      | some (ns, _) => if ns.contains m = true then .bad else bnd fl (fun ys => call (x :: ys)) fs
      | none => .bad
    | none => .bad) k) = fun x => methK cl m x (xb fl fun ys => xb (call (x :: ys)) k) := by
    funext x fs
    unfold methK xb bnd
    dsimp only
    cases rdv x fs with
    | none => rfl
    | some d =>
      dsimp only
      cases insOf cl d with
      | none => rfl
      | some q =>
        dsimp only
        by_cases hd : q.1.contains m = true
        · rw [if_pos hd, if_pos hd]
        · rw [if_neg hd, if_neg hd]
          cases fl fs <;> rfl
  rw [← e] at h
  exact h
theorem q_methK {cl m : Str} {x : Tv} {d : D} {k : Fs → ω} {c : Unit → π} (hx : rdv x fs = some d) (h : A.rel (k fs) (c ())) : A.rel (methK cl m x k fs) (yb (okR (insNo cl m d)) c) := by
  unfold methK okR insNo
  simp only [hx]
  cases insOf cl d with
  | none => exact A.hb _
  | some q =>
    dsimp only
    by_cases hq : q.1.contains m = true
    · rw [if_pos hq, if_neg (by rw [hq]; exact Bool.false_ne_true)]; exact A.hb _
    · rw [if_neg hq, if_pos (by rw [show q.1.contains m = false by simpa using hq]; rfl)]; exact h
end
section
variable {π : Type} [PB π] {A : AR SOut π} {fs fs1 fs2 : Fs} {c : π} {σ τ β ρ : Type} {g g2 : S}
/-! fields are set -/
def fldK (c f : Str) (d : D) (x : Tv) (g : S) : S := fun fs => match x with
  | .slot i => match fs[i]? with
    | some (some (m, t)) => if m.mut = true then match putI c f d t with
        | some t' => g (fs.set i (some (m, t')))
        | none => .bad
      else .bad
    | _ => .bad
  | _ => .bad
theorem q_sfld {cl f : Str} {fo fv : M Tv} (h : A.rel (xb fv (fun v => xb (frzV v) fun d => xb fo fun x => fldK cl f d x g) fs) c) : A.rel (sseq (sfld cl f fo fv) g fs) c := by
  have e : sseq (sfld cl f fo fv) g fs = xb fv (fun v => xb (frzV v) fun d => xb fo fun x => fldK cl f d x g) fs := by
    unfold sseq sfld sbnd xb bnd
    cases fv fs with
    | ok v f1 =>
      dsimp only
      cases frzV v f1 with
      | ok d f2 =>
        dsimp only
        cases fo f2 with
        | ok x f3 =>
          dsimp only
          unfold fldK
          cases x with
          | frz _ => rfl
          | own _ => rfl
          | slot i =>
            dsimp only
            cases f3[i]? with
            | none => rfl
            | some o => cases o with
              | none => rfl
              | some s =>
                obtain ⟨m, t⟩ := s
                dsimp only
                by_cases hm : m.mut = true
                · rw [if_pos hm, if_pos hm]
                  unfold putI
                  cases insOf cl t with
                  | none => rfl
                  | some q =>
                    dsimp only
                    by_cases hl : q.1.length < 1000
                    · rw [if_pos hl, if_pos hl]
                      cases putD f d q.1 q.2 <;> rfl
                    · rw [if_neg hl, if_neg hl]
                · rw [if_neg hm, if_neg hm]
        | ex _ _ => rfl
        | bad => rfl
      | ex _ _ => rfl
      | bad => rfl
    | ex _ _ => rfl
    | bad => rfl
  rw [e]
  exact h
theorem q_fldK {cl f : Str} {i : Nat} {m : Md} {t d : D} {c : D → π} (e : fs[i]? = some (some (m, t))) (hm : m.mut = true) (h : ∀ t', A.rel (g (fs.set i (some (m, t')))) (c t')) : A.rel (fldK cl f d (.slot i) g fs) (yb (optR (putI cl f d t)) c) := by
  unfold fldK optR
  dsimp only
  rw [e]
  dsimp only
  rw [if_pos hm]
  cases putI cl f d t with
  | none => exact A.hb _
  | some t' => exact h t'
variable {N : σ → Fs → Prop} {B : β → Fs → Prop}
/-- in a def that hands back its own or an atom: an object of its own -/
theorem q_rtN {d : D} : (AS N B fun d v fs => retV v fs = some (mdOf d, d)).rel (SOut.rt (.own d) fs) (rtN d) := by
  cases d with
  | «at» a => exact True.intro
  | nd kk xs => exact ⟨_, _, rfl, rfl⟩
theorem q_rtNS {i : Nat} {d : D} (e : fs[i]? = some (some (.own, d))) : (AS N B fun d v fs => retV v fs = some (mdOf d, d)).rel (SOut.rt (.slot i) fs) (rtN d) := by
  cases d with
  | «at» a => exact True.intro
  | nd kk xs => exact ⟨_, _, rfl, by unfold retV; simp only [e]; rfl⟩
end
theorem q_defA {β : Type} {np n : Nat} {b : S} {as : List Sl} {cc : C Unit β D} (fs0 : Fs) (hl : as.length = np) (ho : as.all (fun a => a.1 != .own) = true) (e0 : as.map some ++ List.replicate (n - np) none = fs0)
    (h : (AS (fun (_ : Unit) _ => True) (fun _ _ => False) fun d v fs => retV v fs = some (mdOf d, d)).rel (b fs0) cc) : RfO (fnOf np n b) as (runR cc) := by
  unfold RfO fnOf
  simp only [if_pos (show as.length = np ∧ as.all (fun a => a.1 != .own) = true from ⟨hl, ho⟩), e0]
  cases cc with
  | bad => exact True.intro
  | nx s => obtain ⟨f1, e1, _⟩ := h; rw [e1]; exact ⟨_, rfl⟩
  | rt r => obtain ⟨v, f1, e1, e2⟩ := h; rw [e1]; dsimp only; rw [e2]; exact ⟨_, rfl⟩
  | bk s => exact True.intro
  | ct s => exact True.intro
  | ex x => obtain ⟨f1, e1⟩ := h; rw [e1]; exact ⟨_, rfl⟩
end TL

/-! Bits of naturals, ways in graphs. -/
namespace TL
open PySem PySem.Spec PyProof.Rows L2
/-! ### bits -/
theorem and_n (a b : Nat) : Builtin.bitAnd (a : Int) (b : Int) = ((a &&& b : Nat) : Int) := by
  unfold Builtin.bitAnd
  simp
theorem or_n (a b : Nat) : Builtin.bitOr (a : Int) (b : Int) = ((a ||| b : Nat) : Int) := by
  rw [bitOr_nn (Int.natCast_nonneg _) (Int.natCast_nonneg _), Int.toNat_natCast, Int.toNat_natCast]
/-- the contrary claim -/
def cn (c : Nat) : Nat := if c % 2 = 0 then c + 1 else c - 1
theorem cn_cn (c : Nat) : cn (cn c) = c := by
  unfold cn
  split <;> (split <;> omega)
theorem cn_lt {c n : Nat} (h : c < 2 * n) : cn c < 2 * n := by
  unfold cn
  split <;> omega
theorem cn_inj {a b : Nat} (h : cn a = cn b) : a = b := by rw [← cn_cn a, h, cn_cn]
theorem or_one (c : Nat) : c ||| 1 = 2 * (c / 2) + 1 := by
  have h1 : 2 ^ 1 * (c / 2) + 1 = 2 ^ 1 * (c / 2) ||| 1 := Nat.two_pow_add_eq_or_of_lt (by decide) _
  rcases Nat.mod_two_eq_zero_or_one c with h | h
  · have e : c = 2 ^ 1 * (c / 2) := by omega
    rw [show 2 * (c / 2) + 1 = 2 ^ 1 * (c / 2) + 1 by omega, h1, ← e]
  · have e : c = 2 ^ 1 * (c / 2) + 1 := by omega
    have e2 : c ||| 1 = (2 ^ 1 * (c / 2) ||| 1) ||| 1 := by rw [← h1, ← e]
    rw [e2, Nat.or_assoc, Nat.or_self, ← h1]
theorem xor_one (c : Nat) : Builtin.bitXor (c : Int) 1 = ((cn c : Nat) : Int) := by
  show Builtin.bitOr (c : Int) ((1 : Nat) : Int) - Builtin.bitAnd (c : Int) ((1 : Nat) : Int) = _
  rw [or_n, and_n, or_one, Nat.and_one_is_mod]
  unfold cn
  split <;> omega
@[simp] theorem xor_i (c : Nat) : (bitD Builtin.bitXor) (dI (c : Nat)) (dI 1) = some (aI (cn c : Nat)) := by
  show some (aI (Builtin.bitXor (c : Int) 1)) = _
  rw [xor_one]
@[simp] theorem band_i (a b : Nat) : (bitD Builtin.bitAnd) (dI (a : Nat)) (dI (b : Nat)) = some (aI (a &&& b : Nat)) := by
  show some (aI (Builtin.bitAnd (a : Int) (b : Int))) = _
  rw [and_n]
@[simp] theorem bor_i (a b : Nat) : (bitD Builtin.bitOr) (dI (a : Nat)) (dI (b : Nat)) = some (aI (a ||| b : Nat)) := by
  show some (aI (Builtin.bitOr (a : Int) (b : Int))) = _
  rw [or_n]
theorem shl_i {c : Nat} (h : c ≤ 1000000) : shlD (dI 1) (dI (c : Nat)) = some (aI ((2 ^ c : Nat) : Int)) := by
  unfold shlD
  refine (ifS_pos ⟨by omega, by omega, by decide⟩).trans ?_
  rw [Int.toNat_natCast, Int.one_mul]
  congr 3
@[simp] theorem shr_i (a c : Nat) : shrD (dI (a : Nat)) (dI (c : Nat)) = some (aI ((a / 2 ^ c : Nat) : Int)) := by
  unfold shrD
  refine (ifS_pos (by omega)).trans ?_
  rw [Int.toNat_natCast]
  congr 3
theorem tb_and (m c : Nat) : ((m / 2 ^ c &&& 1 : Nat) : Int) = if m.testBit c then 1 else 0 := by
  rw [Nat.and_one_is_mod, Nat.testBit_eq_decide_div_mod_eq]
  by_cases h : m / 2 ^ c % 2 = 1
  · rw [if_pos (decide_eq_true h), h]; rfl
  · rw [if_neg (by simpa using h)]
    have : m / 2 ^ c % 2 = 0 := by omega
    rw [this]; rfl
/-- (m >> c & 1) == 1 -/
theorem tb_and1 (m c : Nat) : (bitD Builtin.bitAnd) (dI ((m / 2 ^ c : Nat) : Int)) (dI 1) = some (aI (if m.testBit c then 1 else 0)) := by
  rw [← tb_and]
  exact band_i _ 1
theorem tb_eq (b : Bool) : ((if b then (1 : Int) else 0) == 1) = b := by cases b <;> rfl
theorem bits_lt {m k : Nat} (h : m.testBit k = true) : k < Builtin.Int.intBits (m : Int) := by
  have h1 : 2 ^ k ≤ m := Nat.ge_two_pow_of_testBit h
  have hm : m ≠ 0 := by
    have := Nat.two_pow_pos k
    omega
  unfold Builtin.Int.intBits
  rw [if_neg (by simpa using hm), Int.natAbs_natCast]
  exact Nat.lt_succ_of_le ((Nat.le_log2 hm).mpr h1)
theorem bits_le {m n : Nat} (h : m < 2 ^ n) : Builtin.Int.intBits (m : Int) ≤ n := by
  unfold Builtin.Int.intBits
  by_cases hm : m = 0
  · rw [if_pos (by simp [hm])]; omega
  · rw [if_neg (by simpa using hm), Int.natAbs_natCast]
    exact (Nat.log2_lt hm).mpr h
def msk (l : List Nat) : Nat := l.foldl (fun a c => a ||| 2 ^ c) 0
theorem msk_fold : ∀ (l : List Nat) (a k : Nat), (l.foldl (fun a c => a ||| 2 ^ c) a).testBit k = (a.testBit k || decide (k ∈ l))
  | [], a, k => by simp
  | c :: l, a, k => by
    rw [List.foldl_cons, msk_fold l, Nat.testBit_or, Nat.testBit_two_pow]
    by_cases h : c = k
    · subst h; simp
    · rw [decide_eq_false h]
      simp [Ne.symm h]
theorem msk_bit (l : List Nat) (k : Nat) : (msk l).testBit k = decide (k ∈ l) := by
  unfold msk
  rw [msk_fold]
  simp
theorem msk_lt {l : List Nat} {m : Nat} (h : ∀ c ∈ l, c < m) : msk l < 2 ^ m := by
  refine Nat.lt_pow_two_of_testBit _ fun i hi => ?_
  rw [msk_bit]
  exact decide_eq_false fun z => by have := h i z; omega
/-- a claim and its contrary -/
def clB (m : Nat) : Bool := (List.range 30).any fun i => m.testBit (2 * i) && m.testBit (2 * i + 1)
theorem size2 (n : Nat) : Builtin.Range.rangeSize 0 (n : Int) 2 = (((n + 1) / 2 : Nat) : Int) := by
  unfold Builtin.Range.rangeSize
  rw [if_pos (by decide)]
  by_cases h : (0 : Int) < n
  · rw [if_pos h]
    omega
  · rw [if_neg h]
    omega
theorem small2 {n : Nat} (h : n < 4611686018427387904) : Builtin.Range.small 0 (n : Int) 2 = true := by
  unfold Builtin.Range.small
  rw [size2]
  simp [Builtin.Range.rangeFitsLong]
  omega
theorem rng3_i {n : Nat} (h : n < 4611686018427387904) : rngR k3 [dI 0, dI (n : Nat), dI 2] = .ok ((List.range ((n + 1) / 2)).map fun i => dI ((2 * i : Nat) : Int)) := by
  have e : k3 [0, (n : Int), 2] = some (0, 2, (n + 1) / 2) := by
    unfold k3
    dsimp only
    rw [size2, if_pos ⟨by decide, by decide, small2 h, by rw [Int.toNat_natCast]⟩, Int.toNat_natCast]
  have e2 : [dI 0, dI (n : Nat), dI 2].mapM intOf = some [0, (n : Int), 2] := by simp [List.mapM_cons, intOf_i]
  have e3 : rngD 0 2 ((n + 1) / 2) = (List.range ((n + 1) / 2)).map fun i => dI ((2 * i : Nat) : Int) := by
    unfold rngD
    refine List.map_congr_left fun i _ => ?_
    have : (0 : Int) + (i : Int) * 2 = ((2 * i : Nat) : Int) := by omega
    rw [this]
  exact (rngR_of e2 e).trans (congrArg R.ok e3)
/-! ### ways -/
def lst (w : List Nat) : Nat := w.getLastD 0
@[simp] theorem lst_snoc (w : List Nat) (b : Nat) : lst (w ++ [b]) = b := by simp [lst]
@[simp] theorem lst_one (b : Nat) : lst [b] = b := rfl
def ext (W : List (List Nat)) (w : List Nat) : List Nat → List (List Nat)
  | [] => W
  | r :: rs => ext (if r ∈ W.map lst then W else W ++ [w ++ [r]]) w rs
theorem ext_fr (w : List Nat) : ∀ (rs : List Nat) (W : List (List Nat)), ∃ fr : List Nat, ext W w rs = W ++ fr.map (fun r => w ++ [r]) ∧ fr.Sublist rs ∧ fr.Nodup ∧ ∀ r, r ∈ fr ↔ r ∈ rs ∧ r ∉ W.map lst
  | [], W => ⟨[], by simp [ext], List.Sublist.refl _, List.nodup_nil, fun r => by simp⟩
  | r :: rs, W => by
    unfold ext
    by_cases h : r ∈ W.map lst
    · rw [if_pos h]
      obtain ⟨fr, h1, h2, h3, h4⟩ := ext_fr w rs W
      refine ⟨fr, h1, h2.trans (List.sublist_cons_self _ _), h3, fun x => ⟨fun hx => ?_, fun hx => ?_⟩⟩
      · obtain ⟨a, b⟩ := (h4 x).mp hx
        exact ⟨List.mem_cons_of_mem _ a, b⟩
      · obtain ⟨a, b⟩ := hx
        rcases List.mem_cons.mp a with rfl | a
        · exact absurd h b
        · exact (h4 x).mpr ⟨a, b⟩
    · rw [if_neg h]
      obtain ⟨fr, h1, h2, h3, h4⟩ := ext_fr w rs (W ++ [w ++ [r]])
      have hm : (W ++ [w ++ [r]]).map lst = W.map lst ++ [r] := by simp
      rw [hm] at h4
      refine ⟨r :: fr, by rw [h1]; simp, h2.cons₂ _, List.nodup_cons.mpr ⟨fun z => ((h4 r).mp z).2 (by simp), h3⟩, fun x => ⟨fun hx => ?_, fun hx => ?_⟩⟩
      · rcases List.mem_cons.mp hx with rfl | hx
        · exact ⟨List.mem_cons_self, h⟩
        · obtain ⟨a, b⟩ := (h4 x).mp hx
          exact ⟨List.mem_cons_of_mem _ a, fun z => b (List.mem_append_left _ z)⟩
      · obtain ⟨a, b⟩ := hx
        by_cases e : x = r
        · rw [e]; exact List.mem_cons_self
        · rcases List.mem_cons.mp a with z | a
          · exact absurd z e
          · refine List.mem_cons_of_mem _ ((h4 x).mpr ⟨a, fun z => ?_⟩)
            rcases List.mem_append.mp z with z | z
            · exact b z
            · exact e (by simpa using z)
theorem sorted_eq {a b : List Nat} (ha : a.Pairwise (· < ·)) (hb : b.Pairwise (· < ·)) (h : ∀ x, x ∈ a ↔ x ∈ b) : a = b := by
  have na : a.Nodup := ha.imp fun h => Nat.ne_of_lt h
  have nb : b.Nodup := hb.imp fun h => Nat.ne_of_lt h
  have p : a.Perm b := (List.perm_ext_iff_of_nodup na nb).mpr h
  exact p.eq_of_pairwise (le := (· < ·)) (fun x y _ _ h1 h2 => absurd (Nat.lt_trans h1 h2) (Nat.lt_irrefl _)) ha hb
theorem lt_of_le {a : List Nat} (ha : a.Pairwise (· ≤ ·)) (hn : a.Nodup) : a.Pairwise (· < ·) := by
  refine (ha.and hn).imp fun h => ?_
  have := h.1
  have := h.2
  omega
/-- by rows that rise, with the same things in them, the same -/
theorem ext_eq {W : List (List Nat)} {w l l' : List Nat} (h1 : l.Pairwise (· ≤ ·)) (h2 : l'.Pairwise (· ≤ ·)) (h : ∀ x, x ∈ l ↔ x ∈ l') : ext W w l = ext W w l' := by
  obtain ⟨f, a1, a2, a3, a4⟩ := ext_fr w l W
  obtain ⟨g, b1, b2, b3, b4⟩ := ext_fr w l' W
  have e : f = g := sorted_eq (lt_of_le (h1.sublist a2) a3) (lt_of_le (h2.sublist b2) b3) fun x => by rw [a4, b4, h]
  rw [a1, b1, e]
/-- a walk from c -/
inductive Wk (S : Nat → List Nat) (c : Nat) : List Nat → Prop
  | one : Wk S c [c]
  | snoc {w : List Nat} {b : Nat} (h : Wk S c w) (hb : b ∈ S (lst w)) : Wk S c (w ++ [b])
theorem Wk.ne {S : Nat → List Nat} {c : Nat} {w : List Nat} (h : Wk S c w) : w ≠ [] := by
  cases h <;> simp
theorem Wk.cons {S : Nat → List Nat} {d e : Nat} {u : List Nat} (h : Wk S d u) (he : d ∈ S e) : Wk S e (e :: u) := by
  induction h with
  | one => exact Wk.snoc (w := [e]) .one he
  | snoc h hb ih =>
    rename_i w b
    have e1 : lst (e :: w) = lst w := by
      have := h.ne
      cases w with
      | nil => exact absurd rfl this
      | cons x w => simp [lst, List.getLastD]
    have : Wk S e ((e :: w) ++ [b]) := .snoc ih (by rw [e1]; exact hb)
    exact this
def it (S : Nat → List Nat) : Nat → List (List Nat) → Nat → List (List Nat)
  | 0, W, _ => W
  | k + 1, W, p => if h : p < W.length then it S k (ext W W[p] (S (lst W[p]))) (p + 1) else W
def bfs (S : Nat → List Nat) (m c : Nat) : List (List Nat) := it S (m + 1) [[c]] 0
structure BI (S : Nat → List Nat) (m c : Nat) (W : List (List Nat)) (p : Nat) : Prop where
  wk : ∀ w ∈ W, Wk S c w
  nd : (W.map lst).Nodup
  lt : ∀ w ∈ W, lst w < m
  mono : W.Pairwise (fun a b => a.length ≤ b.length)
  hi : ∀ (hp : p < W.length), ∀ w ∈ W, w.length ≤ W[p].length + 1
  le : p ≤ W.length
  cl : ∀ (i : Nat) (hi : i < W.length), i < p → ∀ b ∈ S (lst W[i]), ∃ w ∈ W, lst w = b ∧ w.length ≤ W[i].length + 1
  one : ∃ r, W = [c] :: r
  ln : ∀ (i : Nat) (hi : i < W.length), W[i].length ≤ i + 1
theorem nodup_le : ∀ {m : Nat} {l : List Nat}, l.Nodup → (∀ x ∈ l, x < m) → l.length ≤ m
  | 0, l, _, h => by
    cases l with
    | nil => exact Nat.le_refl _
    | cons x l => exact absurd (h x List.mem_cons_self) (Nat.not_lt_zero _)
  | m + 1, l, hn, h => by
    by_cases hm : m ∈ l
    · have h1 := nodup_le (hn.erase m) (m := m) fun x hx => by
        obtain ⟨a, b⟩ := hn.mem_erase_iff.mp hx
        have := h x b
        omega
      rw [List.length_erase_of_mem hm] at h1
      omega
    · have := nodup_le hn (m := m) fun x hx => by
        have := h x hx
        have : x ≠ m := fun z => hm (z ▸ hx)
        omega
      omega
theorem BI.len {S : Nat → List Nat} {m c p : Nat} {W : List (List Nat)} (I : BI S m c W p) : W.length ≤ m := by
  have := nodup_le I.nd (m := m) fun x hx => by
    obtain ⟨w, hw, rfl⟩ := List.mem_map.mp hx
    exact I.lt w hw
  simpa using this
theorem BI.start {S : Nat → List Nat} {m c : Nat} (hc : c < m) : BI S m c [[c]] 0 where
  wk := fun w hw => by
    rw [List.mem_singleton.mp hw]; exact .one
  nd := by simp
  lt := fun w hw => by rw [List.mem_singleton.mp hw]; exact hc
  mono := by simp
  hi := fun hp w hw => by rw [List.mem_singleton.mp hw]; simp
  le := Nat.zero_le _
  cl := fun i hi h => absurd h (Nat.not_lt_zero _)
  one := ⟨[], rfl⟩
  ln := fun i hi => by
    have : i = 0 := by simpa using hi
    subst this
    exact Nat.le_refl _
theorem BI.step {S : Nat → List Nat} {m c p : Nat} {W : List (List Nat)} (hS : ∀ a, ∀ b ∈ S a, b < m) (I : BI S m c W p) (hp : p < W.length) : BI S m c (ext W W[p] (S (lst W[p]))) (p + 1) := by
  obtain ⟨fr, h1, h2, h3, h4⟩ := ext_fr W[p] (S (lst W[p])) W
  rw [h1]
  have hwp : W[p] ∈ W := List.getElem_mem hp
  have hl : (W ++ fr.map fun r => W[p] ++ [r]).map lst = W.map lst ++ fr := by
    rw [List.map_append, List.map_map]
    congr 1
    refine (List.map_congr_left (g := id) fun r _ => by simp).trans (List.map_id _)
  have mem : ∀ w, w ∈ (W ++ fr.map fun r => W[p] ++ [r]) ↔ w ∈ W ∨ ∃ r ∈ fr, w = W[p] ++ [r] := fun w => by
    rw [List.mem_append, List.mem_map]
    constructor
    · rintro (h | ⟨r, hr, rfl⟩)
      · exact .inl h
      · exact .inr ⟨r, hr, rfl⟩
    · rintro (h | ⟨r, hr, rfl⟩)
      · exact .inl h
      · exact .inr ⟨r, hr, rfl⟩
  refine ⟨fun w hw => ?_, ?_, fun w hw => ?_, ?_, fun hp1 w hw => ?_, ?_, fun i hi1 hi2 b hb => ?_, ?_, fun i hi => ?_⟩
  · rcases (mem w).mp hw with h | ⟨r, hr, rfl⟩
    · exact I.wk w h
    · exact .snoc (I.wk _ hwp) ((h4 r).mp hr).1
  · rw [hl, List.nodup_append]
    exact ⟨I.nd, h3, fun a ha b hb e => ((h4 b).mp hb).2 (e ▸ ha)⟩
  · rcases (mem w).mp hw with h | ⟨r, hr, rfl⟩
    · exact I.lt w h
    · rw [lst_snoc]; exact hS _ _ ((h4 r).mp hr).1
  · rw [List.pairwise_append]
    refine ⟨I.mono, ?_, fun a ha b hb => ?_⟩
    · rw [List.pairwise_map]
      exact List.pairwise_of_forall (fun x y => by simp)
    · obtain ⟨r, hr, rfl⟩ := List.mem_map.mp hb
      have := I.hi hp a ha
      simpa using this
  · have hW : W[p].length ≤ (W ++ fr.map fun r => W[p] ++ [r])[p + 1].length := by
      by_cases h : p + 1 < W.length
      · rw [List.getElem_append_left h]
        exact List.pairwise_iff_getElem.mp I.mono p (p + 1) hp h (Nat.lt_succ_self p)
      · rw [List.getElem_append_right (by omega)]
        simp
    rcases (mem w).mp hw with h | ⟨r, hr, rfl⟩
    · have := I.hi hp w h
      omega
    · simp only [List.length_append, List.length_cons, List.length_nil]
      omega
  · rw [List.length_append]
    omega
  · by_cases h : i < p
    · have hiW : i < W.length := by omega
      rw [List.getElem_append_left hiW] at hb ⊢
      obtain ⟨w, hw, e1, e2⟩ := I.cl i hiW h b hb
      exact ⟨w, (mem w).mpr (.inl hw), e1, e2⟩
    · have e : i = p := by omega
      subst e
      rw [List.getElem_append_left hp] at hb ⊢
      by_cases hbm : b ∈ W.map lst
      · obtain ⟨w, hw, rfl⟩ := List.mem_map.mp hbm
        exact ⟨w, (mem w).mpr (.inl hw), rfl, I.hi hp w hw⟩
      · exact ⟨W[i] ++ [b], (mem _).mpr (.inr ⟨b, (h4 b).mpr ⟨hb, hbm⟩, rfl⟩), by simp, by simp⟩
  · obtain ⟨r, hr⟩ := I.one
    exact ⟨r ++ fr.map fun r => W[p] ++ [r], by rw [← List.cons_append, ← hr]⟩
  · by_cases h : i < W.length
    · rw [List.getElem_append_left h]
      exact I.ln i h
    · rw [List.getElem_append_right (by omega)]
      have := I.ln p hp
      simp
      omega
theorem it_ends {S : Nat → List Nat} {m c : Nat} (hS : ∀ a, ∀ b ∈ S a, b < m) : ∀ (k p : Nat) (W : List (List Nat)), BI S m c W p → m + 1 ≤ k + p → BI S m c (it S k W p) (it S k W p).length
  | 0, p, W, I, h => by
    have := I.len
    have := I.le
    omega
  | k + 1, p, W, I, h => by
    unfold it
    by_cases hp : p < W.length
    · rw [dif_pos hp]
      exact it_ends hS k (p + 1) _ (I.step hS hp) (by omega)
    · rw [dif_neg hp]
      have e : p = W.length := by have := I.le; omega
      rw [← e]
      exact I
theorem it_more {S : Nat → List Nat} {m c : Nat} (hS : ∀ a, ∀ b ∈ S a, b < m) : ∀ (k p : Nat) (W : List (List Nat)), BI S m c W p → m + 1 ≤ k + p → it S (k + 1) W p = it S k W p
  | 0, p, W, I, h => by
    have := I.len
    have := I.le
    omega
  | k + 1, p, W, I, h => by
    rw [it, it]
    by_cases hp : p < W.length
    · rw [dif_pos hp, dif_pos hp]
      exact it_more hS k (p + 1) _ (I.step hS hp) (by omega)
    · rw [dif_neg hp, dif_neg hp]
section
variable {S : Nat → List Nat} {m c : Nat}
theorem bfs_bi (hS : ∀ a, ∀ b ∈ S a, b < m) (hc : c < m) : BI S m c (bfs S m c) (bfs S m c).length := it_ends hS (m + 1) 0 _ (.start hc) (by omega)
/-- each walk's end is met by a way that is no longer -/
theorem bfs_min (hS : ∀ a, ∀ b ∈ S a, b < m) (hc : c < m) {u : List Nat} (h : Wk S c u) : ∃ w ∈ bfs S m c, lst w = lst u ∧ w.length ≤ u.length := by
  have B := bfs_bi hS hc
  induction h with
  | one =>
    obtain ⟨r, hr⟩ := B.one
    exact ⟨[c], by rw [hr]; exact List.mem_cons_self, rfl, Nat.le_refl _⟩
  | snoc h hb ih =>
    obtain ⟨w, hw, e1, e2⟩ := ih
    obtain ⟨i, hi, rfl⟩ := List.mem_iff_getElem.mp hw
    rw [← e1] at hb
    obtain ⟨w', hw', e3, e4⟩ := B.cl i hi hi _ hb
    refine ⟨w', hw', by rw [e3, lst_snoc], ?_⟩
    simp only [List.length_append, List.length_cons, List.length_nil]
    omega
theorem bfs_uniq (hS : ∀ a, ∀ b ∈ S a, b < m) (hc : c < m) {w w' : List Nat} (h : w ∈ bfs S m c) (h' : w' ∈ bfs S m c) (e : lst w = lst w') : w = w' := by
  have B := bfs_bi hS hc
  obtain ⟨i, hi, rfl⟩ := List.mem_iff_getElem.mp h
  obtain ⟨j, hj, rfl⟩ := List.mem_iff_getElem.mp h'
  have := (List.getElem_inj (i := i) (j := j) (h₀ := by simpa using hi) (h₁ := by simpa using hj) B.nd).mp (by simpa using e)
  subst this
  rfl
/-- a truth that goes along -/
theorem Wk.truth {T : Nat → Prop} (hT : ∀ a, ∀ b ∈ S a, T a → T b) {u : List Nat} (h : Wk S c u) (hc : T c) : T (lst u) := by
  induction h with
  | one => exact hc
  | snoc h hb ih => rw [lst_snoc]; exact hT _ _ hb ih
/-- the way of the contraries leads back -/
theorem Wk.back (hC : ∀ a b, b ∈ S a → cn a ∈ S (cn b)) {u : List Nat} (h : Wk S c u) : ∃ u', Wk S (cn (lst u)) u' ∧ lst u' = cn c ∧ u'.length = u.length := by
  induction h with
  | one => exact ⟨[cn c], .one, rfl, rfl⟩
  | snoc h hb ih =>
    rename_i w b
    obtain ⟨u', h1, h2, h3⟩ := ih
    refine ⟨cn b :: u', by rw [lst_snoc]; exact h1.cons (hC _ _ hb), ?_, by simp [h3]⟩
    have := h1.ne
    cases u' with
    | nil => exact absurd rfl this
    | cons x u' => simpa [lst, List.getLastD] using h2
end
end TL

/-! Dicts by their pairs. -/
namespace TL
open PySem PySem.Spec PyProof.Rows L2
abbrev KE := Key × D
def encK (q : KE) : D := .nd .tup [kD q.1, q.2]
def lookA (k : Key) : List KE → Option D
  | [] => none
  | q :: r => if q.1 = k then some q.2 else lookA k r
theorem lookK_enc {k : Key} : ∀ {l : List KE}, lookK k (l.map encK) = lookA k l
  | [] => rfl
  | q :: r => by
    show (if keyD (kD q.1) = some k then some q.2 else lookK k (r.map encK)) = if q.1 = k then some q.2 else lookA k r
    rw [keyD_kD, lookK_enc]
    by_cases h : q.1 = k
    · rw [if_pos (by rw [h]), if_pos h]
    · rw [if_neg (fun z => h (Option.some.inj z)), if_neg h]
theorem lookA_none {k : Key} : ∀ {l : List KE}, k ∉ l.map (·.1) → lookA k l = none
  | [], _ => rfl
  | q :: r, h => by
    unfold lookA
    rw [if_neg (fun z => h (by rw [← z]; exact List.mem_cons_self)), lookA_none fun z => h (List.mem_cons_of_mem _ z)]
theorem lookA_some {q : KE} : ∀ {l : List KE}, (l.map (·.1)).Nodup → q ∈ l → lookA q.1 l = some q.2
  | [], _, h => by cases h
  | p :: r, hn, h => by
    rw [List.map_cons, List.nodup_cons] at hn
    unfold lookA
    rcases List.mem_cons.mp h with rfl | h
    · rw [if_pos rfl]
    · rw [if_neg (fun z => hn.1 (by rw [z]; exact List.mem_map_of_mem h)), lookA_some hn.2 h]
theorem putKD_new {k : Key} {d : D} {l : List KE} (h : k ∉ l.map (·.1)) : putKD k d (l.map encK) = (l ++ [(k, d)]).map encK := by
  unfold putKD
  rw [lookK_enc, lookA_none h, List.map_append]
  rfl
theorem keysOf_K : ∀ {l : List KE}, keysOf (l.map encK) = l.map fun q => kD q.1
  | [] => rfl
  | q :: r => by
    show kD q.1 :: keysOf (r.map encK) = _
    rw [keysOf_K]
    rfl
theorem valsOf_K : ∀ {l : List KE}, valsOf (l.map encK) = l.map fun q => q.2
  | [] => rfl
  | q :: r => by
    show q.2 :: valsOf (r.map encK) = _
    rw [valsOf_K]
    rfl
theorem keyD_s {x : Str} : keyD (dS x) = some (.inr x) := rfl
theorem keyD_i {i : Int} : keyD (dI i) = some (.inl i) := rfl
theorem inK {k : D} {key : Key} {l : List KE} (hk : keyD k = some key) : inB k (.nd .dK (l.map encK)) = some (lookA key l).isSome := by
  show (lookD (.nd .dK (l.map encK)) k).map (·.isSome) = _
  unfold lookD
  dsimp only
  rw [hk]
  dsimp only
  rw [lookK_enc]
  rfl
theorem inT_K {k : D} {key : Key} {l : List KE} (hk : keyD k = some key) : inT k (.nd .dK (l.map encK)) = some (aB (lookA key l).isSome) := by
  unfold inT
  rw [inK hk]
  rfl
theorem ninT_K {k : D} {key : Key} {l : List KE} (hk : keyD k = some key) : ninT k (.nd .dK (l.map encK)) = some (aB (!(lookA key l).isSome)) := by
  unfold ninT
  rw [inK hk]
  rfl
theorem ixK_s {x : Str} {l : List KE} : ixD (.nd .dK (l.map encK)) (dS x) = (lookA (.inr x) l).map .frz := by
  show (match lookD (.nd .dK (l.map encK)) (dS x) with | some (some v) => some (Tv.frz v) | _ => none) = _
  unfold lookD
  dsimp only
  rw [keyD_s]
  dsimp only
  rw [lookK_enc]
  cases lookA (.inr x) l <;> rfl
theorem ixK_i {i : Int} {l : List KE} : ixD (.nd .dK (l.map encK)) (dI i) = (lookA (.inl i) l).map .frz := by
  show (match lookD (.nd .dK (l.map encK)) (dI i) with | some (some v) => some (Tv.frz v) | _ => none) = _
  unfold lookD
  dsimp only
  rw [keyD_i]
  dsimp only
  rw [lookK_enc]
  cases lookA (.inl i) l <;> rfl
theorem getD_K {k : D} {key : Key} {l : List KE} (hk : keyD k = some key) : TL.getD (.nd .dK (l.map encK)) k = some (.frz ((lookA key l).getD dN)) := by
  unfold TL.getD lookD
  dsimp only
  rw [hk]
  dsimp only
  rw [lookK_enc]
  cases lookA key l <;> rfl
theorem putDic_K {k d : D} {key : Key} {l : List KE} (hk : keyD k = some key) (hl : l.length < lineN) (h : key ∉ l.map (·.1)) : putDic (.nd .dK (l.map encK)) k d = some (.nd .dK ((l ++ [(key, d)]).map encK)) := by
  unfold putDic
  dsimp only
  rw [if_pos (by rw [List.length_map]; exact hl), hk, Option.map_some, putKD_new h]
/-! keys that are tuples -/
abbrev TE2 := List Key × D
def encT (q : TE2) : D := .nd .tup [.nd .tup (q.1.map kD), q.2]
def lookB (k : List Key) : List TE2 → Option D
  | [] => none
  | q :: r => if q.1 = k then some q.2 else lookB k r
theorem lookT_enc {k : List Key} : ∀ {l : List TE2}, lookT k (l.map encT) = lookB k l
  | [] => rfl
  | q :: r => by
    show (if keysD (q.1.map kD) = some k then some q.2 else lookT k (r.map encT)) = if q.1 = k then some q.2 else lookB k r
    rw [keysD_kD, lookT_enc]
    by_cases h : q.1 = k
    · rw [if_pos (by rw [h]), if_pos h]
    · rw [if_neg (fun z => h (Option.some.inj z)), if_neg h]
theorem keysOf_T : ∀ {l : List TE2}, keysOf (l.map encT) = l.map fun q => .nd .tup (q.1.map kD)
  | [] => rfl
  | q :: r => by
    show D.nd .tup (q.1.map kD) :: keysOf (r.map encT) = _
    rw [keysOf_T]
    rfl
/-- pairs of numbers, kept once each -/
abbrev dPr (q : Nat × Nat) : D := dTu [dI (q.1 : Nat), dI (q.2 : Nat)]
abbrev kPr (q : Nat × Nat) : List Key := [.inl (q.1 : Int), .inl (q.2 : Int)]
def encPr (q : Nat × Nat) : D := dTu [dPr q, dB true]
def insU (l : List (Nat × Nat)) (q : Nat × Nat) : List (Nat × Nat) := if q ∈ l then l else l ++ [q]
theorem kPr_inj {a b : Nat × Nat} : kPr a = kPr b ↔ a = b := by
  constructor
  · intro h
    simp only [List.cons.injEq, Sum.inl.injEq, Int.natCast_inj, and_true] at h
    exact Prod.ext h.1 h.2
  · rintro rfl; rfl
theorem encPr_T (l : List (Nat × Nat)) : l.map encPr = (l.map fun q => ((kPr q, dB true) : TE2)).map encT := by
  rw [List.map_map]
  rfl
theorem lookB_Pr {k : Nat × Nat} : ∀ {l : List (Nat × Nat)}, lookB (kPr k) (l.map fun q => ((kPr q, dB true) : TE2)) = if k ∈ l then some (dB true) else none
  | [] => by simp [lookB]
  | q :: r => by
    rw [List.map_cons]
    unfold lookB
    rw [lookB_Pr]
    by_cases h : q = k
    · rw [if_pos (by rw [h]), if_pos (by rw [h]; exact List.mem_cons_self)]
    · rw [if_neg (fun z => h (kPr_inj.mp z))]
      by_cases h2 : k ∈ r
      · rw [if_pos h2, if_pos (List.mem_cons_of_mem _ h2)]
      · rw [if_neg h2, if_neg (fun z => by rcases List.mem_cons.mp z with z | z; exact h z.symm; exact h2 z)]
theorem replT_Pr {k : Nat × Nat} : ∀ {l : List (Nat × Nat)}, replT (kPr k) (dB true) (l.map encPr) = l.map encPr
  | [] => rfl
  | q :: r => by
    show (if keysD ((kPr q).map kD) = some (kPr k) then D.nd .tup [.nd .tup [dI (q.1 : Nat), dI (q.2 : Nat)], dB true] else D.nd .tup [.nd .tup [dI (q.1 : Nat), dI (q.2 : Nat)], dB true]) :: replT (kPr k) (dB true) (r.map encPr) = _
    rw [replT_Pr]
    split <;> rfl
theorem putDic_Pr {k : Nat × Nat} {l : List (Nat × Nat)} (hl : l.length < lineN) : putDic (.nd .dT (l.map encPr)) (dPr k) (dB true) = some (.nd .dT ((insU l k).map encPr)) := by
  have e0 : keysD [dI (k.1 : Nat), dI (k.2 : Nat)] = some (kPr k) := keysD_kD (ks := kPr k)
  unfold putDic
  dsimp only
  rw [if_pos (by rw [List.length_map]; exact hl), e0, Option.map_some]
  unfold putTD insU
  rw [encPr_T, lookT_enc, lookB_Pr, ← encPr_T]
  by_cases h : k ∈ l
  · rw [if_pos h, if_pos h]
    dsimp only
    rw [replT_Pr]
  · rw [if_neg h, if_neg h]
    dsimp only
    rw [List.map_append]
    rfl
theorem keysOf_Pr (l : List (Nat × Nat)) : keysOf (l.map encPr) = l.map dPr := by
  rw [encPr_T, keysOf_T, List.map_map]
  rfl
theorem insU_mem {l : List (Nat × Nat)} {q x : Nat × Nat} : x ∈ insU l q ↔ x ∈ l ∨ x = q := by
  unfold insU
  by_cases h : q ∈ l
  · rw [if_pos h]
    constructor
    · exact .inl
    · rintro (z | rfl)
      · exact z
      · exact h
  · rw [if_neg h]
    simp
theorem insU_nd {l : List (Nat × Nat)} {q : Nat × Nat} (h : l.Nodup) : (insU l q).Nodup := by
  unfold insU
  by_cases hq : q ∈ l
  · rw [if_pos hq]; exact h
  · rw [if_neg hq, List.nodup_append]
    exact ⟨h, by simp, fun a ha b hb e => hq (by rw [List.mem_singleton.mp hb] at e; rwa [← e])⟩
theorem insU_len {l : List (Nat × Nat)} {q : Nat × Nat} : (insU l q).length ≤ l.length + 1 := by
  unfold insU
  split <;> simp
end TL

namespace K02
open PySem PySem.Spec PyProof.Rows L2 TL
def top (i : Nat) : Stmt := PySem.Challenge.pw_coatrows_k02_best_ways.main.body.getD i (.Pass ⟨0, 0, 0, 0⟩)
def c_KINDS : D := (.nd .ktp [(.at (.str "in")), (.at (.str "apart")), (.at (.str "cover"))])
def t_SIGNS : List (Str × D) := [("in", (.nd .ktp [(.at (.int 1)), (.at (.int 0))])), ("apart", (.nd .ktp [(.at (.int 1)), (.at (.int 1))])), ("cover", (.nd .ktp [(.at (.int 0)), (.at (.int 0))]))]
/-! ### l_pile -/
abbrev s_l_pile : Stmt := top 34
def b_l_pile : S := (sseq (sset 2 (vAt (.int 0))) (sseq (sif (bnd (vOp (cmpD fun i j => decide (i < j)) (vVar 1) (bnd (aCons (vVar 0) aNil) (on1 lenD))) boolV) (sseq (sset 2 (vOp ixD (vVar 0) (vVar 1))) sNext) sNext) (sseq (sset 3 (vOp modD (bnd (aCons (vVar 2) aNil) (on1 intD)) (vOp mulD (vOp mulD (vOp powD (vAt (.int 10)) (vAt (.int 50))) (vOp powD (vAt (.int 10)) (vAt (.int 50)))) (vOp powD (vAt (.int 10)) (vAt (.int 50)))))) (sseq (sret (bnd (aCons (vOp mulD (vVar 3) (bnd (aCons (vOp (cmpD fun i j => decide (j ≤ i)) (bnd (aCons (vVar 2) aNil) (on1 absD)) (vOp powD (vAt (.int 10)) (vAt (.int 18)))) aNil) (on1 intD))) (aCons (vOp modD (bnd (aCons (vVar 2) aNil) (on1 intD)) (vAt (.int 2147483647))) (aCons (vFz (vOp mulD (vAt (.int 97)) (vVar 1))) aNil))) mkL)) sNext))))
def f_l_pile : Fn := fnOf 2 4 b_l_pile
/-! ### l_mixed -/
abbrev s_l_mixed : Stmt := top 33
def b_l_mixed : S := (sseq (sset 2 (vOp modD (vOp addD (vOp addD (vOp mulD (vOp modD (bnd (aCons (vVar 0) aNil) (on1 intD)) (vAt (.int 2147483647))) (vAt (.int 48271))) (vFz (vOp mulD (vVar 1) (vAt (.int 69621))))) (vAt (.int 11))) (vAt (.int 2147483647)))) (sseq (sset 2 (vOp modD (vOp mulD (vVar 2) (vVar 2)) (vAt (.int 2147483629)))) (sseq (sret (vOp fdivD (vOp modD (vOp mulD (vVar 2) (vVar 2)) (vAt (.int 2147483587))) (vAt (.int 64)))) sNext)))
def f_l_mixed : Fn := fnOf 2 3 b_l_mixed
/-! ### l_take -/
abbrev s_l_take : Stmt := top 35
def b_l_take : S := (sseq (sif (bnd (vOp eqD (vOp ixD (vVar 0) (vAt (.int 0))) (vAt (.int 0))) boolV) (sseq (sput putL (vVar 0) (vAt (.int 2)) (vOp addD (vOp ixD (vVar 0) (vAt (.int 2))) (vAt (.int 1)))) (sseq (sret (vOp modD (bnd (aCons (vOp ixD (vVar 0) (vAt (.int 1))) (aCons (vOp ixD (vVar 0) (vAt (.int 2))) aNil)) (callM f_l_mixed [false, false])) (vVar 1))) sNext)) sNext) (sseq (sset 2 (vOp modD (bnd (aCons (vOp ixD (vVar 0) (vAt (.int 0))) aNil) (on1 intD)) (vVar 1))) (sseq (sput putL (vVar 0) (vAt (.int 0)) (vOp fdivD (vOp ixD (vVar 0) (vAt (.int 0))) (vVar 1))) (sseq (sret (vVar 2)) sNext))))
def f_l_take : Fn := fnOf 2 3 b_l_take
/-! ### l_names -/
abbrev s_l_names : Stmt := top 37
def b_l_names : S := (sseq (sset 2 (vAt (.str "abcdefghijklmnopqrstuvwxyz"))) (sseq (sset 3 (bmM isStr (on2 joinD) (vAt (.str "")) (aCons (lcomp (vR k1 (aCons (bnd (aCons (vVar 0) (aCons (vAt (.int 12)) aNil)) (callMm f_l_take [false])) aNil)) (.nm 10) yes (bnd (vOp ixD (vVar 2) (bnd (aCons (vVar 0) (aCons (vAt (.int 26)) aNil)) (callMm f_l_take [false]))) frzV) [10]) aNil))) (sseq (sset 4 (bnd (aCons (vVar 0) (aCons (vOp addD (bnd (aCons (vVar 3) aNil) (on1 lenD)) (vAt (.int 1))) aNil)) (callMm f_l_take [false]))) (sseq (sset 5 (bnd (aCons (vVar 0) (aCons (vAt (.int 26)) aNil)) (callMm f_l_take [false]))) (sseq (sset 6 (vOp ixD (bnd (aCons (vAt (.int 1)) (aCons (vAt (.int 3)) (aCons (vAt (.int 5)) (aCons (vAt (.int 7)) (aCons (vAt (.int 9)) (aCons (vAt (.int 11)) (aCons (vAt (.int 15)) (aCons (vAt (.int 17)) (aCons (vAt (.int 19)) (aCons (vAt (.int 21)) (aCons (vAt (.int 23)) (aCons (vAt (.int 25)) aNil)))))))))))) mkL) (bnd (aCons (vVar 0) (aCons (vAt (.int 12)) aNil)) (callMm f_l_take [false])))) (sseq (sif (bAnd (bnd (vOp eqD (vOp modD (vVar 5) (vAt (.int 4))) (vAt (.int 3))) boolV) (bnd (vOp (cmpD fun i j => decide (i < j)) (vVar 1) (vAt (.int 13))) boolV)) (sseq (sset 9 (bnd (aCons (vAt (.str "a")) (aCons (vAt (.str "b")) (aCons (vAt (.str "ab")) (aCons (vAt (.str "c")) (aCons (vAt (.str "ba")) (aCons (vAt (.str "abc")) (aCons (vAt (.str "aa")) (aCons (vAt (.str "bc")) (aCons (vAt (.str "aab")) (aCons (vAt (.str "ca")) (aCons (vAt (.str "cab")) (aCons (vAt (.str "d")) (aCons (vAt (.str "abd")) (aCons (vAt (.str "bca")) (aCons (vAt (.str "e")) aNil))))))))))))))) mkL)) (sseq (sret (vSl (vOp addD (vSl (vVar 9) (oSome (vOp addD (vOp fdivD (vVar 5) (vAt (.int 4))) (vOp modD (vVar 6) (vAt (.int 4))))) oNone) (vVar 9)) oNone (oSome (vVar 1)))) sNext)) sNext) (sseq (sset 7 (vOp mulD (vAt (.str "a")) (bnd (aCons (vOp (cmpD fun i j => decide (i < j)) (bnd (aCons (vVar 3) aNil) (on1 lenD)) (vAt (.int 11))) aNil) (on1 intD)))) (sseq (sset 8 (lcomp (vR k1 (aCons (vVar 1) aNil)) (.nm 10) yes (bnd (vOp addD (vOp addD (vSl (vVar 3) oNone (oSome (vVar 4))) (vOp ixD (vVar 2) (vOp modD (vOp addD (vVar 5) (vFz (vOp mulD (vVar 6) (vVar 10)))) (vAt (.int 26))))) (vSl (vVar 3) (oSome (vVar 4)) oNone)) frzV) [10])) (sseq (sret (lcomp (vEnum (vVar 8)) (.tp [(.nm 10), (.nm 11)]) yes (bnd (vOp addD (vVar 11) (vOp mulD (vVar 7) (vOp modD (vVar 10) (vAt (.int 2))))) frzV) [10, 11])) sNext)))))))))
def f_l_names : Fn := fnOf 2 12 b_l_names
/-! ### l_all -/
abbrev s_l_all : Stmt := top 40
def b_l_all : S := (sseq (sset 1 (bnd (aCons (bnd aNil mkL) aNil) mkL)) (sseq (sfor (vSeq (bnd (vVar 0) (dop1 revD))) (.nm 2) (sseq (sset 1 (vOp addD (vVar 1) (lcomp (vSeq (vVar 1)) (.nm 3) yes (bnd (vOp addD (bnd (aCons (vVar 2) aNil) mkL) (vVar 3)) frzV) [3]))) (gh [.dl 2] sNext))) (sseq (sret (vVar 1)) sNext)))
def f_l_all : Fn := fnOf 1 4 b_l_all
/-! ### l_facts -/
abbrev s_l_facts : Stmt := top 38
def b_l_facts : S := (sseq (sset 3 (bnd aNil mkL)) (sseq (sset 4 (bnd (aCons (vVar 0) (aCons (vAt (.int 5)) aNil)) (callMm f_l_take [false]))) (sseq (sfor (vR k1 (aCons (bnd (aCons (vVar 0) (aCons (vOp addD (vVar 2) (vAt (.int 1))) aNil)) (callMm f_l_take [false])) aNil)) (.nm 5) (sseq (sset 6 (vOp ixD (bnd (aCons (vAt (.str "in")) (aCons (vAt (.str "apart")) (aCons (vAt (.str "cover")) aNil))) mkL) (vOp ixD (bnd (aCons (vAt (.int 0)) (aCons (vAt (.int 0)) (aCons (vAt (.int 1)) (aCons (vAt (.int 1)) (aCons (vAt (.int 2)) aNil))))) mkL) (bnd (aCons (vVar 0) (aCons (vAt (.int 5)) aNil)) (callMm f_l_take [false]))))) (sseq (sif (bnd (vOp eqD (vVar 4) (vAt (.int 1))) boolV) (sseq (sset 6 (vAt (.str "in"))) sNext) sNext) (sseq (sif (bnd (vOp eqD (vVar 4) (vAt (.int 2))) boolV) (sseq (sset 6 (vOp ixD (bnd (aCons (vAt (.str "in")) (aCons (vAt (.str "apart")) aNil)) mkL) (bnd (aCons (vVar 0) (aCons (vAt (.int 2)) aNil)) (callMm f_l_take [false])))) sNext) sNext) (sseq (sset 7 (vOp ixD (vVar 1) (bnd (aCons (vVar 0) (aCons (bnd (aCons (vVar 1) aNil) (on1 lenD)) aNil)) (callMm f_l_take [false])))) (sseq (sset 8 (vOp ixD (vVar 1) (bnd (aCons (vVar 0) (aCons (bnd (aCons (vVar 1) aNil) (on1 lenD)) aNil)) (callMm f_l_take [false])))) (sseq (sdrop (bmM isLst (chgM appG) (vVar 3) (aCons (bnd (aCons (vVar 6) (aCons (vVar 7) (aCons (vVar 8) aNil))) mkT) aNil))) (gh [.dl 5, .dl 6, .dl 7, .dl 8] sNext)))))))) (sseq (sret (vVar 3)) sNext))))
def f_l_facts : Fn := fnOf 3 9 b_l_facts
/-! ### l_keeps -/
abbrev s_l_keeps : Stmt := top 39
def b_l_keeps : S := (sseq (sasg (.tp [(.nm 2), (.nm 3), (.nm 4)]) (vVar 1)) (sseq (sif (bnd (vOp eqD (vVar 2) (vAt (.str "in"))) boolV) (sseq (sret (vOr (vOp ninT (vVar 3) (vVar 0)) (vOp inT (vVar 4) (vVar 0)))) sNext) sNext) (sseq (sif (bnd (vOp eqD (vVar 2) (vAt (.str "apart"))) boolV) (sseq (sret (vOr (vOp ninT (vVar 3) (vVar 0)) (vOp ninT (vVar 4) (vVar 0)))) sNext) sNext) (sseq (sret (vOr (vOp inT (vVar 3) (vVar 0)) (vOp inT (vVar 4) (vVar 0)))) sNext))))
def f_l_keeps : Fn := fnOf 2 5 b_l_keeps
/-! ### l_held -/
abbrev s_l_held : Stmt := top 42
def b_l_held : S := (sseq (sset 3 (bnd aNil mkL)) (sseq (sset 4 (bnd (aCons (vVar 1) aNil) (callM f_l_all [false]))) (gh [.fz 4] (sseq (sfor (vSeq (bnd (aCons (vVar 0) (aCons (vVar 1) (aCons (vVar 2) aNil))) (callMm f_l_facts [false, false]))) (.nm 5) (sseq (sset 6 (lcomp (vSeq (vVar 4)) (.nm 7) (bnd (bnd (aCons (vVar 7) (aCons (vVar 5) aNil)) (callM f_l_keeps [false, false])) truV) (bnd (vVar 7) frzV) [7])) (sseq (sif (bnd (vOp neD (vVar 6) (bnd aNil mkL)) boolV) (sseq (sset 4 (vVar 6)) (sseq (sdrop (bmM isLst (chgM appG) (vVar 3) (aCons (vVar 5) aNil))) sNext)) (gh [.fz 6] sNext)) (gh [.dl 5, .dl 6] sNext)))) (sseq (sret (vVar 3)) sNext)))))
def f_l_held : Fn := fnOf 3 8 b_l_held
/-! ### p_is_name -/
abbrev s_p_is_name : Stmt := top 15
def b_p_is_name : S := (sseq (sif (bOr (bNot (bnd (bnd (vVar 0) (isiV (itB .str))) truV)) (bNot (bnd (vChain (cmpD fun i j => decide (i ≤ j)) (cmpD fun i j => decide (i ≤ j)) (vAt (.int 1)) (bnd (aCons (vVar 0) aNil) (on1 lenD)) (vAt (.int 12))) boolV))) (sseq (sret (vAt (.bl false))) sNext) sNext) (sseq (sret (bnd (aCons (lcomp (vSeq (vVar 0)) (.nm 1) yes (bnd (vOp inT (vVar 1) (vAt (.str "abcdefghijklmnopqrstuvwxyz"))) frzV) [1]) aNil) (on1 allD))) sNext))
def f_p_is_name : Fn := fnOf 1 2 b_p_is_name
/-! ### p_checked_regions -/
abbrev s_p_checked_regions : Stmt := top 16
def b_p_checked_regions : S := (sseq (sif (bOr (bNot (bnd (bnd (vVar 0) (isiV (itB .lst))) truV)) (bNot (bnd (vChain (cmpD fun i j => decide (i ≤ j)) (cmpD fun i j => decide (i ≤ j)) (vAt (.int 1)) (bnd (aCons (vVar 0) aNil) (on1 lenD)) (vAt (.int 24))) boolV))) (sseq badS sNext) sNext) (sseq (sfor (vEnum (vVar 0)) (.tp [(.nm 1), (.nm 2)]) (sseq (sif (bOr (bNot (bnd (bnd (aCons (vVar 2) aNil) (callM f_p_is_name [false])) truV)) (bnd (vOp inT (vVar 2) (vFz (vSl (vVar 0) oNone (oSome (vVar 1))))) boolV)) (sseq badS sNext) sNext) (gh [.dl 1, .dl 2] sNext))) (sseq (sret (bnd (aCons (vVar 0) aNil) (on1 listD))) sNext)))
def f_p_checked_regions : Fn := fnOf 1 3 b_p_checked_regions
/-! ### p_is_region -/
abbrev s_p_is_region : Stmt := top 17
def b_p_is_region : S := (sseq (sret (vAnd (bnd (vVar 1) (isiV (itB .str))) (vOp inT (vVar 1) (vVar 0)))) sNext)
def f_p_is_region : Fn := fnOf 2 2 b_p_is_region
/-! ### p_is_fact -/
abbrev s_p_is_fact : Stmt := top 18
def b_p_is_fact : S := (sseq (sif (bOr (bNot (bnd (bnd (vVar 1) (isiV (itB .tup))) truV)) (bnd (vOp neD (bnd (aCons (vVar 1) aNil) (on1 lenD)) (vAt (.int 3))) boolV)) (sseq (sret (vAt (.bl false))) sNext) sNext) (sseq (sif (bOr (bNot (bnd (bnd (vOp ixD (vVar 1) (vAt (.int 0))) (isiV (itB .str))) truV)) (bnd (vOp ninT (vOp ixD (vVar 1) (vAt (.int 0))) (vCst c_KINDS)) boolV)) (sseq (sret (vAt (.bl false))) sNext) sNext) (sseq (sret (vAnd (bnd (aCons (vVar 0) (aCons (vOp ixD (vVar 1) (vAt (.int 1))) aNil)) (callM f_p_is_region [false, false])) (bnd (aCons (vVar 0) (aCons (vOp ixD (vVar 1) (vAt (.int 2))) aNil)) (callM f_p_is_region [false, false])))) sNext)))
def f_p_is_fact : Fn := fnOf 2 2 b_p_is_fact
/-! ### p_checked_facts -/
abbrev s_p_checked_facts : Stmt := top 19
def b_p_checked_facts : S := (sseq (sif (bOr (bNot (bnd (bnd (vVar 1) (isiV (itB .lst))) truV)) (bnd (vOp (cmpD fun i j => decide (j < i)) (bnd (aCons (vVar 1) aNil) (on1 lenD)) (vAt (.int 1200))) boolV)) (sseq badS sNext) sNext) (sseq (sfor (vEnum (vVar 1)) (.tp [(.nm 2), (.nm 3)]) (sseq (sif (bNot (bnd (bnd (aCons (vVar 0) (aCons (vVar 3) aNil)) (callM f_p_is_fact [false, false])) truV)) (sseq badS sNext) sNext) (gh [.dl 2, .dl 3] sNext))) (sseq (sret (bnd (aCons (vVar 1) aNil) (on1 listD))) sNext)))
def f_p_checked_facts : Fn := fnOf 2 4 b_p_checked_facts
/-! ### p_breaking -/
abbrev s_p_breaking : Stmt := top 20
def b_p_breaking : S := (sseq (sasg (.tp [(.nm 2), (.nm 3), (.nm 4)]) (vVar 1)) (sseq (sret (bnd (aCons (vFz (vOp addD (vFz (vOp mulD (vAt (.int 2)) (vOp ixD (vVar 0) (vVar 3)))) (vOp ixD (bnd (vVar 2) (dop1 (gdD t_SIGNS))) (vAt (.int 0))))) (aCons (vFz (vOp addD (vFz (vOp mulD (vAt (.int 2)) (vOp ixD (vVar 0) (vVar 4)))) (vOp ixD (bnd (vVar 2) (dop1 (gdD t_SIGNS))) (vAt (.int 1))))) aNil)) mkT)) sNext))
def f_p_breaking : Fn := fnOf 2 5 b_p_breaking
/-! ### p_steps_of -/
abbrev s_p_steps_of : Stmt := top 21
def b_p_steps_of : S := (sseq (sset 2 newT) (sseq (sfor (vSeq (vVar 1)) (.nm 3) (sseq (sasg (.tp [(.nm 4), (.nm 5)]) (bnd (aCons (vVar 0) (aCons (vVar 3) aNil)) (callM f_p_breaking [false, false]))) (sseq (sput putDic (vVar 2) (bnd (aCons (vVar 4) (aCons (vOp (bitD Builtin.bitXor) (vVar 5) (vAt (.int 1))) aNil)) mkT) (vAt (.bl true))) (sseq (sput putDic (vVar 2) (bnd (aCons (vVar 5) (aCons (vOp (bitD Builtin.bitXor) (vVar 4) (vAt (.int 1))) aNil)) mkT) (vAt (.bl true))) (gh [.dl 3, .dl 4, .dl 5] sNext))))) (sseq (sret (lcomp (vR k1 (aCons (vOp mulD (vAt (.int 2)) (bnd (aCons (vVar 0) aNil) (on1 lenD))) aNil)) (.nm 6) yes (bnd (bnd (aCons (lockE 2 (lcomp (vKeys (vVar 2)) (.tp [(.nm 7), (.nm 8)]) (bnd (vOp eqD (vVar 7) (vVar 6)) boolV) (bnd (vVar 8) frzV) [7, 8])) aNil) (on1 sortD)) frzV) [6])) sNext)))
def f_p_steps_of : Fn := fnOf 2 9 b_p_steps_of
/-! ### p_mask_of -/
abbrev s_p_mask_of : Stmt := top 23
def b_p_mask_of : S := (sseq (sset 1 (vAt (.int 0))) (sseq (sfor (vSeq (vVar 0)) (.nm 2) (sseq (sset 1 (vOp (bitD Builtin.bitOr) (vVar 1) (vOp shlD (vAt (.int 1)) (vVar 2)))) (gh [.dl 2] sNext))) (sseq (sret (vVar 1)) sNext)))
def f_p_mask_of : Fn := fnOf 1 3 b_p_mask_of
/-! ### p_reached -/
abbrev s_p_reached : Stmt := top 22
def b_p_reached : S := (sseq (sset 2 (vDisp [((vVar 1), (bnd (aCons (vVar 1) aNil) mkL))])) (sseq (sset 3 (bnd (aCons (vVar 1) aNil) mkL)) (sseq (sset 4 (vAt (.int 0))) (sseq (swhile (bnd (vOp (cmpD fun i j => decide (i < j)) (vVar 4) (bnd (aCons (vVar 3) aNil) (on1 lenD))) boolV) (sseq (sset 5 (vOp ixD (vVar 3) (vVar 4))) (sseq (sset 4 (vOp addD (vVar 4) (vAt (.int 1)))) (sseq (sfor (vSeq (vOp ixD (vVar 0) (vVar 5))) (.nm 6) (sseq (sif (bnd (vOp ninT (vVar 6) (vVar 2)) boolV) (sseq (sput putDic (vVar 2) (vVar 6) (vOp addD (vOp ixD (vVar 2) (vVar 5)) (bnd (aCons (vVar 6) aNil) mkL))) (sseq (sdrop (bmM isLst (chgM appG) (vVar 3) (aCons (vVar 6) aNil))) sNext)) sNext) (gh [.dl 6] sNext))) (gh [.dl 5] sNext)))) 1000) (sseq (sret (vVar 2)) sNext)))))
def f_p_reached : Fn := fnOf 2 7 b_p_reached
/-! ### p_candidates -/
abbrev s_p_candidates : Stmt := top 25
def b_p_candidates : S := (sseq (sset 1 (bnd aNil mkL)) (sseq (sfor (vSeq (vVar 0)) (.nm 2) (sseq (sdrop (bmM isLst (chgM extG) (vVar 1) (aCons (lcomp (vSeq (vVar 0)) (.nm 5) (bnd (vOp neD (vVar 5) (vVar 2)) boolV) (bnd (bnd (aCons (vAt (.str "in")) (aCons (vVar 2) (aCons (vVar 5) aNil))) mkT) frzV) [5]) aNil))) (gh [.dl 2] sNext))) (sseq (sfor (vSeq (bnd (aCons (vAt (.str "apart")) (aCons (vAt (.str "cover")) aNil)) mkT)) (.nm 3) (sseq (sfor (vEnum (vVar 0)) (.tp [(.nm 4), (.nm 2)]) (sseq (sdrop (bmM isLst (chgM extG) (vVar 1) (aCons (lcomp (vSeq (vFz (vSl (vVar 0) (oSome (vVar 4)) oNone))) (.nm 5) yes (bnd (bnd (aCons (vVar 3) (aCons (vVar 2) (aCons (vVar 5) aNil))) mkT) frzV) [5]) aNil))) (gh [.dl 2, .dl 4] sNext))) (gh [.dl 3] sNext))) (sseq (sret (vVar 1)) sNext))))
def f_p_candidates : Fn := fnOf 1 6 b_p_candidates
/-! ### p_clashes -/
abbrev s_p_clashes : Stmt := top 24
def b_p_clashes : S := (sseq (sset 1 (vOp (bitD Builtin.bitAnd) (vVar 0) (vOp shrD (vVar 0) (vAt (.int 1))))) (sseq (sret (bnd (aCons (lcomp (vR k3 (aCons (vAt (.int 0)) (aCons (bnd (vVar 0) (dop1 bitsD)) (aCons (vAt (.int 2)) aNil)))) (.nm 2) yes (bnd (vOp eqD (vOp (bitD Builtin.bitAnd) (vOp shrD (vVar 1) (vVar 2)) (vAt (.int 1))) (vAt (.int 1))) frzV) [2]) aNil) (on1 anyD))) sNext))
def f_p_clashes : Fn := fnOf 1 3 b_p_clashes
/-! ### p_follows -/
abbrev s_p_follows : Stmt := top 28
def b_p_follows : S := (sseq (sasg (.tp [(.nm 2), (.nm 3)]) (bnd (aCons (bnd (vVar 0) (dop1 (fldD "Facts" "places"))) (aCons (vVar 1) aNil)) (callM f_p_breaking [false, false]))) (sseq (sret (bnd (aCons (vOp (bitD Builtin.bitOr) (vOp ixD (bnd (vVar 0) (dop1 (fldD "Facts" "masks"))) (vVar 2)) (vOp ixD (bnd (vVar 0) (dop1 (fldD "Facts" "masks"))) (vVar 3))) aNil) (callM f_p_clashes [false]))) sNext))
def f_p_follows : Fn := fnOf 2 4 b_p_follows
/-! ### m_Facts___init__ -/
abbrev s_m_Facts___init__ : Stmt := (clsBody (top 26)).getD 0 (.Pass ⟨0, 0, 0, 0⟩)
def b_m_Facts___init__ : S := (sseq (sfld "Facts" "names" (vVar 0) (bnd (aCons (vVar 1) aNil) (callM f_p_checked_regions [false]))) (sseq (sfld "Facts" "places" (vVar 0) (dcomp (vEnum (bnd (vVar 0) (dop1 (fldD "Facts" "names")))) (.tp [(.nm 7), (.nm 8)]) yes (vVar 8) (bnd (vVar 7) frzV) [7, 8])) (sseq (sfld "Facts" "said" (vVar 0) (bnd (aCons (bnd (vVar 0) (dop1 (fldD "Facts" "places"))) (aCons (vVar 2) aNil)) (callM f_p_checked_facts [false, false]))) (sseq (sfld "Facts" "steps" (vVar 0) (bnd (aCons (bnd (vVar 0) (dop1 (fldD "Facts" "places"))) (aCons (bnd (vVar 0) (dop1 (fldD "Facts" "said"))) aNil)) (callM f_p_steps_of [false, false]))) (sseq (sfld "Facts" "masks" (vVar 0) (lcomp (vR k1 (aCons (bnd (aCons (bnd (vVar 0) (dop1 (fldD "Facts" "steps"))) aNil) (on1 lenD)) aNil)) (.nm 3) yes (bnd (bnd (aCons (bnd (aCons (bnd (aCons (bnd (vVar 0) (dop1 (fldD "Facts" "steps"))) (aCons (vVar 3) aNil)) (callM f_p_reached [false, false])) aNil) (on1 listA)) aNil) (callM f_p_mask_of [false])) frzV) [3])) (sseq (sfor (vR k3 (aCons (vAt (.int 0)) (aCons (bnd (aCons (bnd (vVar 0) (dop1 (fldD "Facts" "masks"))) aNil) (on1 lenD)) (aCons (vAt (.int 2)) aNil)))) (.nm 3) (sseq (sif (bAnd (bnd (vOp eqD (vOp (bitD Builtin.bitAnd) (vOp shrD (vOp ixD (bnd (vVar 0) (dop1 (fldD "Facts" "masks"))) (vVar 3)) (vOp addD (vVar 3) (vAt (.int 1)))) (vAt (.int 1))) (vAt (.int 1))) boolV) (bnd (vOp eqD (vOp (bitD Builtin.bitAnd) (vOp shrD (vOp ixD (bnd (vVar 0) (dop1 (fldD "Facts" "masks"))) (vOp addD (vVar 3) (vAt (.int 1)))) (vVar 3)) (vAt (.int 1))) (vAt (.int 1))) boolV)) badS sNext) (gh [.dl 3] sNext))) (sseq (sfld "Facts" "forced" (vVar 0) (bnd (aCons (lcomp (vR k1 (aCons (bnd (aCons (bnd (vVar 0) (dop1 (fldD "Facts" "masks"))) aNil) (on1 lenD)) aNil)) (.nm 3) (bnd (vOp eqD (vOp (bitD Builtin.bitAnd) (vOp shrD (vOp ixD (bnd (vVar 0) (dop1 (fldD "Facts" "masks"))) (vOp (bitD Builtin.bitXor) (vVar 3) (vAt (.int 1)))) (vVar 3)) (vAt (.int 1))) (vAt (.int 1))) boolV) (bnd (vVar 3) frzV) [3]) aNil) (callM f_p_mask_of [false]))) (sseq (sfld "Facts" "closed" (vVar 0) (lcomp (vSeq (bnd (aCons (bnd (vVar 0) (dop1 (fldD "Facts" "names"))) aNil) (callM f_p_candidates [false]))) (.nm 6) (bnd (bnd (aCons (vVar 0) (aCons (vVar 6) aNil)) (callM f_p_follows [true, false])) truV) (bnd (vVar 6) frzV) [6])) sNext))))))))
def f_m_Facts___init__ : Fn := fnOf 3 9 b_m_Facts___init__
/-! ### l_rank -/
abbrev s_l_rank : Stmt := top 44
def b_l_rank : S := (sseq (sret (vOp addD (vOp mulD (vAt (.int 2)) (bmM isLst (on2 indexD) (vVar 0) (aCons (vOp ixD (vVar 1) (vAt (.int 0))) aNil))) (bnd (aCons (vOp ixD (vVar 1) (vAt (.int 1))) aNil) (on1 intD)))) sNext)
def f_l_rank : Fn := fnOf 2 2 b_l_rank
/-! ### l_steps -/
abbrev s_l_steps : Stmt := top 43
def b_l_steps : S := (sseq (sasg (.tp [(.nm 3), (.nm 4)]) (vVar 1)) (sseq (sset 2 (bnd aNil mkL)) (sseq (sfor (vSeq (vVar 0)) (.tp [(.nm 5), (.nm 6), (.nm 7)]) (sseq (sif (bAnd (bnd (vOp eqD (vVar 5) (vAt (.str "in"))) boolV) (bAnd (bnd (vVar 4) truV) (bnd (vOp eqD (vVar 6) (vVar 3)) boolV))) (sseq (sdrop (bmM isLst (chgM appG) (vVar 2) (aCons (bnd (aCons (vVar 7) (aCons (vAt (.bl true)) aNil)) mkT) aNil))) sNext) sNext) (sseq (sif (bAnd (bnd (vOp eqD (vVar 5) (vAt (.str "in"))) boolV) (bAnd (bNot (bnd (vVar 4) truV)) (bnd (vOp eqD (vVar 7) (vVar 3)) boolV))) (sseq (sdrop (bmM isLst (chgM appG) (vVar 2) (aCons (bnd (aCons (vVar 6) (aCons (vAt (.bl false)) aNil)) mkT) aNil))) sNext) sNext) (sseq (sif (bAnd (bnd (vOp eqD (vVar 5) (vAt (.str "apart"))) boolV) (bnd (vVar 4) truV)) (sseq (sset 2 (vOp addD (vVar 2) (lcomp (vSeq (bnd (aCons (bnd (aCons (vVar 6) (aCons (vVar 7) aNil)) mkT) (aCons (bnd (aCons (vVar 7) (aCons (vVar 6) aNil)) mkT) aNil)) mkL)) (.tp [(.nm 8), (.nm 9)]) (bnd (vOp eqD (vVar 8) (vVar 3)) boolV) (bnd (bnd (aCons (vVar 9) (aCons (vAt (.bl false)) aNil)) mkT) frzV) [8, 9]))) sNext) sNext) (sseq (sif (bAnd (bnd (vOp eqD (vVar 5) (vAt (.str "cover"))) boolV) (bNot (bnd (vVar 4) truV))) (sseq (sset 2 (vOp addD (vVar 2) (lcomp (vSeq (bnd (aCons (bnd (aCons (vVar 6) (aCons (vVar 7) aNil)) mkT) (aCons (bnd (aCons (vVar 7) (aCons (vVar 6) aNil)) mkT) aNil)) mkL)) (.tp [(.nm 8), (.nm 9)]) (bnd (vOp eqD (vVar 8) (vVar 3)) boolV) (bnd (bnd (aCons (vVar 9) (aCons (vAt (.bl true)) aNil)) mkT) frzV) [8, 9]))) sNext) sNext) (gh [.dl 5, .dl 6, .dl 7] sNext)))))) (sseq (sret (vVar 2)) sNext))))
def f_l_steps : Fn := fnOf 2 10 b_l_steps
/-! ### l_ways -/
abbrev s_l_ways : Stmt := top 45
def b_l_ways : S := (sseq (sset 3 (bnd (aCons (bnd (aCons (vVar 2) aNil) mkL) aNil) mkL)) (sseq (sset 4 (bnd (aCons (vVar 2) aNil) mkL)) (sseq (sset 5 (vAt (.int 0))) (sseq (swhile (bnd (vOp (cmpD fun i j => decide (i < j)) (vVar 5) (bnd (aCons (vVar 3) aNil) (on1 lenD))) boolV) (sseq (sset 6 (vOp ixD (vVar 3) (vVar 5))) (sseq (sset 5 (vOp addD (vVar 5) (vAt (.int 1)))) (sseq (sset 7 (bnd (aCons (lcomp (vSeq (bnd (aCons (vVar 1) (aCons (vOp ixD (vVar 6) (bnd (vAt (.int 1)) (dop1 negD))) aNil)) (callM f_l_steps [false, false]))) (.nm 9) yes (bnd (bnd (aCons (vVar 0) (aCons (vVar 9) aNil)) (callM f_l_rank [false, false])) frzV) [9]) aNil) (on1 sortD))) (sseq (sfor (vSeq (vVar 7)) (.nm 8) (sseq (sset 9 (bnd (aCons (vOp ixD (vVar 0) (vOp fdivD (vVar 8) (vAt (.int 2)))) (aCons (vOp eqD (vOp modD (vVar 8) (vAt (.int 2))) (vAt (.int 1))) aNil)) mkT)) (sseq (sif (bnd (vOp ninT (vVar 9) (vVar 4)) boolV) (sseq (sdrop (bmM isLst (chgM appG) (vVar 4) (aCons (vVar 9) aNil))) (sseq (sdrop (bmM isLst (chgM appG) (vVar 3) (aCons (vOp addD (vVar 6) (bnd (aCons (vVar 9) aNil) mkL)) aNil))) sNext)) sNext) (gh [.dl 8, .dl 9] sNext)))) (gh [.dl 6, .dl 7] sNext))))) 1000) (sseq (sret (vVar 3)) sNext)))))
def f_l_ways : Fn := fnOf 3 10 b_l_ways
/-! ### p_is_claim -/
abbrev s_p_is_claim : Stmt := top 30
def b_p_is_claim : S := (sseq (sif (bOr (bNot (bnd (bnd (vVar 1) (isiV (itB .tup))) truV)) (bnd (vOp neD (bnd (aCons (vVar 1) aNil) (on1 lenD)) (vAt (.int 2))) boolV)) (sseq (sret (vAt (.bl false))) sNext) sNext) (sseq (sret (vAnd (bnd (aCons (bnd (vVar 0) (dop1 (fldD "Facts" "places"))) (aCons (vOp ixD (vVar 1) (vAt (.int 0))) aNil)) (callM f_p_is_region [false, false])) (bnd (vOp ixD (vVar 1) (vAt (.int 1))) (isiV (itB .bl))))) sNext))
def f_p_is_claim : Fn := fnOf 2 2 b_p_is_claim
/-! ### p_claim_number -/
abbrev s_p_claim_number : Stmt := top 31
def b_p_claim_number : S := (sseq (sret (vOp addD (vFz (vOp mulD (vAt (.int 2)) (vOp ixD (bnd (vVar 0) (dop1 (fldD "Facts" "places"))) (vOp ixD (vVar 1) (vAt (.int 0)))))) (bnd (aCons (vOp ixD (vVar 1) (vAt (.int 1))) aNil) (on1 intD)))) sNext)
def f_p_claim_number : Fn := fnOf 2 2 b_p_claim_number
/-! ### p_told_claims -/
abbrev s_p_told_claims : Stmt := top 29
def b_p_told_claims : S := (sseq (sret (lcomp (vSeq (vVar 1)) (.nm 2) yes (bnd (bnd (aCons (vOp ixD (vVar 0) (vOp fdivD (vVar 2) (vAt (.int 2)))) (aCons (vOp eqD (vOp modD (vVar 2) (vAt (.int 2))) (vAt (.int 1))) aNil)) mkT) frzV) [2])) sNext)
def f_p_told_claims : Fn := fnOf 2 3 b_p_told_claims
/-! ### m_Facts_way -/
abbrev s_m_Facts_way : Stmt := (clsBody (top 26)).getD 4 (.Pass ⟨0, 0, 0, 0⟩)
def b_m_Facts_way : S := (sseq (sfor (vEnum (bnd (aCons (vVar 1) (aCons (vVar 2) aNil)) mkL)) (.tp [(.nm 4), (.nm 5)]) (sseq (sif (bNot (bnd (bnd (aCons (vVar 0) (aCons (vVar 5) aNil)) (callM f_p_is_claim [false, false])) truV)) (sseq badS sNext) sNext) (gh [.dl 4, .dl 5] sNext))) (sseq (sset 3 (vGet (bnd (aCons (bnd (vVar 0) (dop1 (fldD "Facts" "steps"))) (aCons (bnd (aCons (vVar 0) (aCons (vVar 1) aNil)) (callM f_p_claim_number [false, false])) aNil)) (callM f_p_reached [false, false])) (bnd (aCons (vVar 0) (aCons (vVar 2) aNil)) (callM f_p_claim_number [false, false])))) (sseq (sif (bnd (vOp (isD false) (vVar 3) (vAt .non)) boolV) (sseq (sret (vAt .non)) sNext) sNext) (sseq (sret (bnd (aCons (bnd (vVar 0) (dop1 (fldD "Facts" "names"))) (aCons (vVar 3) aNil)) (callM f_p_told_claims [false, false]))) sNext))))
def f_m_Facts_way : Fn := fnOf 3 6 b_m_Facts_way
/-! ### p_law -/
abbrev s_p_law : Stmt := top 46
def b_p_law : S := (sseq (sfor (vR k1 (aCons (vAt (.int 4)) aNil)) (.nm 1) (sseq (sset 2 (bnd (aCons (vVar 0) (aCons (vVar 1) aNil)) (callM f_l_pile [false, false]))) (sseq (sset 3 (bnd (aCons (vVar 2) (aCons (vOp addD (vAt (.int 1)) (bnd (aCons (vVar 2) (aCons (vAt (.int 8)) aNil)) (callMm f_l_take [false]))) aNil)) (callMm f_l_names [false]))) (sseq (sset 4 (bnd (aCons (vVar 2) (aCons (vVar 3) (aCons (vAt (.int 12)) aNil))) (callMm f_l_held [false, false]))) (sseq (sset 5 (vFz (bnd (aCons (vVar 3) (aCons (vVar 4) aNil)) (mkM "Facts" f_m_Facts___init__ [false, false])))) (sseq (sset 6 (bnd aNil mkL)) (sseq (sfor (vSeq (vVar 3)) (.nm 7) (sseq (sset 6 (vOp addD (vVar 6) (bnd (aCons (bnd (aCons (vVar 7) (aCons (vAt (.bl false)) aNil)) mkT) (aCons (bnd (aCons (vVar 7) (aCons (vAt (.bl true)) aNil)) mkT) aNil)) mkL))) (gh [.dl 7] sNext))) (sseq (sfor (vSeq (vVar 6)) (.nm 8) (sseq (sset 9 (bnd (aCons (vVar 3) (aCons (vVar 4) (aCons (vVar 8) aNil))) (callM f_l_ways [false, false, false]))) (sseq (sfor (vSeq (vVar 6)) (.nm 10) (sseq (sset 11 (vOp ixD (vOp addD (lcomp (vSeq (vVar 9)) (.nm 14) (bnd (vOp eqD (vOp ixD (vVar 14) (bnd (vAt (.int 1)) (dop1 negD))) (vVar 10)) boolV) (bnd (vVar 14) frzV) [14]) (bnd (aCons (vAt .non) aNil) mkL)) (vAt (.int 0)))) (sseq (sset 12 (methM "Facts" "way" (callM f_m_Facts_way [false, false, false]) (vVar 5) (aCons (vVar 8) (aCons (vVar 10) aNil)))) (sseq (sif (bnd (vOp neD (bnd (aCons (vVar 12) aNil) (on1 strA)) (bnd (aCons (vVar 11) aNil) (on1 strA))) boolV) (sseq (sret (vAt (.bl false))) sNext) sNext) (sseq (sset 13 (vFz (methM "Facts" "way" (callM f_m_Facts_way [false, false, false]) (vVar 5) (aCons (bnd (aCons (vOp ixD (vVar 10) (vAt (.int 0))) (aCons (vNot (vOp ixD (vVar 10) (vAt (.int 1)))) aNil)) mkT) (aCons (bnd (aCons (vOp ixD (vVar 8) (vAt (.int 0))) (aCons (vNot (vOp ixD (vVar 8) (vAt (.int 1)))) aNil)) mkT) aNil))))) (sseq (sif (bnd (vOp neD (vOp (isD false) (vVar 13) (vAt .non)) (vOp (isD false) (vVar 11) (vAt .non))) boolV) (sseq (sret (vAt (.bl false))) sNext) sNext) (sseq (sif (bnd (vOp (isD true) (vVar 11) (vAt .non)) boolV) (sseq (sdrop (bmM isLst (chgM appG) (vVar 12) (aCons (vAt (.str "x")) aNil))) (sseq (sif (bOr (bnd (vOp neD (bnd (aCons (vVar 13) aNil) (on1 lenD)) (bnd (aCons (vVar 11) aNil) (on1 lenD))) boolV) (bnd (vOp neD (vFz (methM "Facts" "way" (callM f_m_Facts_way [false, false, false]) (vVar 5) (aCons (vVar 8) (aCons (vVar 10) aNil)))) (vVar 11)) boolV)) (sseq (sret (vAt (.bl false))) sNext) sNext) sNext)) sNext) (gh [.dl 10, .dl 11, .dl 12, .dl 13] sNext)))))))) (gh [.dl 8, .dl 9] sNext)))) (gh [.dl 1, .dl 2, .dl 3, .dl 4, .dl 5, .dl 6] sNext))))))))) (sseq (sret (vAt (.bl true))) sNext))
def f_p_law : Fn := fnOf 1 15 b_p_law
end K02

namespace K02
open PySem PySem.Spec PyProof.Rows L2 TL
/-! ### the plain functions -/
def g_l_pile (x0 x1 : D) : R D := runR (β := Unit) (
bC (yb (opF (lenD x0)) fun a3 =>
yb (opF (ltD x1 a3)) fun a4 =>
yb (bolR a4) fun b2 =>
if b2 = true then
yb (opF (ixD x0 x1)) fun a5 =>
.nx a5
else
.nx (dI 0)) fun s1 =>
yb (opF (intD s1)) fun a6 =>
yb (opF (powD (dI 10) (dI 50))) fun a7 =>
yb (opF (powD (dI 10) (dI 50))) fun a8 =>
yb (opF (mulD a7 a8)) fun a9 =>
yb (opF (powD (dI 10) (dI 50))) fun a10 =>
yb (opF (mulD a9 a10)) fun a11 =>
yb (opF (modD a6 a11)) fun a12 =>
yb (opF (absD s1)) fun a13 =>
yb (opF (powD (dI 10) (dI 18))) fun a14 =>
yb (opF (geD a13 a14)) fun a15 =>
yb (opF (intD a15)) fun a16 =>
yb (opF (mulD a12 a16)) fun a17 =>
yb (opF (intD s1)) fun a18 =>
yb (opF (modD a18 (dI 2147483647))) fun a19 =>
yb (opA (mulD (dI 97) x1)) fun a20 =>
.rt (dL [a17, a19, a20]))
theorem r_l_pile (x0 x1 : D) : Rf0 f_l_pile [(.frz, x0), (.frz, x1)] .own (g_l_pile x0 x1) := by
  unfold f_l_pile b_l_pile g_l_pile
  exact q_def ([some (.frz, x0), some (.frz, x1), none, none] : Fs) rfl rfl rfl <|
q_set <| q_at <| q_setF rfl <| q_ifJ (fun s1 : D => ([some (.frz, x0), some (.frz, x1), some (.frz, s1), none] : Fs)) (q_bnd <| q_op <| q_var rfl <| q_bnd <| q_aCons <| q_var rfl <| q_aNil <| q_on1 <| q_1F rfl fun a3 =>
q_dF rfl rfl fun a4 =>
q_bol rfl fun b2 =>
q_iteF (q_set <| q_op <| q_var rfl <| q_var rfl <| q_dF rfl rfl fun a5 =>
q_setF rfl <| q_end rfl) (q_end rfl)) fun s1 =>
q_set <| q_op <| q_bnd <| q_aCons <| q_var rfl <| q_aNil <| q_on1 <| q_1F rfl fun a6 =>
q_op <| q_op <| q_op <| q_at <| q_at <| q_dF rfl rfl fun a7 =>
q_op <| q_at <| q_at <| q_dF rfl rfl fun a8 =>
q_dF rfl rfl fun a9 =>
q_op <| q_at <| q_at <| q_dF rfl rfl fun a10 =>
q_dF rfl rfl fun a11 =>
q_dF rfl rfl fun a12 =>
q_setF rfl <| q_sret <| q_bnd <| q_aCons <| q_op <| q_var rfl <| q_bnd <| q_aCons <| q_op <| q_bnd <| q_aCons <| q_var rfl <| q_aNil <| q_on1 <| q_1F rfl fun a13 =>
q_op <| q_at <| q_at <| q_dF rfl rfl fun a14 =>
q_dF rfl rfl fun a15 =>
q_aNil <| q_on1 <| q_1F rfl fun a16 =>
q_dF rfl rfl fun a17 =>
q_aCons <| q_op <| q_bnd <| q_aCons <| q_var rfl <| q_aNil <| q_on1 <| q_1F rfl fun a18 =>
q_at <| q_dF rfl rfl fun a19 =>
q_aCons <| q_fz <| q_op <| q_at <| q_var rfl <| q_dA rfl rfl fun a20 =>
q_aNil <| q_mkL rfl <| q_rt rfl
def g_l_mixed (x0 x1 : D) : R D := runR (β := Unit) (
yb (opF (intD x0)) fun a1 =>
yb (opF (modD a1 (dI 2147483647))) fun a2 =>
yb (opF (mulD a2 (dI 48271))) fun a3 =>
yb (opA (mulD x1 (dI 69621))) fun a4 =>
yb (opF (addD a3 a4)) fun a5 =>
yb (opF (addD a5 (dI 11))) fun a6 =>
yb (opF (modD a6 (dI 2147483647))) fun a7 =>
yb (opF (mulD a7 a7)) fun a8 =>
yb (opF (modD a8 (dI 2147483629))) fun a9 =>
yb (opF (mulD a9 a9)) fun a10 =>
yb (opF (modD a10 (dI 2147483587))) fun a11 =>
yb (opF (fdivD a11 (dI 64))) fun a12 =>
.rt a12)
theorem r_l_mixed (x0 x1 : D) : Rf0 f_l_mixed [(.frz, x0), (.frz, x1)] .frz (g_l_mixed x0 x1) := by
  unfold f_l_mixed b_l_mixed g_l_mixed
  exact q_def ([some (.frz, x0), some (.frz, x1), none] : Fs) rfl rfl rfl <|
q_set <| q_op <| q_op <| q_op <| q_op <| q_op <| q_bnd <| q_aCons <| q_var rfl <| q_aNil <| q_on1 <| q_1F rfl fun a1 =>
q_at <| q_dF rfl rfl fun a2 =>
q_at <| q_dF rfl rfl fun a3 =>
q_fz <| q_op <| q_var rfl <| q_at <| q_dA rfl rfl fun a4 =>
q_dF rfl rfl fun a5 =>
q_at <| q_dF rfl rfl fun a6 =>
q_at <| q_dF rfl rfl fun a7 =>
q_setF rfl <| q_set <| q_op <| q_op <| q_var rfl <| q_var rfl <| q_dF rfl rfl fun a8 =>
q_at <| q_dF rfl rfl fun a9 =>
q_setF rfl <| q_sret <| q_op <| q_op <| q_op <| q_var rfl <| q_var rfl <| q_dF rfl rfl fun a10 =>
q_at <| q_dF rfl rfl fun a11 =>
q_at <| q_dF rfl rfl fun a12 =>
q_rt rfl
def g_l_take (x0 x1 : D) : R (D × D) := runM (β := Unit) (
yb (opF (ixD x0 (dI 0))) fun a2 =>
yb (opF (eqD a2 (dI 0))) fun a3 =>
yb (bolR a3) fun b1 =>
if b1 = true then
yb (opF (ixD x0 (dI 2))) fun a4 =>
yb (opF (addD a4 (dI 1))) fun a5 =>
yb (optR (putL x0 (dI 2) a5)) fun a6 =>
yb (opF (ixD a6 (dI 1))) fun a7 =>
yb (opF (ixD a6 (dI 2))) fun a8 =>
yb (g_l_mixed a7 a8) fun a9 =>
yb (opF (modD a9 x1)) fun a10 =>
.rt (a10, a6)
else
yb (opF (ixD x0 (dI 0))) fun a11 =>
yb (opF (intD a11)) fun a12 =>
yb (opF (modD a12 x1)) fun a13 =>
yb (opF (ixD x0 (dI 0))) fun a14 =>
yb (opF (fdivD a14 x1)) fun a15 =>
yb (optR (putL x0 (dI 0) a15)) fun a16 =>
.rt (a13, a16))
theorem r_l_take (x0 x1 : D) : Rf1 f_l_take x0 [(.frz, x1)] .frz (g_l_take x0 x1) := by
  unfold f_l_take b_l_take g_l_take
  exact q_defM ([some (.io, x0), some (.frz, x1), none] : Fs) rfl rfl rfl <|
q_if <| q_bnd <| q_op <| q_op <| q_io rfl <| q_at <| q_dF rfl rfl fun a2 =>
q_at <| q_dF rfl rfl fun a3 =>
q_bol rfl fun b1 =>
q_iteF (q_assoc <| q_sput <| q_op <| q_op <| q_io rfl <| q_at <| q_dF rfl rfl fun a4 =>
q_at <| q_dF rfl rfl fun a5 =>
q_frz <| q_io rfl <| q_at <| q_putK rfl rfl rfl fun a6 =>
q_assoc <| q_sret <| q_op <| q_bnd <| q_aCons <| q_op <| q_io rfl <| q_at <| q_dF rfl rfl fun a7 =>
q_aCons <| q_op <| q_io rfl <| q_at <| q_dF rfl rfl fun a8 =>
q_aNil <| q_callF rfl rfl (r_l_mixed _ _) fun a9 =>
q_var rfl <| q_dF rfl rfl fun a10 =>
q_rt ⟨rfl, rfl⟩) (q_skip <| q_set <| q_op <| q_bnd <| q_aCons <| q_op <| q_io rfl <| q_at <| q_dF rfl rfl fun a11 =>
q_aNil <| q_on1 <| q_1F rfl fun a12 =>
q_var rfl <| q_dF rfl rfl fun a13 =>
q_setF rfl <| q_sput <| q_op <| q_op <| q_io rfl <| q_at <| q_dF rfl rfl fun a14 =>
q_var rfl <| q_dF rfl rfl fun a15 =>
q_frz <| q_io rfl <| q_at <| q_putK rfl rfl rfl fun a16 =>
q_sret <| q_var rfl <| q_rt ⟨rfl, rfl⟩)
def g_l_names (x0 x1 : D) : R (D × D) := runM (β := Unit) (
yb (okR (isStr (dS ""))) fun _ =>
yb (g_l_take x0 (dI 12)) fun a2 =>
yb (rngR k1 [a2.1]) fun xs1 =>
yb (capR xs1) fun ys7 =>
yb (compS (fun d3 s4 =>
yb (g_l_take s4 (dI 26)) fun a5 =>
yb (opF (ixD (dS "abcdefghijklmnopqrstuvwxyz") a5.1)) fun a6 =>
.ok (some a6, a5.2)
) ys7 a2.2) fun a8 =>
yb (opF (joinD (dS "") (dL a8.1))) fun a9 =>
yb (opF (lenD a9)) fun a10 =>
yb (opF (addD a10 (dI 1))) fun a11 =>
yb (g_l_take a8.2 a11) fun a12 =>
yb (g_l_take a12.2 (dI 26)) fun a13 =>
yb (g_l_take a13.2 (dI 12)) fun a14 =>
yb (opF (ixD (dL [(dI 1), (dI 3), (dI 5), (dI 7), (dI 9), (dI 11), (dI 15), (dI 17), (dI 19), (dI 21), (dI 23), (dI 25)]) a14.1)) fun a15 =>
yb (andR (yb (opF (modD a13.1 (dI 4))) fun a17 =>
yb (opF (eqD a17 (dI 3))) fun a18 =>
yb (bolR a18) fun b16 =>
.ok b16) (yb (opF (ltD x1 (dI 13))) fun a20 =>
yb (bolR a20) fun b19 =>
.ok b19)) fun b21 =>
if b21 = true then
yb (opF (fdivD a13.1 (dI 4))) fun a22 =>
yb (opF (modD a15 (dI 4))) fun a23 =>
yb (opF (addD a22 a23)) fun a24 =>
yb (intR a24) fun i25 =>
yb (opO (slD (dL [(dS "a"), (dS "b"), (dS "ab"), (dS "c"), (dS "ba"), (dS "abc"), (dS "aa"), (dS "bc"), (dS "aab"), (dS "ca"), (dS "cab"), (dS "d"), (dS "abd"), (dS "bca"), (dS "e")]) i25 none)) fun a26 =>
yb (opO (addD a26 (dL [(dS "a"), (dS "b"), (dS "ab"), (dS "c"), (dS "ba"), (dS "abc"), (dS "aa"), (dS "bc"), (dS "aab"), (dS "ca"), (dS "cab"), (dS "d"), (dS "abd"), (dS "bca"), (dS "e")]))) fun a27 =>
yb (intR x1) fun i28 =>
yb (opO (slD a27 none i28)) fun a29 =>
.rt (a29, a14.2)
else
yb (opF (lenD a9)) fun a30 =>
yb (opF (ltD a30 (dI 11))) fun a31 =>
yb (opF (intD a31)) fun a32 =>
yb (opF (mulD (dS "a") a32)) fun a33 =>
yb (rngR k1 [x1]) fun xs34 =>
yb (capR xs34) fun ys47 =>
yb (compR (fun d35 =>
yb (intR a12.1) fun i37 =>
yb (opF (slD a9 none i37)) fun a38 =>
yb (opA (mulD a15 d35)) fun a39 =>
yb (opF (addD a13.1 a39)) fun a40 =>
yb (opF (modD a40 (dI 26))) fun a41 =>
yb (opF (ixD (dS "abcdefghijklmnopqrstuvwxyz") a41)) fun a42 =>
yb (opF (addD a38 a42)) fun a43 =>
yb (intR a12.1) fun i44 =>
yb (opF (slD a9 i44 none)) fun a45 =>
yb (opF (addD a43 a45)) fun a46 =>
.ok (some a46)
) ys47) fun a48 =>
yb (lstR (dL a48)) fun xs49 =>
yb (capR (enumD 0 xs49)) fun ys56 =>
yb (compR (fun d50 =>
yb (unT2 d50) fun t52 =>
yb (opF (modD t52.1 (dI 2))) fun a53 =>
yb (opF (mulD a33 a53)) fun a54 =>
yb (opF (addD t52.2 a54)) fun a55 =>
.ok (some a55)
) ys56) fun a57 =>
.rt ((dL a57), a14.2))
theorem r_l_names (x0 x1 : D) : Rf1 f_l_names x0 [(.frz, x1)] .own (g_l_names x0 x1) := by
  unfold f_l_names b_l_names g_l_names
  exact q_defM ([some (.io, x0), some (.frz, x1), none, none, none, none, none, none, none, none, none, none] : Fs) rfl rfl rfl <|
q_set <| q_at <| q_setF rfl <| q_set <| q_bm <| q_at <| q_bmK rfl <| q_aCons <| q_lc <| q_rng <| q_aCons <| q_bnd <| q_aCons <| q_io rfl <| q_aCons <| q_at <| q_aNil <| q_callmF rfl rfl rfl rfl (r_l_take _ _) fun a2 =>
q_aNil <| q_rngK rfl fun xs1 =>
q_compS (fun s4 : D => ([some (.io, s4), some (.frz, x1), some (.frz, (dS "abcdefghijklmnopqrstuvwxyz")), none, none, none, none, none, none, none, none, none] : Fs)) rfl rfl (fun d3 s4 =>
q_an rfl <| q_a0 <| q_step <| q_yes <| q_bnd <| q_op <| q_var rfl <| q_bnd <| q_aCons <| q_io rfl <| q_aCons <| q_at <| q_aNil <| q_callmF rfl rfl rfl rfl (r_l_take _ _) fun a5 =>
q_dF rfl rfl fun a6 =>
q_frz <| q_ok rfl rfl) fun a8 =>
q_aNil <| q_on2 <| q_dF rfl rfl fun a9 =>
q_setF rfl <| q_set <| q_bnd <| q_aCons <| q_io rfl <| q_aCons <| q_op <| q_bnd <| q_aCons <| q_var rfl <| q_aNil <| q_on1 <| q_1F rfl fun a10 =>
q_at <| q_dF rfl rfl fun a11 =>
q_aNil <| q_callmF rfl rfl rfl rfl (r_l_take _ _) fun a12 =>
q_setF rfl <| q_set <| q_bnd <| q_aCons <| q_io rfl <| q_aCons <| q_at <| q_aNil <| q_callmF rfl rfl rfl rfl (r_l_take _ _) fun a13 =>
q_setF rfl <| q_set <| q_op <| q_bnd <| q_aCons <| q_at <| q_aCons <| q_at <| q_aCons <| q_at <| q_aCons <| q_at <| q_aCons <| q_at <| q_aCons <| q_at <| q_aCons <| q_at <| q_aCons <| q_at <| q_aCons <| q_at <| q_aCons <| q_at <| q_aCons <| q_at <| q_aCons <| q_at <| q_aNil <| q_mkL rfl <| q_bnd <| q_aCons <| q_io rfl <| q_aCons <| q_at <| q_aNil <| q_callmF rfl rfl rfl rfl (r_l_take _ _) fun a14 =>
q_dF rfl rfl fun a15 =>
q_setF rfl <| q_if <| q_sub (V := id) (F := fun _ => ([some (.io, a14.2), some (.frz, x1), some (.frz, (dS "abcdefghijklmnopqrstuvwxyz")), some (.frz, a9), some (.frz, a12.1), some (.frz, a13.1), some (.frz, a15), none, none, none, none, none] : Fs)) (q_and (q_in <| q_bnd <| q_op <| q_op <| q_var rfl <| q_at <| q_dF rfl rfl fun a17 =>
q_at <| q_dF rfl rfl fun a18 =>
q_bol rfl fun b16 =>
q_ok rfl rfl) (q_in <| q_bnd <| q_op <| q_var rfl <| q_at <| q_dF rfl rfl fun a20 =>
q_bol rfl fun b19 =>
q_ok rfl rfl)) fun b21 =>
q_iteF (q_assoc <| q_set <| q_bnd <| q_aCons <| q_at <| q_aCons <| q_at <| q_aCons <| q_at <| q_aCons <| q_at <| q_aCons <| q_at <| q_aCons <| q_at <| q_aCons <| q_at <| q_aCons <| q_at <| q_aCons <| q_at <| q_aCons <| q_at <| q_aCons <| q_at <| q_aCons <| q_at <| q_aCons <| q_at <| q_aCons <| q_at <| q_aCons <| q_at <| q_aNil <| q_mkL rfl <| q_setO rfl <| q_assoc <| q_sret <| q_sl <| q_op <| q_sl <| q_own rfl <| q_oSome <| q_op <| q_op <| q_var rfl <| q_at <| q_dF rfl rfl fun a22 =>
q_op <| q_var rfl <| q_at <| q_dF rfl rfl fun a23 =>
q_dF rfl rfl fun a24 =>
q_int rfl fun i25 =>
q_oNone <| q_1O rfl fun a26 =>
q_own rfl <| q_dO rfl rfl fun a27 =>
q_oNone <| q_oSome <| q_var rfl <| q_int rfl fun i28 =>
q_1O rfl fun a29 =>
q_rt ⟨rfl, rfl⟩) (q_skip <| q_set <| q_op <| q_at <| q_bnd <| q_aCons <| q_op <| q_bnd <| q_aCons <| q_var rfl <| q_aNil <| q_on1 <| q_1F rfl fun a30 =>
q_at <| q_dF rfl rfl fun a31 =>
q_aNil <| q_on1 <| q_1F rfl fun a32 =>
q_dF rfl rfl fun a33 =>
q_setF rfl <| q_set <| q_lc <| q_rng <| q_aCons <| q_var rfl <| q_aNil <| q_rngK rfl fun xs34 =>
q_comp (f0 := ([some (.io, a14.2), some (.frz, x1), some (.frz, (dS "abcdefghijklmnopqrstuvwxyz")), some (.frz, a9), some (.frz, a12.1), some (.frz, a13.1), some (.frz, a15), some (.frz, a33), none, none, none, none] : Fs)) rfl rfl (fun d35 =>
q_an rfl <| q_a0 <| q_step <| q_yes <| q_bnd <| q_op <| q_op <| q_sl <| q_var rfl <| q_oNone <| q_oSome <| q_var rfl <| q_int rfl fun i37 =>
q_1F rfl fun a38 =>
q_op <| q_var rfl <| q_op <| q_op <| q_var rfl <| q_fz <| q_op <| q_var rfl <| q_var rfl <| q_dA rfl rfl fun a39 =>
q_dF rfl rfl fun a40 =>
q_at <| q_dF rfl rfl fun a41 =>
q_dF rfl rfl fun a42 =>
q_dF rfl rfl fun a43 =>
q_sl <| q_var rfl <| q_oSome <| q_var rfl <| q_int rfl fun i44 =>
q_oNone <| q_1F rfl fun a45 =>
q_dF rfl rfl fun a46 =>
q_frz <| q_ok rfl rfl) fun a48 =>
q_setO rfl <| q_sret <| q_lc <| q_enu <| q_own rfl <| q_enuS rfl fun xs49 =>
q_comp (f0 := ([some (.io, a14.2), some (.frz, x1), some (.frz, (dS "abcdefghijklmnopqrstuvwxyz")), some (.frz, a9), some (.frz, a12.1), some (.frz, a13.1), some (.frz, a15), some (.frz, a33), some (.bor, (dL a48)), none, none, none] : Fs)) rfl rfl (fun d50 =>
q_a2 fun t52 =>
q_an rfl <| q_an rfl <| q_a0 <| q_step <| q_yes <| q_bnd <| q_op <| q_var rfl <| q_op <| q_var rfl <| q_op <| q_var rfl <| q_at <| q_dF rfl rfl fun a53 =>
q_dF rfl rfl fun a54 =>
q_dF rfl rfl fun a55 =>
q_frz <| q_ok rfl rfl) fun a57 =>
q_rt ⟨rfl, rfl⟩)
def g_l_all (x0 : D) : R D := runR (β := Unit) (
yb (opO (revD x0)) fun a2 =>
yb (lstR a2) fun xs1 =>
bC (forC xs1 (dL [(dL [])]) fun d4 s3 =>
yb (lstR s3) fun xs5 =>
yb (capR xs5) fun ys9 =>
yb (compR (fun d6 =>
yb (opO (addD (dL [d4]) d6)) fun a8 =>
.ok (some a8)
) ys9) fun a10 =>
yb (opO (addD s3 (dL a10))) fun a11 =>
.nx a11) fun s12 =>
.rt s12)
theorem r_l_all (x0 : D) : Rf0 f_l_all [(.frz, x0)] .own (g_l_all x0) := by
  unfold f_l_all b_l_all g_l_all
  exact q_def ([some (.frz, x0), none, none, none] : Fs) rfl rfl rfl <|
q_set <| q_bnd <| q_aCons <| q_bnd <| q_aNil <| q_mkL rfl <| q_aNil <| q_mkL rfl <| q_setO rfl <| q_for <| q_seq <| q_bnd <| q_var rfl <| q_1O rfl fun a2 =>
q_seqO fun xs1 =>
q_forK (fun s3 : D => ([some (.frz, x0), some (.own, s3), none, none] : Fs)) rfl (fun d4 s3 =>
q_an rfl <| q_a0 <| q_set <| q_op <| q_own rfl <| q_lc <| q_seq <| q_own rfl <| q_seqS rfl fun xs5 =>
q_comp (f0 := ([some (.frz, x0), some (.bor, s3), some (.frz, d4), none] : Fs)) rfl rfl (fun d6 =>
q_an rfl <| q_a0 <| q_step <| q_yes <| q_bnd <| q_op <| q_bnd <| q_aCons <| q_var rfl <| q_aNil <| q_mkL rfl <| q_var rfl <| q_dO rfl rfl fun a8 =>
q_frzO <| q_ok rfl rfl) fun a10 =>
q_dO rfl rfl fun a11 =>
q_setO rfl <| q_gh rfl <| q_end rfl) fun s12 =>
q_sret <| q_own rfl <| q_rt rfl
def g_l_facts (x0 x1 x2 : D) : R (D × D) := runM (β := Unit) (
yb (g_l_take x0 (dI 5)) fun a1 =>
yb (opF (addD x2 (dI 1))) fun a3 =>
yb (g_l_take a1.2 a3) fun a4 =>
yb (rngR k1 [a4.1]) fun xs2 =>
bC (forC xs2 (a4.2, (dL [])) fun d6 s5 =>
yb (g_l_take s5.1 (dI 5)) fun a7 =>
yb (opF (ixD (dL [(dI 0), (dI 0), (dI 1), (dI 1), (dI 2)]) a7.1)) fun a8 =>
yb (opF (ixD (dL [(dS "in"), (dS "apart"), (dS "cover")]) a8)) fun a9 =>
bC (yb (opF (eqD a1.1 (dI 1))) fun a12 =>
yb (bolR a12) fun b11 =>
if b11 = true then
.nx (dS "in")
else
.nx a9) fun s10 =>
bC (yb (opF (eqD a1.1 (dI 2))) fun a15 =>
yb (bolR a15) fun b14 =>
if b14 = true then
yb (g_l_take a7.2 (dI 2)) fun a16 =>
yb (opF (ixD (dL [(dS "in"), (dS "apart")]) a16.1)) fun a17 =>
.nx (a16.2, a17)
else
.nx (a7.2, s10)) fun s13 =>
yb (opF (lenD x1)) fun a18 =>
yb (g_l_take s13.1 a18) fun a19 =>
yb (opF (ixD x1 a19.1)) fun a20 =>
yb (opF (lenD x1)) fun a21 =>
yb (g_l_take a19.2 a21) fun a22 =>
yb (opF (ixD x1 a22.1)) fun a23 =>
yb (okR (isLst s5.2)) fun _ =>
yb (chgR appG s5.2 [(dTu [s13.2, a20, a23])]) fun a24 =>
.nx (a22.2, a24.1)) fun s25 =>
.rt (s25.2, s25.1))
theorem r_l_facts (x0 x1 x2 : D) : Rf1 f_l_facts x0 [(.frz, x1), (.frz, x2)] .own (g_l_facts x0 x1 x2) := by
  unfold f_l_facts b_l_facts g_l_facts
  exact q_defM ([some (.io, x0), some (.frz, x1), some (.frz, x2), none, none, none, none, none, none] : Fs) rfl rfl rfl <|
q_set <| q_bnd <| q_aNil <| q_mkL rfl <| q_setO rfl <| q_set <| q_bnd <| q_aCons <| q_io rfl <| q_aCons <| q_at <| q_aNil <| q_callmF rfl rfl rfl rfl (r_l_take _ _) fun a1 =>
q_setF rfl <| q_for <| q_rng <| q_aCons <| q_bnd <| q_aCons <| q_io rfl <| q_aCons <| q_op <| q_var rfl <| q_at <| q_dF rfl rfl fun a3 =>
q_aNil <| q_callmF rfl rfl rfl rfl (r_l_take _ _) fun a4 =>
q_aNil <| q_rngK rfl fun xs2 =>
q_forK (fun s5 : D × D => ([some (.io, s5.1), some (.frz, x1), some (.frz, x2), some (.own, s5.2), some (.frz, a1.1), none, none, none, none] : Fs)) rfl (fun d6 s5 =>
q_an rfl <| q_a0 <| q_set <| q_op <| q_bnd <| q_aCons <| q_at <| q_aCons <| q_at <| q_aCons <| q_at <| q_aNil <| q_mkL rfl <| q_op <| q_bnd <| q_aCons <| q_at <| q_aCons <| q_at <| q_aCons <| q_at <| q_aCons <| q_at <| q_aCons <| q_at <| q_aNil <| q_mkL rfl <| q_bnd <| q_aCons <| q_io rfl <| q_aCons <| q_at <| q_aNil <| q_callmF rfl rfl rfl rfl (r_l_take _ _) fun a7 =>
q_dF rfl rfl fun a8 =>
q_dF rfl rfl fun a9 =>
q_setF rfl <| q_ifJ (fun s10 : D => ([some (.io, a7.2), some (.frz, x1), some (.frz, x2), some (.own, s5.2), some (.frz, a1.1), some (.frz, d6), some (.frz, s10), none, none] : Fs)) (q_bnd <| q_op <| q_var rfl <| q_at <| q_dF rfl rfl fun a12 =>
q_bol rfl fun b11 =>
q_iteF (q_set <| q_at <| q_setF rfl <| q_end rfl) (q_end rfl)) fun s10 =>
q_ifJ (fun s13 : D × D => ([some (.io, s13.1), some (.frz, x1), some (.frz, x2), some (.own, s5.2), some (.frz, a1.1), some (.frz, d6), some (.frz, s13.2), none, none] : Fs)) (q_bnd <| q_op <| q_var rfl <| q_at <| q_dF rfl rfl fun a15 =>
q_bol rfl fun b14 =>
q_iteF (q_set <| q_op <| q_bnd <| q_aCons <| q_at <| q_aCons <| q_at <| q_aNil <| q_mkL rfl <| q_bnd <| q_aCons <| q_io rfl <| q_aCons <| q_at <| q_aNil <| q_callmF rfl rfl rfl rfl (r_l_take _ _) fun a16 =>
q_dF rfl rfl fun a17 =>
q_setF rfl <| q_end rfl) (q_end rfl)) fun s13 =>
q_set <| q_op <| q_var rfl <| q_bnd <| q_aCons <| q_io rfl <| q_aCons <| q_bnd <| q_aCons <| q_var rfl <| q_aNil <| q_on1 <| q_1F rfl fun a18 =>
q_aNil <| q_callmF rfl rfl rfl rfl (r_l_take _ _) fun a19 =>
q_dF rfl rfl fun a20 =>
q_setF rfl <| q_set <| q_op <| q_var rfl <| q_bnd <| q_aCons <| q_io rfl <| q_aCons <| q_bnd <| q_aCons <| q_var rfl <| q_aNil <| q_on1 <| q_1F rfl fun a21 =>
q_aNil <| q_callmF rfl rfl rfl rfl (r_l_take _ _) fun a22 =>
q_dF rfl rfl fun a23 =>
q_setF rfl <| q_drop <| q_bm <| q_own rfl <| q_bmK rfl <| q_aCons <| q_bnd <| q_aCons <| q_var rfl <| q_aCons <| q_var rfl <| q_aCons <| q_var rfl <| q_aNil <| q_mkT rfl <| q_aNil <| q_chg rfl rfl rfl fun a24 =>
q_gh rfl <| q_end rfl) fun s25 =>
q_sret <| q_own rfl <| q_rt ⟨rfl, rfl⟩
def g_l_keeps (x0 x1 : D) : R D := runR (β := Unit) (
yb (unT3 x1) fun t1 =>
yb (opF (eqD t1.1 (dS "in"))) fun a3 =>
yb (bolR a3) fun b2 =>
if b2 = true then
yb (yb (opF (ninT t1.2.1 x0)) fun a4 =>
yb (truR a4) fun b5 =>
if b5 = true then
.ok a4
else
yb (opF (inT t1.2.2 x0)) fun a6 =>
.ok a6
) fun a7 =>
.rt a7
else
yb (opF (eqD t1.1 (dS "apart"))) fun a9 =>
yb (bolR a9) fun b8 =>
if b8 = true then
yb (yb (opF (ninT t1.2.1 x0)) fun a10 =>
yb (truR a10) fun b11 =>
if b11 = true then
.ok a10
else
yb (opF (ninT t1.2.2 x0)) fun a12 =>
.ok a12
) fun a13 =>
.rt a13
else
yb (yb (opF (inT t1.2.1 x0)) fun a14 =>
yb (truR a14) fun b15 =>
if b15 = true then
.ok a14
else
yb (opF (inT t1.2.2 x0)) fun a16 =>
.ok a16
) fun a17 =>
.rt a17)
theorem r_l_keeps (x0 x1 : D) : Rf0 f_l_keeps [(.frz, x0), (.frz, x1)] .frz (g_l_keeps x0 x1) := by
  unfold f_l_keeps b_l_keeps g_l_keeps
  exact q_def ([some (.frz, x0), some (.frz, x1), none, none, none] : Fs) rfl rfl rfl <|
q_asg <| q_var rfl <| q_frz <| q_a3 fun t1 =>
q_an rfl <| q_an rfl <| q_an rfl <| q_a0 <| q_if <| q_bnd <| q_op <| q_var rfl <| q_at <| q_dF rfl rfl fun a3 =>
q_bol rfl fun b2 =>
q_iteF (q_assoc <| q_sret <| q_sub (V := fun a : D => Tv.frz a) (F := fun _ => ([some (.frz, x0), some (.frz, x1), some (.frz, t1.1), some (.frz, t1.2.1), some (.frz, t1.2.2)] : Fs)) (q_in <| q_vOr <| q_op <| q_var rfl <| q_var rfl <| q_dF rfl rfl fun a4 =>
q_tru rfl fun b5 =>
q_iteF (q_ok rfl rfl) (q_op <| q_var rfl <| q_var rfl <| q_dF rfl rfl fun a6 =>
q_ok rfl rfl)) fun a7 =>
q_rt rfl) (q_skip <| q_if <| q_bnd <| q_op <| q_var rfl <| q_at <| q_dF rfl rfl fun a9 =>
q_bol rfl fun b8 =>
q_iteF (q_assoc <| q_sret <| q_sub (V := fun a : D => Tv.frz a) (F := fun _ => ([some (.frz, x0), some (.frz, x1), some (.frz, t1.1), some (.frz, t1.2.1), some (.frz, t1.2.2)] : Fs)) (q_in <| q_vOr <| q_op <| q_var rfl <| q_var rfl <| q_dF rfl rfl fun a10 =>
q_tru rfl fun b11 =>
q_iteF (q_ok rfl rfl) (q_op <| q_var rfl <| q_var rfl <| q_dF rfl rfl fun a12 =>
q_ok rfl rfl)) fun a13 =>
q_rt rfl) (q_skip <| q_sret <| q_sub (V := fun a : D => Tv.frz a) (F := fun _ => ([some (.frz, x0), some (.frz, x1), some (.frz, t1.1), some (.frz, t1.2.1), some (.frz, t1.2.2)] : Fs)) (q_in <| q_vOr <| q_op <| q_var rfl <| q_var rfl <| q_dF rfl rfl fun a14 =>
q_tru rfl fun b15 =>
q_iteF (q_ok rfl rfl) (q_op <| q_var rfl <| q_var rfl <| q_dF rfl rfl fun a16 =>
q_ok rfl rfl)) fun a17 =>
q_rt rfl))
def g_l_held (x0 x1 x2 : D) : R (D × D) := runM (β := Unit) (
yb (g_l_all x1) fun a1 =>
yb (g_l_facts x0 x1 x2) fun a3 =>
yb (lstR a3.1) fun xs2 =>
bC (forC xs2 ((dL []), a1) fun d5 s4 =>
yb (seqR s4.2) fun xs6 =>
yb (capR xs6) fun ys11 =>
yb (compR (fun d7 =>
yb (g_l_keeps d7 d5) fun a10 =>
yb (truR a10) fun b9 =>
if b9 = true then
.ok (some d7)
else .ok none
) ys11) fun a12 =>
bC (yb (opF (neD (dL a12) (dL []))) fun a15 =>
yb (bolR a15) fun b14 =>
if b14 = true then
yb (okR (isLst s4.1)) fun _ =>
yb (chgR appG s4.1 [d5]) fun a16 =>
.nx (a16.1, (dL a12))
else
.nx (s4.1, s4.2)) fun s13 =>
.nx (s13.1, s13.2)) fun s17 =>
.rt (s17.1, a3.2))
theorem r_l_held (x0 x1 x2 : D) : Rf1 f_l_held x0 [(.frz, x1), (.frz, x2)] .own (g_l_held x0 x1 x2) := by
  unfold f_l_held b_l_held g_l_held
  exact q_defM ([some (.io, x0), some (.frz, x1), some (.frz, x2), none, none, none, none, none] : Fs) rfl rfl rfl <|
q_set <| q_bnd <| q_aNil <| q_mkL rfl <| q_setO rfl <| q_set <| q_bnd <| q_aCons <| q_var rfl <| q_aNil <| q_callO rfl rfl (r_l_all _) fun a1 =>
q_setO rfl <| q_gh rfl <| q_for <| q_seq <| q_bnd <| q_aCons <| q_io rfl <| q_aCons <| q_var rfl <| q_aCons <| q_var rfl <| q_aNil <| q_callmO rfl rfl rfl rfl (r_l_facts _ _ _) fun a3 =>
q_seqO fun xs2 =>
q_forK (fun s4 : D × D => ([some (.io, a3.2), some (.frz, x1), some (.frz, x2), some (.own, s4.1), some (.frz, s4.2), none, none, none] : Fs)) rfl (fun d5 s4 =>
q_an rfl <| q_a0 <| q_set <| q_lc <| q_seq <| q_var rfl <| q_seqF fun xs6 =>
q_comp (f0 := ([some (.io, a3.2), some (.frz, x1), some (.frz, x2), some (.own, s4.1), some (.frz, s4.2), some (.frz, d5), none, none] : Fs)) rfl rfl (fun d7 =>
q_an rfl <| q_a0 <| q_step <| q_bnd <| q_bnd <| q_aCons <| q_var rfl <| q_aCons <| q_var rfl <| q_aNil <| q_callF rfl rfl (r_l_keeps _ _) fun a10 =>
q_tru rfl fun b9 =>
q_iteF (q_bnd <| q_var rfl <| q_frz <| q_ok rfl rfl) (q_ok rfl rfl)) fun a12 =>
q_setO rfl <| q_ifJ (fun s13 : D × D => ([some (.io, a3.2), some (.frz, x1), some (.frz, x2), some (.own, s13.1), some (.frz, s13.2), some (.frz, d5), some (.frz, (dL a12)), none] : Fs)) (q_bnd <| q_op <| q_own rfl <| q_bnd <| q_aNil <| q_mkL rfl <| q_dF rfl rfl fun a15 =>
q_bol rfl fun b14 =>
q_iteF (q_set <| q_own rfl <| q_setS rfl rfl <| q_drop <| q_bm <| q_own rfl <| q_bmK rfl <| q_aCons <| q_var rfl <| q_aNil <| q_chg rfl rfl rfl fun a16 =>
q_end rfl) (q_gh rfl <| q_end rfl)) fun s13 =>
q_gh rfl <| q_end rfl) fun s17 =>
q_sret <| q_own rfl <| q_rt ⟨rfl, rfl⟩
def g_p_is_name (x0 : D) : R D := runR (β := Unit) (
yb (orR (yb (isiR (itB .str) x0) fun a2 =>
yb (truR a2) fun b1 =>
.ok (!b1)) (yb (yb (opF (lenD x0)) fun a4 =>
yb (opF (leD (dI 1) a4)) fun a5 =>
yb (bolR a5) fun b6 =>
if b6 = true then
yb (opF (leD a4 (dI 12))) fun a7 =>
.ok a7
else .ok (dB false)) fun a8 =>
yb (bolR a8) fun b3 =>
.ok (!b3))) fun b9 =>
if b9 = true then
.rt (dB false)
else
yb (seqR x0) fun xs10 =>
yb (capR xs10) fun ys14 =>
yb (compR (fun d11 =>
yb (opF (inT d11 (dS "abcdefghijklmnopqrstuvwxyz"))) fun a13 =>
.ok (some a13)
) ys14) fun a15 =>
yb (opF (allD (dL a15))) fun a16 =>
.rt a16)
theorem r_p_is_name (x0 : D) : Rf0 f_p_is_name [(.frz, x0)] .frz (g_p_is_name x0) := by
  unfold f_p_is_name b_p_is_name g_p_is_name
  exact q_def ([some (.frz, x0), none] : Fs) rfl rfl rfl <|
q_if <| q_sub (V := id) (F := fun _ => ([some (.frz, x0), none] : Fs)) (q_or (q_in <| q_not <| q_bnd <| q_bnd <| q_var rfl <| q_isi rfl fun a2 =>
q_tru rfl fun b1 =>
q_ok rfl rfl) (q_in <| q_not <| q_bnd <| q_sub (V := fun a : D => Tv.frz a) (F := fun _ => ([some (.frz, x0), none] : Fs)) (q_in <| q_chain <| q_at <| q_bnd <| q_aCons <| q_var rfl <| q_aNil <| q_on1 <| q_1F rfl fun a4 =>
q_noOwn rfl <| q_dF rfl rfl fun a5 =>
q_bol rfl fun b6 =>
q_iteF (q_at <| q_dF rfl rfl fun a7 =>
q_ok rfl rfl) (q_ok rfl rfl)) fun a8 =>
q_bol rfl fun b3 =>
q_ok rfl rfl)) fun b9 =>
q_iteF (q_assoc <| q_sret <| q_at <| q_rt rfl) (q_skip <| q_sret <| q_bnd <| q_aCons <| q_lc <| q_seq <| q_var rfl <| q_seqF fun xs10 =>
q_comp (f0 := ([some (.frz, x0), none] : Fs)) rfl rfl (fun d11 =>
q_an rfl <| q_a0 <| q_step <| q_yes <| q_bnd <| q_op <| q_var rfl <| q_at <| q_dF rfl rfl fun a13 =>
q_frz <| q_ok rfl rfl) fun a15 =>
q_aNil <| q_on1 <| q_1F rfl fun a16 =>
q_rt rfl)
def g_p_checked_regions (x0 : D) : R D := runR (β := Unit) (
yb (orR (yb (isiR (itB .lst) x0) fun a2 =>
yb (truR a2) fun b1 =>
.ok (!b1)) (yb (yb (opF (lenD x0)) fun a4 =>
yb (opF (leD (dI 1) a4)) fun a5 =>
yb (bolR a5) fun b6 =>
if b6 = true then
yb (opF (leD a4 (dI 24))) fun a7 =>
.ok a7
else .ok (dB false)) fun a8 =>
yb (bolR a8) fun b3 =>
.ok (!b3))) fun b9 =>
if b9 = true then
.bad
else
yb (lscR x0) fun xs10 =>
bC (forC (enumD 0 xs10) () fun d12 s11 =>
yb (unT2 d12) fun t13 =>
yb (orR (yb (g_p_is_name t13.2) fun a15 =>
yb (truR a15) fun b14 =>
.ok (!b14)) (yb (intR t13.1) fun i17 =>
yb (opA (slD x0 none i17)) fun a18 =>
yb (opF (inT t13.2 a18)) fun a19 =>
yb (bolR a19) fun b16 =>
.ok b16)) fun b20 =>
if b20 = true then
.bad
else
.nx ()) fun s21 =>
yb (opO (listD x0)) fun a22 =>
.rt a22)
theorem r_p_checked_regions (x0 : D) : Rf0 f_p_checked_regions [(.frz, x0)] .own (g_p_checked_regions x0) := by
  unfold f_p_checked_regions b_p_checked_regions g_p_checked_regions
  exact q_def ([some (.frz, x0), none, none] : Fs) rfl rfl rfl <|
q_if <| q_sub (V := id) (F := fun _ => ([some (.frz, x0), none, none] : Fs)) (q_or (q_in <| q_not <| q_bnd <| q_bnd <| q_var rfl <| q_isi rfl fun a2 =>
q_tru rfl fun b1 =>
q_ok rfl rfl) (q_in <| q_not <| q_bnd <| q_sub (V := fun a : D => Tv.frz a) (F := fun _ => ([some (.frz, x0), none, none] : Fs)) (q_in <| q_chain <| q_at <| q_bnd <| q_aCons <| q_var rfl <| q_aNil <| q_on1 <| q_1F rfl fun a4 =>
q_noOwn rfl <| q_dF rfl rfl fun a5 =>
q_bol rfl fun b6 =>
q_iteF (q_at <| q_dF rfl rfl fun a7 =>
q_ok rfl rfl) (q_ok rfl rfl)) fun a8 =>
q_bol rfl fun b3 =>
q_ok rfl rfl)) fun b9 =>
q_iteF (q_assoc <| q_badS rfl) (q_skip <| q_for <| q_enu <| q_var rfl <| q_enuF fun xs10 =>
q_forK (fun s11 : Unit => ([some (.frz, x0), none, none] : Fs)) rfl (fun d12 s11 =>
q_a2 fun t13 =>
q_an rfl <| q_an rfl <| q_a0 <| q_if <| q_sub (V := id) (F := fun _ => ([some (.frz, x0), some (.frz, t13.1), some (.frz, t13.2)] : Fs)) (q_or (q_in <| q_not <| q_bnd <| q_bnd <| q_aCons <| q_var rfl <| q_aNil <| q_callF rfl rfl (r_p_is_name _) fun a15 =>
q_tru rfl fun b14 =>
q_ok rfl rfl) (q_in <| q_bnd <| q_op <| q_var rfl <| q_fz <| q_sl <| q_var rfl <| q_oNone <| q_oSome <| q_var rfl <| q_int rfl fun i17 =>
q_1A rfl fun a18 =>
q_dF rfl rfl fun a19 =>
q_bol rfl fun b16 =>
q_ok rfl rfl)) fun b20 =>
q_iteF (q_assoc <| q_badS rfl) (q_skip <| q_gh rfl <| q_end rfl)) fun s21 =>
q_sret <| q_bnd <| q_aCons <| q_var rfl <| q_aNil <| q_on1 <| q_1O rfl fun a22 =>
q_rt rfl)
def g_p_is_region (x0 x1 : D) : R D := runR (β := Unit) (
yb (yb (isiR (itB .str) x1) fun a1 =>
yb (truR a1) fun b2 =>
if b2 = true then
yb (opF (inT x1 x0)) fun a3 =>
.ok a3
else .ok a1
) fun a4 =>
.rt a4)
theorem r_p_is_region (x0 x1 : D) : Rf0 f_p_is_region [(.frz, x0), (.frz, x1)] .frz (g_p_is_region x0 x1) := by
  unfold f_p_is_region b_p_is_region g_p_is_region
  exact q_def ([some (.frz, x0), some (.frz, x1)] : Fs) rfl rfl rfl <|
q_sret <| q_sub (V := fun a : D => Tv.frz a) (F := fun _ => ([some (.frz, x0), some (.frz, x1)] : Fs)) (q_in <| q_vAnd <| q_bnd <| q_var rfl <| q_isi rfl fun a1 =>
q_tru rfl fun b2 =>
q_iteF (q_op <| q_var rfl <| q_var rfl <| q_dF rfl rfl fun a3 =>
q_ok rfl rfl) (q_ok rfl rfl)) fun a4 =>
q_rt rfl
def g_p_is_fact (x0 x1 : D) : R D := runR (β := Unit) (
yb (orR (yb (isiR (itB .tup) x1) fun a2 =>
yb (truR a2) fun b1 =>
.ok (!b1)) (yb (opF (lenD x1)) fun a4 =>
yb (opF (neD a4 (dI 3))) fun a5 =>
yb (bolR a5) fun b3 =>
.ok b3)) fun b6 =>
if b6 = true then
.rt (dB false)
else
yb (orR (yb (opF (ixD x1 (dI 0))) fun a8 =>
yb (isiR (itB .str) a8) fun a9 =>
yb (truR a9) fun b7 =>
.ok (!b7)) (yb (opF (ixD x1 (dI 0))) fun a11 =>
yb (opF (ninT a11 c_KINDS)) fun a12 =>
yb (bolR a12) fun b10 =>
.ok b10)) fun b13 =>
if b13 = true then
.rt (dB false)
else
yb (yb (opF (ixD x1 (dI 1))) fun a14 =>
yb (g_p_is_region x0 a14) fun a15 =>
yb (truR a15) fun b16 =>
if b16 = true then
yb (opF (ixD x1 (dI 2))) fun a17 =>
yb (g_p_is_region x0 a17) fun a18 =>
.ok a18
else .ok a15
) fun a19 =>
.rt a19)
theorem r_p_is_fact (x0 x1 : D) : Rf0 f_p_is_fact [(.frz, x0), (.frz, x1)] .frz (g_p_is_fact x0 x1) := by
  unfold f_p_is_fact b_p_is_fact g_p_is_fact
  exact q_def ([some (.frz, x0), some (.frz, x1)] : Fs) rfl rfl rfl <|
q_if <| q_sub (V := id) (F := fun _ => ([some (.frz, x0), some (.frz, x1)] : Fs)) (q_or (q_in <| q_not <| q_bnd <| q_bnd <| q_var rfl <| q_isi rfl fun a2 =>
q_tru rfl fun b1 =>
q_ok rfl rfl) (q_in <| q_bnd <| q_op <| q_bnd <| q_aCons <| q_var rfl <| q_aNil <| q_on1 <| q_1F rfl fun a4 =>
q_at <| q_dF rfl rfl fun a5 =>
q_bol rfl fun b3 =>
q_ok rfl rfl)) fun b6 =>
q_iteF (q_assoc <| q_sret <| q_at <| q_rt rfl) (q_skip <| q_if <| q_sub (V := id) (F := fun _ => ([some (.frz, x0), some (.frz, x1)] : Fs)) (q_or (q_in <| q_not <| q_bnd <| q_bnd <| q_op <| q_var rfl <| q_at <| q_dF rfl rfl fun a8 =>
q_isi rfl fun a9 =>
q_tru rfl fun b7 =>
q_ok rfl rfl) (q_in <| q_bnd <| q_op <| q_op <| q_var rfl <| q_at <| q_dF rfl rfl fun a11 =>
q_cst <| q_dF rfl rfl fun a12 =>
q_bol rfl fun b10 =>
q_ok rfl rfl)) fun b13 =>
q_iteF (q_assoc <| q_sret <| q_at <| q_rt rfl) (q_skip <| q_sret <| q_sub (V := fun a : D => Tv.frz a) (F := fun _ => ([some (.frz, x0), some (.frz, x1)] : Fs)) (q_in <| q_vAnd <| q_bnd <| q_aCons <| q_var rfl <| q_aCons <| q_op <| q_var rfl <| q_at <| q_dF rfl rfl fun a14 =>
q_aNil <| q_callF rfl rfl (r_p_is_region _ _) fun a15 =>
q_tru rfl fun b16 =>
q_iteF (q_bnd <| q_aCons <| q_var rfl <| q_aCons <| q_op <| q_var rfl <| q_at <| q_dF rfl rfl fun a17 =>
q_aNil <| q_callF rfl rfl (r_p_is_region _ _) fun a18 =>
q_ok rfl rfl) (q_ok rfl rfl)) fun a19 =>
q_rt rfl))
def g_p_checked_facts (x0 x1 : D) : R D := runR (β := Unit) (
yb (orR (yb (isiR (itB .lst) x1) fun a2 =>
yb (truR a2) fun b1 =>
.ok (!b1)) (yb (opF (lenD x1)) fun a4 =>
yb (opF (gtD a4 (dI 1200))) fun a5 =>
yb (bolR a5) fun b3 =>
.ok b3)) fun b6 =>
if b6 = true then
.bad
else
yb (lscR x1) fun xs7 =>
bC (forC (enumD 0 xs7) () fun d9 s8 =>
yb (unT2 d9) fun t10 =>
yb (g_p_is_fact x0 t10.2) fun a12 =>
yb (truR a12) fun b11 =>
if (!b11) = true then
.bad
else
.nx ()) fun s13 =>
yb (opO (listD x1)) fun a14 =>
.rt a14)
theorem r_p_checked_facts (x0 x1 : D) : Rf0 f_p_checked_facts [(.frz, x0), (.frz, x1)] .own (g_p_checked_facts x0 x1) := by
  unfold f_p_checked_facts b_p_checked_facts g_p_checked_facts
  exact q_def ([some (.frz, x0), some (.frz, x1), none, none] : Fs) rfl rfl rfl <|
q_if <| q_sub (V := id) (F := fun _ => ([some (.frz, x0), some (.frz, x1), none, none] : Fs)) (q_or (q_in <| q_not <| q_bnd <| q_bnd <| q_var rfl <| q_isi rfl fun a2 =>
q_tru rfl fun b1 =>
q_ok rfl rfl) (q_in <| q_bnd <| q_op <| q_bnd <| q_aCons <| q_var rfl <| q_aNil <| q_on1 <| q_1F rfl fun a4 =>
q_at <| q_dF rfl rfl fun a5 =>
q_bol rfl fun b3 =>
q_ok rfl rfl)) fun b6 =>
q_iteF (q_assoc <| q_badS rfl) (q_skip <| q_for <| q_enu <| q_var rfl <| q_enuF fun xs7 =>
q_forK (fun s8 : Unit => ([some (.frz, x0), some (.frz, x1), none, none] : Fs)) rfl (fun d9 s8 =>
q_a2 fun t10 =>
q_an rfl <| q_an rfl <| q_a0 <| q_if <| q_not <| q_bnd <| q_bnd <| q_aCons <| q_var rfl <| q_aCons <| q_var rfl <| q_aNil <| q_callF rfl rfl (r_p_is_fact _ _) fun a12 =>
q_tru rfl fun b11 =>
q_iteF (q_assoc <| q_badS rfl) (q_skip <| q_gh rfl <| q_end rfl)) fun s13 =>
q_sret <| q_bnd <| q_aCons <| q_var rfl <| q_aNil <| q_on1 <| q_1O rfl fun a14 =>
q_rt rfl)
def g_p_breaking (x0 x1 : D) : R D := runR (β := Unit) (
yb (unT3 x1) fun t1 =>
yb (opF (ixD x0 t1.2.1)) fun a2 =>
yb (opA (mulD (dI 2) a2)) fun a3 =>
yb (opF (gdD t_SIGNS t1.1)) fun a4 =>
yb (opF (ixD a4 (dI 0))) fun a5 =>
yb (opA (addD a3 a5)) fun a6 =>
yb (opF (ixD x0 t1.2.2)) fun a7 =>
yb (opA (mulD (dI 2) a7)) fun a8 =>
yb (opF (gdD t_SIGNS t1.1)) fun a9 =>
yb (opF (ixD a9 (dI 1))) fun a10 =>
yb (opA (addD a8 a10)) fun a11 =>
.rt (dTu [a6, a11]))
theorem r_p_breaking (x0 x1 : D) : Rf0 f_p_breaking [(.frz, x0), (.frz, x1)] .frz (g_p_breaking x0 x1) := by
  unfold f_p_breaking b_p_breaking g_p_breaking
  exact q_def ([some (.frz, x0), some (.frz, x1), none, none, none] : Fs) rfl rfl rfl <|
q_asg <| q_var rfl <| q_frz <| q_a3 fun t1 =>
q_an rfl <| q_an rfl <| q_an rfl <| q_a0 <| q_sret <| q_bnd <| q_aCons <| q_fz <| q_op <| q_fz <| q_op <| q_at <| q_op <| q_var rfl <| q_var rfl <| q_dF rfl rfl fun a2 =>
q_dA rfl rfl fun a3 =>
q_op <| q_bnd <| q_var rfl <| q_1F rfl fun a4 =>
q_at <| q_dF rfl rfl fun a5 =>
q_dA rfl rfl fun a6 =>
q_aCons <| q_fz <| q_op <| q_fz <| q_op <| q_at <| q_op <| q_var rfl <| q_var rfl <| q_dF rfl rfl fun a7 =>
q_dA rfl rfl fun a8 =>
q_op <| q_bnd <| q_var rfl <| q_1F rfl fun a9 =>
q_at <| q_dF rfl rfl fun a10 =>
q_dA rfl rfl fun a11 =>
q_aNil <| q_mkT rfl <| q_rt rfl
def g_p_steps_of (x0 x1 : D) : R D := runR (β := Unit) (
yb (seqR x1) fun xs1 =>
bC (forC xs1 (.nd .dT []) fun d3 s2 =>
yb (g_p_breaking x0 d3) fun a4 =>
yb (unT2 a4) fun t5 =>
yb (opF ((bitD Builtin.bitXor) t5.2 (dI 1))) fun a6 =>
yb (optR (putDic s2 (dTu [t5.1, a6]) (dB true))) fun a7 =>
yb (opF ((bitD Builtin.bitXor) t5.1 (dI 1))) fun a8 =>
yb (optR (putDic a7 (dTu [t5.2, a8]) (dB true))) fun a9 =>
.nx a9) fun s10 =>
yb (opF (lenD x0)) fun a12 =>
yb (opF (mulD (dI 2) a12)) fun a13 =>
yb (rngR k1 [a13]) fun xs11 =>
yb (capR xs11) fun ys27 =>
yb (compR (fun d14 =>
yb (dicR s10) fun q16 =>
yb (noexR (yb (capR (keysOf q16.2)) fun ys23 =>
yb (compR (fun d18 =>
yb (unT2 d18) fun t20 =>
yb (opF (eqD t20.1 d14)) fun a22 =>
yb (bolR a22) fun b21 =>
if b21 = true then
.ok (some t20.2)
else .ok none
) ys23) fun a24 =>
.ok a24)) fun a25 =>
yb (opO (sortD (dL a25))) fun a26 =>
.ok (some a26)
) ys27) fun a28 =>
.rt (dL a28))
theorem r_p_steps_of (x0 x1 : D) : Rf0 f_p_steps_of [(.frz, x0), (.frz, x1)] .own (g_p_steps_of x0 x1) := by
  unfold f_p_steps_of b_p_steps_of g_p_steps_of
  exact q_def ([some (.frz, x0), some (.frz, x1), none, none, none, none, none, none, none] : Fs) rfl rfl rfl <|
q_set <| q_ret <| q_setO rfl <| q_for <| q_seq <| q_var rfl <| q_seqF fun xs1 =>
q_forK (fun s2 : D => ([some (.frz, x0), some (.frz, x1), some (.own, s2), none, none, none, none, none, none] : Fs)) rfl (fun d3 s2 =>
q_an rfl <| q_a0 <| q_asg <| q_bnd <| q_aCons <| q_var rfl <| q_aCons <| q_var rfl <| q_aNil <| q_callF rfl rfl (r_p_breaking _ _) fun a4 =>
q_frz <| q_a2 fun t5 =>
q_an rfl <| q_an rfl <| q_a0 <| q_sput <| q_at <| q_frz <| q_own rfl <| q_bnd <| q_aCons <| q_var rfl <| q_aCons <| q_op <| q_var rfl <| q_at <| q_dF rfl rfl fun a6 =>
q_aNil <| q_mkT rfl <| q_putK rfl rfl rfl fun a7 =>
q_sput <| q_at <| q_frz <| q_own rfl <| q_bnd <| q_aCons <| q_var rfl <| q_aCons <| q_op <| q_var rfl <| q_at <| q_dF rfl rfl fun a8 =>
q_aNil <| q_mkT rfl <| q_putK rfl rfl rfl fun a9 =>
q_gh rfl <| q_end rfl) fun s10 =>
q_sret <| q_lc <| q_rng <| q_aCons <| q_op <| q_at <| q_bnd <| q_aCons <| q_var rfl <| q_aNil <| q_on1 <| q_1F rfl fun a12 =>
q_dF rfl rfl fun a13 =>
q_aNil <| q_rngK rfl fun xs11 =>
q_comp (f0 := ([some (.frz, x0), some (.frz, x1), some (.own, s10), none, none, none, none, none, none] : Fs)) rfl rfl (fun d14 =>
q_an rfl <| q_a0 <| q_step <| q_yes <| q_bnd <| q_bnd <| q_aCons <| q_lock (V := fun a : List D => Tv.own (dL a)) rfl (fun q16 =>
q_in <| q_lc <| q_keys <| q_bor rfl <| q_keysK rfl <| q_comp (f0 := ([some (.frz, x0), some (.frz, x1), some (.bor, (lkOf q16)), none, none, none, some (.frz, d14), none, none] : Fs)) rfl rfl (fun d18 =>
q_a2 fun t20 =>
q_an rfl <| q_an rfl <| q_a0 <| q_step <| q_bnd <| q_op <| q_var rfl <| q_var rfl <| q_dF rfl rfl fun a22 =>
q_bol rfl fun b21 =>
q_iteF (q_bnd <| q_var rfl <| q_frz <| q_ok rfl rfl) (q_ok rfl rfl)) fun a24 =>
q_ok rfl rfl) fun a25 =>
q_aNil <| q_on1 <| q_1O rfl fun a26 =>
q_frzO <| q_ok rfl rfl) fun a28 =>
q_rt rfl
def g_p_mask_of (x0 : D) : R D := runR (β := Unit) (
yb (seqR x0) fun xs1 =>
bC (forC xs1 (dI 0) fun d3 s2 =>
yb (opF (shlD (dI 1) d3)) fun a4 =>
yb (opF ((bitD Builtin.bitOr) s2 a4)) fun a5 =>
.nx a5) fun s6 =>
.rt s6)
theorem r_p_mask_of (x0 : D) : Rf0 f_p_mask_of [(.frz, x0)] .frz (g_p_mask_of x0) := by
  unfold f_p_mask_of b_p_mask_of g_p_mask_of
  exact q_def ([some (.frz, x0), none, none] : Fs) rfl rfl rfl <|
q_set <| q_at <| q_setF rfl <| q_for <| q_seq <| q_var rfl <| q_seqF fun xs1 =>
q_forK (fun s2 : D => ([some (.frz, x0), some (.frz, s2), none] : Fs)) rfl (fun d3 s2 =>
q_an rfl <| q_a0 <| q_set <| q_op <| q_var rfl <| q_op <| q_at <| q_var rfl <| q_dF rfl rfl fun a4 =>
q_dF rfl rfl fun a5 =>
q_setF rfl <| q_gh rfl <| q_end rfl) fun s6 =>
q_sret <| q_var rfl <| q_rt rfl
def g_p_reached (x0 x1 : D) : R D := runR (β := Unit) (
yb (keyR x1) fun q1 =>
bC (whileC (fun s2 =>
yb (opF (lenD s2.2.1)) fun a4 =>
yb (opF (ltD s2.2.2 a4)) fun a5 =>
yb (bolR a5) fun b3 =>
.ok b3) (fun s2 =>
yb (opF (ixD s2.2.1 s2.2.2)) fun a6 =>
yb (opF (addD s2.2.2 (dI 1))) fun a7 =>
yb (opF (ixD x0 a6)) fun a9 =>
yb (seqR a9) fun xs8 =>
bC (forC xs8 (s2.1, s2.2.1) fun d11 s10 =>
bC (yb (opF (ninT d11 s10.1)) fun a14 =>
yb (bolR a14) fun b13 =>
if b13 = true then
yb (opF (ixD s10.1 a6)) fun a15 =>
yb (opO (addD a15 (dL [d11]))) fun a16 =>
yb (optR (putDic s10.1 d11 a16)) fun a17 =>
yb (okR (isLst s10.2)) fun _ =>
yb (chgR appG s10.2 [d11]) fun a18 =>
.nx (a17, a18.1)
else
.nx (s10.1, s10.2)) fun s12 =>
.nx (s12.1, s12.2)) fun s19 =>
.nx (s19.1, s19.2, a7)) 1000 ((.nd .dK (mergeD [] [(q1, (dL [x1]))])), (dL [x1]), (dI 0))) fun s20 =>
.rt s20.1)
theorem r_p_reached (x0 x1 : D) : Rf0 f_p_reached [(.frz, x0), (.frz, x1)] .own (g_p_reached x0 x1) := by
  unfold f_p_reached b_p_reached g_p_reached
  exact q_def ([some (.frz, x0), some (.frz, x1), none, none, none, none, none] : Fs) rfl rfl rfl <|
q_set <| q_disp <| q_d1 <| q_var rfl <| q_key rfl fun q1 =>
q_bnd <| q_aCons <| q_var rfl <| q_aNil <| q_mkL rfl <| q_frzO <| q_d0 <| q_15 (Nat.le_of_ble_eq_true rfl) <| q_setO rfl <| q_set <| q_bnd <| q_aCons <| q_var rfl <| q_aNil <| q_mkL rfl <| q_setO rfl <| q_set <| q_at <| q_setF rfl <| q_while (fun s2 : D × D × D => ([some (.frz, x0), some (.frz, x1), some (.own, s2.1), some (.own, s2.2.1), some (.frz, s2.2.2), none, none] : Fs)) rfl (fun s2 =>
q_in <| q_bnd <| q_op <| q_var rfl <| q_bnd <| q_aCons <| q_own rfl <| q_aNil <| q_on1 <| q_1F rfl fun a4 =>
q_dF rfl rfl fun a5 =>
q_bol rfl fun b3 =>
q_ok rfl rfl) (fun s2 =>
q_set <| q_op <| q_own rfl <| q_var rfl <| q_dF rfl rfl fun a6 =>
q_setF rfl <| q_set <| q_op <| q_var rfl <| q_at <| q_dF rfl rfl fun a7 =>
q_setF rfl <| q_for <| q_seq <| q_op <| q_var rfl <| q_var rfl <| q_dF rfl rfl fun a9 =>
q_seqF fun xs8 =>
q_forK (fun s10 : D × D => ([some (.frz, x0), some (.frz, x1), some (.own, s10.1), some (.own, s10.2), some (.frz, a7), some (.frz, a6), none] : Fs)) rfl (fun d11 s10 =>
q_an rfl <| q_a0 <| q_ifJ (fun s12 : D × D => ([some (.frz, x0), some (.frz, x1), some (.own, s12.1), some (.own, s12.2), some (.frz, a7), some (.frz, a6), some (.frz, d11)] : Fs)) (q_bnd <| q_op <| q_var rfl <| q_own rfl <| q_dF rfl rfl fun a14 =>
q_bol rfl fun b13 =>
q_iteF (q_sput <| q_op <| q_op <| q_own rfl <| q_var rfl <| q_dF rfl rfl fun a15 =>
q_bnd <| q_aCons <| q_var rfl <| q_aNil <| q_mkL rfl <| q_dO rfl rfl fun a16 =>
q_frzO <| q_own rfl <| q_var rfl <| q_putK rfl rfl rfl fun a17 =>
q_drop <| q_bm <| q_own rfl <| q_bmK rfl <| q_aCons <| q_var rfl <| q_aNil <| q_chg rfl rfl rfl fun a18 =>
q_end rfl) (q_end rfl)) fun s12 =>
q_gh rfl <| q_end rfl) fun s19 =>
q_gh rfl <| q_end rfl) fun s20 =>
q_sret <| q_own rfl <| q_rt rfl
def g_p_candidates (x0 : D) : R D := runR (β := Unit) (
yb (seqR x0) fun xs1 =>
bC (forC xs1 (dL []) fun d3 s2 =>
yb (okR (isLst s2)) fun _ =>
yb (seqR x0) fun xs4 =>
yb (capR xs4) fun ys9 =>
yb (compR (fun d5 =>
yb (opF (neD d5 d3)) fun a8 =>
yb (bolR a8) fun b7 =>
if b7 = true then
.ok (some (dTu [(dS "in"), d3, d5]))
else .ok none
) ys9) fun a10 =>
yb (chgR extG s2 [(dL a10)]) fun a11 =>
.nx a11.1) fun s12 =>
yb (seqR (dTu [(dS "apart"), (dS "cover")])) fun xs13 =>
bC (forC xs13 s12 fun d15 s14 =>
yb (lscR x0) fun xs16 =>
bC (forC (enumD 0 xs16) s14 fun d18 s17 =>
yb (unT2 d18) fun t19 =>
yb (okR (isLst s17)) fun _ =>
yb (intR t19.1) fun i21 =>
yb (opA (slD x0 i21 none)) fun a22 =>
yb (seqR a22) fun xs20 =>
yb (capR xs20) fun ys25 =>
yb (compR (fun d23 =>
.ok (some (dTu [d15, t19.2, d23]))
) ys25) fun a26 =>
yb (chgR extG s17 [(dL a26)]) fun a27 =>
.nx a27.1) fun s28 =>
.nx s28) fun s29 =>
.rt s29)
theorem r_p_candidates (x0 : D) : Rf0 f_p_candidates [(.frz, x0)] .own (g_p_candidates x0) := by
  unfold f_p_candidates b_p_candidates g_p_candidates
  exact q_def ([some (.frz, x0), none, none, none, none, none] : Fs) rfl rfl rfl <|
q_set <| q_bnd <| q_aNil <| q_mkL rfl <| q_setO rfl <| q_for <| q_seq <| q_var rfl <| q_seqF fun xs1 =>
q_forK (fun s2 : D => ([some (.frz, x0), some (.own, s2), none, none, none, none] : Fs)) rfl (fun d3 s2 =>
q_an rfl <| q_a0 <| q_drop <| q_bm <| q_own rfl <| q_bmK rfl <| q_aCons <| q_lc <| q_seq <| q_var rfl <| q_seqF fun xs4 =>
q_comp (f0 := ([some (.frz, x0), some (.own, s2), some (.frz, d3), none, none, none] : Fs)) rfl rfl (fun d5 =>
q_an rfl <| q_a0 <| q_step <| q_bnd <| q_op <| q_var rfl <| q_var rfl <| q_dF rfl rfl fun a8 =>
q_bol rfl fun b7 =>
q_iteF (q_bnd <| q_bnd <| q_aCons <| q_at <| q_aCons <| q_var rfl <| q_aCons <| q_var rfl <| q_aNil <| q_mkT rfl <| q_frz <| q_ok rfl rfl) (q_ok rfl rfl)) fun a10 =>
q_aNil <| q_chg rfl rfl rfl fun a11 =>
q_gh rfl <| q_end rfl) fun s12 =>
q_for <| q_seq <| q_bnd <| q_aCons <| q_at <| q_aCons <| q_at <| q_aNil <| q_mkT rfl <| q_seqF fun xs13 =>
q_forK (fun s14 : D => ([some (.frz, x0), some (.own, s14), none, none, none, none] : Fs)) rfl (fun d15 s14 =>
q_an rfl <| q_a0 <| q_for <| q_enu <| q_var rfl <| q_enuF fun xs16 =>
q_forK (fun s17 : D => ([some (.frz, x0), some (.own, s17), none, some (.frz, d15), none, none] : Fs)) rfl (fun d18 s17 =>
q_a2 fun t19 =>
q_an rfl <| q_an rfl <| q_a0 <| q_drop <| q_bm <| q_own rfl <| q_bmK rfl <| q_aCons <| q_lc <| q_seq <| q_fz <| q_sl <| q_var rfl <| q_oSome <| q_var rfl <| q_int rfl fun i21 =>
q_oNone <| q_1A rfl fun a22 =>
q_seqF fun xs20 =>
q_comp (f0 := ([some (.frz, x0), some (.own, s17), some (.frz, t19.2), some (.frz, d15), some (.frz, t19.1), none] : Fs)) rfl rfl (fun d23 =>
q_an rfl <| q_a0 <| q_step <| q_yes <| q_bnd <| q_bnd <| q_aCons <| q_var rfl <| q_aCons <| q_var rfl <| q_aCons <| q_var rfl <| q_aNil <| q_mkT rfl <| q_frz <| q_ok rfl rfl) fun a26 =>
q_aNil <| q_chg rfl rfl rfl fun a27 =>
q_gh rfl <| q_end rfl) fun s28 =>
q_gh rfl <| q_end rfl) fun s29 =>
q_sret <| q_own rfl <| q_rt rfl
def g_p_clashes (x0 : D) : R D := runR (β := Unit) (
yb (opF (shrD x0 (dI 1))) fun a1 =>
yb (opF ((bitD Builtin.bitAnd) x0 a1)) fun a2 =>
yb (opF (bitsD x0)) fun a4 =>
yb (rngR k3 [(dI 0), a4, (dI 2)]) fun xs3 =>
yb (capR xs3) fun ys10 =>
yb (compR (fun d5 =>
yb (opF (shrD a2 d5)) fun a7 =>
yb (opF ((bitD Builtin.bitAnd) a7 (dI 1))) fun a8 =>
yb (opF (eqD a8 (dI 1))) fun a9 =>
.ok (some a9)
) ys10) fun a11 =>
yb (opF (anyD (dL a11))) fun a12 =>
.rt a12)
theorem r_p_clashes (x0 : D) : Rf0 f_p_clashes [(.frz, x0)] .frz (g_p_clashes x0) := by
  unfold f_p_clashes b_p_clashes g_p_clashes
  exact q_def ([some (.frz, x0), none, none] : Fs) rfl rfl rfl <|
q_set <| q_op <| q_var rfl <| q_op <| q_var rfl <| q_at <| q_dF rfl rfl fun a1 =>
q_dF rfl rfl fun a2 =>
q_setF rfl <| q_sret <| q_bnd <| q_aCons <| q_lc <| q_rng <| q_aCons <| q_at <| q_aCons <| q_bnd <| q_var rfl <| q_1F rfl fun a4 =>
q_aCons <| q_at <| q_aNil <| q_rngK rfl fun xs3 =>
q_comp (f0 := ([some (.frz, x0), some (.frz, a2), none] : Fs)) rfl rfl (fun d5 =>
q_an rfl <| q_a0 <| q_step <| q_yes <| q_bnd <| q_op <| q_op <| q_op <| q_var rfl <| q_var rfl <| q_dF rfl rfl fun a7 =>
q_at <| q_dF rfl rfl fun a8 =>
q_at <| q_dF rfl rfl fun a9 =>
q_frz <| q_ok rfl rfl) fun a11 =>
q_aNil <| q_on1 <| q_1F rfl fun a12 =>
q_rt rfl
def g_p_follows (x0 x1 : D) : R D := runR (β := Unit) (
yb (opF (fldD "Facts" "places" x0)) fun a1 =>
yb (g_p_breaking a1 x1) fun a2 =>
yb (unT2 a2) fun t3 =>
yb (opF (fldD "Facts" "masks" x0)) fun a4 =>
yb (opF (ixD a4 t3.1)) fun a5 =>
yb (opF (fldD "Facts" "masks" x0)) fun a6 =>
yb (opF (ixD a6 t3.2)) fun a7 =>
yb (opF ((bitD Builtin.bitOr) a5 a7)) fun a8 =>
yb (g_p_clashes a8) fun a9 =>
.rt a9)
theorem r_p_follows (x0 x1 : D) : Rf0 f_p_follows [(.bor, x0), (.frz, x1)] .frz (g_p_follows x0 x1) := by
  unfold f_p_follows b_p_follows g_p_follows
  exact q_def ([some (.bor, x0), some (.frz, x1), none, none] : Fs) rfl rfl rfl <|
q_asg <| q_bnd <| q_aCons <| q_bnd <| q_bor rfl <| q_1F rfl fun a1 =>
q_aCons <| q_var rfl <| q_aNil <| q_callF rfl rfl (r_p_breaking _ _) fun a2 =>
q_frz <| q_a2 fun t3 =>
q_an rfl <| q_an rfl <| q_a0 <| q_sret <| q_bnd <| q_aCons <| q_op <| q_op <| q_bnd <| q_bor rfl <| q_1F rfl fun a4 =>
q_var rfl <| q_dF rfl rfl fun a5 =>
q_op <| q_bnd <| q_bor rfl <| q_1F rfl fun a6 =>
q_var rfl <| q_dF rfl rfl fun a7 =>
q_dF rfl rfl fun a8 =>
q_aNil <| q_callF rfl rfl (r_p_clashes _) fun a9 =>
q_rt rfl
def g_m_Facts___init__ (x0 x1 x2 : D) : R (D × D) := runM (β := Unit) (
yb (g_p_checked_regions x1) fun a1 =>
yb (optR (putI "Facts" "names" a1 x0)) fun a2 =>
yb (opF (fldD "Facts" "names" a2)) fun a4 =>
yb (lscR a4) fun xs3 =>
yb (capR (enumD 0 xs3)) fun ys8 =>
yb (compD (fun d5 =>
yb (unT2 d5) fun t6 =>
yb (keyR t6.2) fun q7 =>
.ok (some (q7, t6.1))
) ys8 []) fun a9 =>
yb (optR (putI "Facts" "places" (.nd .dK a9) a2)) fun a10 =>
yb (opF (fldD "Facts" "places" a10)) fun a11 =>
yb (g_p_checked_facts a11 x2) fun a12 =>
yb (optR (putI "Facts" "said" a12 a10)) fun a13 =>
yb (opF (fldD "Facts" "places" a13)) fun a14 =>
yb (opF (fldD "Facts" "said" a13)) fun a15 =>
yb (g_p_steps_of a14 a15) fun a16 =>
yb (optR (putI "Facts" "steps" a16 a13)) fun a17 =>
yb (opF (fldD "Facts" "steps" a17)) fun a19 =>
yb (opF (lenD a19)) fun a20 =>
yb (rngR k1 [a20]) fun xs18 =>
yb (capR xs18) fun ys27 =>
yb (compR (fun d21 =>
yb (opF (fldD "Facts" "steps" a17)) fun a23 =>
yb (g_p_reached a23 d21) fun a24 =>
yb (opO (listA a24)) fun a25 =>
yb (g_p_mask_of a25) fun a26 =>
.ok (some a26)
) ys27) fun a28 =>
yb (optR (putI "Facts" "masks" (dL a28) a17)) fun a29 =>
yb (opF (fldD "Facts" "masks" a29)) fun a31 =>
yb (opF (lenD a31)) fun a32 =>
yb (rngR k3 [(dI 0), a32, (dI 2)]) fun xs30 =>
bC (forC xs30 () fun d34 s33 =>
yb (andR (yb (opF (fldD "Facts" "masks" a29)) fun a36 =>
yb (opF (ixD a36 d34)) fun a37 =>
yb (opF (addD d34 (dI 1))) fun a38 =>
yb (opF (shrD a37 a38)) fun a39 =>
yb (opF ((bitD Builtin.bitAnd) a39 (dI 1))) fun a40 =>
yb (opF (eqD a40 (dI 1))) fun a41 =>
yb (bolR a41) fun b35 =>
.ok b35) (yb (opF (fldD "Facts" "masks" a29)) fun a43 =>
yb (opF (addD d34 (dI 1))) fun a44 =>
yb (opF (ixD a43 a44)) fun a45 =>
yb (opF (shrD a45 d34)) fun a46 =>
yb (opF ((bitD Builtin.bitAnd) a46 (dI 1))) fun a47 =>
yb (opF (eqD a47 (dI 1))) fun a48 =>
yb (bolR a48) fun b42 =>
.ok b42)) fun b49 =>
if b49 = true then
.bad
else
.nx ()) fun s50 =>
yb (opF (fldD "Facts" "masks" a29)) fun a52 =>
yb (opF (lenD a52)) fun a53 =>
yb (rngR k1 [a53]) fun xs51 =>
yb (capR xs51) fun ys63 =>
yb (compR (fun d54 =>
yb (opF (fldD "Facts" "masks" a29)) fun a57 =>
yb (opF ((bitD Builtin.bitXor) d54 (dI 1))) fun a58 =>
yb (opF (ixD a57 a58)) fun a59 =>
yb (opF (shrD a59 d54)) fun a60 =>
yb (opF ((bitD Builtin.bitAnd) a60 (dI 1))) fun a61 =>
yb (opF (eqD a61 (dI 1))) fun a62 =>
yb (bolR a62) fun b56 =>
if b56 = true then
.ok (some d54)
else .ok none
) ys63) fun a64 =>
yb (g_p_mask_of (dL a64)) fun a65 =>
yb (optR (putI "Facts" "forced" a65 a29)) fun a66 =>
yb (opF (fldD "Facts" "names" a66)) fun a68 =>
yb (g_p_candidates a68) fun a69 =>
yb (lstR a69) fun xs67 =>
yb (capR xs67) fun ys74 =>
yb (compR (fun d70 =>
yb (g_p_follows a66 d70) fun a73 =>
yb (truR a73) fun b72 =>
if b72 = true then
.ok (some d70)
else .ok none
) ys74) fun a75 =>
yb (optR (putI "Facts" "closed" (dL a75) a66)) fun a76 =>
.nx a76)
theorem r_m_Facts___init__ (x0 x1 x2 : D) : Rf1 f_m_Facts___init__ x0 [(.frz, x1), (.frz, x2)] .frz (g_m_Facts___init__ x0 x1 x2) := by
  unfold f_m_Facts___init__ b_m_Facts___init__ g_m_Facts___init__
  exact q_defM ([some (.io, x0), some (.frz, x1), some (.frz, x2), none, none, none, none, none, none] : Fs) rfl rfl rfl <|
q_sfld <| q_bnd <| q_aCons <| q_var rfl <| q_aNil <| q_callO rfl rfl (r_p_checked_regions _) fun a1 =>
q_frzO <| q_io rfl <| q_fldK rfl rfl fun a2 =>
q_sfld <| q_dc <| q_enu <| q_bnd <| q_io rfl <| q_1F rfl fun a4 =>
q_enuF fun xs3 =>
q_comD (f0 := ([some (.io, a2), some (.frz, x1), some (.frz, x2), none, none, none, none, none, none] : Fs)) rfl rfl (fun d5 =>
q_a2 fun t6 =>
q_an rfl <| q_an rfl <| q_a0 <| q_stepD <| q_yes <| q_var rfl <| q_key rfl fun q7 =>
q_bnd <| q_var rfl <| q_frz <| q_ok rfl rfl) fun a9 =>
q_frzO <| q_io rfl <| q_fldK rfl rfl fun a10 =>
q_sfld <| q_bnd <| q_aCons <| q_bnd <| q_io rfl <| q_1F rfl fun a11 =>
q_aCons <| q_var rfl <| q_aNil <| q_callO rfl rfl (r_p_checked_facts _ _) fun a12 =>
q_frzO <| q_io rfl <| q_fldK rfl rfl fun a13 =>
q_sfld <| q_bnd <| q_aCons <| q_bnd <| q_io rfl <| q_1F rfl fun a14 =>
q_aCons <| q_bnd <| q_io rfl <| q_1F rfl fun a15 =>
q_aNil <| q_callO rfl rfl (r_p_steps_of _ _) fun a16 =>
q_frzO <| q_io rfl <| q_fldK rfl rfl fun a17 =>
q_sfld <| q_lc <| q_rng <| q_aCons <| q_bnd <| q_aCons <| q_bnd <| q_io rfl <| q_1F rfl fun a19 =>
q_aNil <| q_on1 <| q_1F rfl fun a20 =>
q_aNil <| q_rngK rfl fun xs18 =>
q_comp (f0 := ([some (.io, a17), some (.frz, x1), some (.frz, x2), none, none, none, none, none, none] : Fs)) rfl rfl (fun d21 =>
q_an rfl <| q_a0 <| q_step <| q_yes <| q_bnd <| q_bnd <| q_aCons <| q_bnd <| q_aCons <| q_bnd <| q_aCons <| q_bnd <| q_io rfl <| q_1F rfl fun a23 =>
q_aCons <| q_var rfl <| q_aNil <| q_callO rfl rfl (r_p_reached _ _) fun a24 =>
q_aNil <| q_on1 <| q_1O rfl fun a25 =>
q_aNil <| q_callF rfl rfl (r_p_mask_of _) fun a26 =>
q_frz <| q_ok rfl rfl) fun a28 =>
q_frzO <| q_io rfl <| q_fldK rfl rfl fun a29 =>
q_for <| q_rng <| q_aCons <| q_at <| q_aCons <| q_bnd <| q_aCons <| q_bnd <| q_io rfl <| q_1F rfl fun a31 =>
q_aNil <| q_on1 <| q_1F rfl fun a32 =>
q_aCons <| q_at <| q_aNil <| q_rngK rfl fun xs30 =>
q_forK (fun s33 : Unit => ([some (.io, a29), some (.frz, x1), some (.frz, x2), none, none, none, none, none, none] : Fs)) rfl (fun d34 s33 =>
q_an rfl <| q_a0 <| q_if <| q_sub (V := id) (F := fun _ => ([some (.io, a29), some (.frz, x1), some (.frz, x2), some (.frz, d34), none, none, none, none, none] : Fs)) (q_and (q_in <| q_bnd <| q_op <| q_op <| q_op <| q_op <| q_bnd <| q_io rfl <| q_1F rfl fun a36 =>
q_var rfl <| q_dF rfl rfl fun a37 =>
q_op <| q_var rfl <| q_at <| q_dF rfl rfl fun a38 =>
q_dF rfl rfl fun a39 =>
q_at <| q_dF rfl rfl fun a40 =>
q_at <| q_dF rfl rfl fun a41 =>
q_bol rfl fun b35 =>
q_ok rfl rfl) (q_in <| q_bnd <| q_op <| q_op <| q_op <| q_op <| q_bnd <| q_io rfl <| q_1F rfl fun a43 =>
q_op <| q_var rfl <| q_at <| q_dF rfl rfl fun a44 =>
q_dF rfl rfl fun a45 =>
q_var rfl <| q_dF rfl rfl fun a46 =>
q_at <| q_dF rfl rfl fun a47 =>
q_at <| q_dF rfl rfl fun a48 =>
q_bol rfl fun b42 =>
q_ok rfl rfl)) fun b49 =>
q_iteF (q_any rfl) (q_skip <| q_gh rfl <| q_end rfl)) fun s50 =>
q_sfld <| q_bnd <| q_aCons <| q_lc <| q_rng <| q_aCons <| q_bnd <| q_aCons <| q_bnd <| q_io rfl <| q_1F rfl fun a52 =>
q_aNil <| q_on1 <| q_1F rfl fun a53 =>
q_aNil <| q_rngK rfl fun xs51 =>
q_comp (f0 := ([some (.io, a29), some (.frz, x1), some (.frz, x2), none, none, none, none, none, none] : Fs)) rfl rfl (fun d54 =>
q_an rfl <| q_a0 <| q_step <| q_bnd <| q_op <| q_op <| q_op <| q_op <| q_bnd <| q_io rfl <| q_1F rfl fun a57 =>
q_op <| q_var rfl <| q_at <| q_dF rfl rfl fun a58 =>
q_dF rfl rfl fun a59 =>
q_var rfl <| q_dF rfl rfl fun a60 =>
q_at <| q_dF rfl rfl fun a61 =>
q_at <| q_dF rfl rfl fun a62 =>
q_bol rfl fun b56 =>
q_iteF (q_bnd <| q_var rfl <| q_frz <| q_ok rfl rfl) (q_ok rfl rfl)) fun a64 =>
q_aNil <| q_callF rfl rfl (r_p_mask_of _) fun a65 =>
q_frz <| q_io rfl <| q_fldK rfl rfl fun a66 =>
q_sfld <| q_lc <| q_seq <| q_bnd <| q_aCons <| q_bnd <| q_io rfl <| q_1F rfl fun a68 =>
q_aNil <| q_callO rfl rfl (r_p_candidates _) fun a69 =>
q_seqO fun xs67 =>
q_comp (f0 := ([some (.io, a66), some (.frz, x1), some (.frz, x2), none, none, none, none, none, none] : Fs)) rfl rfl (fun d70 =>
q_an rfl <| q_a0 <| q_step <| q_bnd <| q_bnd <| q_aCons <| q_io rfl <| q_aCons <| q_var rfl <| q_aNil <| q_callF rfl rfl (r_p_follows _ _) fun a73 =>
q_tru rfl fun b72 =>
q_iteF (q_bnd <| q_var rfl <| q_frz <| q_ok rfl rfl) (q_ok rfl rfl)) fun a75 =>
q_frzO <| q_io rfl <| q_fldK rfl rfl fun a76 =>
q_end ⟨rfl, rfl⟩
def g_l_rank (x0 x1 : D) : R D := runR (β := Unit) (
yb (okR (isLst x0)) fun _ =>
yb (opF (ixD x1 (dI 0))) fun a1 =>
yb (opF (indexD x0 a1)) fun a2 =>
yb (opF (mulD (dI 2) a2)) fun a3 =>
yb (opF (ixD x1 (dI 1))) fun a4 =>
yb (opF (intD a4)) fun a5 =>
yb (opF (addD a3 a5)) fun a6 =>
.rt a6)
theorem r_l_rank (x0 x1 : D) : Rf0 f_l_rank [(.frz, x0), (.frz, x1)] .frz (g_l_rank x0 x1) := by
  unfold f_l_rank b_l_rank g_l_rank
  exact q_def ([some (.frz, x0), some (.frz, x1)] : Fs) rfl rfl rfl <|
q_sret <| q_op <| q_op <| q_at <| q_bm <| q_var rfl <| q_bmK rfl <| q_aCons <| q_op <| q_var rfl <| q_at <| q_dF rfl rfl fun a1 =>
q_aNil <| q_on2 <| q_dF rfl rfl fun a2 =>
q_dF rfl rfl fun a3 =>
q_bnd <| q_aCons <| q_op <| q_var rfl <| q_at <| q_dF rfl rfl fun a4 =>
q_aNil <| q_on1 <| q_1F rfl fun a5 =>
q_dF rfl rfl fun a6 =>
q_rt rfl
def g_l_steps (x0 x1 : D) : R D := runR (β := Unit) (
yb (unT2 x1) fun t1 =>
yb (seqR x0) fun xs2 =>
bC (forC xs2 (dL []) fun d4 s3 =>
yb (unT3 d4) fun t5 =>
bC (yb (andR (yb (opF (eqD t5.1 (dS "in"))) fun a8 =>
yb (bolR a8) fun b7 =>
.ok b7) (andR (yb (truR t1.2) fun b9 =>
.ok b9) (yb (opF (eqD t5.2.1 t1.1)) fun a11 =>
yb (bolR a11) fun b10 =>
.ok b10))) fun b12 =>
if b12 = true then
yb (okR (isLst s3)) fun _ =>
yb (chgR appG s3 [(dTu [t5.2.2, (dB true)])]) fun a13 =>
.nx a13.1
else
.nx s3) fun s6 =>
bC (yb (andR (yb (opF (eqD t5.1 (dS "in"))) fun a16 =>
yb (bolR a16) fun b15 =>
.ok b15) (andR (yb (truR t1.2) fun b17 =>
.ok (!b17)) (yb (opF (eqD t5.2.2 t1.1)) fun a19 =>
yb (bolR a19) fun b18 =>
.ok b18))) fun b20 =>
if b20 = true then
yb (okR (isLst s6)) fun _ =>
yb (chgR appG s6 [(dTu [t5.2.1, (dB false)])]) fun a21 =>
.nx a21.1
else
.nx s6) fun s14 =>
bC (yb (andR (yb (opF (eqD t5.1 (dS "apart"))) fun a24 =>
yb (bolR a24) fun b23 =>
.ok b23) (yb (truR t1.2) fun b25 =>
.ok b25)) fun b26 =>
if b26 = true then
yb (lstR (dL [(dTu [t5.2.1, t5.2.2]), (dTu [t5.2.2, t5.2.1])])) fun xs27 =>
yb (capR xs27) fun ys33 =>
yb (compR (fun d28 =>
yb (unT2 d28) fun t30 =>
yb (opF (eqD t30.1 t1.1)) fun a32 =>
yb (bolR a32) fun b31 =>
if b31 = true then
.ok (some (dTu [t30.2, (dB false)]))
else .ok none
) ys33) fun a34 =>
yb (opO (addD s14 (dL a34))) fun a35 =>
.nx a35
else
.nx s14) fun s22 =>
bC (yb (andR (yb (opF (eqD t5.1 (dS "cover"))) fun a38 =>
yb (bolR a38) fun b37 =>
.ok b37) (yb (truR t1.2) fun b39 =>
.ok (!b39))) fun b40 =>
if b40 = true then
yb (lstR (dL [(dTu [t5.2.1, t5.2.2]), (dTu [t5.2.2, t5.2.1])])) fun xs41 =>
yb (capR xs41) fun ys47 =>
yb (compR (fun d42 =>
yb (unT2 d42) fun t44 =>
yb (opF (eqD t44.1 t1.1)) fun a46 =>
yb (bolR a46) fun b45 =>
if b45 = true then
.ok (some (dTu [t44.2, (dB true)]))
else .ok none
) ys47) fun a48 =>
yb (opO (addD s22 (dL a48))) fun a49 =>
.nx a49
else
.nx s22) fun s36 =>
.nx s36) fun s50 =>
.rt s50)
theorem r_l_steps (x0 x1 : D) : Rf0 f_l_steps [(.frz, x0), (.frz, x1)] .own (g_l_steps x0 x1) := by
  unfold f_l_steps b_l_steps g_l_steps
  exact q_def ([some (.frz, x0), some (.frz, x1), none, none, none, none, none, none, none, none] : Fs) rfl rfl rfl <|
q_asg <| q_var rfl <| q_frz <| q_a2 fun t1 =>
q_an rfl <| q_an rfl <| q_a0 <| q_set <| q_bnd <| q_aNil <| q_mkL rfl <| q_setO rfl <| q_for <| q_seq <| q_var rfl <| q_seqF fun xs2 =>
q_forK (fun s3 : D => ([some (.frz, x0), some (.frz, x1), some (.own, s3), some (.frz, t1.1), some (.frz, t1.2), none, none, none, none, none] : Fs)) rfl (fun d4 s3 =>
q_a3 fun t5 =>
q_an rfl <| q_an rfl <| q_an rfl <| q_a0 <| q_ifJ (fun s6 : D => ([some (.frz, x0), some (.frz, x1), some (.own, s6), some (.frz, t1.1), some (.frz, t1.2), some (.frz, t5.1), some (.frz, t5.2.1), some (.frz, t5.2.2), none, none] : Fs)) (q_sub (V := id) (F := fun _ => ([some (.frz, x0), some (.frz, x1), some (.own, s3), some (.frz, t1.1), some (.frz, t1.2), some (.frz, t5.1), some (.frz, t5.2.1), some (.frz, t5.2.2), none, none] : Fs)) (q_and (q_in <| q_bnd <| q_op <| q_var rfl <| q_at <| q_dF rfl rfl fun a8 =>
q_bol rfl fun b7 =>
q_ok rfl rfl) (q_and (q_in <| q_bnd <| q_var rfl <| q_tru rfl fun b9 =>
q_ok rfl rfl) (q_in <| q_bnd <| q_op <| q_var rfl <| q_var rfl <| q_dF rfl rfl fun a11 =>
q_bol rfl fun b10 =>
q_ok rfl rfl))) fun b12 =>
q_iteF (q_drop <| q_bm <| q_own rfl <| q_bmK rfl <| q_aCons <| q_bnd <| q_aCons <| q_var rfl <| q_aCons <| q_at <| q_aNil <| q_mkT rfl <| q_aNil <| q_chg rfl rfl rfl fun a13 =>
q_end rfl) (q_end rfl)) fun s6 =>
q_ifJ (fun s14 : D => ([some (.frz, x0), some (.frz, x1), some (.own, s14), some (.frz, t1.1), some (.frz, t1.2), some (.frz, t5.1), some (.frz, t5.2.1), some (.frz, t5.2.2), none, none] : Fs)) (q_sub (V := id) (F := fun _ => ([some (.frz, x0), some (.frz, x1), some (.own, s6), some (.frz, t1.1), some (.frz, t1.2), some (.frz, t5.1), some (.frz, t5.2.1), some (.frz, t5.2.2), none, none] : Fs)) (q_and (q_in <| q_bnd <| q_op <| q_var rfl <| q_at <| q_dF rfl rfl fun a16 =>
q_bol rfl fun b15 =>
q_ok rfl rfl) (q_and (q_in <| q_not <| q_bnd <| q_var rfl <| q_tru rfl fun b17 =>
q_ok rfl rfl) (q_in <| q_bnd <| q_op <| q_var rfl <| q_var rfl <| q_dF rfl rfl fun a19 =>
q_bol rfl fun b18 =>
q_ok rfl rfl))) fun b20 =>
q_iteF (q_drop <| q_bm <| q_own rfl <| q_bmK rfl <| q_aCons <| q_bnd <| q_aCons <| q_var rfl <| q_aCons <| q_at <| q_aNil <| q_mkT rfl <| q_aNil <| q_chg rfl rfl rfl fun a21 =>
q_end rfl) (q_end rfl)) fun s14 =>
q_ifJ (fun s22 : D => ([some (.frz, x0), some (.frz, x1), some (.own, s22), some (.frz, t1.1), some (.frz, t1.2), some (.frz, t5.1), some (.frz, t5.2.1), some (.frz, t5.2.2), none, none] : Fs)) (q_sub (V := id) (F := fun _ => ([some (.frz, x0), some (.frz, x1), some (.own, s14), some (.frz, t1.1), some (.frz, t1.2), some (.frz, t5.1), some (.frz, t5.2.1), some (.frz, t5.2.2), none, none] : Fs)) (q_and (q_in <| q_bnd <| q_op <| q_var rfl <| q_at <| q_dF rfl rfl fun a24 =>
q_bol rfl fun b23 =>
q_ok rfl rfl) (q_in <| q_bnd <| q_var rfl <| q_tru rfl fun b25 =>
q_ok rfl rfl)) fun b26 =>
q_iteF (q_set <| q_op <| q_own rfl <| q_lc <| q_seq <| q_bnd <| q_aCons <| q_bnd <| q_aCons <| q_var rfl <| q_aCons <| q_var rfl <| q_aNil <| q_mkT rfl <| q_aCons <| q_bnd <| q_aCons <| q_var rfl <| q_aCons <| q_var rfl <| q_aNil <| q_mkT rfl <| q_aNil <| q_mkL rfl <| q_seqO fun xs27 =>
q_comp (f0 := ([some (.frz, x0), some (.frz, x1), some (.own, s14), some (.frz, t1.1), some (.frz, t1.2), some (.frz, t5.1), some (.frz, t5.2.1), some (.frz, t5.2.2), none, none] : Fs)) rfl rfl (fun d28 =>
q_a2 fun t30 =>
q_an rfl <| q_an rfl <| q_a0 <| q_step <| q_bnd <| q_op <| q_var rfl <| q_var rfl <| q_dF rfl rfl fun a32 =>
q_bol rfl fun b31 =>
q_iteF (q_bnd <| q_bnd <| q_aCons <| q_var rfl <| q_aCons <| q_at <| q_aNil <| q_mkT rfl <| q_frz <| q_ok rfl rfl) (q_ok rfl rfl)) fun a34 =>
q_dO rfl rfl fun a35 =>
q_setO rfl <| q_end rfl) (q_end rfl)) fun s22 =>
q_ifJ (fun s36 : D => ([some (.frz, x0), some (.frz, x1), some (.own, s36), some (.frz, t1.1), some (.frz, t1.2), some (.frz, t5.1), some (.frz, t5.2.1), some (.frz, t5.2.2), none, none] : Fs)) (q_sub (V := id) (F := fun _ => ([some (.frz, x0), some (.frz, x1), some (.own, s22), some (.frz, t1.1), some (.frz, t1.2), some (.frz, t5.1), some (.frz, t5.2.1), some (.frz, t5.2.2), none, none] : Fs)) (q_and (q_in <| q_bnd <| q_op <| q_var rfl <| q_at <| q_dF rfl rfl fun a38 =>
q_bol rfl fun b37 =>
q_ok rfl rfl) (q_in <| q_not <| q_bnd <| q_var rfl <| q_tru rfl fun b39 =>
q_ok rfl rfl)) fun b40 =>
q_iteF (q_set <| q_op <| q_own rfl <| q_lc <| q_seq <| q_bnd <| q_aCons <| q_bnd <| q_aCons <| q_var rfl <| q_aCons <| q_var rfl <| q_aNil <| q_mkT rfl <| q_aCons <| q_bnd <| q_aCons <| q_var rfl <| q_aCons <| q_var rfl <| q_aNil <| q_mkT rfl <| q_aNil <| q_mkL rfl <| q_seqO fun xs41 =>
q_comp (f0 := ([some (.frz, x0), some (.frz, x1), some (.own, s22), some (.frz, t1.1), some (.frz, t1.2), some (.frz, t5.1), some (.frz, t5.2.1), some (.frz, t5.2.2), none, none] : Fs)) rfl rfl (fun d42 =>
q_a2 fun t44 =>
q_an rfl <| q_an rfl <| q_a0 <| q_step <| q_bnd <| q_op <| q_var rfl <| q_var rfl <| q_dF rfl rfl fun a46 =>
q_bol rfl fun b45 =>
q_iteF (q_bnd <| q_bnd <| q_aCons <| q_var rfl <| q_aCons <| q_at <| q_aNil <| q_mkT rfl <| q_frz <| q_ok rfl rfl) (q_ok rfl rfl)) fun a48 =>
q_dO rfl rfl fun a49 =>
q_setO rfl <| q_end rfl) (q_end rfl)) fun s36 =>
q_gh rfl <| q_end rfl) fun s50 =>
q_sret <| q_own rfl <| q_rt rfl
def g_l_ways (x0 x1 x2 : D) : R D := runR (β := Unit) (
bC (whileC (fun s1 =>
yb (opF (lenD s1.1)) fun a3 =>
yb (opF (ltD s1.2.2 a3)) fun a4 =>
yb (bolR a4) fun b2 =>
.ok b2) (fun s1 =>
yb (opF (ixD s1.1 s1.2.2)) fun a5 =>
yb (opF (addD s1.2.2 (dI 1))) fun a6 =>
yb (opF (negD (dI 1))) fun a8 =>
yb (opF (ixD a5 a8)) fun a9 =>
yb (g_l_steps x1 a9) fun a10 =>
yb (lstR a10) fun xs7 =>
yb (capR xs7) fun ys14 =>
yb (compR (fun d11 =>
yb (g_l_rank x0 d11) fun a13 =>
.ok (some a13)
) ys14) fun a15 =>
yb (opO (sortD (dL a15))) fun a16 =>
yb (lstR a16) fun xs17 =>
bC (forC xs17 (s1.1, s1.2.1) fun d19 s18 =>
yb (opF (fdivD d19 (dI 2))) fun a20 =>
yb (opF (ixD x0 a20)) fun a21 =>
yb (opF (modD d19 (dI 2))) fun a22 =>
yb (opF (eqD a22 (dI 1))) fun a23 =>
bC (yb (opF (ninT (dTu [a21, a23]) s18.2)) fun a26 =>
yb (bolR a26) fun b25 =>
if b25 = true then
yb (okR (isLst s18.2)) fun _ =>
yb (chgR appG s18.2 [(dTu [a21, a23])]) fun a27 =>
yb (okR (isLst s18.1)) fun _ =>
yb (opO (addD a5 (dL [(dTu [a21, a23])]))) fun a28 =>
yb (chgR appG s18.1 [a28]) fun a29 =>
.nx (a29.1, a27.1)
else
.nx (s18.1, s18.2)) fun s24 =>
.nx (s24.1, s24.2)) fun s30 =>
.nx (s30.1, s30.2, a6)) 1000 ((dL [(dL [x2])]), (dL [x2]), (dI 0))) fun s31 =>
.rt s31.1)
theorem r_l_ways (x0 x1 x2 : D) : Rf0 f_l_ways [(.frz, x0), (.frz, x1), (.frz, x2)] .own (g_l_ways x0 x1 x2) := by
  unfold f_l_ways b_l_ways g_l_ways
  exact q_def ([some (.frz, x0), some (.frz, x1), some (.frz, x2), none, none, none, none, none, none, none] : Fs) rfl rfl rfl <|
q_set <| q_bnd <| q_aCons <| q_bnd <| q_aCons <| q_var rfl <| q_aNil <| q_mkL rfl <| q_aNil <| q_mkL rfl <| q_setO rfl <| q_set <| q_bnd <| q_aCons <| q_var rfl <| q_aNil <| q_mkL rfl <| q_setO rfl <| q_set <| q_at <| q_setF rfl <| q_while (fun s1 : D × D × D => ([some (.frz, x0), some (.frz, x1), some (.frz, x2), some (.own, s1.1), some (.own, s1.2.1), some (.frz, s1.2.2), none, none, none, none] : Fs)) rfl (fun s1 =>
q_in <| q_bnd <| q_op <| q_var rfl <| q_bnd <| q_aCons <| q_own rfl <| q_aNil <| q_on1 <| q_1F rfl fun a3 =>
q_dF rfl rfl fun a4 =>
q_bol rfl fun b2 =>
q_ok rfl rfl) (fun s1 =>
q_set <| q_op <| q_own rfl <| q_var rfl <| q_dF rfl rfl fun a5 =>
q_setF rfl <| q_set <| q_op <| q_var rfl <| q_at <| q_dF rfl rfl fun a6 =>
q_setF rfl <| q_set <| q_bnd <| q_aCons <| q_lc <| q_seq <| q_bnd <| q_aCons <| q_var rfl <| q_aCons <| q_op <| q_var rfl <| q_bnd <| q_at <| q_1F rfl fun a8 =>
q_dF rfl rfl fun a9 =>
q_aNil <| q_callO rfl rfl (r_l_steps _ _) fun a10 =>
q_seqO fun xs7 =>
q_comp (f0 := ([some (.frz, x0), some (.frz, x1), some (.frz, x2), some (.own, s1.1), some (.own, s1.2.1), some (.frz, a6), some (.frz, a5), none, none, none] : Fs)) rfl rfl (fun d11 =>
q_an rfl <| q_a0 <| q_step <| q_yes <| q_bnd <| q_bnd <| q_aCons <| q_var rfl <| q_aCons <| q_var rfl <| q_aNil <| q_callF rfl rfl (r_l_rank _ _) fun a13 =>
q_frz <| q_ok rfl rfl) fun a15 =>
q_aNil <| q_on1 <| q_1O rfl fun a16 =>
q_setO rfl <| q_for <| q_seq <| q_own rfl <| q_seqS rfl fun xs17 =>
q_forK (fun s18 : D × D => ([some (.frz, x0), some (.frz, x1), some (.frz, x2), some (.own, s18.1), some (.own, s18.2), some (.frz, a6), some (.frz, a5), some (.bor, a16), none, none] : Fs)) rfl (fun d19 s18 =>
q_an rfl <| q_a0 <| q_set <| q_bnd <| q_aCons <| q_op <| q_var rfl <| q_op <| q_var rfl <| q_at <| q_dF rfl rfl fun a20 =>
q_dF rfl rfl fun a21 =>
q_aCons <| q_op <| q_op <| q_var rfl <| q_at <| q_dF rfl rfl fun a22 =>
q_at <| q_dF rfl rfl fun a23 =>
q_aNil <| q_mkT rfl <| q_setF rfl <| q_ifJ (fun s24 : D × D => ([some (.frz, x0), some (.frz, x1), some (.frz, x2), some (.own, s24.1), some (.own, s24.2), some (.frz, a6), some (.frz, a5), some (.bor, a16), some (.frz, d19), some (.frz, (dTu [a21, a23]))] : Fs)) (q_bnd <| q_op <| q_var rfl <| q_own rfl <| q_dF rfl rfl fun a26 =>
q_bol rfl fun b25 =>
q_iteF (q_drop <| q_bm <| q_own rfl <| q_bmK rfl <| q_aCons <| q_var rfl <| q_aNil <| q_chg rfl rfl rfl fun a27 =>
q_drop <| q_bm <| q_own rfl <| q_bmK rfl <| q_aCons <| q_op <| q_var rfl <| q_bnd <| q_aCons <| q_var rfl <| q_aNil <| q_mkL rfl <| q_dO rfl rfl fun a28 =>
q_aNil <| q_chg rfl rfl rfl fun a29 =>
q_end rfl) (q_end rfl)) fun s24 =>
q_gh rfl <| q_end rfl) fun s30 =>
q_gh rfl <| q_end rfl) fun s31 =>
q_sret <| q_own rfl <| q_rt rfl
def g_p_is_claim (x0 x1 : D) : R D := runR (β := Unit) (
yb (orR (yb (isiR (itB .tup) x1) fun a2 =>
yb (truR a2) fun b1 =>
.ok (!b1)) (yb (opF (lenD x1)) fun a4 =>
yb (opF (neD a4 (dI 2))) fun a5 =>
yb (bolR a5) fun b3 =>
.ok b3)) fun b6 =>
if b6 = true then
.rt (dB false)
else
yb (yb (opF (fldD "Facts" "places" x0)) fun a7 =>
yb (opF (ixD x1 (dI 0))) fun a8 =>
yb (g_p_is_region a7 a8) fun a9 =>
yb (truR a9) fun b10 =>
if b10 = true then
yb (opF (ixD x1 (dI 1))) fun a11 =>
yb (isiR (itB .bl) a11) fun a12 =>
.ok a12
else .ok a9
) fun a13 =>
.rt a13)
theorem r_p_is_claim (x0 x1 : D) : Rf0 f_p_is_claim [(.frz, x0), (.frz, x1)] .frz (g_p_is_claim x0 x1) := by
  unfold f_p_is_claim b_p_is_claim g_p_is_claim
  exact q_def ([some (.frz, x0), some (.frz, x1)] : Fs) rfl rfl rfl <|
q_if <| q_sub (V := id) (F := fun _ => ([some (.frz, x0), some (.frz, x1)] : Fs)) (q_or (q_in <| q_not <| q_bnd <| q_bnd <| q_var rfl <| q_isi rfl fun a2 =>
q_tru rfl fun b1 =>
q_ok rfl rfl) (q_in <| q_bnd <| q_op <| q_bnd <| q_aCons <| q_var rfl <| q_aNil <| q_on1 <| q_1F rfl fun a4 =>
q_at <| q_dF rfl rfl fun a5 =>
q_bol rfl fun b3 =>
q_ok rfl rfl)) fun b6 =>
q_iteF (q_assoc <| q_sret <| q_at <| q_rt rfl) (q_skip <| q_sret <| q_sub (V := fun a : D => Tv.frz a) (F := fun _ => ([some (.frz, x0), some (.frz, x1)] : Fs)) (q_in <| q_vAnd <| q_bnd <| q_aCons <| q_bnd <| q_var rfl <| q_1F rfl fun a7 =>
q_aCons <| q_op <| q_var rfl <| q_at <| q_dF rfl rfl fun a8 =>
q_aNil <| q_callF rfl rfl (r_p_is_region _ _) fun a9 =>
q_tru rfl fun b10 =>
q_iteF (q_bnd <| q_op <| q_var rfl <| q_at <| q_dF rfl rfl fun a11 =>
q_isi rfl fun a12 =>
q_ok rfl rfl) (q_ok rfl rfl)) fun a13 =>
q_rt rfl)
def g_p_claim_number (x0 x1 : D) : R D := runR (β := Unit) (
yb (opF (fldD "Facts" "places" x0)) fun a1 =>
yb (opF (ixD x1 (dI 0))) fun a2 =>
yb (opF (ixD a1 a2)) fun a3 =>
yb (opA (mulD (dI 2) a3)) fun a4 =>
yb (opF (ixD x1 (dI 1))) fun a5 =>
yb (opF (intD a5)) fun a6 =>
yb (opF (addD a4 a6)) fun a7 =>
.rt a7)
theorem r_p_claim_number (x0 x1 : D) : Rf0 f_p_claim_number [(.frz, x0), (.frz, x1)] .frz (g_p_claim_number x0 x1) := by
  unfold f_p_claim_number b_p_claim_number g_p_claim_number
  exact q_def ([some (.frz, x0), some (.frz, x1)] : Fs) rfl rfl rfl <|
q_sret <| q_op <| q_fz <| q_op <| q_at <| q_op <| q_bnd <| q_var rfl <| q_1F rfl fun a1 =>
q_op <| q_var rfl <| q_at <| q_dF rfl rfl fun a2 =>
q_dF rfl rfl fun a3 =>
q_dA rfl rfl fun a4 =>
q_bnd <| q_aCons <| q_op <| q_var rfl <| q_at <| q_dF rfl rfl fun a5 =>
q_aNil <| q_on1 <| q_1F rfl fun a6 =>
q_dF rfl rfl fun a7 =>
q_rt rfl
def g_p_told_claims (x0 x1 : D) : R D := runR (β := Unit) (
yb (seqR x1) fun xs1 =>
yb (capR xs1) fun ys8 =>
yb (compR (fun d2 =>
yb (opF (fdivD d2 (dI 2))) fun a4 =>
yb (opF (ixD x0 a4)) fun a5 =>
yb (opF (modD d2 (dI 2))) fun a6 =>
yb (opF (eqD a6 (dI 1))) fun a7 =>
.ok (some (dTu [a5, a7]))
) ys8) fun a9 =>
.rt (dL a9))
theorem r_p_told_claims (x0 x1 : D) : Rf0 f_p_told_claims [(.frz, x0), (.frz, x1)] .own (g_p_told_claims x0 x1) := by
  unfold f_p_told_claims b_p_told_claims g_p_told_claims
  exact q_def ([some (.frz, x0), some (.frz, x1), none] : Fs) rfl rfl rfl <|
q_sret <| q_lc <| q_seq <| q_var rfl <| q_seqF fun xs1 =>
q_comp (f0 := ([some (.frz, x0), some (.frz, x1), none] : Fs)) rfl rfl (fun d2 =>
q_an rfl <| q_a0 <| q_step <| q_yes <| q_bnd <| q_bnd <| q_aCons <| q_op <| q_var rfl <| q_op <| q_var rfl <| q_at <| q_dF rfl rfl fun a4 =>
q_dF rfl rfl fun a5 =>
q_aCons <| q_op <| q_op <| q_var rfl <| q_at <| q_dF rfl rfl fun a6 =>
q_at <| q_dF rfl rfl fun a7 =>
q_aNil <| q_mkT rfl <| q_frz <| q_ok rfl rfl) fun a9 =>
q_rt rfl
def g_m_Facts_way (x0 x1 x2 : D) : R D := runR (β := Unit) (
yb (lstR (dL [x1, x2])) fun xs1 =>
bC (forC (enumD 0 xs1) () fun d3 s2 =>
yb (unT2 d3) fun t4 =>
yb (g_p_is_claim x0 t4.2) fun a6 =>
yb (truR a6) fun b5 =>
if (!b5) = true then
.bad
else
.nx ()) fun s7 =>
yb (opF (fldD "Facts" "steps" x0)) fun a8 =>
yb (g_p_claim_number x0 x1) fun a9 =>
yb (g_p_reached a8 a9) fun a10 =>
yb (okR (isDic a10)) fun _ =>
yb (g_p_claim_number x0 x2) fun a11 =>
yb (opF (getD a10 a11)) fun a12 =>
yb (opF (isT a12 dN)) fun a14 =>
yb (bolR a14) fun b13 =>
if b13 = true then
.rt dN
else
yb (opF (fldD "Facts" "names" x0)) fun a15 =>
yb (g_p_told_claims a15 a12) fun a16 =>
rtN a16)
theorem r_m_Facts_way (x0 x1 x2 : D) : RfO f_m_Facts_way [(.frz, x0), (.frz, x1), (.frz, x2)] (g_m_Facts_way x0 x1 x2) := by
  unfold f_m_Facts_way b_m_Facts_way g_m_Facts_way
  exact q_defA ([some (.frz, x0), some (.frz, x1), some (.frz, x2), none, none, none] : Fs) rfl rfl rfl <|
q_for <| q_enu <| q_bnd <| q_aCons <| q_var rfl <| q_aCons <| q_var rfl <| q_aNil <| q_mkL rfl <| q_enuO fun xs1 =>
q_forK (fun s2 : Unit => ([some (.frz, x0), some (.frz, x1), some (.frz, x2), none, none, none] : Fs)) rfl (fun d3 s2 =>
q_a2 fun t4 =>
q_an rfl <| q_an rfl <| q_a0 <| q_if <| q_not <| q_bnd <| q_bnd <| q_aCons <| q_var rfl <| q_aCons <| q_var rfl <| q_aNil <| q_callF rfl rfl (r_p_is_claim _ _) fun a6 =>
q_tru rfl fun b5 =>
q_iteF (q_assoc <| q_badS rfl) (q_skip <| q_gh rfl <| q_end rfl)) fun s7 =>
q_set <| q_get <| q_bnd <| q_aCons <| q_bnd <| q_var rfl <| q_1F rfl fun a8 =>
q_aCons <| q_bnd <| q_aCons <| q_var rfl <| q_aCons <| q_var rfl <| q_aNil <| q_callF rfl rfl (r_p_claim_number _ _) fun a9 =>
q_aNil <| q_callO rfl rfl (r_p_reached _ _) fun a10 =>
q_getK rfl <| q_bnd <| q_aCons <| q_var rfl <| q_aCons <| q_var rfl <| q_aNil <| q_callF rfl rfl (r_p_claim_number _ _) fun a11 =>
q_dF rfl rfl fun a12 =>
q_setF rfl <| q_if <| q_bnd <| q_op <| q_var rfl <| q_at <| q_dF rfl rfl fun a14 =>
q_bol rfl fun b13 =>
q_iteF (q_assoc <| q_sret <| q_at <| q_rt rfl) (q_skip <| q_sret <| q_bnd <| q_aCons <| q_bnd <| q_var rfl <| q_1F rfl fun a15 =>
q_aCons <| q_var rfl <| q_aNil <| q_callO rfl rfl (r_p_told_claims _ _) fun a16 =>
q_rtN)
def g_p_law (x0 : D) : R D := runR (β := Unit) (
yb (rngR k1 [(dI 4)]) fun xs1 =>
bC (forC xs1 () fun d3 s2 =>
yb (g_l_pile x0 d3) fun a4 =>
yb (g_l_take a4 (dI 8)) fun a5 =>
yb (opF (addD (dI 1) a5.1)) fun a6 =>
yb (g_l_names a5.2 a6) fun a7 =>
yb (g_l_held a7.2 a7.1 (dI 12)) fun a8 =>
yb (mkR (g_m_Facts___init__ (.nd (.ins "Facts" []) []) a7.1 a8.1)) fun a9 =>
yb (seqR a7.1) fun xs10 =>
bC (forC xs10 (dL []) fun d12 s11 =>
yb (opO (addD s11 (dL [(dTu [d12, (dB false)]), (dTu [d12, (dB true)])]))) fun a13 =>
.nx a13) fun s14 =>
yb (lstR s14) fun xs15 =>
bC (forC xs15 () fun d17 s16 =>
yb (g_l_ways a7.1 a8.1 d17) fun a18 =>
yb (lstR s14) fun xs19 =>
bC (forC xs19 () fun d21 s20 =>
yb (lstR a18) fun xs22 =>
yb (capR xs22) fun ys29 =>
yb (compR (fun d23 =>
yb (opF (negD (dI 1))) fun a26 =>
yb (opF (ixD d23 a26)) fun a27 =>
yb (opF (eqD a27 d21)) fun a28 =>
yb (bolR a28) fun b25 =>
if b25 = true then
.ok (some d23)
else .ok none
) ys29) fun a30 =>
yb (opO (addD (dL a30) (dL [dN]))) fun a31 =>
yb (opF (ixD a31 (dI 0))) fun a32 =>
yb (okR (insNo "Facts" "way" a9)) fun _ =>
yb (g_m_Facts_way a9 d17 d21) fun a33 =>
optC a33 (fun a33 =>
yb (opF (strA a33)) fun a35 =>
yb (opF (strA a32)) fun a36 =>
yb (opF (neD a35 a36)) fun a37 =>
yb (bolR a37) fun b34 =>
if b34 = true then
.rt (dB false)
else
yb (okR (insNo "Facts" "way" a9)) fun _ =>
yb (opF (ixD d21 (dI 0))) fun a38 =>
yb (opF (ixD d21 (dI 1))) fun a39 =>
yb (truR a39) fun b40 =>
yb (opF (ixD d17 (dI 0))) fun a41 =>
yb (opF (ixD d17 (dI 1))) fun a42 =>
yb (truR a42) fun b43 =>
yb (g_m_Facts_way a9 (dTu [a38, (dB (!b40))]) (dTu [a41, (dB (!b43))])) fun a44 =>
yb (opF (isT a44 dN)) fun a46 =>
yb (opF (isT a32 dN)) fun a47 =>
yb (opF (neD a46 a47)) fun a48 =>
yb (bolR a48) fun b45 =>
if b45 = true then
.rt (dB false)
else
bC (yb (opF (isnT a32 dN)) fun a51 =>
yb (bolR a51) fun b50 =>
if b50 = true then
.bad
else
.nx ()) fun s49 =>
.nx ()) (fun a33 =>
yb (opF (strA a33)) fun a53 =>
yb (opF (strA a32)) fun a54 =>
yb (opF (neD a53 a54)) fun a55 =>
yb (bolR a55) fun b52 =>
if b52 = true then
.rt (dB false)
else
yb (okR (insNo "Facts" "way" a9)) fun _ =>
yb (opF (ixD d21 (dI 0))) fun a56 =>
yb (opF (ixD d21 (dI 1))) fun a57 =>
yb (truR a57) fun b58 =>
yb (opF (ixD d17 (dI 0))) fun a59 =>
yb (opF (ixD d17 (dI 1))) fun a60 =>
yb (truR a60) fun b61 =>
yb (g_m_Facts_way a9 (dTu [a56, (dB (!b58))]) (dTu [a59, (dB (!b61))])) fun a62 =>
yb (opF (isT a62 dN)) fun a64 =>
yb (opF (isT a32 dN)) fun a65 =>
yb (opF (neD a64 a65)) fun a66 =>
yb (bolR a66) fun b63 =>
if b63 = true then
.rt (dB false)
else
bC (yb (opF (isnT a32 dN)) fun a69 =>
yb (bolR a69) fun b68 =>
if b68 = true then
yb (okR (isLst a33)) fun _ =>
yb (chgR appG a33 [(dS "x")]) fun a70 =>
yb (orR (yb (opF (lenD a62)) fun a72 =>
yb (opF (lenD a32)) fun a73 =>
yb (opF (neD a72 a73)) fun a74 =>
yb (bolR a74) fun b71 =>
.ok b71) (yb (okR (insNo "Facts" "way" a9)) fun _ =>
yb (g_m_Facts_way a9 d17 d21) fun a76 =>
yb (opF (neD a76 a32)) fun a77 =>
yb (bolR a77) fun b75 =>
.ok b75)) fun b78 =>
if b78 = true then
.rt (dB false)
else
.nx a70.1
else
.nx a33) fun s67 =>
.nx ())) fun s79 =>
.nx ()) fun s80 =>
.nx ()) fun s81 =>
.rt (dB true))
theorem r_p_law (x0 : D) : Rf0 f_p_law [(.frz, x0)] .frz (g_p_law x0) := by
  unfold f_p_law b_p_law g_p_law
  exact q_def ([some (.frz, x0), none, none, none, none, none, none, none, none, none, none, none, none, none, none] : Fs) rfl rfl rfl <|
q_for <| q_rng <| q_aCons <| q_at <| q_aNil <| q_rngK rfl fun xs1 =>
q_forK (fun s2 : Unit => ([some (.frz, x0), none, none, none, none, none, none, none, none, none, none, none, none, none, none] : Fs)) rfl (fun d3 s2 =>
q_an rfl <| q_a0 <| q_set <| q_bnd <| q_aCons <| q_var rfl <| q_aCons <| q_var rfl <| q_aNil <| q_callO rfl rfl (r_l_pile _ _) fun a4 =>
q_setO rfl <| q_set <| q_bnd <| q_aCons <| q_own rfl <| q_aCons <| q_op <| q_at <| q_bnd <| q_aCons <| q_own rfl <| q_aCons <| q_at <| q_aNil <| q_callmF rfl rfl rfl rfl (r_l_take _ _) fun a5 =>
q_dF rfl rfl fun a6 =>
q_aNil <| q_callmO rfl rfl rfl rfl (r_l_names _ _) fun a7 =>
q_setO rfl <| q_set <| q_bnd <| q_aCons <| q_own rfl <| q_aCons <| q_own rfl <| q_aCons <| q_at <| q_aNil <| q_callmO rfl rfl rfl rfl (r_l_held _ _ _) fun a8 =>
q_setO rfl <| q_set <| q_fz <| q_bnd <| q_aCons <| q_var rfl <| q_aCons <| q_own rfl <| q_aNil <| q_mk rfl rfl rfl (r_m_Facts___init__ _ _ _) fun a9 =>
q_frzO <| q_setF rfl <| q_set <| q_bnd <| q_aNil <| q_mkL rfl <| q_setO rfl <| q_for <| q_seq <| q_var rfl <| q_seqF fun xs10 =>
q_forK (fun s11 : D => ([some (.frz, x0), some (.frz, d3), some (.own, a8.2), some (.frz, a7.1), some (.frz, a8.1), some (.frz, a9), some (.own, s11), none, none, none, none, none, none, none, none] : Fs)) rfl (fun d12 s11 =>
q_an rfl <| q_a0 <| q_set <| q_op <| q_own rfl <| q_bnd <| q_aCons <| q_bnd <| q_aCons <| q_var rfl <| q_aCons <| q_at <| q_aNil <| q_mkT rfl <| q_aCons <| q_bnd <| q_aCons <| q_var rfl <| q_aCons <| q_at <| q_aNil <| q_mkT rfl <| q_aNil <| q_mkL rfl <| q_dO rfl rfl fun a13 =>
q_setO rfl <| q_gh rfl <| q_end rfl) fun s14 =>
q_for <| q_seq <| q_own rfl <| q_seqS rfl fun xs15 =>
q_forK (fun s16 : Unit => ([some (.frz, x0), some (.frz, d3), some (.own, a8.2), some (.frz, a7.1), some (.frz, a8.1), some (.frz, a9), some (.bor, s14), none, none, none, none, none, none, none, none] : Fs)) rfl (fun d17 s16 =>
q_an rfl <| q_a0 <| q_set <| q_bnd <| q_aCons <| q_var rfl <| q_aCons <| q_var rfl <| q_aCons <| q_var rfl <| q_aNil <| q_callO rfl rfl (r_l_ways _ _ _) fun a18 =>
q_setO rfl <| q_for <| q_seq <| q_bor rfl <| q_seqB rfl fun xs19 =>
q_forK (fun s20 : Unit => ([some (.frz, x0), some (.frz, d3), some (.own, a8.2), some (.frz, a7.1), some (.frz, a8.1), some (.frz, a9), some (.bor, s14), none, some (.frz, d17), some (.own, a18), none, none, none, none, none] : Fs)) rfl (fun d21 s20 =>
q_an rfl <| q_a0 <| q_set <| q_op <| q_op <| q_lc <| q_seq <| q_own rfl <| q_seqS rfl fun xs22 =>
q_comp (f0 := ([some (.frz, x0), some (.frz, d3), some (.own, a8.2), some (.frz, a7.1), some (.frz, a8.1), some (.frz, a9), some (.bor, s14), none, some (.frz, d17), some (.bor, a18), some (.frz, d21), none, none, none, none] : Fs)) rfl rfl (fun d23 =>
q_an rfl <| q_a0 <| q_step <| q_bnd <| q_op <| q_op <| q_var rfl <| q_bnd <| q_at <| q_1F rfl fun a26 =>
q_dF rfl rfl fun a27 =>
q_var rfl <| q_dF rfl rfl fun a28 =>
q_bol rfl fun b25 =>
q_iteF (q_bnd <| q_var rfl <| q_frz <| q_ok rfl rfl) (q_ok rfl rfl)) fun a30 =>
q_bnd <| q_aCons <| q_at <| q_aNil <| q_mkL rfl <| q_dO rfl rfl fun a31 =>
q_at <| q_dF rfl rfl fun a32 =>
q_setF rfl <| q_set <| q_meth <| q_var rfl <| q_methK rfl <| q_aCons <| q_var rfl <| q_aCons <| q_var rfl <| q_aNil <| q_callA rfl rfl (r_m_Facts_way _ _ _) (fun a33 =>
q_setF rfl <| q_if <| q_bnd <| q_op <| q_bnd <| q_aCons <| q_var rfl <| q_aNil <| q_on1 <| q_1F rfl fun a35 =>
q_bnd <| q_aCons <| q_var rfl <| q_aNil <| q_on1 <| q_1F rfl fun a36 =>
q_dF rfl rfl fun a37 =>
q_bol rfl fun b34 =>
q_iteF (q_assoc <| q_sret <| q_at <| q_rt rfl) (q_skip <| q_set <| q_fz <| q_meth <| q_var rfl <| q_methK rfl <| q_aCons <| q_bnd <| q_aCons <| q_op <| q_var rfl <| q_at <| q_dF rfl rfl fun a38 =>
q_aCons <| q_vNot <| q_op <| q_var rfl <| q_at <| q_dF rfl rfl fun a39 =>
q_tru rfl fun b40 =>
q_aNil <| q_mkT rfl <| q_aCons <| q_bnd <| q_aCons <| q_op <| q_var rfl <| q_at <| q_dF rfl rfl fun a41 =>
q_aCons <| q_vNot <| q_op <| q_var rfl <| q_at <| q_dF rfl rfl fun a42 =>
q_tru rfl fun b43 =>
q_aNil <| q_mkT rfl <| q_aNil <| q_callZ rfl rfl (r_m_Facts_way _ _ _) fun a44 =>
q_setF rfl <| q_if <| q_bnd <| q_op <| q_op <| q_var rfl <| q_at <| q_dF rfl rfl fun a46 =>
q_op <| q_var rfl <| q_at <| q_dF rfl rfl fun a47 =>
q_dF rfl rfl fun a48 =>
q_bol rfl fun b45 =>
q_iteF (q_assoc <| q_sret <| q_at <| q_rt rfl) (q_skip <| q_ifJ (fun s49 : Unit => ([some (.frz, x0), some (.frz, d3), some (.own, a8.2), some (.frz, a7.1), some (.frz, a8.1), some (.frz, a9), some (.bor, s14), none, some (.frz, d17), some (.own, a18), some (.frz, d21), some (.frz, a32), some (.frz, a33), some (.frz, a44), none] : Fs)) (q_bnd <| q_op <| q_var rfl <| q_at <| q_dF rfl rfl fun a51 =>
q_bol rfl fun b50 =>
q_iteF (q_drop <| q_bm <| q_var rfl <| q_any rfl) (q_end rfl)) fun s49 =>
q_gh rfl <| q_end rfl))) (fun a33 =>
q_setO rfl <| q_if <| q_bnd <| q_op <| q_bnd <| q_aCons <| q_own rfl <| q_aNil <| q_on1 <| q_1F rfl fun a53 =>
q_bnd <| q_aCons <| q_var rfl <| q_aNil <| q_on1 <| q_1F rfl fun a54 =>
q_dF rfl rfl fun a55 =>
q_bol rfl fun b52 =>
q_iteF (q_assoc <| q_sret <| q_at <| q_rt rfl) (q_skip <| q_set <| q_fz <| q_meth <| q_var rfl <| q_methK rfl <| q_aCons <| q_bnd <| q_aCons <| q_op <| q_var rfl <| q_at <| q_dF rfl rfl fun a56 =>
q_aCons <| q_vNot <| q_op <| q_var rfl <| q_at <| q_dF rfl rfl fun a57 =>
q_tru rfl fun b58 =>
q_aNil <| q_mkT rfl <| q_aCons <| q_bnd <| q_aCons <| q_op <| q_var rfl <| q_at <| q_dF rfl rfl fun a59 =>
q_aCons <| q_vNot <| q_op <| q_var rfl <| q_at <| q_dF rfl rfl fun a60 =>
q_tru rfl fun b61 =>
q_aNil <| q_mkT rfl <| q_aNil <| q_callZ rfl rfl (r_m_Facts_way _ _ _) fun a62 =>
q_setF rfl <| q_if <| q_bnd <| q_op <| q_op <| q_var rfl <| q_at <| q_dF rfl rfl fun a64 =>
q_op <| q_var rfl <| q_at <| q_dF rfl rfl fun a65 =>
q_dF rfl rfl fun a66 =>
q_bol rfl fun b63 =>
q_iteF (q_assoc <| q_sret <| q_at <| q_rt rfl) (q_skip <| q_ifJ (fun s67 : D => ([some (.frz, x0), some (.frz, d3), some (.own, a8.2), some (.frz, a7.1), some (.frz, a8.1), some (.frz, a9), some (.bor, s14), none, some (.frz, d17), some (.own, a18), some (.frz, d21), some (.frz, a32), some (.own, s67), some (.frz, a62), none] : Fs)) (q_bnd <| q_op <| q_var rfl <| q_at <| q_dF rfl rfl fun a69 =>
q_bol rfl fun b68 =>
q_iteF (q_drop <| q_bm <| q_own rfl <| q_bmK rfl <| q_aCons <| q_at <| q_aNil <| q_chg rfl rfl rfl fun a70 =>
q_if <| q_sub (V := id) (F := fun _ => ([some (.frz, x0), some (.frz, d3), some (.own, a8.2), some (.frz, a7.1), some (.frz, a8.1), some (.frz, a9), some (.bor, s14), none, some (.frz, d17), some (.own, a18), some (.frz, d21), some (.frz, a32), some (.own, a70.1), some (.frz, a62), none] : Fs)) (q_or (q_in <| q_bnd <| q_op <| q_bnd <| q_aCons <| q_var rfl <| q_aNil <| q_on1 <| q_1F rfl fun a72 =>
q_bnd <| q_aCons <| q_var rfl <| q_aNil <| q_on1 <| q_1F rfl fun a73 =>
q_dF rfl rfl fun a74 =>
q_bol rfl fun b71 =>
q_ok rfl rfl) (q_in <| q_bnd <| q_op <| q_fz <| q_meth <| q_var rfl <| q_methK rfl <| q_aCons <| q_var rfl <| q_aCons <| q_var rfl <| q_aNil <| q_callZ rfl rfl (r_m_Facts_way _ _ _) fun a76 =>
q_var rfl <| q_dF rfl rfl fun a77 =>
q_bol rfl fun b75 =>
q_ok rfl rfl)) fun b78 =>
q_iteF (q_assoc <| q_sret <| q_at <| q_rt rfl) (q_skip <| q_end rfl)) (q_end rfl)) fun s67 =>
q_gh rfl <| q_end rfl)))) fun s79 =>
q_gh rfl <| q_end rfl) fun s80 =>
q_gh rfl <| q_end rfl) fun s81 =>
q_sret <| q_at <| q_rt rfl
end K02

namespace K02
open PySem PySem.Spec PyProof.Rows L2 TL
/-! ### draws -/
theorem fm_pos {x n : Int} (h : 0 < n) : 0 ≤ x.fmod n ∧ x.fmod n < n := by
  rw [Int.fmod_eq_emod_of_nonneg _ (Int.le_of_lt h)]
  exact ⟨Int.emod_nonneg _ (by omega), Int.emod_lt_of_pos _ h⟩
theorem fm_small {x n : Int} (h : 0 < n) (h2 : n < 2 ^ 64) : -(2 ^ 64) < x.fmod n ∧ x.fmod n < 2 ^ 64 := by
  have := fm_pos (x := x) h
  omega
abbrev pileD (a b c : Int) : D := dL [dI a, dI b, dI c]
def Pile (p : D) : Prop := ∃ a b c : Int, p = pileD a b c
theorem mixed_ok (a k : Int) : OK (g_l_mixed (dI a) (dI k)) fun r => ∃ i : Int, r = dI i := by
  unfold g_l_mixed
  have b1 := fun y : Int => fm_small (x := y) (n := 2147483647) (by decide) (by decide)
  have b2 := fun y : Int => fm_small (x := y) (n := 2147483629) (by decide) (by decide)
  have e1 : ∀ y : Int, mulD (dI y) (dI 48271) = some (aI (y * 48271)) := fun y => mul_r (by decide)
  have e2 : ∀ y : Int, mulD (dI y) (dI 69621) = some (aI (y * 69621)) := fun y => mul_r (by decide)
  have e3 : ∀ y : Int, mulD (dI (y.fmod 2147483647)) (dI (y.fmod 2147483647)) = some (aI (y.fmod 2147483647 * y.fmod 2147483647)) := fun y => mul_r (b1 y)
  have e4 : ∀ y : Int, mulD (dI (y.fmod 2147483629)) (dI (y.fmod 2147483629)) = some (aI (y.fmod 2147483629 * y.fmod 2147483629)) := fun y => mul_r (b2 y)
  have e5 : ∀ y : Int, fdivD (dI y) (dI 64) = some (aI (y.fdiv 64)) := fun y => fdiv_i (by decide)
  simp only [ok_runR, int_i, opF_f, opA_f, yb_ok, mod_i (show (2147483647 : Int) ≠ 0 by decide), mod_i (show (2147483629 : Int) ≠ 0 by decide), mod_i (show (2147483587 : Int) ≠ 0 by decide), e1, e2, e3, e4, e5, add_i, cw_rt]
  exact ⟨_, rfl⟩
theorem take_ok {p : D} (hp : Pile p) {m : Nat} (hm : 0 < m ∧ m < 1073741824) : OK (g_l_take p (dI m)) fun q => Pile q.2 ∧ ∃ r : Nat, q.1 = dI r ∧ r < m := by
  obtain ⟨a, b, c, rfl⟩ := hp
  unfold g_l_take
  have m0 : (m : Int) ≠ 0 := by omega
  have hr := fun y : Int => fm_pos (x := y) (n := m) (by omega)
  have fin : ∀ (y : Int) (p : D), Pile p → (Pile (dI (y.fmod m), p).2 ∧ ∃ r : Nat, (dI (y.fmod m), p).1 = dI r ∧ r < m) := fun y p hp =>
    ⟨hp, (y.fmod m).toNat, by show dI _ = dI _; rw [Int.toNat_of_nonneg (hr y).1], by have := hr y; omega⟩
  have e0 : ixD (pileD a b c) (dI 0) = some (.frz (dI a)) := rfl
  have e2 : ixD (pileD a b c) (dI 2) = some (.frz (dI c)) := rfl
  have p0 : ∀ y : D, putL (pileD a b c) (dI 0) y = some (dL [y, dI b, dI c]) := fun _ => rfl
  have p2 : ∀ y : D, putL (pileD a b c) (dI 2) y = some (dL [dI a, dI b, y]) := fun _ => rfl
  have d1 : fdivD (dI a) (dI m) = some (aI (a.fdiv m)) := fdiv_i (by omega)
  simp only [ok_runM, e0, e2, opF_f, yb_ok, eq_i, bolR_b]
  refine cw_ite (fun h => ?_) fun h => ?_
  · simp only [add_i, opF_f, yb_ok, p2, optR_s]
    have i1 : ixD (dL [dI a, dI b, dI (c + 1)]) (dI 1) = some (.frz (dI b)) := rfl
    have i2 : ixD (dL [dI a, dI b, dI (c + 1)]) (dI 2) = some (.frz (dI (c + 1))) := rfl
    simp only [i1, i2, opF_f, yb_ok]
    refine cw_by (mixed_ok _ _) ?_
    rintro _ ⟨i, rfl⟩
    simp only [mod_i m0, opF_f, yb_ok, cw_rt]
    exact fin _ _ ⟨a, b, c + 1, rfl⟩
  · simp only [int_i, opF_f, yb_ok, mod_i m0, d1, p0, optR_s, cw_rt]
    exact fin _ _ ⟨_, b, c, rfl⟩
def t50 : Int := 10 ^ 50
def t100 : Int := 10 ^ 100
def t150 : Int := 10 ^ 150
theorem p50 : powD (dI 10) (dI 50) = some (aI t50) := by
  unfold powD
  exact ifS_pos (by decide +kernel)
theorem m50 : mulD (dI t50) (dI t50) = some (aI t100) := by
  have e : t50 * t50 = t100 := by decide +kernel
  rw [← e]
  unfold mulD
  exact ifS_pos (by decide +kernel)
theorem m100 : mulD (dI t100) (dI t50) = some (aI t150) := by
  have e : t100 * t50 = t150 := by decide +kernel
  rw [← e]
  unfold mulD
  exact ifS_pos (by decide +kernel)
theorem z150 : t150 ≠ 0 := by decide +kernel
theorem p18 : powD (dI 10) (dI 18) = some (aI 1000000000000000000) := by
  unfold powD
  exact ifS_pos (by decide +kernel)
theorem c01 (b : Bool) : -(2 ^ 64) < (if b = true then (1 : Int) else 0) ∧ (if b = true then (1 : Int) else 0) < 2 ^ 64 := by cases b <;> decide
theorem pile_ok (ns : List Int) (k : Nat) (hk : k < 1000) : OK (g_l_pile (scrD ns) (dI k)) Pile := by
  unfold g_l_pile scrD
  have m97 : mulD (dI 97) (dI k) = some (aI (97 * k)) := mul_r (by omega)
  have em : ∀ (y : Int) (b : Bool), mulD (dI y) (dI (if b = true then 1 else 0)) = some (aI (y * (if b = true then 1 else 0))) := fun y b => mul_r (c01 b)
  simp only [ok_runR, cw_bC, len_s, opF_f, yb_ok, cmp_i, bolR_b]
  have rest : ∀ y : Int, CW (σ := Unit) (β := Unit) (yb (opF (TL.intD (dI y))) fun a6 => yb (opF (powD (dI 10) (dI 50))) fun a7 => yb (opF (powD (dI 10) (dI 50))) fun a8 => yb (opF (mulD a7 a8)) fun a9 => yb (opF (powD (dI 10) (dI 50))) fun a10 => yb (opF (mulD a9 a10)) fun a11 =>
      yb (opF (modD a6 a11)) fun a12 => yb (opF (absD (dI y))) fun a13 => yb (opF (powD (dI 10) (dI 18))) fun a14 => yb (opF (geD a13 a14)) fun a15 => yb (opF (TL.intD a15)) fun a16 => yb (opF (mulD a12 a16)) fun a17 => yb (opF (TL.intD (dI y))) fun a18 => yb (opF (modD a18 (dI 2147483647))) fun a19 =>
      yb (opA (mulD (dI 97) (dI k))) fun a20 => .rt (dL [a17, a19, a20])) ⟨fun _ => Pile dN, Pile, fun _ => False, fun _ => False⟩ := by
    intro y
    simp only [int_i, p50, m50, m100, mod_i z150, abs_i, p18, cmp_i, int_b, em, mod_i (show (2147483647 : Int) ≠ 0 by decide), m97, opF_f, opA_f, yb_ok, cw_rt]
    exact ⟨_, _, _, rfl⟩
  refine cw_ite (fun h => ?_) fun h => ?_
  · have hk : k < (ns.map fun i => D.at (.int i)).length := by simpa using h
    have ex : ixD (.nd .scr (ns.map fun i => D.at (.int i))) (dI k) = some (.frz (dI (ns[k]'(by simpa using hk)))) := by
      rw [ix_s, atI_n, List.getElem?_eq_getElem hk, List.getElem_map]
      rfl
    simp only [ex, opF_f, yb_ok, cw_nx]
    exact rest _
  · simp only [cw_nx]
    exact rest _
end K02

namespace K02
open PySem PySem.Spec PyProof.Rows L2 TL
/-! ### letters, names -/
abbrev abc : Str := "abcdefghijklmnopqrstuvwxyz"
def Let (c : Nat) : Prop := 97 ≤ c ∧ c ≤ 122
theorem abc_at : ∀ i, i < 26 → abc.cps.toList[i]? = some (97 + i) := by decide +kernel
theorem abc_len : abc.length ≤ lineN := by decide +kernel
theorem ix_abc {r : Nat} (h1 : r < 26) : ixD (dS abc) (dI r) = some (aS ⟨#[97 + r]⟩) := by
  have e : ixD (dS abc) (dI r) = if abc.length ≤ lineN then (atI abc.cps.toList r).map (fun c => aS ⟨#[c]⟩) else none := rfl
  rw [e, if_pos abc_len, atI_n, abc_at r h1]
  rfl
abbrev one (c : Nat) : D := dS ⟨#[c]⟩
theorem strsD_one : ∀ cs : List Nat, strsD (cs.map one) = some (cs.map fun c => (⟨#[c]⟩ : Str))
  | [] => rfl
  | c :: cs => by
    show (strsD (cs.map one)).map _ = _
    rw [strsD_one cs]
    rfl
theorem join_one (cs : List Nat) : Txt.join ("" : Str) (cs.map fun c => (⟨#[c]⟩ : Str)) = ⟨cs.toArray⟩ := by
  refine ext_tl ?_
  rw [join_eq, tl_join]
  have : ∀ cs : List Nat, joinL (tl ("" : Str)) ((cs.map fun c => (⟨#[c]⟩ : Str)).map tl) = cs := by
    intro cs
    have e : tl ("" : Str) = [] := by decide +kernel
    rw [e]
    induction cs with
    | nil => rfl
    | cons c cs ih =>
      cases cs with
      | nil => rfl
      | cons d ds =>
        show tl ⟨#[c]⟩ ++ ([] ++ joinL [] (((d :: ds).map fun c => (⟨#[c]⟩ : Str)).map tl)) = _
        rw [ih]
        rfl
  rw [this]
abbrev mk (l : List Nat) : Str := ⟨l.toArray⟩
theorem join_stem {cs : List Nat} (h : cs.length ≤ 11) : joinD (dS "") (dL (cs.map one)) = some (aS (mk cs)) := by
  have e : joinD (dS "") (dL (cs.map one)) = (strsD (cs.map one)).bind fun ys => ifS ((ys.map (·.length)).sum + ys.length * ("" : Str).length ≤ 16777216) (aS (Txt.join "" ys)) := rfl
  rw [e, strsD_one]
  show ifS _ _ = _
  rw [ifS_pos, join_one]
  have : ∀ cs : List Nat, ((cs.map fun c => (⟨#[c]⟩ : Str)).map (·.length)).sum = cs.length := by
    intro cs
    induction cs with
    | nil => rfl
    | cons c cs ih =>
      rw [List.map_cons, List.map_cons, List.sum_cons, ih, List.length_cons]
      show 1 + cs.length = _
      omega
  rw [this]
  have z : ("" : Str).length = 0 := by decide +kernel
  rw [z]
  omega
def NameOk (z : Str) : Prop := 1 ≤ z.length ∧ z.length ≤ 12 ∧ ∀ c ∈ z.cps.toList, Let c
def NamesOk (n : Nat) (zs : List Str) : Prop := zs.length = n ∧ zs.Nodup ∧ ∀ z ∈ zs, NameOk z
theorem mk_len {l : List Nat} : (mk l).length = l.length := by simp [Str.length]
theorem mk_app {a b : List Nat} : mk a ++ mk b = mk (a ++ b) := ext_tl (by rw [tl_append])
theorem mk_inj {a b : List Nat} (h : mk a = mk b) : a = b := by
  have := congrArg (fun z : Str => z.cps.toList) h
  exact this
theorem cutS_lo {l : List Nat} {j : Nat} : cutS (mk l) (some (j : Int)) none = mk (l.drop j) := by
  unfold cutS
  rw [HT.sIx_nat, HT.sIx_none, mk_len]
  show (⟨((l.drop (min j l.length)).take (l.length - min j l.length)).toArray⟩ : Str) = _
  congr 2
  by_cases h : j ≤ l.length
  · rw [Nat.min_eq_left h, List.take_of_length_le (by rw [List.length_drop]; omega)]
  · rw [Nat.min_eq_right (by omega), List.drop_of_length_le (Nat.le_refl _), List.drop_of_length_le (by omega)]
    simp
theorem cutS_hi {l : List Nat} {j : Nat} : cutS (mk l) none (some (j : Int)) = mk (l.take j) := by
  unfold cutS
  rw [HT.sIx_nat, HT.sIx_none, mk_len]
  show (⟨((l.drop 0).take (min j l.length - 0)).toArray⟩ : Str) = _
  congr 2
  rw [List.drop_zero, Nat.sub_zero]
  by_cases h : j ≤ l.length
  · rw [Nat.min_eq_left h]
  · rw [Nat.min_eq_right (by omega), List.take_length, List.take_of_length_le (by omega)]
theorem cutD_lo {l : List D} {j : Nat} : TL.cutD l (some (j : Int)) none = l.drop j := by
  unfold TL.cutD
  rw [HT.sIx_nat, HT.sIx_none]
  by_cases h : j ≤ l.length
  · rw [Nat.min_eq_left h, List.take_of_length_le (by rw [List.length_drop]; omega)]
  · rw [Nat.min_eq_right (by omega), List.drop_of_length_le (Nat.le_refl _), List.drop_of_length_le (by omega)]
    simp
theorem cutD_hi {l : List D} {j : Nat} : TL.cutD l none (some (j : Int)) = l.take j := by
  unfold TL.cutD
  rw [HT.sIx_nat, HT.sIx_none, List.drop_zero, Nat.sub_zero]
  by_cases h : j ≤ l.length
  · rw [Nat.min_eq_left h]
  · rw [Nat.min_eq_right (by omega), List.take_length, List.take_of_length_le (by omega)]
theorem cutD_mid {l : List D} {i j : Nat} : TL.cutD l (some (i : Int)) (some (j : Int)) = (l.drop i).take (j - i) := by
  unfold TL.cutD
  rw [HT.sIx_nat, HT.sIx_nat]
  by_cases h : i ≤ l.length
  · rw [Nat.min_eq_left h]
    by_cases h2 : j ≤ l.length
    · rw [Nat.min_eq_left h2]
    · rw [Nat.min_eq_right (by omega), List.take_of_length_le (by rw [List.length_drop]; omega), List.take_of_length_le (by rw [List.length_drop]; omega)]
  · rw [Nat.min_eq_right (show l.length ≤ i by omega), List.drop_of_length_le (Nat.le_refl _), List.drop_of_length_le (by omega)]
    simp
@[simp] theorem sl_l {xs : List D} {lo hi : Option Int} : slD (dL xs) lo hi = some (.own (dL (TL.cutD xs lo hi))) := rfl
theorem sl_mk {l : List Nat} {lo hi : Option Int} (h : l.length ≤ 1000) : slD (dS (mk l)) lo hi = some (aS (cutS (mk l) lo hi)) := ifS_pos (by rw [mk_len]; show _ ≤ 16777216; omega)
theorem add_mk {a b : List Nat} (h : a.length + b.length ≤ 1000) : addD (dS (mk a)) (dS (mk b)) = some (aS (mk (a ++ b))) := by
  rw [← mk_app]
  exact ifS_pos (by rw [mk_len, mk_len]; show _ ≤ 16777216; omega)
theorem add_lc {xs ys : List D} (h : xs.length + ys.length ≤ 16777216) : addD (dL xs) (dL ys) = some (.own (dL (xs ++ ys))) := ifS_pos h
/-! the plain names -/
def plain : List Str := ["a", "b", "ab", "c", "ba", "abc", "aa", "bc", "aab", "ca", "cab", "d", "abd", "bca", "e"]
def nmB (n : Nat) (zs : List Str) : Bool := decide (zs.length = n) && decide zs.Nodup && zs.all fun z => decide (1 ≤ z.length) && decide (z.length ≤ 12) && z.cps.toList.all fun c => decide (97 ≤ c) && decide (c ≤ 122)
theorem nmB_ok {n : Nat} {zs : List Str} (h : nmB n zs = true) : NamesOk n zs := by
  unfold nmB at h
  simp only [Bool.and_eq_true, decide_eq_true_eq, List.all_eq_true] at h
  exact ⟨h.1.1, h.1.2, fun z hz => ⟨(h.2 z hz).1.1, (h.2 z hz).1.2, fun c hc => (h.2 z hz).2 c hc⟩⟩
theorem plain_ok : ∀ s, s < 10 → ∀ n, n < 13 → nmB n ((plain.drop s ++ plain).take n) = true := by decide +kernel
/-! the letters differ -/
def stepsN : List Nat := [1, 3, 5, 7, 9, 11, 15, 17, 19, 21, 23, 25]
theorem let_ne : ∀ st ∈ stepsN, ∀ k, k < 26 → ∀ k', k' < 26 → (st * k) % 26 = (st * k') % 26 → k = k' := by decide +kernel
theorem let_ne' {st sh k k' : Nat} (hst : st ∈ stepsN) (hk : k < 26) (hk' : k' < 26) (h : (sh + st * k) % 26 = (sh + st * k') % 26) : k = k' := let_ne st hst k hk k' hk' (by omega)
/-- the k-th name -/
def nmK (A B T : List Nat) (sh st k : Nat) : List Nat := A ++ [97 + (sh + st * k) % 26] ++ B ++ (if k % 2 = 1 then T else [])
theorem nmK_inj {A B T : List Nat} {sh st k k' : Nat} (hst : st ∈ stepsN) (hk : k < 26) (hk' : k' < 26) (h : nmK A B T sh st k = nmK A B T sh st k') : k = k' := by
  refine let_ne' (sh := sh) hst hk hk' ?_
  have := congrArg (fun l => l[A.length]?) h
  unfold nmK at this
  simp at this
  omega
theorem names_of {A B T : List Nat} {sh st n : Nat} (hst : st ∈ stepsN) (hn : n ≤ 26) (hA : ∀ c ∈ A, Let c) (hB : ∀ c ∈ B, Let c) (hT : ∀ c ∈ T, Let c) (hl : A.length + B.length + T.length ≤ 11) :
    NamesOk n ((List.range n).map fun k => mk (nmK A B T sh st k)) := by
  refine ⟨by simp, ?_, fun z hz => ?_⟩
  · rw [List.nodup_iff_pairwise_ne, List.pairwise_map]
    refine (List.nodup_iff_pairwise_ne.mp List.nodup_range).imp_of_mem fun {a b} ha hb hne e => hne ?_
    exact nmK_inj hst (by have := List.mem_range.mp ha; omega) (by have := List.mem_range.mp hb; omega) (mk_inj e)
  · obtain ⟨k, hk, rfl⟩ := List.mem_map.mp hz
    unfold NameOk
    rw [mk_len]
    refine ⟨?_, ?_, fun c hc => ?_⟩
    · unfold nmK
      simp
      omega
    · unfold nmK
      simp
      split <;> first | omega | (simp; omega)
    · have hc : c ∈ nmK A B T sh st k := hc
      unfold nmK at hc
      simp only [List.mem_append, List.mem_singleton] at hc
      rcases hc with ((h | rfl) | h) | h
      · exact hA c h
      · constructor <;> omega
      · exact hB c h
      · split at h
        · exact hT c h
        · cases h
theorem fm_nat {a b : Nat} {c : Int} (hc : c = b) (h : 0 < b) : (a : Int).fmod c = ((a % b : Nat) : Int) := by
  subst hc
  rw [Int.fmod_eq_emod_of_nonneg _ (by omega)]
  omega
theorem fd_nat {a b : Nat} {c : Int} (hc : c = b) : (a : Int).fdiv c = ((a / b : Nat) : Int) := by
  subst hc
  rw [Int.fdiv_eq_ediv_of_nonneg _ (by omega)]
  omega
theorem enum_rng {n : Nat} {f : Nat → D} : enumD 0 ((List.range n).map f) = (List.range n).map fun i => dTu [dI (i : Nat), f i] := by
  refine List.ext_getElem? fun i => ?_
  by_cases h : i < n
  · have e : ((List.range n).map f)[i]? = some (f i) := by rw [List.getElem?_map, List.getElem?_range h]; rfl
    rw [enumD_get e, List.getElem?_map, List.getElem?_range h, Nat.zero_add]
    rfl
  · rw [List.getElem?_eq_none (by rw [enumD_len, List.length_map, List.length_range]; omega), List.getElem?_eq_none (by rw [List.length_map, List.length_range]; omega)]
theorem names_ok {p : D} (hp : Pile p) {n : Nat} (h1 : 1 ≤ n) (h6 : n ≤ 12) : OK (g_l_names p (dI n)) fun q => Pile q.2 ∧ ∃ zs, q.1 = dL (zs.map dS) ∧ NamesOk n zs := by
  unfold g_l_names
  simp only [ok_runM, isStr_s, okR_t, yb_ok]
  refine cw_by (take_ok hp (m := 12) (by decide)) ?_
  rintro ⟨_, p2⟩ ⟨hp2, r, rfl, hr⟩
  dsimp only at hp2 ⊢
  rw [rng1 (by omega), yb_ok, cap_ok (by simp; omega), yb_ok]
  refine cw_by (Q := fun a => Pile a.2 ∧ ∃ cs : List Nat, a.1 = cs.map one ∧ cs.length ≤ 11 ∧ ∀ c ∈ cs, Let c) ?_ ?_
  · refine compS_inv (fun ds acc s => Pile s ∧ ∃ cs : List Nat, acc = cs.map one ∧ cs.length + ds.length = r ∧ ∀ c ∈ cs, Let c) ⟨hp2, [], rfl, by simp, by simp⟩ ?_ ?_
    · rintro d ds acc s ⟨hs, cs, rfl, hl, hc⟩
      refine ok_by (take_ok hs (m := 26) (by decide)) ?_
      rintro ⟨_, p3⟩ ⟨hp3, i, rfl, hi⟩
      dsimp only at hp3 ⊢
      rw [ix_abc hi, opF_f, yb_ok, ok_ok]
      refine ⟨hp3, cs ++ [97 + i], by simp, by simp at hl ⊢; omega, fun c h => ?_⟩
      rcases List.mem_append.mp h with h | h
      · exact hc c h
      · rw [List.mem_singleton.mp h]
        constructor <;> omega
    · rintro acc s ⟨hs, cs, rfl, hl, hc⟩
      exact ⟨hs, cs, rfl, by simp at hl; omega, hc⟩
  rintro ⟨_, p3⟩ ⟨hp3, cs, rfl, hl, hc⟩
  dsimp only at hp3 ⊢
  rw [join_stem hl, opF_f, yb_ok, TL.len_str (by rw [mk_len]; show _ ≤ 16777216; omega), opF_f, yb_ok, add_i, opF_f, yb_ok, mk_len]
  refine cw_by (take_ok hp3 (m := cs.length + 1) (by omega)) ?_
  rintro ⟨_, p4⟩ ⟨hp4, j, rfl, hj⟩
  dsimp only at hp4 ⊢
  refine cw_by (take_ok hp4 (m := 26) (by decide)) ?_
  rintro ⟨_, p5⟩ ⟨hp5, sh, rfl, hsh⟩
  dsimp only at hp5 ⊢
  refine cw_by (take_ok hp5 (m := 12) (by decide)) ?_
  rintro ⟨_, p6⟩ ⟨hp6, si, rfl, hsi⟩
  dsimp only at hp6 ⊢
  have hst : ∃ st ∈ stepsN, ixD (dL [dI 1, dI 3, dI 5, dI 7, dI 9, dI 11, dI 15, dI 17, dI 19, dI 21, dI 23, dI 25]) (dI si) = some (.frz (dI (st : Nat))) := by
    have hl : si < stepsN.length := hsi
    refine ⟨stepsN[si], List.getElem_mem hl, ?_⟩
    have : dL [dI 1, dI 3, dI 5, dI 7, dI 9, dI 11, dI 15, dI 17, dI 19, dI 21, dI 23, dI 25] = dL (stepsN.map fun k => dI (k : Nat)) := rfl
    rw [this, ix_l, atI_n, List.getElem?_map, List.getElem?_eq_getElem hl]
    rfl
  obtain ⟨st, hst, est⟩ := hst
  rw [est, opF_f, yb_ok]
  have e13 : ltD (dI n) (dI 13) = some (aB true) := by rw [lt_i, decide_eq_true (by omega)]
  rw [mod_i (show (4 : Int) ≠ 0 by decide), opF_f, yb_ok, fm_nat (b := 4) (c := 4) rfl (by decide), eq_i, opF_f, yb_ok, bolR_b, yb_ok, e13, opF_f, yb_ok, bolR_b, yb_ok]
  have hb : ((((sh % 4 : Nat) : Int) == 3) : Bool) = decide (sh % 4 = 3) := by
    rw [Bool.eq_iff_iff]
    simp
    omega
  rw [hb, andR_ok (b := true) rfl fun _ => rfl, yb_ok, Bool.and_true]
  have hs4 : st % 4 < 4 := Nat.mod_lt _ (by decide)
  refine cw_ite (fun h => ?_) fun h => ?_
  · have h : sh % 4 = 3 := by simpa using h
    rw [fdiv_i (by decide), opF_f, yb_ok, mod_i (show (4 : Int) ≠ 0 by decide), opF_f, yb_ok, fm_nat (b := 4) (c := 4) rfl (by decide), fd_nat (b := 4) (c := 4) rfl, add_i, opF_f, yb_ok]
    have e : (((sh / 4 : Nat) : Int) + ((st % 4 : Nat) : Int)) = ((sh / 4 + st % 4 : Nat) : Int) := by omega
    have ep : [dS "a", dS "b", dS "ab", dS "c", dS "ba", dS "abc", dS "aa", dS "bc", dS "aab", dS "ca", dS "cab", dS "d", dS "abd", dS "bca", dS "e"] = plain.map dS := rfl
    rw [e, intR_i, yb_ok, ep, sl_l, opO_o, yb_ok, cutD_lo, add_lc (by simp [plain]; omega), opO_o, yb_ok, intR_i, yb_ok, sl_l, opO_o, yb_ok, cutD_hi, cw_rt, ← List.map_drop, ← List.map_append, ← List.map_take]
    exact ⟨hp6, _, rfl, nmB_ok (plain_ok _ (by omega) n (by omega))⟩
  · obtain ⟨T, hT⟩ : ∃ T : List Nat, T = if cs.length < 11 then [97] else [] := ⟨_, rfl⟩
    have hT1 : ∀ c ∈ T, Let c := by
      intro c hc
      rw [hT] at hc
      split at hc
      · simp at hc; subst hc; constructor <;> decide
      · cases hc
    have hTl : cs.length + T.length ≤ 11 := by rw [hT]; split <;> simp <;> omega
    have em : mulD (dS "a") (dI (if decide ((cs.length : Int) < 11) = true then 1 else 0)) = some (aS (mk T)) := by
      rw [hT]
      by_cases c : cs.length < 11
      · rw [if_pos c, decide_eq_true (show (cs.length : Int) < 11 by omega), if_pos rfl]
        exact (ifS_pos (by decide +kernel)).trans (congrArg (fun z => some (aS z)) (by decide +kernel : repS "a" 1 = mk [97]))
      · rw [if_neg c, decide_eq_false (show ¬ (cs.length : Int) < 11 by omega), if_neg (by decide)]
        exact (ifS_pos (by decide +kernel)).trans (congrArg (fun z => some (aS z)) (by decide +kernel : repS "a" 0 = mk []))
    rw [yb_ok, lt_i, opF_f, yb_ok, int_b, opF_f, yb_ok, em, opF_f, yb_ok, rng1 (by omega), yb_ok, cap_ok (by simp; omega), yb_ok]
    obtain ⟨bs, hbs⟩ : ∃ bs : Nat → List Nat, bs = fun k => cs.take j ++ [97 + (sh + st * k) % 26] ++ cs.drop j := ⟨_, rfl⟩
    have hbl : ∀ k, (bs k).length = cs.length + 1 := fun k => by rw [hbs]; simp; omega
    rw [compR_all (k := fun k => dS (mk (bs k))), yb_ok, lstR_l, yb_ok, enum_rng, cap_ok (by simp; omega), yb_ok, compR_all (k := fun k => dS (mk (nmK (cs.take j) (cs.drop j) T sh st k))), yb_ok, cw_rt]
    · exact ⟨hp6, (List.range n).map fun k => mk (nmK (cs.take j) (cs.drop j) T sh st k), by rw [List.map_map]; rfl, names_of hst (by omega) (fun x hx => hc x (List.mem_of_mem_take hx)) (fun x hx => hc x (List.mem_of_mem_drop hx)) hT1 (by rw [List.length_take, List.length_drop]; omega)⟩
    · intro k hk
      have hk : k < n := List.mem_range.mp hk
      have ez : (k : Int).fmod 2 = ((k % 2 : Nat) : Int) := fm_nat (b := 2) (c := 2) rfl (by decide)
      have em : mulD (dS (mk T)) (dI ((k % 2 : Nat) : Int)) = some (aS (mk (if k % 2 = 1 then T else []))) := by
        have e : mulD (dS (mk T)) (dI ((k % 2 : Nat) : Int)) = some (aS (repS (mk T) ((k % 2 : Nat) : Int))) := ifS_pos (by rw [mk_len]; omega)
        rw [e]
        rcases Nat.mod_two_eq_zero_or_one k with h0 | h0
        · rw [h0, if_neg (by decide)]
          rfl
        · rw [h0, if_pos rfl]
          rfl
      have e1 : addD (dS (mk (bs k))) (dS (mk (if k % 2 = 1 then T else []))) = some (aS (mk (nmK (cs.take j) (cs.drop j) T sh st k))) := by
        have : nmK (cs.take j) (cs.drop j) T sh st k = bs k ++ (if k % 2 = 1 then T else []) := by rw [hbs]; rfl
        rw [this]
        refine add_mk ?_
        rw [hbl]
        split
        · omega
        · simp; omega
      simp only [unT2_t, yb_ok, mod_i (show (2 : Int) ≠ 0 by decide), opF_f, ez, em, e1]
    · intro k hk
      have hk : k < n := List.mem_range.mp hk
      have hst26 : st < 26 := by
        unfold stepsN at hst
        simp only [List.mem_cons, List.mem_nil_iff, or_false] at hst
        omega
      have em : mulD (dI (st : Nat)) (dI (k : Nat)) = some (aI ((st : Int) * (k : Int))) := mul_r (by omega)
      have ez : ((sh : Int) + (st : Int) * (k : Int)).fmod 26 = (((sh + st * k) % 26 : Nat) : Int) := by
        have e : ((sh : Int) + (st : Int) * (k : Int)) = ((sh + st * k : Nat) : Int) := by push_cast; rfl
        rw [e]
        exact fm_nat (b := 26) (c := 26) rfl (by decide)
      have ex := ix_abc (r := (sh + st * k) % 26) (by omega)
      have e1 : addD (dS (mk (cs.take j))) (dS ⟨#[97 + (sh + st * k) % 26]⟩) = some (aS (mk (cs.take j ++ [97 + (sh + st * k) % 26]))) := add_mk (b := [97 + (sh + st * k) % 26]) (by simp; omega)
      have e2 : addD (dS (mk (cs.take j ++ [97 + (sh + st * k) % 26]))) (dS (mk (cs.drop j))) = some (aS (mk (bs k))) := by
        rw [hbs]
        exact add_mk (by simp; omega)
      simp only [intR_i, yb_ok, sl_mk (show cs.length ≤ 1000 by omega), opF_f, opA_f, cutS_hi, cutS_lo, em, add_i, mod_i (show (26 : Int) ≠ 0 by decide), ez, ex, e1, e2]
end K02

namespace K02
open PySem PySem.Spec PyProof.Rows L2 TL
/-! ### data of which equality is told -/
def Sh (n : Nat) (d : D) : Prop := PyData.canLay0 d.py = true ∧ PyData.depth d.py ≤ n
theorem Sh.up {n m : Nat} {d : D} (h : Sh n d) (hm : n ≤ m) : Sh m d := ⟨h.1, Nat.le_trans h.2 hm⟩
theorem Sh.ok {n : Nat} {d : D} (h : Sh n d) (hn : n ≤ 64) : SeqAt.shaped d.py = true := by
  unfold SeqAt.shaped
  rw [h.1, decide_eq_true (Nat.le_trans h.2 hn)]
  rfl
theorem sh_i {i : Int} : Sh 0 (dI i) := ⟨by unfold D.py PyData.canLay0; rfl, by unfold D.py PyData.depth; exact Nat.le_refl _⟩
theorem sh_b {b : Bool} : Sh 0 (dB b) := ⟨by unfold D.py PyData.canLay0; rfl, by unfold D.py PyData.depth; exact Nat.le_refl _⟩
theorem sh_n : Sh 0 dN := ⟨by unfold D.py PyData.canLay0; rfl, by unfold D.py PyData.depth; exact Nat.le_refl _⟩
theorem sh_s {x : Str} (h : PyData.strOk x = true) : Sh 0 (dS x) := ⟨by unfold D.py PyData.canLay0; exact h, by unfold D.py PyData.depth; exact Nat.le_refl _⟩
theorem sh_all {n : Nat} : ∀ {xs : List D}, (∀ x ∈ xs, Sh n x) → PyData.canLayAll0 (pys xs) = true ∧ PyData.depthAll (pys xs) ≤ n
  | [], _ => ⟨by unfold pys PyData.canLayAll0; rfl, by unfold pys PyData.depthAll; exact Nat.zero_le _⟩
  | x :: xs, h => by
    obtain ⟨h1, h2⟩ := sh_all (xs := xs) fun y hy => h y (List.mem_cons_of_mem _ hy)
    obtain ⟨h3, h4⟩ := h x (List.mem_cons_self ..)
    refine ⟨?_, ?_⟩
    · unfold pys PyData.canLayAll0
      rw [h3, h1]
      rfl
    · unfold pys PyData.depthAll
      omega
theorem sh_l {n : Nat} {xs : List D} (h : ∀ x ∈ xs, Sh n x) : Sh (n + 1) (dL xs) := by
  obtain ⟨h1, h2⟩ := sh_all h
  refine ⟨?_, ?_⟩
  · unfold D.py PyData.canLay0
    exact h1
  · unfold D.py PyData.depth
    omega
theorem sh_t {n : Nat} {xs : List D} (h : ∀ x ∈ xs, Sh n x) : Sh (n + 1) (dTu xs) := by
  obtain ⟨h1, h2⟩ := sh_all h
  refine ⟨?_, ?_⟩
  · unfold D.py PyData.canLay0
    exact h1
  · unfold D.py PyData.depth
    omega
theorem sh_map {α : Type} {n : Nat} {g : α → D} {xs : List α} (h : ∀ x ∈ xs, Sh n (g x)) : Sh (n + 1) (dL (xs.map g)) := sh_l fun d hd => by
  obtain ⟨x, hx, rfl⟩ := List.mem_map.mp hd
  exact h x hx
theorem eq_sh {d e : D} {n m : Nat} (h1 : Sh n d) (h2 : Sh m e) (hn : n ≤ 64 := by decide) (hm : m ≤ 64 := by decide) : eqD d e = some (aB (PyData.eqv d.py e.py)) := eqD_sh (h1.ok hn) (h2.ok hm)
theorem ne_sh {d e : D} {n m : Nat} (h1 : Sh n d) (h2 : Sh m e) (hn : n ≤ 64 := by decide) (hm : m ≤ 64 := by decide) : neD d e = some (aB (!PyData.eqv d.py e.py)) := neD_sh (h1.ok hn) (h2.ok hm)
def SOk (z : Str) : Prop := PyData.strOk z = true
theorem NameOk.sok {z : Str} (h : NameOk z) : SOk z := by
  unfold SOk PyData.strOk
  rw [← Array.all_toList, List.all_eq_true]
  intro c hc
  have := h.2.2 c hc
  unfold Let at this
  exact decide_eq_true (by omega)
theorem eqv_s {x y : Str} : PyData.eqv (dS x).py (dS y).py = (x == y) := by
  unfold D.py PyData.eqv
  rfl
/-- rows of strs -/
abbrev dP (p : List Str) : D := dL (p.map dS)
theorem flat_P {p : List Str} : TL.allFlat (p.map dS) = true := by
  unfold TL.allFlat
  rw [List.all_eq_true]
  intro x hx
  obtain ⟨y, _, rfl⟩ := List.mem_map.mp hx
  rfl
theorem in_P {x : Str} {p : List Str} : inB (dS x) (dP p) = some (decide (x ∈ p)) := by
  have e : inB (dS x) (dP p) = if TL.allFlat (p.map dS) = true then some ((p.map dS).any fun z => PyData.eqv z.py (dS x).py) else ifS (SeqAt.shaped (dP p).py = true ∧ SeqAt.shaped (dS x).py = true) ((pys (p.map dS)).any fun z => PyData.eqv z (dS x).py) := rfl
  rw [e, if_pos flat_P, List.any_map]
  congr 1
  clear e
  induction p with
  | nil => rfl
  | cons y p ih =>
    rw [List.any_cons, ih]
    show (PyData.eqv (dS y).py (dS x).py || _) = _
    rw [eqv_s]
    by_cases h : y = x
    · subst h
      simp
    · have : (y == x) = false := beq_eq_false_iff_ne.mpr h
      rw [this]
      simp [Ne.symm h]
@[simp] theorem inT_P {x : Str} {p : List Str} : inT (dS x) (dP p) = some (aB (decide (x ∈ p))) := by unfold inT; rw [in_P]; rfl
@[simp] theorem ninT_P {x : Str} {p : List Str} : ninT (dS x) (dP p) = some (aB (!decide (x ∈ p))) := by unfold ninT; rw [in_P]; rfl
theorem eqD_s {x y : Str} (hx : SOk x) (hy : SOk y) : eqD (dS x) (dS y) = some (aB (x == y)) := by
  rw [eq_sh (sh_s hx) (sh_s hy), eqv_s]
/-- rows of strs, equal -/
theorem eqvs_P : ∀ {p q : List Str}, PyData.eqvAll (pys (p.map dS)) (pys (q.map dS)) = decide (p = q)
  | [], [] => rfl
  | [], _ :: _ => rfl
  | _ :: _, [] => rfl
  | x :: p, y :: q => by
    show (PyData.eqv (dS x).py (dS y).py && PyData.eqvAll (pys (p.map dS)) (pys (q.map dS))) = _
    rw [eqv_s, eqvs_P, Bool.eq_iff_iff]
    simp
theorem eqv_P {p q : List Str} : PyData.eqv (dP p).py (dP q).py = decide (p = q) := by
  have e : PyData.eqv (dP p).py (dP q).py = PyData.eqvAll (pys (p.map dS)) (pys (q.map dS)) := by
    show PyData.eqv (PyData.list (pys (p.map dS))) (PyData.list (pys (q.map dS))) = _
    unfold PyData.eqv
    rfl
  rw [e, eqvs_P]
theorem sh_P {p : List Str} (h : ∀ x ∈ p, SOk x) : Sh 1 (dP p) := sh_map fun x hx => sh_s (h x hx)
theorem eq_P {p q : List Str} (hp : ∀ x ∈ p, SOk x) (hq : ∀ x ∈ q, SOk x) : eqD (dP p) (dP q) = some (aB (decide (p = q))) := by rw [eq_sh (sh_P hp) (sh_P hq), eqv_P]
theorem eqv_nil {xs : List D} : PyData.eqv (dL xs).py (dL []).py = xs.isEmpty := by
  cases xs with
  | nil => rfl
  | cons x xs => rfl
theorem eq_nil {n : Nat} {xs : List D} (h : ∀ x ∈ xs, Sh n x) (hn : n < 64) : eqD (dL xs) (dL []) = some (aB xs.isEmpty) := by
  rw [eq_sh (sh_l h) (sh_l (n := 0) (xs := []) (by simp)) (by omega) (by decide), eqv_nil]
theorem ne_nil {n : Nat} {xs : List D} (h : ∀ x ∈ xs, Sh n x) (hn : n < 64) : neD (dL xs) (dL []) = some (aB (!xs.isEmpty)) := by
  rw [ne_sh (sh_l h) (sh_l (n := 0) (xs := []) (by simp)) (by omega) (by decide), eqv_nil]
/-! ### all patches -/
def subs : List Str → List (List Str)
  | [] => [[]]
  | z :: zs => subs zs ++ (subs zs).map (z :: ·)
theorem subs_len : ∀ zs : List Str, (subs zs).length = 2 ^ zs.length
  | [] => rfl
  | z :: zs => by
    unfold subs
    rw [List.length_append, List.length_map, subs_len zs, List.length_cons]
    omega
theorem subs_pos (zs : List Str) : 0 < (subs zs).length := by rw [subs_len]; exact Nat.two_pow_pos _
theorem subs_256 {zs : List Str} (h : zs.length ≤ 8) : (subs zs).length ≤ 256 := by
  rw [subs_len]
  exact Nat.le_trans (Nat.pow_le_pow_right (by decide) h) (by decide)
theorem subs_sub : ∀ {zs p : List Str}, p ∈ subs zs → p.Sublist zs
  | [], p, h => by unfold subs at h; simp at h; subst h; exact List.Sublist.refl _
  | z :: zs, p, h => by
    unfold subs at h
    rcases List.mem_append.mp h with h | h
    · exact (subs_sub h).cons z
    · obtain ⟨q, hq, rfl⟩ := List.mem_map.mp h
      exact (subs_sub hq).cons₂ z
theorem subs_le {zs p : List Str} (h : p ∈ subs zs) : p.length ≤ zs.length := (subs_sub h).length_le
theorem subs_in {zs p : List Str} {x : Str} (h : p ∈ subs zs) (hx : x ∈ p) : x ∈ zs := (subs_sub h).subset hx
theorem all_ok (zs : List Str) (hz : zs.length ≤ 8) : OK (g_l_all (dP zs)) fun d => d = dL ((subs zs).map dP) := by
  unfold g_l_all
  have er : revD (dP zs) = some (.own (dP zs.reverse)) := by unfold dP; rw [List.map_reverse]; rfl
  rw [ok_runR, er, opO_o, yb_ok, lstR_l, yb_ok]
  refine cw_cut (fun s => s = dL ((subs zs).map dP)) ?_ fun s hs => by rw [cw_rt]; exact hs
  refine for_map (fun ys s => ys.length ≤ zs.length ∧ ∃ rest, zs = ys.reverse ++ rest ∧ s = dL ((subs rest).map dP)) ⟨by simp, [], by simp, rfl⟩ ?_ ?_
  · rintro y ys s ⟨hy, rest, hr, rfl⟩
    have hl : rest.length < 8 := by have := congrArg List.length hr; simp at this; omega
    have hp : (subs rest).length ≤ 256 := subs_256 (by omega)
    have hp2 : (subs rest).length ≤ 128 := by rw [subs_len]; exact Nat.le_trans (Nat.pow_le_pow_right (by decide) (show rest.length ≤ 7 by omega)) (by decide)
    rw [lstR_l, yb_ok, cap_ok (by simp; omega), yb_ok, compR_all (k := fun p => dP (y :: p)), yb_ok]
    · have e : (subs rest).map (fun p => dP (y :: p)) = ((subs rest).map (y :: ·)).map dP := by rw [List.map_map]; rfl
      rw [e, add_lc (by simp; omega), opO_o, yb_ok, cw_nx, ← List.map_append]
      exact ⟨by simp at hy; omega, y :: rest, by rw [hr]; simp, rfl⟩
    · intro p hp
      have := subs_le hp
      rw [add_lc (by simp; omega), opO_o, yb_ok]
      rfl
  · rintro s ⟨_, rest, hr, rfl⟩
    simp at hr
    rw [hr]
/-! ### facts -/
abbrev Fact := Str × Str × Str
abbrev dF (f : Fact) : D := dTu [dS f.1, dS f.2.1, dS f.2.2]
def kinds : List Str := ["in", "apart", "cover"]
theorem kinds_ok : ∀ k ∈ kinds, SOk k := by unfold SOk; decide +kernel
def FOk (zs : List Str) (f : Fact) : Prop := f.1 ∈ kinds ∧ f.2.1 ∈ zs ∧ f.2.2 ∈ zs
def keepsB (p : List Str) (f : Fact) : Bool :=
  if f.1 == ("in" : Str) then !decide (f.2.1 ∈ p) || decide (f.2.2 ∈ p)
  else if f.1 == ("apart" : Str) then !decide (f.2.1 ∈ p) || !decide (f.2.2 ∈ p)
  else decide (f.2.1 ∈ p) || decide (f.2.2 ∈ p)
theorem orV {a b : Bool} {m : R D} (h : m = .ok (dB b)) : (if a = true then R.ok (dB a) else m) = R.ok (dB (a || b)) := by
  cases a
  · exact h
  · rfl
theorem keeps_ok (p : List Str) (f : Fact) (hf : SOk f.1) : g_l_keeps (dP p) (dF f) = .ok (dB (keepsB p f)) := by
  obtain ⟨k, x, y⟩ := f
  have hk : SOk k := hf
  have e1 := eqD_s hk (show SOk "in" by unfold SOk; decide +kernel)
  have e2 := eqD_s hk (show SOk "apart" by unfold SOk; decide +kernel)
  unfold g_l_keeps keepsB
  simp only [unT3_t, yb_ok, e1, opF_f, bolR_b, ninT_P, inT_P, tru_b, e2]
  by_cases c1 : (k == ("in" : Str)) = true
  · rw [if_pos c1, if_pos c1, orV rfl]
    rfl
  · rw [if_neg c1, if_neg c1]
    by_cases c2 : (k == ("apart" : Str)) = true
    · rw [if_pos c2, if_pos c2, orV rfl]
      rfl
    · rw [if_neg c2, if_neg c2, orV rfl]
      rfl
theorem facts_ok {p : D} (hp : Pile p) (zs : List Str) (m : Nat) (hz : 1 ≤ zs.length ∧ zs.length ≤ 24) (hm : m ≤ 30) : OK (g_l_facts p (dP zs) (dI m)) fun q => Pile q.2 ∧ ∃ fa : List Fact, q.1 = dL (fa.map dF) ∧ (∀ f ∈ fa, FOk zs f) ∧ fa.length ≤ m := by
  unfold g_l_facts
  rw [ok_runM]
  refine cw_by (take_ok hp (m := 5) (by decide)) ?_
  rintro ⟨_, p1⟩ ⟨hp1, w, rfl, hw⟩
  dsimp only at hp1 ⊢
  rw [add_i, opF_f, yb_ok]
  refine cw_by (take_ok hp1 (m := m + 1) (by omega)) ?_
  rintro ⟨_, p2⟩ ⟨hp2, r, rfl, hr⟩
  dsimp only at hp2 ⊢
  rw [rng1 (by omega), yb_ok]
  refine cw_cut (fun s => Pile s.1 ∧ ∃ fa : List Fact, s.2 = dL (fa.map dF) ∧ (∀ f ∈ fa, FOk zs f) ∧ fa.length ≤ m) ?_ ?_
  · refine for_map (fun ks s => Pile s.1 ∧ ∃ fa : List Fact, s.2 = dL (fa.map dF) ∧ (∀ f ∈ fa, FOk zs f) ∧ fa.length + ks.length = r) ⟨hp2, [], rfl, by simp, by simp⟩ ?_ ?_
    · rintro k ks ⟨s1, s2⟩ ⟨hs, fa, rfl, hf, hl⟩
      dsimp only at hs ⊢
      refine cw_by (take_ok hs (m := 5) (by decide)) ?_
      rintro ⟨_, p3⟩ ⟨hp3, i, rfl, hi⟩
      dsimp only at hp3 ⊢
      obtain ⟨k1, hk1, e1⟩ : ∃ k ∈ kinds, ∃ d, ixD (dL [dI 0, dI 0, dI 1, dI 1, dI 2]) (dI i) = some (.frz d) ∧ ixD (dL [dS "in", dS "apart", dS "cover"]) d = some (.frz (dS k)) := by
        have : i = 0 ∨ i = 1 ∨ i = 2 ∨ i = 3 ∨ i = 4 := by omega
        rcases this with rfl | rfl | rfl | rfl | rfl
        · exact ⟨"in", by decide +kernel, _, rfl, rfl⟩
        · exact ⟨"in", by decide +kernel, _, rfl, rfl⟩
        · exact ⟨"apart", by decide +kernel, _, rfl, rfl⟩
        · exact ⟨"apart", by decide +kernel, _, rfl, rfl⟩
        · exact ⟨"cover", by decide +kernel, _, rfl, rfl⟩
      obtain ⟨d1, e1, e2⟩ := e1
      rw [e1, opF_f, yb_ok, e2, opF_f, yb_ok]
      refine cw_cut (fun s => ∃ k ∈ kinds, s = dS k) ?_ ?_
      · rw [eq_i, opF_f, yb_ok, bolR_b, yb_ok]
        refine cw_ite (fun _ => ?_) fun _ => ?_
        · exact ⟨"in", by decide +kernel, rfl⟩
        · exact ⟨k1, hk1, rfl⟩
      rintro _ ⟨k2, hk2, rfl⟩
      refine cw_cut (fun s => Pile s.1 ∧ ∃ k ∈ kinds, s.2 = dS k) ?_ ?_
      · rw [eq_i, opF_f, yb_ok, bolR_b, yb_ok]
        refine cw_ite (fun _ => ?_) fun _ => ?_
        · refine cw_by (take_ok hp3 (m := 2) (by decide)) ?_
          rintro ⟨_, p4⟩ ⟨hp4, j, rfl, hj⟩
          dsimp only at hp4 ⊢
          obtain ⟨k3, hk3, e3⟩ : ∃ k ∈ kinds, ixD (dL [dS "in", dS "apart"]) (dI j) = some (.frz (dS k)) := by
            have : j = 0 ∨ j = 1 := by omega
            rcases this with rfl | rfl
            · exact ⟨"in", by decide +kernel, rfl⟩
            · exact ⟨"apart", by decide +kernel, rfl⟩
          rw [e3, opF_f, yb_ok]
          exact ⟨hp4, k3, hk3, rfl⟩
        · exact ⟨hp3, k2, hk2, rfl⟩
      rintro ⟨p5, _⟩ ⟨hp5, k5, hk5, rfl⟩
      dsimp only at hp5 ⊢
      have at_ : ∀ i : Nat, i < zs.length → ∃ z ∈ zs, ixD (dP zs) (dI i) = some (.frz (dS z)) := fun i hi => ⟨zs[i], List.getElem_mem hi, by rw [ix_l, atI_n, List.getElem?_map, List.getElem?_eq_getElem hi]; rfl⟩
      rw [len_l, opF_f, yb_ok, List.length_map]
      refine cw_by (take_ok hp5 (m := zs.length) (by omega)) ?_
      rintro ⟨_, p6⟩ ⟨hp6, i6, rfl, hi6⟩
      obtain ⟨x, hx, ex⟩ := at_ i6 hi6
      dsimp only at hp6 ⊢
      rw [ex, opF_f, yb_ok, yb_ok]
      refine cw_by (take_ok hp6 (m := zs.length) (by omega)) ?_
      rintro ⟨_, p7⟩ ⟨hp7, i7, rfl, hi7⟩
      obtain ⟨y, hy, ey⟩ := at_ i7 hi7
      dsimp only at hp7 ⊢
      have hln : fa.length < 16777216 := by simp at hl; omega
      rw [ey, opF_f, yb_ok, isLst_l, okR_t, yb_ok, app_l (by simpa using hln), yb_ok, cw_nx]
      refine ⟨hp7, fa ++ [(k5, x, y)], by simp, fun f hf' => ?_, by simp at hl ⊢; omega⟩
      rcases List.mem_append.mp hf' with z | z
      · exact hf f z
      · rw [List.mem_singleton.mp z]
        exact ⟨hk5, hx, hy⟩
    · rintro s ⟨hs, fa, e, hf, hl⟩
      exact ⟨hs, fa, e, hf, by simp at hl; omega⟩
  · rintro ⟨s1, s2⟩ ⟨hs, fa, e, hf, hl⟩
    exact ⟨hs, fa, e, hf, hl⟩
/-- facts that are kept one behind the other as long as some patch keeps them all -/
theorem held_ok {p : D} (hp : Pile p) (zs : List Str) (m : Nat) (hz : 1 ≤ zs.length ∧ zs.length ≤ 8) (hs : ∀ z ∈ zs, SOk z) (hm : m ≤ 30) : OK (g_l_held p (dP zs) (dI m)) fun q => Pile q.2 ∧ ∃ fa : List Fact, q.1 = dL (fa.map dF) ∧ (∀ f ∈ fa, FOk zs f) ∧ (∃ p ∈ subs zs, fa.all (keepsB p) = true) ∧ fa.length ≤ m := by
  unfold g_l_held
  rw [ok_runM]
  refine cw_by (all_ok zs hz.2) ?_
  rintro _ rfl
  refine cw_by (facts_ok hp zs m ⟨hz.1, by omega⟩ hm) ?_
  rintro ⟨_, p1⟩ ⟨hp1, fa, rfl, hf, hl⟩
  dsimp only at hp1 ⊢
  rw [lstR_l, yb_ok]
  refine cw_cut (fun s => ∃ fb : List Fact, s.1 = dL (fb.map dF) ∧ (∀ f ∈ fb, FOk zs f) ∧ (∃ p ∈ subs zs, fb.all (keepsB p) = true) ∧ fb.length ≤ m) ?_ ?_
  · refine for_map (fun fr s => ∃ (fb : List Fact) (ps : List (List Str)), s = (dL (fb.map dF), dL (ps.map dP)) ∧ ps ≠ [] ∧ ps = (subs zs).filter (fun p => fb.all (keepsB p)) ∧ (∀ f ∈ fr, FOk zs f) ∧ (∀ f ∈ fb, FOk zs f) ∧ fb.length + fr.length ≤ m) ⟨[], subs zs, rfl, ?_, ?_, hf, by simp, by simpa using hl⟩ ?_ ?_
    · intro z
      have := subs_pos zs
      rw [z] at this
      cases this
    · exact (List.filter_eq_self.mpr fun _ _ => rfl).symm
    · rintro f fr _ ⟨fb, ps, rfl, hne, hps, hfr, hfb, hlen⟩
      have hfo := hfr f (List.mem_cons_self ..)
      have hpl : ps.length ≤ 256 := by rw [hps]; exact Nat.le_trans (List.length_filter_le ..) (subs_256 hz.2)
      have hpok : ∀ p ∈ ps, ∀ x ∈ p, SOk x := fun p hp x hx => hs x (subs_in (List.mem_filter.mp (hps ▸ hp)).1 hx)
      dsimp only
      rw [seqR_l, yb_ok, cap_ok (by simp; omega), yb_ok, compR_filter (p := fun p => keepsB p f) (k := dP), yb_ok]
      · refine cw_cut (fun s => ∃ (fb : List Fact) (ps : List (List Str)), s = (dL (fb.map dF), dL (ps.map dP)) ∧ ps ≠ [] ∧ ps = (subs zs).filter (fun p => fb.all (keepsB p)) ∧ (∀ f ∈ fr, FOk zs f) ∧ (∀ f ∈ fb, FOk zs f) ∧ fb.length + fr.length ≤ m) ?_ ?_
        · rw [ne_nil (n := 1) (by
            intro d hd
            obtain ⟨p, hp, rfl⟩ := List.mem_map.mp hd
            exact sh_P (hpok p (List.mem_filter.mp hp).1)) (by decide), opF_f, yb_ok, bolR_b, yb_ok]
          refine cw_ite (fun h => ?_) fun h => ?_
          · have hln : fb.length < 16777216 := by simp at hlen; omega
            rw [isLst_l, okR_t, yb_ok, app_l (by simpa using hln), yb_ok, cw_nx]
            refine ⟨fb ++ [f], ps.filter (fun p => keepsB p f), by simp, ?_, ?_, fun g hg => hfr g (List.mem_cons_of_mem _ hg), ?_, by simp at hlen ⊢; omega⟩
            · intro z
              rw [z] at h
              cases h
            · rw [hps, List.filter_filter]
              refine List.filter_congr fun p _ => ?_
              rw [List.all_append, List.all_cons, List.all_nil, Bool.and_true, Bool.and_comm]
            · intro g hg
              rcases List.mem_append.mp hg with z | z
              · exact hfb g z
              · rw [List.mem_singleton.mp z]; exact hfo
          · exact ⟨fb, ps, rfl, hne, hps, fun g hg => hfr g (List.mem_cons_of_mem _ hg), hfb, by simp at hlen; omega⟩
        · rintro _ ⟨fb, ps, rfl, h⟩
          exact ⟨fb, ps, rfl, h⟩
      · intro p hp
        rw [keeps_ok p f (kinds_ok _ hfo.1), yb_ok, tru_b, yb_ok]
    · rintro _ ⟨fb, ps, rfl, hne, hps, _, hfb, hlen⟩
      refine ⟨fb, rfl, hfb, ?_, by simpa using hlen⟩
      obtain ⟨p, r, e⟩ := List.exists_cons_of_ne_nil hne
      have : p ∈ ps := by rw [e]; exact List.mem_cons_self ..
      rw [hps] at this
      exact ⟨p, (List.mem_filter.mp this).1, (List.mem_filter.mp this).2⟩
  · rintro ⟨_, s2⟩ ⟨fb, rfl, h⟩
    exact ⟨hp1, fb, rfl, h⟩
end K02

namespace K02
open PySem PySem.Spec PyProof.Rows L2 TL

/-! ### names of the program -/
theorem sh_F {zs : List Str} (hs : ∀ z ∈ zs, SOk z) {f : Fact} (h : FOk zs f) : Sh 1 (dF f) := sh_t fun d hd => by
  simp only [List.mem_cons, List.mem_nil_iff, or_false] at hd
  rcases hd with rfl | rfl | rfl
  · exact sh_s (kinds_ok _ h.1)
  · exact sh_s (hs _ h.2.1)
  · exact sh_s (hs _ h.2.2)
theorem sh_map' {α : Type} {n : Nat} {g : α → D} {xs : List α} (h : ∀ x ∈ xs, Sh n (g x)) : ∀ d ∈ xs.map g, Sh n d := fun d hd => by
  obtain ⟨x, hx, rfl⟩ := List.mem_map.mp hd
  exact h x hx
theorem ix_map {α : Type} {g : α → D} {xs : List α} {i : Nat} (h : i < xs.length) : ixD (dL (xs.map g)) (dI i) = some (.frz (g xs[i])) := by
  rw [ix_l, atI_n, List.getElem?_map, List.getElem?_eq_getElem h]
  rfl
theorem tag_s {x : Str} {it : Ty ⊕ Str → Option Bool} {b : Bool} (h : it (.inl .str) = some b) : isiR it (dS x) = .ok (dB b) := by
  unfold isiR
  show (match it (.inl .str) with | some b => R.ok (dB b) | none => .bad) = _
  rw [h]
theorem isi_str {x : Str} : isiR (itB .str) (dS x) = .ok (dB true) := tag_s rfl
theorem isi_lst {xs : List D} : isiR (itB .lst) (dL xs) = .ok (dB true) := rfl
theorem in_abc {c : Nat} : inT (dS ⟨#[c]⟩) (dS abc) = some (aB (decide (c ∈ abc.cps.toList))) := rfl
theorem let_abc {c : Nat} (h : Let c) : c ∈ abc.cps.toList := by
  have := abc_at (c - 97) (by unfold Let at h; omega)
  rw [show 97 + (c - 97) = c by unfold Let at h; omega] at this
  exact List.mem_of_getElem? this
theorem allD_t {bs : List Bool} : allD (dL (bs.map dB)) = some (aB (bs.all id)) := by
  have : blsD (bs.map dB) = some bs := by
    induction bs with
    | nil => rfl
    | cons b bs ih =>
      show (match dB b with | .at (.bl b) => (blsD (bs.map dB)).map (b :: ·) | _ => none) = _
      rw [ih]
      rfl
  unfold allD
  show (blsD (bs.map dB)).map _ = _
  rw [this]
  rfl
theorem is_name_ok {z : Str} (h : NameOk z) : g_p_is_name (dS z) = .ok (dB true) := by
  have hl : z.length ≤ lineN := Nat.le_trans h.2.1 (by decide)
  unfold g_p_is_name
  rw [isi_str, yb_ok, tru_b, yb_ok, TL.len_str hl, opF_f, yb_ok, le_i, opF_f, yb_ok, bolR_b, yb_ok, decide_eq_true (show (1 : Int) ≤ (z.length : Nat) by have := h.1; omega), if_pos rfl, le_i, opF_f, yb_ok, decide_eq_true (show ((z.length : Nat) : Int) ≤ 12 by have := h.2.1; omega), yb_ok, bolR_b, yb_ok]
  show runR (β := Unit) (yb (R.ok false) _) = _
  rw [yb_ok, if_neg (by decide)]
  have e : seqR (dS z) = .ok (z.cps.toList.map one) := rfl
  rw [e, yb_ok, cap_ok (by rw [List.length_map, Array.length_toList]; exact Nat.le_trans h.2.1 (by decide)), yb_ok, compR_all (k := fun _ => dB true), yb_ok]
  · have e2 : (z.cps.toList.map fun _ => dB true) = (z.cps.toList.map fun _ => true).map dB := by rw [List.map_map]; rfl
    rw [e2, allD_t, opF_f, yb_ok]
    have : (z.cps.toList.map fun _ => true).all id = true := by
      rw [List.all_eq_true]
      intro b hb
      obtain ⟨_, _, rfl⟩ := List.mem_map.mp hb
      rfl
    rw [this]
    rfl
  · intro c hc
    rw [in_abc, opF_f, yb_ok, decide_eq_true (let_abc (h.2.2 c hc))]
theorem enum_map {α : Type} {g : α → D} : ∀ {xs : List α} {k : Nat}, enumD k (xs.map g) = (xs.zipIdx k).map fun q => dTu [dI (q.2 : Nat), g q.1]
  | [], _ => rfl
  | x :: xs, k => by
    rw [List.map_cons]
    unfold enumD
    rw [enum_map, List.zipIdx_cons]
    rfl
/-- a whole for over a row, nothing changed, by its turns -/
theorem for_unit {α : Type} {ρ β : Type} {g : α → D} {f : D → Unit → C Unit Unit ρ} {xs : List α} (h : ∀ x ∈ xs, f (g x) () = .nx ()) : forC (β := β) (xs.map g) () f = .nx () := by
  induction xs with
  | nil => rfl
  | cons x xs ih =>
    rw [List.map_cons]
    unfold forC
    rw [h x (List.mem_cons_self ..)]
    exact ih fun y hy => h y (List.mem_cons_of_mem _ hy)
theorem regions_ok {n : Nat} {zs : List Str} (h : NamesOk n zs) (h1 : 1 ≤ n) (h2 : n ≤ 24) : g_p_checked_regions (dP zs) = .ok (dP zs) := by
  obtain ⟨hl, hn, hz⟩ := h
  unfold g_p_checked_regions
  rw [isi_lst, yb_ok, tru_b, yb_ok, len_l, opF_f, yb_ok, List.length_map, hl, le_i, opF_f, yb_ok, bolR_b, yb_ok, decide_eq_true (show (1 : Int) ≤ (n : Nat) by omega), if_pos rfl, le_i, opF_f, yb_ok, decide_eq_true (show ((n : Nat) : Int) ≤ 24 by omega), yb_ok, bolR_b, yb_ok]
  show runR (β := Unit) (yb (R.ok false) _) = _
  rw [yb_ok, if_neg (by decide), lscR_l, yb_ok, enum_map, for_unit]
  · rfl
  · rintro ⟨z, k⟩ hk
    obtain ⟨hk1, hk2⟩ := List.mem_zipIdx' hk
    have hzm : z ∈ zs := by rw [hk2]; exact List.getElem_mem _
    have hni : z ∉ zs.take k := by
      intro hi
      obtain ⟨j, hj, e⟩ := List.mem_iff_getElem.mp hi
      rw [List.getElem_take, hk2] at e
      have := (List.getElem_inj hn).mp e
      rw [List.length_take] at hj
      omega
    have e1 : slD (dP zs) none (some (k : Int)) = some (.own (dP (zs.take k))) := by
      show some (Tv.own (dL (TL.cutD (zs.map dS) none (some (k : Int))))) = _
      rw [cutD_hi, ← List.map_take]
    dsimp only
    rw [unT2_t, yb_ok]
    dsimp only
    rw [is_name_ok (hz z hzm), yb_ok, tru_b, yb_ok, intR_i, yb_ok, e1, opA_o, yb_ok, inT_P, opF_f, yb_ok, bolR_b, yb_ok, decide_eq_false hni]
    rfl
/-! patches -/
def ixOf (x : Str) : List Str → Nat
  | [] => 0
  | y :: ys => if y = x then 0 else ixOf x ys + 1
theorem idxOf_P {x : Str} : ∀ {zs : List Str} {k : Nat}, x ∈ zs → TL.idxOf (dS x) k (zs.map dS) = some (k + ixOf x zs)
  | [], _, h => by cases h
  | y :: ys, k, h => by
    rw [List.map_cons]
    unfold TL.idxOf ixOf
    rw [eqv_s]
    by_cases e : y = x
    · rw [if_pos (by rw [e]; exact beq_self_eq_true x), if_pos e]
      rfl
    · rw [if_neg (by simpa using e), if_neg e, idxOf_P (zs := ys)]
      · congr 1
        omega
      · rcases List.mem_cons.mp h with z | z
        · exact absurd z.symm e
        · exact z
theorem index_P {x : Str} {zs : List Str} (h : x ∈ zs) : indexD (dP zs) (dS x) = some (aI (ixOf x zs : Nat)) := by
  have e : indexD (dP zs) (dS x) = if TL.allFlat (zs.map dS) = true ∧ TL.flatD (dS x) = true then (TL.idxOf (dS x) 0 (zs.map dS)).map fun k => aI (k : Nat) else none := rfl
  rw [e, if_pos ⟨flat_P, rfl⟩, idxOf_P h, Nat.zero_add]
  rfl
theorem ixOf_at : ∀ {a b : List Str} {x : Str}, x ∉ a → ixOf x (a ++ x :: b) = a.length
  | [], b, x, _ => by unfold ixOf; rw [List.nil_append]; exact if_pos rfl
  | y :: a, b, x, h => by
    rw [List.cons_append]
    unfold ixOf
    rw [if_neg (fun z => h (by rw [z]; exact List.mem_cons_self ..)), ixOf_at fun z => h (List.mem_cons_of_mem _ z)]
    rfl
end K02

namespace K02
open PySem PySem.Spec PyProof.Rows L2 TL
/-! ### facts: places, steps -/
theorem ok_eq {α : Type} {m : R α} {v : α} (h : OK m (· = v)) : m = .ok v := by
  obtain ⟨a, e, rfl⟩ := h
  exact e
def plE (zs : List Str) : List KE := zs.zipIdx.map fun q => (.inr q.1, dI (q.2 : Nat))
def plD (zs : List Str) : D := .nd .dK ((plE zs).map encK)
theorem zip_keys (zs : List Str) (k : Nat) : ((zs.zipIdx k).map fun q => ((.inr q.1, dI (q.2 : Nat)) : KE)).map (·.1) = zs.map Sum.inr := by
  rw [List.map_map]
  induction zs generalizing k with
  | nil => rfl
  | cons z zs ih =>
    rw [List.zipIdx_cons, List.map_cons, List.map_cons, ih]
    rfl
theorem plE_keys (zs : List Str) : (plE zs).map (·.1) = zs.map Sum.inr := zip_keys zs 0
theorem ixOf_get : ∀ {zs : List Str} {z : Str}, z ∈ zs → ∃ h : ixOf z zs < zs.length, zs[ixOf z zs] = z
  | [], z, h => by cases h
  | y :: ys, z, h => by
    unfold ixOf
    by_cases e : y = z
    · subst e
      simp
    · have hz : z ∈ ys := by
        rcases List.mem_cons.mp h with q | q
        · exact absurd q.symm e
        · exact q
      obtain ⟨h1, h2⟩ := ixOf_get hz
      simp only [if_neg e]
      exact ⟨by rw [List.length_cons]; omega, by simpa using h2⟩
theorem ixOf_lt {zs : List Str} {z : Str} (h : z ∈ zs) : ixOf z zs < zs.length := (ixOf_get h).1
theorem lookA_pl {zs : List Str} (hn : zs.Nodup) {z : Str} (h : z ∈ zs) : lookA (.inr z) (plE zs) = some (dI (ixOf z zs : Nat)) := by
  obtain ⟨h1, h2⟩ := ixOf_get h
  have hm : ((.inr z, dI (ixOf z zs : Nat)) : KE) ∈ plE zs := by
    refine List.mem_map.mpr ⟨(z, ixOf z zs), ?_, rfl⟩
    rw [List.mem_zipIdx_iff_getElem?]
    exact List.getElem?_eq_some_iff.mpr ⟨h1, h2⟩
  refine lookA_some (q := (.inr z, dI (ixOf z zs : Nat))) ?_ hm
  rw [plE_keys]
  exact List.pairwise_map.mpr (List.Pairwise.imp (fun h e => h (Sum.inr.inj e)) hn)
theorem lookA_pl0 {zs : List Str} {z : Str} (h : z ∉ zs) : lookA (.inr z) (plE zs) = none := by
  refine lookA_none ?_
  rw [plE_keys]
  intro hm
  obtain ⟨y, hy, e⟩ := List.mem_map.mp hm
  exact h (by rw [← Sum.inr.inj e]; exact hy)
theorem ix_pl {zs : List Str} (hn : zs.Nodup) {z : Str} (h : z ∈ zs) : ixD (plD zs) (dS z) = some (.frz (dI (ixOf z zs : Nat))) := by
  unfold plD
  rw [ixK_s, lookA_pl hn h]
  rfl
theorem in_pl {zs : List Str} (hn : zs.Nodup) (z : Str) : inT (dS z) (plD zs) = some (aB (decide (z ∈ zs))) := by
  unfold plD
  rw [inT_K keyD_s]
  by_cases h : z ∈ zs
  · rw [lookA_pl hn h, decide_eq_true h]
    rfl
  · rw [lookA_pl0 h, decide_eq_false h]
    rfl
theorem is_region_ok {zs : List Str} (hn : zs.Nodup) (z : Str) : g_p_is_region (plD zs) (dS z) = .ok (dB (decide (z ∈ zs))) := by
  unfold g_p_is_region
  rw [isi_str, yb_ok, tru_b, yb_ok, if_pos rfl, in_pl hn, opF_f, yb_ok]
  rfl
theorem kind_in {k : Str} (h : k ∈ kinds) : ninT (dS k) c_KINDS = some (aB false) := by
  have : ∀ k ∈ kinds, ninT (dS k) c_KINDS = some (aB false) := by
    intro k hk
    simp only [kinds, List.mem_cons, List.mem_nil_iff, or_false] at hk
    rcases hk with rfl | rfl | rfl <;> rfl
  exact this k h
theorem is_fact_ok {zs : List Str} (hn : zs.Nodup) {f : Fact} (h : FOk zs f) : g_p_is_fact (plD zs) (dF f) = .ok (dB true) := by
  obtain ⟨h1, h2, h3⟩ := h
  unfold g_p_is_fact
  have e : isiR (itB .tup) (dF f) = .ok (dB true) := rfl
  rw [e, yb_ok, tru_b, yb_ok, len_t, opF_f, yb_ok]
  show runR (β := Unit) (yb (orR (.ok false) (yb (opF (neD (dI 3) (dI 3))) _)) _) = _
  rw [orR_f, ne_i, opF_f, yb_ok, bolR_b, yb_ok]
  show runR (β := Unit) (yb (.ok false) _) = _
  rw [yb_ok, if_neg (by decide), ix_t, at0]
  show runR (β := Unit) (yb (orR (yb (opF (some (.frz (dS f.1)))) _) (yb (opF (some (.frz (dS f.1)))) _)) _) = _
  rw [opF_f, yb_ok, isi_str, yb_ok, tru_b, yb_ok]
  show runR (β := Unit) (yb (orR (.ok false) _) _) = _
  rw [orR_f, yb_ok, kind_in h1, opF_f, yb_ok, bolR_b, yb_ok, yb_ok, if_neg (by decide), ix_t, at1]
  show runR (β := Unit) (yb (yb (opF (some (.frz (dS f.2.1)))) _) _) = _
  rw [opF_f, yb_ok, is_region_ok hn, yb_ok, decide_eq_true h2, tru_b, yb_ok, if_pos rfl, ix_t, at2]
  show runR (β := Unit) (yb (yb (opF (some (.frz (dS f.2.2)))) _) _) = _
  rw [opF_f, yb_ok, is_region_ok hn, yb_ok, decide_eq_true h3]
  rfl
theorem checked_facts_ok {zs : List Str} (hn : zs.Nodup) {fa : List Fact} (h : ∀ f ∈ fa, FOk zs f) (hl : fa.length ≤ 1200) : g_p_checked_facts (plD zs) (dL (fa.map dF)) = .ok (dL (fa.map dF)) := by
  unfold g_p_checked_facts
  rw [isi_lst, yb_ok, tru_b, yb_ok, len_l, opF_f, yb_ok, List.length_map, gt_i, opF_f, yb_ok, bolR_b, yb_ok, decide_eq_false (show ¬ (1200 : Int) < (fa.length : Nat) by omega)]
  show runR (β := Unit) (yb (.ok false) _) = _
  rw [yb_ok, if_neg (by decide), lscR_l, yb_ok, enum_map, for_unit]
  · rfl
  · rintro ⟨f, k⟩ hk
    have hf : f ∈ fa := by
      obtain ⟨hk1, hk2⟩ := List.mem_zipIdx' hk
      rw [hk2]; exact List.getElem_mem _
    dsimp only
    rw [unT2_t, yb_ok]
    dsimp only
    rw [is_fact_ok hn (h f hf), yb_ok, tru_b, yb_ok]
    rfl
/-! breaking claims -/
def sg (k : Str) : Nat × Nat := if k = "in" then (1, 0) else if k = "apart" then (1, 1) else (0, 0)
theorem sg_lt (k : Str) : (sg k).1 < 2 ∧ (sg k).2 < 2 := by
  unfold sg
  split
  · decide
  · split <;> decide
theorem gd_sg {k : Str} (h : k ∈ kinds) : gdD t_SIGNS (dS k) = some (.frz (.nd .ktp [dI ((sg k).1 : Nat), dI ((sg k).2 : Nat)])) := by
  simp only [kinds, List.mem_cons, List.mem_nil_iff, or_false] at h
  rcases h with rfl | rfl | rfl <;> rfl
def brk (zs : List Str) (f : Fact) : Nat × Nat := (2 * ixOf f.2.1 zs + (sg f.1).1, 2 * ixOf f.2.2 zs + (sg f.1).2)
theorem brk_lt {zs : List Str} {f : Fact} (h : FOk zs f) : (brk zs f).1 < 2 * zs.length ∧ (brk zs f).2 < 2 * zs.length := by
  have h1 := ixOf_lt h.2.1
  have h2 := ixOf_lt h.2.2
  have h3 := sg_lt f.1
  unfold brk
  dsimp only
  omega
theorem two_mul (n : Nat) : mulD (dI 2) (dI (n : Nat)) = some (aI ((2 * n : Nat) : Int)) := by
  rw [mul_l (by decide)]
  congr 2
theorem add_nn (a b : Nat) : addD (dI (a : Nat)) (dI (b : Nat)) = some (aI ((a + b : Nat) : Int)) := rfl
theorem breaking_ok {zs : List Str} (hn : zs.Nodup) {f : Fact} (h : FOk zs f) : g_p_breaking (plD zs) (dF f) = .ok (dPr (brk zs f)) := by
  unfold g_p_breaking
  rw [unT3_t, yb_ok]
  dsimp only
  have e0 : ixD (.nd .ktp [dI ((sg f.1).1 : Nat), dI ((sg f.1).2 : Nat)]) (dI 0) = some (.frz (dI ((sg f.1).1 : Nat))) := rfl
  have e1 : ixD (.nd .ktp [dI ((sg f.1).1 : Nat), dI ((sg f.1).2 : Nat)]) (dI 1) = some (.frz (dI ((sg f.1).2 : Nat))) := rfl
  rw [ix_pl hn h.2.1, opF_f, yb_ok, two_mul, opA_f, yb_ok, gd_sg h.1, opF_f, yb_ok, e0, opF_f, yb_ok, add_nn, opA_f, yb_ok, ix_pl hn h.2.2, opF_f, yb_ok, two_mul, opA_f, yb_ok, yb_ok, e1, opF_f, yb_ok, add_nn, opA_f, yb_ok]
  rfl
def edgesF (zs : List Str) (l : List (Nat × Nat)) (fa : List Fact) : List (Nat × Nat) := fa.foldl (fun l f => insU (insU l ((brk zs f).1, cn (brk zs f).2)) ((brk zs f).2, cn (brk zs f).1)) l
def edges (zs : List Str) (fa : List Fact) : List (Nat × Nat) := edgesF zs [] fa
def EdgeR (zs : List Str) (fa : List Fact) (q : Nat × Nat) : Prop := ∃ f ∈ fa, q = ((brk zs f).1, cn (brk zs f).2) ∨ q = ((brk zs f).2, cn (brk zs f).1)
theorem edgesF_mem {zs : List Str} {q : Nat × Nat} : ∀ {fa : List Fact} {l : List (Nat × Nat)}, q ∈ edgesF zs l fa ↔ q ∈ l ∨ EdgeR zs fa q
  | [], l => by simp [edgesF, EdgeR]
  | f :: fa, l => by
    have e : edgesF zs l (f :: fa) = edgesF zs (insU (insU l ((brk zs f).1, cn (brk zs f).2)) ((brk zs f).2, cn (brk zs f).1)) fa := rfl
    rw [e, edgesF_mem, insU_mem, insU_mem]
    unfold EdgeR
    constructor
    · rintro (((h | h) | h) | ⟨g, hg, h⟩)
      · exact .inl h
      · exact .inr ⟨f, List.mem_cons_self, .inl h⟩
      · exact .inr ⟨f, List.mem_cons_self, .inr h⟩
      · exact .inr ⟨g, List.mem_cons_of_mem _ hg, h⟩
    · rintro (h | ⟨g, hg, h⟩)
      · exact .inl (.inl (.inl h))
      · rcases List.mem_cons.mp hg with rfl | hg
        · rcases h with h | h
          · exact .inl (.inl (.inr h))
          · exact .inl (.inr h)
        · exact .inr ⟨g, hg, h⟩
theorem edges_mem {zs : List Str} {fa : List Fact} {q : Nat × Nat} : q ∈ edges zs fa ↔ EdgeR zs fa q := by
  unfold edges
  rw [edgesF_mem]
  simp
theorem edgesF_nd {zs : List Str} : ∀ {fa : List Fact} {l : List (Nat × Nat)}, l.Nodup → (edgesF zs l fa).Nodup
  | [], _, h => h
  | f :: fa, l, h => edgesF_nd (fa := fa) (insU_nd (insU_nd h))
theorem edge_lt {zs : List Str} {fa : List Fact} (h : ∀ f ∈ fa, FOk zs f) {q : Nat × Nat} (hq : q ∈ edges zs fa) : q.1 < 2 * zs.length ∧ q.2 < 2 * zs.length := by
  obtain ⟨f, hf, e⟩ := edges_mem.mp hq
  have := brk_lt (h f hf)
  rcases e with rfl | rfl
  · exact ⟨this.1, cn_lt this.2⟩
  · exact ⟨this.2, cn_lt this.1⟩
theorem edge_cn {zs : List Str} {fa : List Fact} {a b : Nat} (h : (a, b) ∈ edges zs fa) : (cn b, cn a) ∈ edges zs fa := by
  obtain ⟨f, hf, e⟩ := edges_mem.mp h
  refine edges_mem.mpr ⟨f, hf, ?_⟩
  rcases e with e | e
  · obtain ⟨rfl, rfl⟩ := Prod.mk.inj e
    exact .inr (by rw [cn_cn])
  · obtain ⟨rfl, rfl⟩ := Prod.mk.inj e
    exact .inl (by rw [cn_cn])
/-- where one fact leads from a claim, rising -/
def stp (zs : List Str) (fa : List Fact) (c : Nat) : List Nat := (List.range (2 * zs.length)).filter fun b => decide ((c, b) ∈ edges zs fa)
theorem stp_mem {zs : List Str} {fa : List Fact} (h : ∀ f ∈ fa, FOk zs f) {c b : Nat} : b ∈ stp zs fa c ↔ (c, b) ∈ edges zs fa := by
  unfold stp
  rw [List.mem_filter, List.mem_range]
  exact ⟨fun z => of_decide_eq_true z.2, fun z => ⟨(edge_lt h z).2, decide_eq_true z⟩⟩
theorem stp_up {zs : List Str} {fa : List Fact} {c : Nat} : (stp zs fa c).Pairwise (· < ·) := List.Pairwise.filter _ List.pairwise_lt_range
theorem stp_lt {zs : List Str} {fa : List Fact} {c : Nat} : ∀ b ∈ stp zs fa c, b < 2 * zs.length := fun b hb => List.mem_range.mp (List.mem_filter.mp hb).1
theorem sort_stp {l r : List Nat} (hl : l.Nodup) (hr : r.Pairwise (· < ·)) (h : ∀ x, x ∈ l ↔ x ∈ r) : PySem.W.sortI (l.map fun x : Nat => (x : Int)) = r.map fun x : Nat => (x : Int) := by
  refine (PySem.W.eq_sortI ?_ ?_).symm
  · refine List.Perm.map _ ?_
    exact (List.perm_ext_iff_of_nodup (hr.imp fun h => Nat.ne_of_lt h) hl).mpr fun x => (h x).symm
  · rw [List.pairwise_map]
    exact hr.imp fun h => by omega
theorem sort_nn {l : List Nat} (h : l.length < 64) : sortD (dL (l.map fun x => dI (x : Nat))) = some (.own (dL ((PySem.W.sortI (l.map fun x : Nat => (x : Int))).map fun i => dI i))) := by
  unfold sortD
  have e1 : lstD (dL (l.map fun x => dI (x : Nat))) = some (l.map fun x => dI (x : Nat)) := rfl
  have e2 : intsD (l.map fun x => dI (x : Nat)) = some (l.map fun x : Nat => (x : Int)) := by
    clear h e1
    induction l with
    | nil => rfl
    | cons x l ih =>
      show (intsD (l.map fun x => dI (x : Nat))).map ((x : Int) :: ·) = _
      rw [ih]
      rfl
  rw [e1, Option.bind_some, if_pos (by rw [List.length_map]; exact h), e2]
def stD (zs : List Str) (fa : List Fact) : D := dL ((List.range (2 * zs.length)).map fun c => dL ((stp zs fa c).map fun b => dI (b : Nat)))
theorem steps_ok {zs : List Str} (hn : zs.Nodup) (hz : zs.length ≤ 24) {fa : List Fact} (h : ∀ f ∈ fa, FOk zs f) (hl : fa.length ≤ 1200) : g_p_steps_of (plD zs) (dL (fa.map dF)) = .ok (stD zs fa) := by
  refine ok_eq ?_
  unfold g_p_steps_of
  rw [seqR_l, yb_ok, ok_runR]
  refine cw_cut (fun s => s = .nd .dT ((edges zs fa).map encPr)) ?_ ?_
  · refine for_map (fun rest s => ∃ l : List (Nat × Nat), s = .nd .dT (l.map encPr) ∧ l.length + 2 * rest.length ≤ 2 * fa.length ∧ edgesF zs l rest = edges zs fa ∧ ∀ f ∈ rest, f ∈ fa) ⟨[], rfl, by simp, rfl, fun f hf => hf⟩ ?_ ?_
    · rintro f rest s ⟨l, rfl, h1, h2, h3⟩
      have hf := h f (h3 f List.mem_cons_self)
      rw [List.length_cons] at h1
      rw [breaking_ok hn hf, yb_ok, unT2_t, yb_ok]
      dsimp only
      rw [xor_i, opF_f, yb_ok, putDic_Pr (k := ((brk zs f).1, cn (brk zs f).2)) (by show _ < 16777216; omega), optR_s, yb_ok, xor_i, opF_f, yb_ok, putDic_Pr (k := ((brk zs f).2, cn (brk zs f).1)) (by
        have := insU_len (l := l) (q := ((brk zs f).1, cn (brk zs f).2))
        show _ < 16777216
        omega), optR_s, yb_ok]
      have e1 := insU_len (l := l) (q := ((brk zs f).1, cn (brk zs f).2))
      have e2 := insU_len (l := insU l ((brk zs f).1, cn (brk zs f).2)) (q := ((brk zs f).2, cn (brk zs f).1))
      exact ⟨_, rfl, by omega, h2, fun g hg => h3 g (List.mem_cons_of_mem _ hg)⟩
    · rintro s ⟨l, rfl, _, h2, _⟩
      rw [show l = edges zs fa from h2]
  · rintro s rfl
    have e0 : lenD (plD zs) = some (aI (zs.length : Nat)) := by
      show some (aI (((plE zs).map encK).length : Nat)) = _
      rw [List.length_map, plE, List.length_map, List.length_zipIdx]
    rw [e0, opF_f, yb_ok, two_mul, opF_f, yb_ok, rng1 (by omega), yb_ok, cap_ok (by rw [List.length_map, List.length_range]; omega), yb_ok, compR_all (k := fun c => dL ((stp zs fa c).map fun b => dI (b : Nat))), yb_ok]
    · rfl
    · intro c hc
      have hc := List.mem_range.mp hc
      have e1 : dicR (.nd .dT ((edges zs fa).map encPr)) = .ok (true, (edges zs fa).map encPr) := rfl
      have hE : (edges zs fa).length ≤ 2400 := by
        have : ∀ (fa : List Fact) (l : List (Nat × Nat)), (edgesF zs l fa).length ≤ l.length + 2 * fa.length := by
          intro fa
          induction fa with
          | nil => intro l; exact Nat.le_refl _
          | cons f fa ih =>
            intro l
            have e1 := insU_len (l := l) (q := ((brk zs f).1, cn (brk zs f).2))
            have e2 := insU_len (l := insU l ((brk zs f).1, cn (brk zs f).2)) (q := ((brk zs f).2, cn (brk zs f).1))
            have := ih (insU (insU l ((brk zs f).1, cn (brk zs f).2)) ((brk zs f).2, cn (brk zs f).1))
            show (edgesF zs (insU (insU l ((brk zs f).1, cn (brk zs f).2)) ((brk zs f).2, cn (brk zs f).1)) fa).length ≤ _
            rw [List.length_cons]
            omega
        have := this fa []
        unfold edges
        simp at this
        omega
      rw [e1, yb_ok]
      dsimp only
      rw [keysOf_Pr, cap_ok (by rw [List.length_map]; omega), yb_ok, compR_filter (g := dPr) (p := fun q => q.1 == c) (k := fun q => dI (q.2 : Nat)), yb_ok]
      · have e2 : ((edges zs fa).filter fun q => q.1 == c).map (fun q => dI (q.2 : Nat)) = (((edges zs fa).filter fun q => q.1 == c).map (·.2)).map fun x => dI (x : Nat) := by
          rw [List.map_map]
          rfl
        have m2 : ∀ x, x ∈ ((edges zs fa).filter fun q => q.1 == c).map (·.2) ↔ (c, x) ∈ edges zs fa := fun x => by
          rw [List.mem_map]
          constructor
          · rintro ⟨q, hq, rfl⟩
            obtain ⟨h1, h2⟩ := List.mem_filter.mp hq
            rw [← eq_of_beq h2]
            exact h1
          · intro hx
            exact ⟨(c, x), List.mem_filter.mpr ⟨hx, beq_self_eq_true c⟩, rfl⟩
        have n2 : (((edges zs fa).filter fun q => q.1 == c).map (·.2)).Nodup := by
          refine List.pairwise_map.mpr (List.Pairwise.imp_of_mem (fun {a b} ha hb hne e => hne ?_) ((edgesF_nd List.nodup_nil).filter _))
          have h1 := eq_of_beq (List.mem_filter.mp ha).2
          have h2 := eq_of_beq (List.mem_filter.mp hb).2
          exact Prod.ext (h1.trans h2.symm) e
        have l2 := nodup_le n2 (m := 2 * zs.length) fun x hx => (edge_lt h ((m2 x).mp hx)).2
        rw [e2]
        show yb (opO (sortD (dL _))) _ = _
        rw [sort_nn (by omega), opO_o, yb_ok, sort_stp n2 stp_up (fun x => (m2 x).trans (stp_mem h).symm), List.map_map]
        rfl
      · intro q hq
        rw [unT2_t, yb_ok]
        dsimp only
        rw [eq_i, opF_f, yb_ok, bolR_b, yb_ok]
        have : ((q.1 : Int) == (c : Int)) = (q.1 == c) := by
          rw [Bool.eq_iff_iff, beq_iff_eq, beq_iff_eq]
          omega
        rw [this]
end K02

namespace K02
open PySem PySem.Spec PyProof.Rows L2 TL
/-! ### ways, masks -/
def dW (w : List Nat) : D := dL (w.map fun b => dI (b : Nat))
def wE (w : List Nat) : KE := (.inl (lst w : Nat), dW w)
def wysD (W : List (List Nat)) : D := .nd .dK ((W.map wE).map encK)
def pileD' (W : List (List Nat)) : D := dL (W.map fun w => dI (lst w : Nat))
theorem wE_keys (W : List (List Nat)) : (W.map wE).map (·.1) = (W.map lst).map fun c : Nat => (Sum.inl (c : Int) : Key) := by
  rw [List.map_map, List.map_map]
  rfl
theorem look_w {W : List (List Nat)} (hn : (W.map lst).Nodup) {w : List Nat} (h : w ∈ W) : lookA (.inl (lst w : Nat)) (W.map wE) = some (dW w) := by
  refine lookA_some (q := wE w) ?_ (List.mem_map_of_mem h)
  rw [wE_keys]
  exact List.pairwise_map.mpr (hn.imp fun h e => h (Int.ofNat.inj (Sum.inl.inj e)))
theorem look_w0 {W : List (List Nat)} {c : Nat} (h : c ∉ W.map lst) : lookA (.inl (c : Nat)) (W.map wE) = none := by
  refine lookA_none ?_
  rw [wE_keys]
  intro hm
  obtain ⟨b, hb, e⟩ := List.mem_map.mp hm
  exact h (by rw [← Int.ofNat.inj (Sum.inl.inj e)]; exact hb)
theorem nin_w {W : List (List Nat)} (hn : (W.map lst).Nodup) (c : Nat) : ninT (dI (c : Nat)) (wysD W) = some (aB (!decide (c ∈ W.map lst))) := by
  unfold wysD
  rw [ninT_K keyD_i]
  by_cases h : c ∈ W.map lst
  · obtain ⟨w, hw, rfl⟩ := List.mem_map.mp h
    rw [look_w hn hw, decide_eq_true h]
    rfl
  · rw [look_w0 h, decide_eq_false h]
    rfl
/-- the ways of the facts, from a claim -/
def wys (zs : List Str) (fa : List Fact) (c : Nat) : List (List Nat) := bfs (stp zs fa) (2 * zs.length) c
theorem reached_ok {zs : List Str} (hz : zs.length ≤ 24) {fa : List Fact} {c : Nat} (hc : c < 2 * zs.length) : g_p_reached (stD zs fa) (dI (c : Nat)) = .ok (wysD (wys zs fa c)) := by
  have hS : ∀ a, ∀ b ∈ stp zs fa a, b < 2 * zs.length := fun a => stp_lt
  obtain ⟨m, hm⟩ : ∃ m, m = 2 * zs.length := ⟨_, rfl⟩
  obtain ⟨S, hSS⟩ : ∃ S, S = stp zs fa := ⟨_, rfl⟩
  refine ok_eq ?_
  unfold g_p_reached
  have e0 : keyR (dI (c : Nat)) = .ok (.inl (c : Int)) := rfl
  rw [e0, yb_ok, ok_runR]
  refine cw_cut (fun s => s.1 = wysD (wys zs fa c)) ?_ ?_
  · refine while_inv (fun s => ∃ (W : List (List Nat)) (p : Nat), s = (wysD W, pileD' W, dI (p : Nat)) ∧ BI (stp zs fa) (2 * zs.length) c W p ∧ it (stp zs fa) (2 * zs.length + 1 - p) W p = wys zs fa c)
      (fun s => match s.2.2 with | .at (.int i) => 2 * zs.length + 1 - i.toNat | _ => 0) ⟨[[c]], 0, rfl, .start hc, rfl⟩ (by show 2 * zs.length + 1 - 0 < 1000; omega) ?_
    rintro s ⟨W, p, rfl, B, hit⟩
    have hWm := B.len
    have e1 : lenD (pileD' W) = some (aI (W.length : Nat)) := by
      unfold pileD'
      rw [len_l, List.length_map]
    dsimp only
    rw [e1, opF_f, yb_ok, lt_i, opF_f, yb_ok, bolR_b, yb_ok, ok_ok]
    by_cases hp : p < W.length
    · have hwp : W[p] ∈ W := List.getElem_mem hp
      have hlp : lst W[p] < 2 * zs.length := B.lt _ hwp
      rw [if_pos (decide_eq_true (by omega))]
      have e2 : ixD (pileD' W) (dI (p : Nat)) = some (.frz (dI (lst W[p] : Nat))) := ix_map (g := fun w => dI (lst w : Nat)) hp
      have e3 : ixD (stD zs fa) (dI (lst W[p] : Nat)) = some (.frz (dW (stp zs fa (lst W[p])))) := by
        unfold stD
        rw [ix_map (g := fun c => dL ((stp zs fa c).map fun b => dI (b : Nat))) (by rw [List.length_range]; exact hlp)]
        rw [List.getElem_range]
        rfl
      have e4 : addD (dI (p : Nat)) (dI 1) = some (aI ((p + 1 : Nat) : Int)) := rfl
      have e5 : seqR (dW (stp zs fa (lst W[p]))) = .ok ((stp zs fa (lst W[p])).map fun b => dI (b : Nat)) := rfl
      rw [e2, opF_f, yb_ok, e4, opF_f, yb_ok, e3, opF_f, yb_ok, e5, yb_ok]
      refine cw_cut (fun s => s = (wysD (ext W W[p] (stp zs fa (lst W[p]))), pileD' (ext W W[p] (stp zs fa (lst W[p]))))) ?_ ?_
      · refine for_map (fun rest s => ∃ W' : List (List Nat), s = (wysD W', pileD' W') ∧ ext W' W[p] rest = ext W W[p] (stp zs fa (lst W[p])) ∧ W[p] ∈ W' ∧ (W'.map lst).Nodup ∧ (∀ w ∈ W', lst w < 2 * zs.length) ∧ ∀ b ∈ rest, b < 2 * zs.length) ⟨W, rfl, rfl, hwp, B.nd, B.lt, hS _⟩ ?_ ?_
        · rintro r rest s ⟨W', rfl, h1, h2, h3, h4, h5⟩
          have hr := h5 r List.mem_cons_self
          have hW' : W'.length ≤ 2 * zs.length := by
            have := nodup_le h3 (m := 2 * zs.length) fun x hx => by
              obtain ⟨w, hw, rfl⟩ := List.mem_map.mp hx
              exact h4 w hw
            simpa using this
          dsimp only
          rw [nin_w h3, opF_f, yb_ok, bolR_b, yb_ok]
          rw [show ext W' W[p] (r :: rest) = ext (if r ∈ W'.map lst then W' else W' ++ [W[p] ++ [r]]) W[p] rest from rfl] at h1
          by_cases hin : r ∈ W'.map lst
          · rw [if_pos hin] at h1
            rw [decide_eq_true hin]
            exact ⟨W', rfl, h1, h2, h3, h4, fun b hb => h5 b (List.mem_cons_of_mem _ hb)⟩
          · rw [if_neg hin] at h1
            rw [decide_eq_false hin]
            have a1 : ixD (wysD W') (dI (lst W[p] : Nat)) = some (.frz (dW W[p])) := by
              unfold wysD
              rw [ixK_i, look_w h3 h2]
              rfl
            have hlen : W[p].length ≤ 16777000 := by
              have := B.ln p hp
              omega
            have a2 : addD (dW W[p]) (dL [dI (r : Nat)]) = some (.own (dW (W[p] ++ [r]))) := by
              unfold dW
              rw [add_l (by rw [List.length_map]; show _ ≤ 16777216; simp; omega), List.map_append]
              rfl
            have a3 : putDic (wysD W') (dI (r : Nat)) (dW (W[p] ++ [r])) = some (wysD (W' ++ [W[p] ++ [r]])) := by
              unfold wysD
              rw [putDic_K keyD_i (by rw [List.length_map]; show _ < 16777216; omega) (by
                rw [wE_keys]
                intro hm
                obtain ⟨b, hb, e⟩ := List.mem_map.mp hm
                exact hin (by rw [← Int.ofNat.inj (Sum.inl.inj e)]; exact hb))]
              rw [List.map_append (f := wE)]
              congr 3
              show _ = _ ++ [wE (W[p] ++ [r])]
              unfold wE
              rw [lst_snoc]
            have a4 : chgR appG (pileD' W') [dI (r : Nat)] = .ok (pileD' (W' ++ [W[p] ++ [r]]), dN) := by
              unfold pileD'
              rw [app_l (by rw [List.length_map]; show _ < 16777216; omega), List.map_append]
              show R.ok (_, dN) = _
              congr 3
              show _ = _ ++ [dI (lst (W[p] ++ [r]) : Nat)]
              rw [lst_snoc]
            have a5 : okR (isLst (pileD' W')) = .ok () := rfl
            show CW (bC (if true = true then _ else _) _) _
            rw [if_pos rfl, a1, opF_f, yb_ok, a2, opO_o, yb_ok, a3, optR_s, yb_ok, a5, yb_ok, a4, yb_ok]
            refine ⟨W' ++ [W[p] ++ [r]], rfl, h1, List.mem_append_left _ h2, ?_, fun w hw => ?_, fun b hb => h5 b (List.mem_cons_of_mem _ hb)⟩
            · rw [List.map_append, List.nodup_append]
              refine ⟨h3, by simp, fun a ha b hb e => hin ?_⟩
              simp at hb
              rw [e, hb] at ha
              exact ha
            · rcases List.mem_append.mp hw with hw | hw
              · exact h4 w hw
              · rw [List.mem_singleton.mp hw, lst_snoc]
                exact hr
        · rintro s ⟨W', rfl, h1, _⟩
          rw [show W' = ext W W[p] (stp zs fa (lst W[p])) from h1]
      · rintro s rfl
        refine ⟨⟨_, p + 1, rfl, B.step hS hp, ?_⟩, ?_⟩
        · rw [← hit, show 2 * zs.length + 1 - p = (2 * zs.length + 1 - (p + 1)) + 1 by omega]
          conv => rhs; unfold it
          rw [dif_pos hp]
        · show 2 * zs.length + 1 - ((p + 1 : Nat) : Int).toNat < 2 * zs.length + 1 - (p : Int).toNat
          rw [Int.toNat_natCast, Int.toNat_natCast]
          omega
    · rw [if_neg (by rw [decide_eq_false (by omega)]; decide)]
      show wysD W = _
      have : it (stp zs fa) (2 * zs.length + 1 - p) W p = W := by
        have hle := B.le
        rw [show 2 * zs.length + 1 - p = (2 * zs.length - p) + 1 by omega]
        unfold it
        rw [dif_neg hp]
      rw [← hit, this]
  · rintro s hs
    exact hs
end K02

namespace K02
open PySem PySem.Spec PyProof.Rows L2 TL
/-! ### masks, what follows -/
theorem mask_of_ok {l : List Nat} (h : ∀ c ∈ l, c ≤ 1000) : g_p_mask_of (dW l) = .ok (dI (msk l : Nat)) := by
  refine ok_eq ?_
  unfold g_p_mask_of
  have e : seqR (dW l) = .ok (l.map fun b => dI (b : Nat)) := rfl
  rw [e, yb_ok, ok_runR]
  refine cw_cut (fun s => s = dI (msk l : Nat)) ?_ ?_
  · refine for_map (fun rest s => ∃ a : Nat, s = dI (a : Nat) ∧ rest.foldl (fun a c => a ||| 2 ^ c) a = msk l ∧ ∀ c ∈ rest, c ≤ 1000) ⟨0, rfl, rfl, h⟩ ?_ ?_
    · rintro c rest s ⟨a, rfl, h1, h2⟩
      have hc := h2 c List.mem_cons_self
      rw [shl_i (by omega), opF_f, yb_ok, bor_i, opF_f, yb_ok]
      exact ⟨_, rfl, h1, fun d hd => h2 d (List.mem_cons_of_mem _ hd)⟩
    · rintro s ⟨a, rfl, h1, _⟩
      rw [show a = msk l from h1]
  · rintro s rfl
    rfl
theorem anyD_t {bs : List Bool} : anyD (dL (bs.map dB)) = some (aB (bs.any id)) := by
  have : blsD (bs.map dB) = some bs := by
    induction bs with
    | nil => rfl
    | cons b bs ih =>
      show (match dB b with | .at (.bl b) => (blsD (bs.map dB)).map (b :: ·) | _ => none) = _
      rw [ih]
      rfl
  unfold anyD
  show (blsD (bs.map dB)).map _ = _
  rw [this]
  rfl
theorem clashes_ok {m : Nat} (hm : m < 2 ^ 60) : g_p_clashes (dI (m : Nat)) = .ok (dB (clB m)) := by
  have hL := bits_le hm
  obtain ⟨L, hLe⟩ : ∃ L, L = Builtin.Int.intBits (m : Int) := ⟨_, rfl⟩
  unfold g_p_clashes
  have e1 : shrD (dI (m : Nat)) (dI 1) = some (aI ((m / 2 ^ 1 : Nat) : Int)) := shr_i m 1
  have e2 : bitsD (dI (m : Nat)) = some (aI (L : Nat)) := by rw [hLe]; rfl
  rw [e1, opF_f, yb_ok, band_i, opF_f, yb_ok, e2, opF_f, yb_ok, rng3_i (by omega), yb_ok, cap_ok (by rw [List.length_map, List.length_range]; omega), yb_ok]
  have bt : ∀ i, (m &&& m / 2 ^ 1).testBit (2 * i) = (m.testBit (2 * i) && m.testBit (2 * i + 1)) := fun i => by
    rw [Nat.testBit_and, Nat.testBit_succ]
  rw [compR_all (k := fun i => dB (m.testBit (2 * i) && m.testBit (2 * i + 1))), yb_ok]
  · have e3 : ((List.range ((L + 1) / 2)).map fun i => dB (m.testBit (2 * i) && m.testBit (2 * i + 1))) = ((List.range ((L + 1) / 2)).map fun i => m.testBit (2 * i) && m.testBit (2 * i + 1)).map dB := by
      rw [List.map_map]; rfl
    rw [e3, anyD_t, opF_f, yb_ok]
    have e4 : ((List.range ((L + 1) / 2)).map fun i => m.testBit (2 * i) && m.testBit (2 * i + 1)).any id = clB m := by
      unfold clB
      rw [Bool.eq_iff_iff, List.any_eq_true, List.any_eq_true]
      constructor
      · rintro ⟨b, hb, hb2⟩
        obtain ⟨i, hi, rfl⟩ := List.mem_map.mp hb
        have := List.mem_range.mp hi
        exact ⟨i, List.mem_range.mpr (by omega), hb2⟩
      · rintro ⟨i, hi, h⟩
        refine ⟨_, List.mem_map.mpr ⟨i, List.mem_range.mpr ?_, rfl⟩, h⟩
        obtain ⟨h1, h2⟩ := Bool.and_eq_true_iff.mp h
        have := bits_lt h2
        omega
    rw [e4]
    rfl
  · intro i hi
    rw [shr_i, opF_f, yb_ok, tb_and1, opF_f, yb_ok, eq_i, opF_f, yb_ok, bt, tb_eq]
def mask (zs : List Str) (fa : List Fact) (c : Nat) : Nat := msk ((wys zs fa c).map lst)
def mkD (zs : List Str) (fa : List Fact) : D := dL ((List.range (2 * zs.length)).map fun c => dI (mask zs fa c : Nat))
theorem wys_bi {zs : List Str} {fa : List Fact} {c : Nat} (hc : c < 2 * zs.length) : BI (stp zs fa) (2 * zs.length) c (wys zs fa c) (wys zs fa c).length := bfs_bi (fun _ => stp_lt) hc
theorem wys_lt {zs : List Str} {fa : List Fact} {c : Nat} (hc : c < 2 * zs.length) : ∀ b ∈ (wys zs fa c).map lst, b < 2 * zs.length := fun b hb => by
  obtain ⟨w, hw, rfl⟩ := List.mem_map.mp hb
  exact (wys_bi hc).lt w hw
theorem mask_lt {zs : List Str} (hz : zs.length ≤ 24) {fa : List Fact} {c : Nat} (hc : c < 2 * zs.length) : mask zs fa c < 2 ^ 48 := by
  refine msk_lt fun b hb => ?_
  have := wys_lt hc b hb
  omega
theorem ix_mk {zs : List Str} {fa : List Fact} {c : Nat} (hc : c < 2 * zs.length) : ixD (mkD zs fa) (dI (c : Nat)) = some (.frz (dI (mask zs fa c : Nat))) := by
  unfold mkD
  rw [ix_map (g := fun c => dI (mask zs fa c : Nat)) (by rw [List.length_range]; exact hc), List.getElem_range]
/-- does a fact follow -/
def fol (zs : List Str) (fa : List Fact) (f : Fact) : Bool := clB (mask zs fa (brk zs f).1 ||| mask zs fa (brk zs f).2)
theorem follows_ok {zs : List Str} (hn : zs.Nodup) (hz : zs.length ≤ 24) {fa : List Fact} {o : D} (h1 : fldD "Facts" "places" o = some (.frz (plD zs))) (h2 : fldD "Facts" "masks" o = some (.frz (mkD zs fa))) {f : Fact} (hf : FOk zs f) :
    g_p_follows o (dF f) = .ok (dB (fol zs fa f)) := by
  have hb := brk_lt hf
  unfold g_p_follows
  rw [h1, opF_f, yb_ok, breaking_ok hn hf, yb_ok, unT2_t, yb_ok, h2, opF_f, yb_ok]
  dsimp only
  rw [ix_mk hb.1, opF_f, yb_ok, yb_ok, ix_mk hb.2, opF_f, yb_ok, bor_i, opF_f, yb_ok, clashes_ok (by
    have := Nat.or_lt_two_pow (mask_lt (fa := fa) hz hb.1) (mask_lt (fa := fa) hz hb.2)
    omega), yb_ok]
  rfl
/-! candidates -/
def cand1 (zs : List Str) (one : Str) : List Fact := (zs.filter fun o => !(o == one)).map fun o => ("in", one, o)
def cand2 (zs : List Str) (k : Str) (q : Str × Nat) : List Fact := (zs.drop q.2).map fun o => (k, q.1, o)
def cands (zs : List Str) : List Fact := (zs.flatMap (cand1 zs)) ++ (zs.zipIdx.flatMap (cand2 zs "apart")) ++ zs.zipIdx.flatMap (cand2 zs "cover")
theorem ext_l {xs ys : List D} (h : xs.length + ys.length ≤ 16777216) : chgR extG (dL xs) [dL ys] = .ok (dL (xs ++ ys), dN) := by
  unfold chgR extG
  dsimp only
  rw [if_pos h]
theorem cands_ok {zs : List Str} (hz : zs.length ≤ 24) (hs : ∀ z ∈ zs, SOk z) : g_p_candidates (dP zs) = .ok (dL ((cands zs).map dF)) := by
  refine ok_eq ?_
  unfold g_p_candidates
  rw [seqR_l, yb_ok, ok_runR]
  refine cw_cut (fun s => s = dL ((zs.flatMap (cand1 zs)).map dF) ∧ (zs.flatMap (cand1 zs)).length ≤ 24 * 24) ?_ ?_
  · refine for_map (fun rest s => ∃ l : List Fact, s = dL (l.map dF) ∧ l ++ rest.flatMap (cand1 zs) = zs.flatMap (cand1 zs) ∧ l.length + 24 * rest.length ≤ 24 * 24 ∧ ∀ z ∈ rest, z ∈ zs) ⟨[], rfl, rfl, by simp; omega, fun z h => h⟩ ?_ ?_
    · rintro z rest s ⟨l, rfl, h1, h2, h3⟩
      have hzm := h3 z List.mem_cons_self
      rw [isLst_l, okR_t, yb_ok, yb_ok, cap_ok (by rw [List.length_map]; omega), yb_ok, compR_filter (p := fun o => !(o == z)) (k := fun o => dF ("in", z, o)), yb_ok]
      · have e1 : (zs.filter fun o => !(o == z)).map (fun o => dF ("in", z, o)) = (cand1 zs z).map dF := by
          unfold cand1
          rw [List.map_map]; rfl
        have hl : (cand1 zs z).length ≤ 24 := by
          unfold cand1
          rw [List.length_map]
          exact Nat.le_trans (List.length_filter_le _ _) hz
        rw [List.length_cons] at h2
        rw [e1, ext_l (by rw [List.length_map, List.length_map]; omega), yb_ok]
        refine ⟨l ++ cand1 zs z, by rw [List.map_append], ?_, ?_, fun y hy => h3 y (List.mem_cons_of_mem _ hy)⟩
        · rw [← h1, List.flatMap_cons, List.append_assoc]
        · rw [List.length_append]; omega
      · intro o ho
        rw [ne_s, opF_f, yb_ok, bolR_b, yb_ok]
    · rintro s ⟨l, rfl, h1, h2, _⟩
      rw [List.flatMap_nil, List.append_nil] at h1
      exact ⟨by rw [h1], by rw [← h1]; simpa using h2⟩
  · rintro s ⟨rfl, hl1⟩
    have e2 : seqR (dTu [dS "apart", dS "cover"]) = .ok (([("apart" : Str), ("cover" : Str)] : List Str).map dS) := rfl
    rw [e2, yb_ok]
    refine cw_cut (fun s => s = dL ((cands zs).map dF)) ?_ ?_
    · refine for_map (fun rest s => ∃ l : List Fact, s = dL (l.map dF) ∧ l ++ rest.flatMap (fun k => zs.zipIdx.flatMap (cand2 zs k)) = cands zs ∧ l.length + 24 * 24 * rest.length ≤ 24 * 24 * 3) ⟨_, rfl, by simp [cands], by rw [List.length_cons, List.length_cons, List.length_nil]; omega⟩ ?_ ?_
      · rintro k rest s ⟨l, rfl, h1, h2⟩
        rw [List.length_cons] at h2
        rw [lscR_l, yb_ok, enum_map]
        refine cw_cut (fun s => s = dL ((l ++ zs.zipIdx.flatMap (cand2 zs k)).map dF) ∧ (zs.zipIdx.flatMap (cand2 zs k)).length ≤ 24 * 24) ?_ ?_
        · refine for_map (fun rest s => ∃ l2 : List Fact, s = dL ((l ++ l2).map dF) ∧ l2 ++ rest.flatMap (cand2 zs k) = zs.zipIdx.flatMap (cand2 zs k) ∧ l2.length + 24 * rest.length ≤ 24 * 24) ⟨[], by simp, rfl, by simp; omega⟩ ?_ ?_
          · rintro ⟨z, i⟩ rest s ⟨l2, rfl, h3, h4⟩
            rw [List.length_cons] at h4
            have e3 : slD (dP zs) (some (i : Int)) none = some (.own (dP (zs.drop i))) := by
              show some (Tv.own (dL (TL.cutD (zs.map dS) (some (i : Int)) none))) = _
              rw [cutD_lo, ← List.map_drop]
            have hd : (zs.drop i).length ≤ 24 := by rw [List.length_drop]; omega
            dsimp only
            rw [unT2_t, yb_ok]
            dsimp only
            rw [isLst_l, okR_t, yb_ok, intR_i, yb_ok, e3, opA_o, yb_ok, seqR_l, yb_ok, cap_ok (by rw [List.length_map]; omega), yb_ok, compR_all (k := fun o => dF (k, z, o)), yb_ok]
            · have e1 : (zs.drop i).map (fun o => dF (k, z, o)) = (cand2 zs k (z, i)).map dF := by
                unfold cand2
                rw [List.map_map]; rfl
              have hl : (cand2 zs k (z, i)).length ≤ 24 := by
                unfold cand2
                rw [List.length_map]
                exact hd
              rw [e1, ext_l (by rw [List.length_map, List.length_map, List.length_append]; omega), yb_ok]
              refine ⟨l2 ++ cand2 zs k (z, i), by rw [← List.map_append, List.append_assoc], ?_, ?_⟩
              · rw [← h3, List.flatMap_cons, List.append_assoc]
              · rw [List.length_append]; omega
            · intro o ho
              rfl
          · rintro s ⟨l2, rfl, h3, h4⟩
            rw [List.flatMap_nil, List.append_nil] at h3
            exact ⟨by rw [h3], by rw [← h3]; simpa using h4⟩
        · rintro s ⟨rfl, h5⟩
          refine ⟨_, rfl, ?_, ?_⟩
          · rw [← h1, List.flatMap_cons, List.append_assoc]
          · rw [List.length_append]; omega
      · rintro s ⟨l, rfl, h1, _⟩
        rw [List.flatMap_nil, List.append_nil] at h1
        show _ = _
        rw [h1]
    · rintro s rfl
      rfl
theorem cands_ok2 {zs : List Str} : ∀ f ∈ cands zs, FOk zs f := by
  intro f hf
  unfold cands at hf
  have k1 : ∀ z ∈ zs, ∀ f ∈ cand1 zs z, FOk zs f := by
    intro z hz f hf
    obtain ⟨o, ho, rfl⟩ := List.mem_map.mp hf
    exact ⟨by simp [kinds], hz, (List.mem_filter.mp ho).1⟩
  have k2 : ∀ k ∈ kinds, ∀ q ∈ zs.zipIdx, ∀ f ∈ cand2 zs k q, FOk zs f := by
    intro k hk q hq f hf
    obtain ⟨o, ho, rfl⟩ := List.mem_map.mp hf
    obtain ⟨hk1, hk2⟩ := List.mem_zipIdx' hq
    exact ⟨hk, by rw [hk2]; exact List.getElem_mem _, List.mem_of_mem_drop ho⟩
  rcases List.mem_append.mp hf with hf | hf
  · rcases List.mem_append.mp hf with hf | hf
    · obtain ⟨z, hz, hf⟩ := List.mem_flatMap.mp hf
      exact k1 z hz f hf
    · obtain ⟨q, hq, hf⟩ := List.mem_flatMap.mp hf
      exact k2 _ (by simp [kinds]) q hq f hf
  · obtain ⟨q, hq, hf⟩ := List.mem_flatMap.mp hf
    exact k2 _ (by simp [kinds]) q hq f hf
end K02

namespace K02
open PySem PySem.Spec PyProof.Rows L2 TL
/-! ### facts are made -/
theorem compD_new {δ : Type} {g : δ → D} {f : D → R (Option (Key × D))} {h : δ → KE} : ∀ {items : List δ} {l : List KE}, (∀ d ∈ items, f (g d) = .ok (some (h d))) → ((l ++ items.map h).map (·.1)).Nodup → compD f (items.map g) (l.map encK) = .ok ((l ++ items.map h).map encK)
  | [], l, _, _ => by simp [compD]
  | d :: items, l, hf, hn => by
    rw [List.map_cons]
    unfold compD
    rw [hf d List.mem_cons_self]
    dsimp only
    have e : l ++ (d :: items).map h = (l ++ [h d]) ++ items.map h := by simp
    have hk : (h d).1 ∉ l.map (·.1) := by
      rw [List.map_append, List.nodup_append] at hn
      intro hm
      exact hn.2.2 _ hm _ (by rw [List.map_cons, List.map_cons]; exact List.mem_cons_self) rfl
    rw [putKD_new hk, e]
    exact compD_new (fun x hx => hf x (List.mem_cons_of_mem _ hx)) (by rw [← e]; exact hn)
def insF (ns : List Str) (xs : List D) : D := .nd (.ins "Facts" ns) xs
def fnames : List Str := ["names", "places", "said", "steps", "masks", "forced", "closed"]
def forcedL (zs : List Str) (fa : List Fact) : List Nat := (List.range (2 * zs.length)).filter fun c => (mask zs fa (cn c)).testBit c
def closedL (zs : List Str) (fa : List Fact) : List Fact := (cands zs).filter (fol zs fa)
def facD (zs : List Str) (fa : List Fact) : D := insF fnames [dP zs, plD zs, dL (fa.map dF), stD zs fa, mkD zs fa, dI (msk (forcedL zs fa) : Nat), dL ((closedL zs fa).map dF)]
/-- no region's claims lead to one another -/
def NoC (zs : List Str) (fa : List Fact) : Prop := ∀ p, p < zs.length → ¬ ((mask zs fa (2 * p)).testBit (2 * p + 1) = true ∧ (mask zs fa (2 * p + 1)).testBit (2 * p) = true)
theorem init_ok {n : Nat} {zs : List Str} {fa : List Fact} (h : NamesOk n zs) (h1 : 1 ≤ n) (h24 : n ≤ 24) (hf : ∀ f ∈ fa, FOk zs f) (hl : fa.length ≤ 1200) (hno : NoC zs fa) :
    g_m_Facts___init__ (insF [] []) (dP zs) (dL (fa.map dF)) = .ok (dN, facD zs fa) := by
  obtain ⟨hzl, hn, hnm⟩ := id h
  have hz : zs.length ≤ 24 := by omega
  have hs : ∀ z ∈ zs, SOk z := fun z hz => (hnm z hz).sok
  unfold g_m_Facts___init__
  have p1 : putI "Facts" "names" (dP zs) (insF [] []) = some (insF ["names"] [dP zs]) := rfl
  have r1 : fldD "Facts" "names" (insF ["names"] [dP zs]) = some (.frz (dP zs)) := rfl
  rw [regions_ok h h1 h24, yb_ok, p1, optR_s, yb_ok, r1, opF_f, yb_ok, lscR_l, yb_ok, enum_map, cap_ok (by rw [List.length_map, List.length_zipIdx]; omega), yb_ok]
  have c1 : compD (fun d5 => yb (unT2 d5) fun t6 => yb (keyR t6.2) fun q7 => R.ok (some (q7, t6.1))) (zs.zipIdx.map fun q => dTu [dI (q.2 : Nat), dS q.1]) [] = .ok ((plE zs).map encK) := by
    refine compD_new (l := []) (h := fun q : Str × Nat => ((.inr q.1, dI (q.2 : Nat)) : KE)) (fun q _ => rfl) ?_
    rw [List.nil_append, zip_keys]
    exact List.pairwise_map.mpr (List.Pairwise.imp (fun h e => h (Sum.inr.inj e)) hn)
  rw [c1, yb_ok]
  show runM (yb (optR (putI "Facts" "places" (plD zs) (insF ["names"] [dP zs]))) _) = _
  have p2 : putI "Facts" "places" (plD zs) (insF ["names"] [dP zs]) = some (insF ["names", "places"] [dP zs, plD zs]) := rfl
  have r2 : fldD "Facts" "places" (insF ["names", "places"] [dP zs, plD zs]) = some (.frz (plD zs)) := rfl
  rw [p2, optR_s, yb_ok, r2, opF_f, yb_ok, checked_facts_ok hn hf hl, yb_ok]
  have p3 : putI "Facts" "said" (dL (fa.map dF)) (insF ["names", "places"] [dP zs, plD zs]) = some (insF ["names", "places", "said"] [dP zs, plD zs, dL (fa.map dF)]) := rfl
  have r3 : fldD "Facts" "places" (insF ["names", "places", "said"] [dP zs, plD zs, dL (fa.map dF)]) = some (.frz (plD zs)) := rfl
  have r4 : fldD "Facts" "said" (insF ["names", "places", "said"] [dP zs, plD zs, dL (fa.map dF)]) = some (.frz (dL (fa.map dF))) := rfl
  rw [p3, optR_s, yb_ok, r3, opF_f, yb_ok, r4, opF_f, yb_ok, steps_ok hn hz hf hl, yb_ok]
  have p4 : putI "Facts" "steps" (stD zs fa) (insF ["names", "places", "said"] [dP zs, plD zs, dL (fa.map dF)]) = some (insF ["names", "places", "said", "steps"] [dP zs, plD zs, dL (fa.map dF), stD zs fa]) := rfl
  have r5 : fldD "Facts" "steps" (insF ["names", "places", "said", "steps"] [dP zs, plD zs, dL (fa.map dF), stD zs fa]) = some (.frz (stD zs fa)) := rfl
  have l5 : lenD (stD zs fa) = some (aI ((2 * zs.length : Nat) : Int)) := by
    unfold stD
    rw [len_l, List.length_map, List.length_range]
  rw [p4, optR_s, yb_ok, r5, opF_f, yb_ok, l5, opF_f, yb_ok, rng1 (by omega), yb_ok, cap_ok (by rw [List.length_map, List.length_range]; omega), yb_ok, compR_all (k := fun c => dI (mask zs fa c : Nat)), yb_ok]
  · show runM (yb (optR (putI "Facts" "masks" (mkD zs fa) (insF ["names", "places", "said", "steps"] [dP zs, plD zs, dL (fa.map dF), stD zs fa]))) _) = _
    have p5 : putI "Facts" "masks" (mkD zs fa) (insF ["names", "places", "said", "steps"] [dP zs, plD zs, dL (fa.map dF), stD zs fa]) = some (insF ["names", "places", "said", "steps", "masks"] [dP zs, plD zs, dL (fa.map dF), stD zs fa, mkD zs fa]) := rfl
    have r6 : fldD "Facts" "masks" (insF ["names", "places", "said", "steps", "masks"] [dP zs, plD zs, dL (fa.map dF), stD zs fa, mkD zs fa]) = some (.frz (mkD zs fa)) := rfl
    have l6 : lenD (mkD zs fa) = some (aI ((2 * zs.length : Nat) : Int)) := by
      unfold mkD
      rw [len_l, List.length_map, List.length_range]
    have hcut : (2 * zs.length + 1) / 2 = zs.length := by omega
    rw [p5, optR_s, yb_ok, r6, opF_f, yb_ok, l6, opF_f, yb_ok, rng3_i (by omega), yb_ok, hcut, for_unit, bC_nx, yb_ok, l6, opF_f, yb_ok, rng1 (by omega), yb_ok, cap_ok (by rw [List.length_map, List.length_range]; omega), yb_ok,
      compR_filter (p := fun c => (mask zs fa (cn c)).testBit c) (k := fun c => dI (c : Nat)), yb_ok]
    · show runM (yb (g_p_mask_of (dW (forcedL zs fa))) _) = _
      have p7 : putI "Facts" "forced" (dI (msk (forcedL zs fa) : Nat)) (insF ["names", "places", "said", "steps", "masks"] [dP zs, plD zs, dL (fa.map dF), stD zs fa, mkD zs fa]) = some (insF ["names", "places", "said", "steps", "masks", "forced"] [dP zs, plD zs, dL (fa.map dF), stD zs fa, mkD zs fa, dI (msk (forcedL zs fa) : Nat)]) := rfl
      have r7 : fldD "Facts" "names" (insF ["names", "places", "said", "steps", "masks", "forced"] [dP zs, plD zs, dL (fa.map dF), stD zs fa, mkD zs fa, dI (msk (forcedL zs fa) : Nat)]) = some (.frz (dP zs)) := rfl
      have hc : (cands zs).length ≤ 24 * 24 * 3 := by
        have k1 : ∀ (l : List Str), (l.flatMap (cand1 zs)).length ≤ 24 * l.length := by
          intro l
          induction l with
          | nil => exact Nat.le_refl _
          | cons z l ih =>
            have : (cand1 zs z).length ≤ 24 := by
              unfold cand1
              rw [List.length_map]
              exact Nat.le_trans (List.length_filter_le _ _) hz
            rw [List.flatMap_cons, List.length_append, List.length_cons]
            omega
        have k2 : ∀ (k : Str) (l : List (Str × Nat)), (l.flatMap (cand2 zs k)).length ≤ 24 * l.length := by
          intro k l
          induction l with
          | nil => exact Nat.le_refl _
          | cons z l ih =>
            have : (cand2 zs k z).length ≤ 24 := by
              unfold cand2
              rw [List.length_map, List.length_drop]
              omega
            rw [List.flatMap_cons, List.length_append, List.length_cons]
            omega
        have a := k1 zs
        have b := k2 "apart" zs.zipIdx
        have c := k2 "cover" zs.zipIdx
        rw [List.length_zipIdx] at b c
        unfold cands
        rw [List.length_append, List.length_append]
        omega
      rw [mask_of_ok (fun c hc => by have := List.mem_range.mp (List.mem_filter.mp hc).1; omega), yb_ok, p7, optR_s, yb_ok, r7, opF_f, yb_ok, cands_ok hz hs, yb_ok, lstR_l, yb_ok, cap_ok (by rw [List.length_map]; omega), yb_ok, compR_filter (p := fol zs fa) (k := dF), yb_ok]
      · have p8 : putI "Facts" "closed" (dL ((closedL zs fa).map dF)) (insF ["names", "places", "said", "steps", "masks", "forced"] [dP zs, plD zs, dL (fa.map dF), stD zs fa, mkD zs fa, dI (msk (forcedL zs fa) : Nat)]) = some (facD zs fa) := rfl
        show runM (yb (optR (putI "Facts" "closed" (dL ((closedL zs fa).map dF)) _)) _) = _
        rw [p8, optR_s, yb_ok]
        rfl
      · intro f hfc
        rw [follows_ok (fa := fa) hn hz rfl rfl (cands_ok2 f hfc), yb_ok, tru_b, yb_ok]
    · intro c hc
      have hc := List.mem_range.mp hc
      rw [yb_ok, xor_i, opF_f, yb_ok, ix_mk (cn_lt hc), opF_f, yb_ok, shr_i, opF_f, yb_ok, tb_and1, opF_f, yb_ok, eq_i, opF_f, yb_ok, tb_eq, bolR_b, yb_ok]
    · intro p hp
      have hp := List.mem_range.mp hp
      have h2 : 2 * p < 2 * zs.length := by omega
      have h3 : 2 * p + 1 < 2 * zs.length := by omega
      have e1 : addD (dI ((2 * p : Nat) : Int)) (dI 1) = some (aI ((2 * p + 1 : Nat) : Int)) := rfl
      rw [yb_ok, ix_mk h2, opF_f, yb_ok, e1, opF_f, yb_ok, shr_i, opF_f, yb_ok, tb_and1, opF_f, yb_ok, eq_i, opF_f, yb_ok, tb_eq, bolR_b, yb_ok, yb_ok, yb_ok, ix_mk h3, opF_f, yb_ok, shr_i, opF_f, yb_ok, tb_and1, opF_f, yb_ok, eq_i, opF_f, yb_ok, tb_eq, bolR_b, yb_ok]
      have := hno p hp
      cases hb : (mask zs fa (2 * p)).testBit (2 * p + 1) with
      | false => rfl
      | true =>
        cases hb2 : (mask zs fa (2 * p + 1)).testBit (2 * p) with
        | false => rfl
        | true => exact absurd ⟨hb, hb2⟩ this
  · intro c hc
    have hc := List.mem_range.mp hc
    have e1 : listA (wysD (wys zs fa c)) = some (.own (dW ((wys zs fa c).map lst))) := by
      show some (Tv.own (dL (keysOf (((wys zs fa c).map wE).map encK)))) = _
      rw [keysOf_K, List.map_map]
      unfold dW
      rw [List.map_map]
      rfl
    rw [yb_ok, reached_ok hz hc, yb_ok, e1, opO_o, yb_ok, mask_of_ok (fun b hb => by have := wys_lt hc b hb; omega), yb_ok]
    rfl
end K02

namespace K02
open PySem PySem.Spec PyProof.Rows L2 TL
/-! ### data that is shown -/
structure Tx (w : Nat) (d : D) : Prop where
  s : PyData.showable d.py = true
  l : PyData.leavesShort 30 d.py = true
  w : PyData.weight d.py ≤ w
theorem Tx.up {w v : Nat} {d : D} (h : Tx w d) (hv : w ≤ v) : Tx v d := ⟨h.s, h.l, Nat.le_trans h.w hv⟩
theorem tx_all {w : Nat} : ∀ {xs : List D}, (∀ x ∈ xs, Tx w x) → PyData.showableAll (pys xs) = true ∧ PyData.leavesShortAll 30 (pys xs) = true ∧ PyData.weightAll (pys xs) ≤ xs.length * (w + 1)
  | [], _ => ⟨by unfold pys PyData.showableAll; rfl, by unfold pys PyData.leavesShortAll; rfl, by unfold pys PyData.weightAll; exact Nat.zero_le _⟩
  | x :: xs, h => by
    obtain ⟨h1, h2, h3⟩ := tx_all (xs := xs) fun y hy => h y (List.mem_cons_of_mem _ hy)
    obtain ⟨k1, k2, k3⟩ := h x (List.mem_cons_self ..)
    refine ⟨?_, ?_, ?_⟩
    · unfold pys PyData.showableAll
      rw [k1, h1]
      rfl
    · unfold pys PyData.leavesShortAll
      rw [k2, h2]
      rfl
    · unfold pys PyData.weightAll
      rw [List.length_cons, Nat.add_mul]
      omega
theorem tx_l {w : Nat} {xs : List D} (h : ∀ x ∈ xs, Tx w x) : Tx (xs.length * (w + 1)) (dL xs) := by
  obtain ⟨h1, h2, h3⟩ := tx_all h
  refine ⟨?_, ?_, ?_⟩
  · unfold D.py PyData.showable
    exact h1
  · unfold D.py PyData.leavesShort
    exact h2
  · unfold D.py PyData.weight
    exact h3
theorem tx_t {w : Nat} {xs : List D} (h : ∀ x ∈ xs, Tx w x) : Tx (xs.length * (w + 1)) (dTu xs) := by
  obtain ⟨h1, h2, h3⟩ := tx_all h
  refine ⟨?_, ?_, ?_⟩
  · unfold D.py PyData.showable
    exact h1
  · unfold D.py PyData.leavesShort
    exact h2
  · unfold D.py PyData.weight
    exact h3
theorem tx_s {x : Str} (h : ∀ c ∈ x.cps.toList, c < 16 ^ 8) : Tx x.length (dS x) := ⟨by unfold D.py PyData.showable; rfl, by unfold D.py PyData.leavesShort; exact List.all_eq_true.mpr fun c hc => decide_eq_true (h c hc), by unfold D.py PyData.weight; exact Nat.le_refl _⟩
theorem tx_i {i : Int} (h1 : -(10 ^ 21) ≤ i) (h2 : i ≤ 10 ^ 21) : Tx 100 (dI i) := by
  have hn : i.natAbs < 10 ^ 22 := by omega
  have hl : i.natAbs.log2 < 80 := by
    by_cases h0 : i.natAbs = 0
    · rw [h0]
      decide
    · exact (Nat.log2_lt h0).mpr (by omega)
  refine ⟨?_, ?_, ?_⟩
  · unfold D.py PyData.showable
    exact decide_eq_true (by omega)
  · unfold D.py PyData.leavesShort
    refine decide_eq_true ?_
    have e : PyData.shown (.int i) = Str.ofString (toString i) := by unfold PyData.shown; rfl
    rw [e, PySem.ofString_length]
    have := int_text_length_le10 (k := 22) (by decide) hn
    omega
  · unfold D.py PyData.weight
    split
    · exact Nat.zero_le _
    · omega
theorem tx_b {b : Bool} : Tx 0 (dB b) := ⟨by unfold D.py PyData.showable; rfl, by unfold D.py PyData.leavesShort; rfl, by unfold D.py PyData.weight; exact Nat.le_refl _⟩
theorem tx_n : Tx 0 dN := ⟨by unfold D.py PyData.showable; rfl, by unfold D.py PyData.leavesShort; rfl, by unfold D.py PyData.weight; exact Nat.le_refl _⟩
theorem str_ok {n w : Nat} {xs : List D} (h : Sh n (dL xs)) (hn : n ≤ 60) (ht : Tx w (dL xs)) (hw : w ≤ 520000) : ∃ z, strD (dL xs) = some (aS z) := by
  have hl : (dL xs).py.shown.length ≤ lineN := by
    have h1 := PyData.shown_le 30 (by decide) _ ht.l
    have h2 := ht.w
    show _ ≤ 16777216
    omega
  exact ⟨_, ifS_pos ⟨h.ok (by omega), ht.s, Nat.le_trans h.2 hn, hl⟩⟩
end K02

namespace K02
open PySem PySem.Spec PyProof.Rows L2 TL
/-! ### claims, ways told -/
def nm (zs : List Str) (c : Nat) : Str := zs.getD (c / 2) ""
def od (c : Nat) : Bool := c % 2 == 1
def clD (zs : List Str) (c : Nat) : D := dTu [dS (nm zs c), dB (od c)]
theorem nm_get {zs : List Str} {c : Nat} (h : c < 2 * zs.length) : nm zs c = zs[c / 2]'(by omega) := by
  unfold nm
  rw [List.getD_eq_getElem?_getD, List.getElem?_eq_getElem (by omega)]
  rfl
theorem nm_mem {zs : List Str} {c : Nat} (h : c < 2 * zs.length) : nm zs c ∈ zs := by
  rw [nm_get h]
  exact List.getElem_mem _
theorem od_cn (c : Nat) : od (cn c) = !od c := by
  unfold od cn
  rcases Nat.mod_two_eq_zero_or_one c with h | h
  · rw [if_pos h, h, show (c + 1) % 2 = 1 by omega]
    rfl
  · rw [if_neg (by omega), h, show (c - 1) % 2 = 0 by omega]
    rfl
theorem nm_cn (zs : List Str) (c : Nat) : nm zs (cn c) = nm zs c := by
  unfold nm cn
  split
  · rw [show (c + 1) / 2 = c / 2 by omega]
  · rw [show (c - 1) / 2 = c / 2 by omega]
theorem ixOf_at' {zs : List Str} (hn : zs.Nodup) {i : Nat} (h : i < zs.length) : ixOf zs[i] zs = i := by
  obtain ⟨h1, h2⟩ := ixOf_get (List.getElem_mem h)
  exact (List.getElem_inj hn).mp h2
theorem ixOf_nm {zs : List Str} (hn : zs.Nodup) {c : Nat} (h : c < 2 * zs.length) : ixOf (nm zs c) zs = c / 2 := by
  rw [nm_get h, ixOf_at' hn]
theorem cl_eq {zs : List Str} (hn : zs.Nodup) {a b : Nat} (ha : a < 2 * zs.length) (hb : b < 2 * zs.length) : (nm zs a = nm zs b ∧ od a = od b) ↔ a = b := by
  constructor
  · rintro ⟨h1, h2⟩
    have e : a / 2 = b / 2 := by rw [← ixOf_nm hn ha, ← ixOf_nm hn hb, h1]
    unfold od at h2
    have : a % 2 = b % 2 := by
      rcases Nat.mod_two_eq_zero_or_one a with x | x <;> rcases Nat.mod_two_eq_zero_or_one b with y | y <;> rw [x, y] at h2 <;> first | omega | cases h2
    omega
  · rintro rfl
    exact ⟨rfl, rfl⟩
theorem half (c : Nat) : fdivD (dI (c : Nat)) (dI 2) = some (aI ((c / 2 : Nat) : Int)) := by
  rw [fdiv_i (by decide), fd_nat (a := c) (b := 2) (c := 2) rfl]
theorem modt (c : Nat) : modD (dI (c : Nat)) (dI 2) = some (aI ((c % 2 : Nat) : Int)) := by
  rw [mod_i (by decide), fm_nat (a := c) (b := 2) (c := 2) rfl (by decide)]
theorem od_eq (c : Nat) : (((c % 2 : Nat) : Int) == 1) = od c := by
  unfold od
  rw [Bool.eq_iff_iff, beq_iff_eq, beq_iff_eq]
  omega
theorem ix_nm {zs : List Str} {c : Nat} (h : c < 2 * zs.length) : ixD (dP zs) (dI ((c / 2 : Nat) : Int)) = some (.frz (dS (nm zs c))) := by
  rw [ix_map (g := dS) (by omega), nm_get h]
def wD (zs : List Str) (w : List Nat) : D := dL (w.map (clD zs))
theorem told_ok {zs : List Str} {w : List Nat} (h : ∀ c ∈ w, c < 2 * zs.length) (hl : w.length ≤ 1000) : g_p_told_claims (dP zs) (dW w) = .ok (wD zs w) := by
  unfold g_p_told_claims
  have e : seqR (dW w) = .ok (w.map fun b => dI (b : Nat)) := rfl
  rw [e, yb_ok, cap_ok (by rw [List.length_map]; omega), yb_ok, compR_all (k := clD zs), yb_ok]
  · rfl
  · intro c hc
    rw [half, opF_f, yb_ok, ix_nm (h c hc), opF_f, yb_ok, modt, opF_f, yb_ok, eq_i, opF_f, yb_ok, od_eq]
    rfl
theorem is_claim_ok {zs : List Str} (hn : zs.Nodup) {o : D} (h1 : fldD "Facts" "places" o = some (.frz (plD zs))) {c : Nat} (hc : c < 2 * zs.length) : g_p_is_claim o (clD zs c) = .ok (dB true) := by
  unfold g_p_is_claim
  have e : isiR (itB .tup) (clD zs c) = .ok (dB true) := rfl
  have e2 : lenD (clD zs c) = some (aI 2) := rfl
  have e3 : ixD (clD zs c) (dI 0) = some (.frz (dS (nm zs c))) := rfl
  have e4 : ixD (clD zs c) (dI 1) = some (.frz (dB (od c))) := rfl
  have e5 : isiR (itB .bl) (dB (od c)) = .ok (dB true) := rfl
  rw [e, yb_ok, tru_b, yb_ok, e2, opF_f, yb_ok, ne_i, opF_f, yb_ok, bolR_b, yb_ok]
  show runR (β := Unit) (yb (R.ok false) _) = _
  rw [yb_ok, if_neg (by decide), h1, opF_f, yb_ok, e3, opF_f, yb_ok, is_region_ok hn, yb_ok, decide_eq_true (nm_mem hc), tru_b, yb_ok, if_pos rfl, e4, opF_f, yb_ok, e5, yb_ok]
  rfl
theorem claim_number_ok {zs : List Str} (hn : zs.Nodup) {o : D} (h1 : fldD "Facts" "places" o = some (.frz (plD zs))) {c : Nat} (hc : c < 2 * zs.length) : g_p_claim_number o (clD zs c) = .ok (dI (c : Nat)) := by
  unfold g_p_claim_number
  have e3 : ixD (clD zs c) (dI 0) = some (.frz (dS (nm zs c))) := rfl
  have e4 : ixD (clD zs c) (dI 1) = some (.frz (dB (od c))) := rfl
  rw [h1, opF_f, yb_ok, e3, opF_f, yb_ok, ix_pl hn (nm_mem hc), opF_f, yb_ok, two_mul, opA_f, yb_ok, e4, opF_f, yb_ok, int_b, opF_f, yb_ok, ixOf_nm hn hc, add_i, opF_f, yb_ok]
  have : ((2 * (c / 2) : Nat) : Int) + (if od c = true then 1 else 0) = (c : Int) := by
    unfold od
    rcases Nat.mod_two_eq_zero_or_one c with h | h
    · rw [h, if_neg (by decide)]
      omega
    · rw [h, if_pos (by decide)]
      omega
  rw [this]
  rfl
/-- the way from c to d, if there is one -/
def wayL (zs : List Str) (fa : List Fact) (c d : Nat) : Option (List Nat) := (wys zs fa c).find? fun w => lst w == d
theorem way_look {zs : List Str} {fa : List Fact} {c d : Nat} (hc : c < 2 * zs.length) : lookA (.inl (d : Nat)) ((wys zs fa c).map wE) = (wayL zs fa c d).map dW := by
  have B := wys_bi (fa := fa) hc
  unfold wayL
  cases e : (wys zs fa c).find? fun w => lst w == d with
  | none =>
    refine look_w0 fun hm => ?_
    obtain ⟨w, hw, e2⟩ := List.mem_map.mp hm
    have := List.find?_eq_none.mp e w hw
    exact this (by rw [e2]; exact beq_self_eq_true d)
  | some w =>
    have h1 := List.find?_some e
    have h2 := List.mem_of_find?_eq_some e
    rw [← eq_of_beq h1, look_w B.nd h2]
    rfl
theorem wk_lt {zs : List Str} {fa : List Fact} {c : Nat} (hc : c < 2 * zs.length) {w : List Nat} (h : Wk (stp zs fa) c w) : ∀ b ∈ w, b < 2 * zs.length := by
  induction h with
  | one => intro b hb; rw [List.mem_singleton.mp hb]; exact hc
  | snoc h hb ih =>
    intro b hb2
    rcases List.mem_append.mp hb2 with z | z
    · exact ih b z
    · rw [List.mem_singleton.mp z]; exact stp_lt _ hb
theorem wys_len {zs : List Str} {fa : List Fact} {c : Nat} (hc : c < 2 * zs.length) {w : List Nat} (h : w ∈ wys zs fa c) : w.length ≤ 2 * zs.length := by
  have B := wys_bi (fa := fa) hc
  obtain ⟨i, hi, rfl⟩ := List.mem_iff_getElem.mp h
  have := B.ln i hi
  have := B.len
  omega
theorem way_ok {zs : List Str} (hn : zs.Nodup) (hz : zs.length ≤ 24) {fa : List Fact} {o : D} (h1 : fldD "Facts" "places" o = some (.frz (plD zs))) (h2 : fldD "Facts" "steps" o = some (.frz (stD zs fa))) (h3 : fldD "Facts" "names" o = some (.frz (dP zs))) {c d : Nat} (hc : c < 2 * zs.length) (hd : d < 2 * zs.length) :
    g_m_Facts_way o (clD zs c) (clD zs d) = .ok (((wayL zs fa c d).map (wD zs)).getD dN) := by
  unfold g_m_Facts_way
  have e0 : enumD 0 [clD zs c, clD zs d] = [dTu [dI 0, clD zs c], dTu [dI 1, clD zs d]] := rfl
  have e1 : isDic (wysD (wys zs fa c)) = true := rfl
  rw [lstR_l, yb_ok, e0]
  have e2 : ∀ (i : Int) (c : Nat), c < 2 * zs.length → (fun d3 (s2 : Unit) => yb (unT2 d3) fun t4 => yb (g_p_is_claim o t4.2) fun a6 => yb (truR a6) fun b5 => if (!b5) = true then (C.bad : C Unit Unit D) else C.nx ()) (dTu [dI i, clD zs c]) () = C.nx () := by
    intro i c hc
    dsimp only
    rw [unT2_t, yb_ok]
    dsimp only
    rw [is_claim_ok hn h1 hc, yb_ok, tru_b, yb_ok]
    rfl
  have e3 : forC (β := Unit) [dTu [dI 0, clD zs c], dTu [dI 1, clD zs d]] () (fun d3 (s2 : Unit) => yb (unT2 d3) fun t4 => yb (g_p_is_claim o t4.2) fun a6 => yb (truR a6) fun b5 => if (!b5) = true then (C.bad : C Unit Unit D) else C.nx ()) = C.nx () := by
    unfold forC
    rw [e2 0 c hc]
    dsimp only
    unfold forC
    rw [e2 1 d hd]
    rfl
  rw [e3, bC_nx, h2, opF_f, yb_ok, claim_number_ok hn h1 hc, yb_ok, reached_ok hz hc, yb_ok, e1, okR_t, yb_ok, claim_number_ok hn h1 hd, yb_ok]
  have e4 : TL.getD (wysD (wys zs fa c)) (dI (d : Nat)) = some (.frz (((wayL zs fa c d).map dW).getD dN)) := by
    unfold wysD
    rw [getD_K keyD_i, way_look hc]
  rw [e4, opF_f, yb_ok]
  cases e5 : wayL zs fa c d with
  | none => rfl
  | some w =>
    have hw : w ∈ wys zs fa c := List.mem_of_find?_eq_some e5
    have e6 : isT (dW w) dN = some (aB false) := rfl
    show runR (β := Unit) (yb (opF (isT (dW w) dN)) _) = _
    rw [e6, opF_f, yb_ok, bolR_b, yb_ok, if_neg (by decide), h3, opF_f, yb_ok]
    show runR (β := Unit) (yb (g_p_told_claims (dP zs) (dW w)) _) = _
    rw [told_ok (wk_lt hc ((wys_bi hc).wk w hw)) (by have := wys_len hc hw; omega), yb_ok]
    rfl
end K02

namespace K02
open PySem PySem.Spec PyProof.Rows L2 TL
/-! ### what is true of a patch; ways and contraries -/
/-- a claim is true of a patch -/
def tru (zs p : List Str) (c : Nat) : Prop := decide (nm zs c ∈ p) = od c
theorem tru_cn {zs p : List Str} {c : Nat} : tru zs p (cn c) ↔ ¬ tru zs p c := by
  unfold tru
  rw [nm_cn, od_cn]
  cases decide (nm zs c ∈ p) <;> cases od c <;> simp
theorem nm_two {zs : List Str} {x : Str} (h : x ∈ zs) {s : Nat} (hs : s < 2) : nm zs (2 * ixOf x zs + s) = x := by
  obtain ⟨h1, h2⟩ := ixOf_get h
  rw [nm_get (by omega)]
  simp only [show (2 * ixOf x zs + s) / 2 = ixOf x zs by omega]
  exact h2
theorem od_two (i s : Nat) (hs : s < 2) : od (2 * i + s) = (s == 1) := by
  unfold od
  rw [show (2 * i + s) % 2 = s by omega]
theorem keeps_brk {zs p : List Str} {f : Fact} (h : FOk zs f) : keepsB p f = true ↔ ¬ (tru zs p (brk zs f).1 ∧ tru zs p (brk zs f).2) := by
  obtain ⟨h1, h2, h3⟩ := h
  obtain ⟨k, x, y⟩ := f
  have s := sg_lt k
  unfold tru brk
  dsimp only at *
  rw [nm_two h2 s.1, nm_two h3 s.2, od_two _ _ s.1, od_two _ _ s.2]
  simp only [kinds, List.mem_cons, List.mem_nil_iff, or_false] at h1
  rcases h1 with rfl | rfl | rfl
  · have e : sg "in" = (1, 0) := rfl
    have e2 : keepsB p ("in", x, y) = (!decide (x ∈ p) || decide (y ∈ p)) := rfl
    rw [e, e2]
    cases decide (x ∈ p) <;> cases decide (y ∈ p) <;> decide
  · have e : sg "apart" = (1, 1) := rfl
    have e2 : keepsB p ("apart", x, y) = (!decide (x ∈ p) || !decide (y ∈ p)) := rfl
    rw [e, e2]
    cases decide (x ∈ p) <;> cases decide (y ∈ p) <;> decide
  · have e : sg "cover" = (0, 0) := rfl
    have e2 : keepsB p ("cover", x, y) = (decide (x ∈ p) || decide (y ∈ p)) := rfl
    rw [e, e2]
    cases decide (x ∈ p) <;> cases decide (y ∈ p) <;> decide
theorem stp_tru {zs p : List Str} {fa : List Fact} (h : ∀ f ∈ fa, FOk zs f) (hp : fa.all (keepsB p) = true) : ∀ a, ∀ b ∈ stp zs fa a, tru zs p a → tru zs p b := by
  intro a b hb ha
  obtain ⟨f, hf, e⟩ := edges_mem.mp ((stp_mem h).mp hb)
  have k := (keeps_brk (h f hf)).mp (List.all_eq_true.mp hp f hf)
  rcases e with e | e
  · obtain ⟨rfl, rfl⟩ := Prod.mk.inj e
    exact tru_cn.mpr fun z => k ⟨ha, z⟩
  · obtain ⟨rfl, rfl⟩ := Prod.mk.inj e
    exact tru_cn.mpr fun z => k ⟨z, ha⟩
theorem mask_bit {zs : List Str} {fa : List Fact} {c d : Nat} (h : (mask zs fa c).testBit d = true) : ∃ w ∈ wys zs fa c, lst w = d := by
  unfold mask at h
  rw [msk_bit, decide_eq_true_eq] at h
  obtain ⟨w, hw, e⟩ := List.mem_map.mp h
  exact ⟨w, hw, e⟩
theorem mask_tru {zs p : List Str} {fa : List Fact} (h : ∀ f ∈ fa, FOk zs f) (hp : fa.all (keepsB p) = true) {c d : Nat} (hc : c < 2 * zs.length) (hb : (mask zs fa c).testBit d = true) (ht : tru zs p c) : tru zs p d := by
  obtain ⟨w, hw, rfl⟩ := mask_bit hb
  exact ((wys_bi hc).wk w hw).truth (stp_tru h hp) ht
theorem noC {zs p : List Str} {fa : List Fact} (h : ∀ f ∈ fa, FOk zs f) (hp : fa.all (keepsB p) = true) : NoC zs fa := by
  rintro i hi ⟨h1, h2⟩
  have e : cn (2 * i) = 2 * i + 1 := by
    unfold cn
    rw [if_pos (by omega)]
  by_cases ht : tru zs p (2 * i)
  · have := mask_tru h hp (by omega) h1 ht
    rw [← e] at this
    exact tru_cn.mp this ht
  · have h3 : tru zs p (2 * i + 1) := by
      rw [← e]
      exact tru_cn.mpr ht
    exact ht (mask_tru h hp (by omega) h2 h3)
theorem stp_cn {zs : List Str} {fa : List Fact} (h : ∀ f ∈ fa, FOk zs f) : ∀ a b, b ∈ stp zs fa a → cn a ∈ stp zs fa (cn b) := fun a b hb => (stp_mem h).mpr (edge_cn ((stp_mem h).mp hb))
theorem wayL_some {zs : List Str} {fa : List Fact} {c d : Nat} {w : List Nat} (h : wayL zs fa c d = some w) : w ∈ wys zs fa c ∧ lst w = d := by
  unfold wayL at h
  have := List.find?_some h
  exact ⟨List.mem_of_find?_eq_some h, eq_of_beq this⟩
theorem wayL_min {zs : List Str} {fa : List Fact} {c d : Nat} (hc : c < 2 * zs.length) {u : List Nat} (h : Wk (stp zs fa) c u) (he : lst u = d) : ∃ w, wayL zs fa c d = some w ∧ w.length ≤ u.length := by
  obtain ⟨w, hw, e1, e2⟩ := bfs_min (fun _ => stp_lt) hc h
  unfold wayL
  cases e : (wys zs fa c).find? fun w => lst w == d with
  | none => exact absurd (by rw [e1, he]; exact beq_self_eq_true d) (List.find?_eq_none.mp e w hw)
  | some w' =>
    obtain ⟨h1, h2⟩ := wayL_some (zs := zs) (fa := fa) e
    have : w' = w := bfs_uniq (fun _ => stp_lt) hc h1 hw (by rw [h2, e1, he])
    exact ⟨w', rfl, by rw [this]; exact e2⟩
theorem way_back {zs : List Str} {fa : List Fact} (h : ∀ f ∈ fa, FOk zs f) {c d : Nat} (hc : c < 2 * zs.length) (hd : d < 2 * zs.length) {w : List Nat} (hw : wayL zs fa c d = some w) : ∃ w', wayL zs fa (cn d) (cn c) = some w' ∧ w'.length ≤ w.length := by
  obtain ⟨h1, h2⟩ := wayL_some hw
  obtain ⟨u, k1, k2, k3⟩ := ((wys_bi hc).wk w h1).back (stp_cn h)
  rw [h2] at k1
  obtain ⟨w', e1, e2⟩ := wayL_min (cn_lt hd) k1 k2
  exact ⟨w', e1, by omega⟩
theorem way_back2 {zs : List Str} {fa : List Fact} (h : ∀ f ∈ fa, FOk zs f) {c d : Nat} (hc : c < 2 * zs.length) (hd : d < 2 * zs.length) : (wayL zs fa c d = none → wayL zs fa (cn d) (cn c) = none) ∧ ∀ w, wayL zs fa c d = some w → ∃ w', wayL zs fa (cn d) (cn c) = some w' ∧ w'.length = w.length := by
  constructor
  · intro e
    cases e2 : wayL zs fa (cn d) (cn c) with
    | none => rfl
    | some w' =>
      obtain ⟨w, k, _⟩ := way_back h (cn_lt hd) (cn_lt hc) e2
      rw [cn_cn, cn_cn, e] at k
      cases k
  · intro w e
    obtain ⟨w', k1, k2⟩ := way_back h hc hd e
    obtain ⟨w2, k3, k4⟩ := way_back h (cn_lt hd) (cn_lt hc) k1
    rw [cn_cn, cn_cn, e] at k3
    cases k3
    exact ⟨w', k1, by omega⟩
/-! claims in lists -/
theorem eqv_cl {zs : List Str} (hn : zs.Nodup) {a b : Nat} (ha : a < 2 * zs.length) (hb : b < 2 * zs.length) : PyData.eqv (clD zs a).py (clD zs b).py = decide (a = b) := by
  have e : PyData.eqv (clD zs a).py (clD zs b).py = ((nm zs a == nm zs b) && (od a == od b)) := by
    show (PyData.eqv (dS (nm zs a)).py (dS (nm zs b)).py && (PyData.eqv (dB (od a)).py (dB (od b)).py && true)) = _
    rw [eqv_s, Bool.and_true]
    congr 1
  rw [e, Bool.eq_iff_iff, Bool.and_eq_true, beq_iff_eq, beq_iff_eq, decide_eq_true_eq]
  exact cl_eq hn ha hb
theorem sh_cl {zs : List Str} (hs : ∀ z ∈ zs, SOk z) {c : Nat} (hc : c < 2 * zs.length) : Sh 1 (clD zs c) := sh_t fun d hd => by
  simp only [List.mem_cons, List.mem_nil_iff, or_false] at hd
  rcases hd with rfl | rfl
  · exact sh_s (hs _ (nm_mem hc))
  · exact sh_b
theorem sh_w {zs : List Str} (hs : ∀ z ∈ zs, SOk z) {w : List Nat} (hw : ∀ c ∈ w, c < 2 * zs.length) : Sh 2 (wD zs w) := sh_map fun c hc => sh_cl hs (hw c hc)
theorem in_cl {zs : List Str} (hn : zs.Nodup) (hs : ∀ z ∈ zs, SOk z) {c : Nat} (hc : c < 2 * zs.length) {l : List Nat} (hl : ∀ a ∈ l, a < 2 * zs.length) : inB (clD zs c) (dL (l.map (clD zs))) = some (decide (c ∈ l)) := by
  have e : inB (clD zs c) (dL (l.map (clD zs))) = ifS (SeqAt.shaped (dL (l.map (clD zs))).py = true ∧ SeqAt.shaped (clD zs c).py = true) ((pys (l.map (clD zs))).any fun z => PyData.eqv z (clD zs c).py) := rfl
  rw [e, ifS_pos ⟨(sh_w hs hl).ok (by decide), (sh_cl hs hc).ok (by decide)⟩]
  congr 1
  clear e
  induction l with
  | nil => rfl
  | cons a l ih =>
    show (PyData.eqv (clD zs a).py (clD zs c).py || (pys (l.map (clD zs))).any fun z => PyData.eqv z (clD zs c).py) = _
    rw [eqv_cl hn (hl a List.mem_cons_self) hc, ih fun b hb => hl b (List.mem_cons_of_mem _ hb), Bool.eq_iff_iff, Bool.or_eq_true, decide_eq_true_eq, decide_eq_true_eq, decide_eq_true_eq, List.mem_cons]
    exact ⟨fun h => h.imp Eq.symm id, fun h => h.imp Eq.symm id⟩
theorem nin_cl {zs : List Str} (hn : zs.Nodup) (hs : ∀ z ∈ zs, SOk z) {c : Nat} (hc : c < 2 * zs.length) {l : List Nat} (hl : ∀ a ∈ l, a < 2 * zs.length) : ninT (clD zs c) (dL (l.map (clD zs))) = some (aB (!decide (c ∈ l))) := by
  unfold ninT
  rw [in_cl hn hs hc hl]
  rfl
end K02

namespace K02
open PySem PySem.Spec PyProof.Rows L2 TL
/-! ### the law's own ways -/
abbrev Cl := Str × Bool
def dC (q : Cl) : D := dTu [dS q.1, dB q.2]
def turn (n : Str) (q : Str × Str) (b : Bool) : List Cl := if q.1 == n then [(q.2, b)] else []
def lsF (n : Str) (o : Bool) (f : Fact) : List Cl :=
  (if (f.1 == "in" && (o && f.2.1 == n)) = true then [(f.2.2, true)] else []) ++ (if (f.1 == "in" && (!o && f.2.2 == n)) = true then [(f.2.1, false)] else []) ++
  (if (f.1 == "apart" && o) = true then turn n (f.2.1, f.2.2) false ++ turn n (f.2.2, f.2.1) false else []) ++ (if (f.1 == "cover" && !o) = true then turn n (f.2.1, f.2.2) true ++ turn n (f.2.2, f.2.1) true else [])
theorem turn_len {n : Str} {q : Str × Str} {b : Bool} : (turn n q b).length ≤ 1 := by
  unfold turn
  split <;> simp
theorem if_len {α : Type} {b : Bool} {l : List α} {k : Nat} (h : l.length ≤ k) : (if b = true then l else []).length ≤ k := by
  cases b
  · exact Nat.zero_le _
  · exact h
theorem lsF_len (n : Str) (o : Bool) (f : Fact) : (lsF n o f).length ≤ 6 := by
  unfold lsF
  rw [List.length_append, List.length_append, List.length_append]
  have h1 := if_len (b := f.1 == "in" && (o && f.2.1 == n)) (l := [((f.2.2, true) : Cl)]) (k := 1) (Nat.le_refl _)
  have h2 := if_len (b := f.1 == "in" && (!o && f.2.2 == n)) (l := [((f.2.1, false) : Cl)]) (k := 1) (Nat.le_refl _)
  have t1 := turn_len (n := n) (q := (f.2.1, f.2.2)) (b := false)
  have t2 := turn_len (n := n) (q := (f.2.2, f.2.1)) (b := false)
  have t3 := turn_len (n := n) (q := (f.2.1, f.2.2)) (b := true)
  have t4 := turn_len (n := n) (q := (f.2.2, f.2.1)) (b := true)
  have h3 := if_len (b := f.1 == "apart" && o) (l := turn n (f.2.1, f.2.2) false ++ turn n (f.2.2, f.2.1) false) (k := 2) (by rw [List.length_append]; omega)
  have h4 := if_len (b := f.1 == "cover" && !o) (l := turn n (f.2.1, f.2.2) true ++ turn n (f.2.2, f.2.1) true) (k := 2) (by rw [List.length_append]; omega)
  omega
theorem two_turns (n x y : Str) (b : Bool) : compR (fun d28 => yb (unT2 d28) fun t30 => yb (opF (eqD t30.1 (dS n))) fun a32 => yb (bolR a32) fun b31 => if b31 = true then R.ok (some (dTu [t30.2, (dB b)])) else R.ok none) [dTu [dS x, dS y], dTu [dS y, dS x]] = .ok ((turn n (x, y) b ++ turn n (y, x) b).map dC) := by
  have e : ∀ x y : Str, (fun d28 => yb (unT2 d28) fun t30 => yb (opF (eqD t30.1 (dS n))) fun a32 => yb (bolR a32) fun b31 => if b31 = true then R.ok (some (dTu [t30.2, (dB b)])) else R.ok none) (dTu [dS x, dS y]) = if (x == n) = true then R.ok (some (dC (y, b))) else R.ok none := by
    intro x y
    dsimp only
    rw [unT2_t, yb_ok]
    dsimp only
    rw [eq_s, opF_f, yb_ok, bolR_b, yb_ok]
    rfl
  revert e
  generalize (fun d28 => yb (unT2 d28) fun t30 => yb (opF (eqD t30.1 (dS n))) fun a32 => yb (bolR a32) fun b31 => if b31 = true then R.ok (some (dTu [t30.2, (dB b)])) else R.ok none) = F
  intro e
  have e2 : compR F [dTu [dS x, dS y], dTu [dS y, dS x]] = match F (dTu [dS x, dS y]) with
      | .ok o => (match (match F (dTu [dS y, dS x]) with
        | .ok o => R.ok (match o with | some x => [x] | none => [])
        | _ => .bad) with
        | .ok xs => .ok (match o with | some x => x :: xs | none => xs)
        | _ => .bad)
      | _ => .bad := by
    unfold compR
    unfold compR
    unfold compR
    rfl
  rw [e2, e, e]
  unfold turn
  cases (x == n) <;> cases (y == n) <;> rfl
theorem steps_l {fa : List Fact} (hl : fa.length ≤ 1200) (n : Str) (o : Bool) : g_l_steps (dL (fa.map dF)) (dC (n, o)) = .ok (dL ((fa.flatMap (lsF n o)).map dC)) := by
  refine ok_eq ?_
  unfold g_l_steps
  have e0 : unT2 (dC (n, o)) = .ok (dS n, dB o) := rfl
  rw [e0, yb_ok, seqR_l, yb_ok, ok_runR]
  refine cw_cut (fun s => s = dL ((fa.flatMap (lsF n o)).map dC)) ?_ ?_
  · refine for_map (fun rest s => ∃ l : List Cl, s = dL (l.map dC) ∧ l ++ rest.flatMap (lsF n o) = fa.flatMap (lsF n o) ∧ l.length + 6 * rest.length ≤ 6 * fa.length) ⟨[], rfl, rfl, by simp⟩ ?_ ?_
    · rintro f rest s ⟨l, rfl, h1, h2⟩
      obtain ⟨k, x, y⟩ := f
      rw [List.length_cons] at h2
      dsimp only
      rw [unT3_t, yb_ok]
      dsimp only
      have t1 := turn_len (n := n) (q := (x, y)) (b := false)
      have t2 := turn_len (n := n) (q := (y, x)) (b := false)
      have t3 := turn_len (n := n) (q := (x, y)) (b := true)
      have t4 := turn_len (n := n) (q := (y, x)) (b := true)
      have hA := if_len (b := k == "in" && (o && x == n)) (l := [((y, true) : Cl)]) (k := 1) (Nat.le_refl _)
      have hB := if_len (b := k == "in" && (!o && y == n)) (l := [((x, false) : Cl)]) (k := 1) (Nat.le_refl _)
      have hC := if_len (b := k == "apart" && o) (l := turn n (x, y) false ++ turn n (y, x) false) (k := 2) (by rw [List.length_append]; omega)
      obtain ⟨A, hAe⟩ : ∃ A, A = (if (k == "in" && (o && x == n)) = true then [((y, true) : Cl)] else []) := ⟨_, rfl⟩
      obtain ⟨B, hBe⟩ : ∃ B, B = (if (k == "in" && (!o && y == n)) = true then [((x, false) : Cl)] else []) := ⟨_, rfl⟩
      obtain ⟨E, hEe⟩ : ∃ E, E = (if (k == "apart" && o) = true then turn n (x, y) false ++ turn n (y, x) false else []) := ⟨_, rfl⟩
      obtain ⟨G, hGe⟩ : ∃ G, G = (if (k == "cover" && !o) = true then turn n (x, y) true ++ turn n (y, x) true else []) := ⟨_, rfl⟩
      have hls : lsF n o (k, x, y) = A ++ B ++ E ++ G := by rw [hAe, hBe, hEe, hGe]; rfl
      rw [← hAe] at hA
      rw [← hBe] at hB
      rw [← hEe] at hC
      refine cw_cut (fun s => s = dL ((l ++ A).map dC)) ?_ ?_
      · rw [eq_s, opF_f, yb_ok, bolR_b, yb_ok, tru_b, yb_ok, eq_s, opF_f, yb_ok, bolR_b, yb_ok, andR_ok (a := o) (b := x == n) rfl (fun _ => rfl), andR_ok (a := k == "in") (b := o && x == n) rfl (fun _ => rfl), yb_ok]
        cases hb : (k == "in" && (o && x == n)) with
        | false =>
          rw [hAe, hb]
          show dL (l.map dC) = _
          simp
        | true =>
          rw [hAe, hb, if_pos rfl, isLst_l, okR_t, yb_ok, app_l (by rw [List.length_map]; omega), yb_ok]
          show dL (l.map dC ++ [dC (y, true)]) = _
          simp
      · rintro s rfl
        refine cw_cut (fun s => s = dL ((l ++ A ++ B).map dC)) ?_ ?_
        · rw [eq_s, opF_f, yb_ok, bolR_b, yb_ok, tru_b, yb_ok, eq_s, opF_f, yb_ok, bolR_b, yb_ok, andR_ok (a := !o) (b := y == n) rfl (fun _ => rfl), andR_ok (a := k == "in") (b := !o && y == n) rfl (fun _ => rfl), yb_ok]
          cases hb : (k == "in" && (!o && y == n)) with
          | false =>
            rw [hBe, hb]
            show dL ((l ++ A).map dC) = _
            simp
          | true =>
            rw [hBe, hb, if_pos rfl, isLst_l, okR_t, yb_ok, app_l (by rw [List.length_map, List.length_append]; omega), yb_ok]
            show dL ((l ++ A).map dC ++ [dC (x, false)]) = _
            simp
        · rintro s rfl
          refine cw_cut (fun s => s = dL ((l ++ A ++ B ++ E).map dC)) ?_ ?_
          · rw [eq_s, opF_f, yb_ok, bolR_b, yb_ok, tru_b, yb_ok, andR_ok (a := k == "apart") (b := o) rfl (fun _ => rfl), yb_ok]
            cases hb : (k == "apart" && o) with
            | false =>
              rw [hEe, hb]
              show dL ((l ++ A ++ B).map dC) = _
              simp
            | true =>
              rw [hEe, hb, if_pos rfl, lstR_l, yb_ok, cap_ok (by simp), yb_ok, two_turns, yb_ok, add_l (by
                rw [List.length_map, List.length_map, List.length_append, List.length_append, List.length_append]
                show _ ≤ 16777216
                omega), opO_o, yb_ok]
              show dL ((l ++ A ++ B).map dC ++ (turn n (x, y) false ++ turn n (y, x) false).map dC) = _
              simp
          · rintro s rfl
            refine cw_cut (fun s => s = dL ((l ++ A ++ B ++ E ++ G).map dC)) ?_ ?_
            · rw [eq_s, opF_f, yb_ok, bolR_b, yb_ok, tru_b, yb_ok, andR_ok (a := k == "cover") (b := !o) rfl (fun _ => rfl), yb_ok]
              cases hb : (k == "cover" && !o) with
              | false =>
                rw [hGe, hb]
                show dL ((l ++ A ++ B ++ E).map dC) = _
                simp
              | true =>
                rw [hGe, hb, if_pos rfl, lstR_l, yb_ok, cap_ok (by simp), yb_ok, two_turns, yb_ok, add_l (by
                  rw [List.length_map, List.length_map, List.length_append, List.length_append, List.length_append, List.length_append]
                  show _ ≤ 16777216
                  omega), opO_o, yb_ok]
                show dL ((l ++ A ++ B ++ E).map dC ++ (turn n (x, y) true ++ turn n (y, x) true).map dC) = _
                simp
            · rintro s rfl
              have hl2 := lsF_len n o (k, x, y)
              refine ⟨l ++ lsF n o (k, x, y), by rw [hls]; simp, ?_, ?_⟩
              · rw [← h1, List.flatMap_cons, List.append_assoc]
              · rw [List.length_append]; omega
    · rintro s ⟨l, rfl, h1, _⟩
      rw [List.flatMap_nil, List.append_nil] at h1
      show _ = _
      rw [h1]
  · rintro s rfl
    rfl
def clN (zs : List Str) (q : Cl) : Nat := 2 * ixOf q.1 zs + (if q.2 = true then 1 else 0)
theorem clN_lt {zs : List Str} {q : Cl} (h : q.1 ∈ zs) : clN zs q < 2 * zs.length := by
  have := ixOf_lt h
  unfold clN
  split <;> omega
theorem rank_ok {zs : List Str} {q : Cl} (h : q.1 ∈ zs) : g_l_rank (dP zs) (dC q) = .ok (dI (clN zs q : Nat)) := by
  unfold g_l_rank
  have e1 : ixD (dC q) (dI 0) = some (.frz (dS q.1)) := rfl
  have e2 : ixD (dC q) (dI 1) = some (.frz (dB q.2)) := rfl
  rw [isLst_l, okR_t, yb_ok, e1, opF_f, yb_ok, index_P h, opF_f, yb_ok, two_mul, opF_f, yb_ok, e2, opF_f, yb_ok, int_b, opF_f, yb_ok, add_i, opF_f, yb_ok]
  have : ((2 * ixOf q.1 zs : Nat) : Int) + (if q.2 = true then 1 else 0) = (clN zs q : Nat) := by
    unfold clN
    cases q.2 <;> simp
  rw [this]
  rfl
theorem turn_mem {n : Str} {q : Str × Str} {b : Bool} {r : Cl} : r ∈ turn n q b ↔ q.1 = n ∧ r = (q.2, b) := by
  unfold turn
  by_cases h : q.1 = n
  · rw [if_pos (beq_iff_eq.mpr h)]
    simp [h]
  · rw [if_neg (fun z => h (beq_iff_eq.mp z))]
    simp [h]
theorem lsF_in {zs : List Str} {n : Str} {o : Bool} {f : Fact} (h : FOk zs f) {r : Cl} (hr : r ∈ lsF n o f) : r.1 ∈ zs := by
  obtain ⟨_, h2, h3⟩ := h
  unfold lsF at hr
  rw [List.mem_append, List.mem_append, List.mem_append] at hr
  rcases hr with ((hr | hr) | hr) | hr
  · split at hr
    · rw [List.mem_singleton.mp hr]; exact h3
    · cases hr
  · split at hr
    · rw [List.mem_singleton.mp hr]; exact h2
    · cases hr
  · split at hr
    · rcases List.mem_append.mp hr with hr | hr
      · rw [(turn_mem.mp hr).2]; exact h3
      · rw [(turn_mem.mp hr).2]; exact h2
    · cases hr
  · split at hr
    · rcases List.mem_append.mp hr with hr | hr
      · rw [(turn_mem.mp hr).2]; exact h3
      · rw [(turn_mem.mp hr).2]; exact h2
    · cases hr
theorem cn_two (i : Nat) : cn (2 * i + 1) = 2 * i ∧ cn (2 * i) = 2 * i + 1 := by
  unfold cn
  rw [if_neg (by omega), if_pos (by omega)]
  omega
theorem c_odd {zs : List Str} (hn : zs.Nodup) {c : Nat} (hc : c < 2 * zs.length) {x : Str} (hx : x ∈ zs) : c = 2 * ixOf x zs + 1 ↔ od c = true ∧ x = nm zs c := by
  have e := cl_eq hn hc (b := 2 * ixOf x zs + 1) (by have := ixOf_lt hx; omega)
  rw [nm_two hx (by decide), od_two _ _ (by decide)] at e
  rw [← e]
  exact ⟨fun ⟨a, b⟩ => ⟨b, a.symm⟩, fun ⟨a, b⟩ => ⟨b.symm, a⟩⟩
theorem c_even {zs : List Str} (hn : zs.Nodup) {c : Nat} (hc : c < 2 * zs.length) {x : Str} (hx : x ∈ zs) : c = 2 * ixOf x zs ↔ od c = false ∧ x = nm zs c := by
  have e := cl_eq hn hc (b := 2 * ixOf x zs + 0) (by have := ixOf_lt hx; omega)
  rw [nm_two hx (by decide), od_two _ _ (by decide)] at e
  rw [Nat.add_zero] at e
  rw [← e]
  exact ⟨fun ⟨a, b⟩ => ⟨b, a.symm⟩, fun ⟨a, b⟩ => ⟨b.symm, a⟩⟩
theorem lsF_edge {zs : List Str} (hn : zs.Nodup) {f : Fact} (h : FOk zs f) {c : Nat} (hc : c < 2 * zs.length) {b : Nat} : b ∈ (lsF (nm zs c) (od c) f).map (clN zs) ↔ (c, b) = ((brk zs f).1, cn (brk zs f).2) ∨ (c, b) = ((brk zs f).2, cn (brk zs f).1) := by
  obtain ⟨h1, h2, h3⟩ := h
  obtain ⟨k, x, y⟩ := f
  dsimp only at h1 h2 h3
  have ox := c_odd hn hc h2
  have oy := c_odd hn hc h3
  have ex := c_even hn hc h2
  have ey := c_even hn hc h3
  have fx := cn_two (ixOf x zs)
  have fy := cn_two (ixOf y zs)
  simp only [kinds, List.mem_cons, List.mem_nil_iff, or_false] at h1
  have hcn : ∀ (q : Cl), clN zs q = 2 * ixOf q.1 zs + (if q.2 = true then 1 else 0) := fun _ => rfl
  rcases h1 with rfl | rfl | rfl
  · have e : brk zs ("in", x, y) = (2 * ixOf x zs + 1, 2 * ixOf y zs) := rfl
    have e2 : lsF (nm zs c) (od c) ("in", x, y) = (if (od c && x == nm zs c) = true then [((y, true) : Cl)] else []) ++ (if (!od c && y == nm zs c) = true then [((x, false) : Cl)] else []) := by
      show _ ++ _ ++ [] ++ [] = _
      rw [List.append_nil, List.append_nil]
      rfl
    rw [e, e2]
    dsimp only
    rw [fx.1, fy.2, Prod.mk.injEq, Prod.mk.injEq, ox, ey, List.map_append, List.mem_append]
    cases od c
    · by_cases hy : y = nm zs c
      · simp [hy, hcn]
      · simp [hy]
    · by_cases hx : x = nm zs c
      · simp [hx, hcn]
      · simp [hx]
  · have e : brk zs ("apart", x, y) = (2 * ixOf x zs + 1, 2 * ixOf y zs + 1) := rfl
    have e2 : lsF (nm zs c) (od c) ("apart", x, y) = (if od c = true then turn (nm zs c) (x, y) false ++ turn (nm zs c) (y, x) false else []) := by
      show [] ++ [] ++ _ ++ [] = _
      rw [List.append_nil]
      rfl
    rw [e, e2]
    dsimp only
    rw [fx.1, fy.1, Prod.mk.injEq, Prod.mk.injEq, ox, oy]
    cases od c
    · simp
    · rw [if_pos rfl, List.map_append, List.mem_append, List.mem_map, List.mem_map]
      simp only [turn_mem]
      constructor
      · rintro (⟨q, ⟨z1, rfl⟩, rfl⟩ | ⟨q, ⟨z1, rfl⟩, rfl⟩)
        · exact .inl ⟨⟨by trivial, z1⟩, by simp [hcn]⟩
        · exact .inr ⟨⟨by trivial, z1⟩, by simp [hcn]⟩
      · rintro (⟨⟨_, z1⟩, rfl⟩ | ⟨⟨_, z1⟩, rfl⟩)
        · exact .inl ⟨_, ⟨z1, rfl⟩, by simp [hcn]⟩
        · exact .inr ⟨_, ⟨z1, rfl⟩, by simp [hcn]⟩
  · have e : brk zs ("cover", x, y) = (2 * ixOf x zs, 2 * ixOf y zs) := rfl
    have e2 : lsF (nm zs c) (od c) ("cover", x, y) = (if (!od c) = true then turn (nm zs c) (x, y) true ++ turn (nm zs c) (y, x) true else []) := by
      show [] ++ [] ++ [] ++ _ = _
      rfl
    rw [e, e2]
    dsimp only
    rw [fx.2, fy.2, Prod.mk.injEq, Prod.mk.injEq, ex, ey]
    cases od c
    · rw [if_pos (show (!false) = true from rfl), List.map_append, List.mem_append, List.mem_map, List.mem_map]
      simp only [turn_mem]
      constructor
      · rintro (⟨q, ⟨z1, rfl⟩, rfl⟩ | ⟨q, ⟨z1, rfl⟩, rfl⟩)
        · exact .inl ⟨⟨by trivial, z1⟩, by simp [hcn]⟩
        · exact .inr ⟨⟨by trivial, z1⟩, by simp [hcn]⟩
      · rintro (⟨⟨_, z1⟩, rfl⟩ | ⟨⟨_, z1⟩, rfl⟩)
        · exact .inl ⟨_, ⟨z1, rfl⟩, by simp [hcn]⟩
        · exact .inr ⟨_, ⟨z1, rfl⟩, by simp [hcn]⟩
    · simp
end K02

namespace K02
open PySem PySem.Spec PyProof.Rows L2 TL
theorem lsF_len2 {zs : List Str} {f : Fact} (h : FOk zs f) (n : Str) (o : Bool) : (lsF n o f).length ≤ 2 := by
  obtain ⟨h1, _, _⟩ := h
  obtain ⟨k, x, y⟩ := f
  simp only [kinds, List.mem_cons, List.mem_nil_iff, or_false] at h1
  have t1 := turn_len (n := n) (q := (x, y)) (b := false)
  have t2 := turn_len (n := n) (q := (y, x)) (b := false)
  have t3 := turn_len (n := n) (q := (x, y)) (b := true)
  have t4 := turn_len (n := n) (q := (y, x)) (b := true)
  rcases h1 with rfl | rfl | rfl
  · have e2 : lsF n o ("in", x, y) = (if (o && x == n) = true then [((y, true) : Cl)] else []) ++ (if (!o && y == n) = true then [((x, false) : Cl)] else []) := by
      show _ ++ _ ++ [] ++ [] = _
      rw [List.append_nil, List.append_nil]
      rfl
    have h1 := if_len (b := o && x == n) (l := [((y, true) : Cl)]) (k := 1) (Nat.le_refl _)
    have h2 := if_len (b := !o && y == n) (l := [((x, false) : Cl)]) (k := 1) (Nat.le_refl _)
    rw [e2, List.length_append]
    omega
  · have e2 : lsF n o ("apart", x, y) = (if o = true then turn n (x, y) false ++ turn n (y, x) false else []) := by
      show [] ++ [] ++ _ ++ [] = _
      rw [List.append_nil]
      rfl
    rw [e2]
    exact if_len (by rw [List.length_append]; omega)
  · have e2 : lsF n o ("cover", x, y) = (if (!o) = true then turn n (x, y) true ++ turn n (y, x) true else []) := rfl
    rw [e2]
    exact if_len (by rw [List.length_append]; omega)
theorem flat_len {zs : List Str} {fa : List Fact} (h : ∀ f ∈ fa, FOk zs f) (n : Str) (o : Bool) : (fa.flatMap (lsF n o)).length ≤ 2 * fa.length := by
  induction fa with
  | nil => exact Nat.le_refl _
  | cons f fa ih =>
    have h1 := lsF_len2 (h f List.mem_cons_self) n o
    have h2 := ih fun g hg => h g (List.mem_cons_of_mem _ hg)
    rw [List.flatMap_cons, List.length_append, List.length_cons]
    omega
theorem sort_any (l : List Nat) : ∃ l' : List Nat, PySem.W.sortI (l.map fun x : Nat => (x : Int)) = l'.map (fun x : Nat => (x : Int)) ∧ l'.Pairwise (· ≤ ·) ∧ ∀ x, x ∈ l' ↔ x ∈ l := by
  have hp := PySem.W.sortI_perm (l.map fun x : Nat => (x : Int))
  have hr := PySem.W.sortI_rises (l.map fun x : Nat => (x : Int))
  have nn : ∀ i ∈ PySem.W.sortI (l.map fun x : Nat => (x : Int)), 0 ≤ i := fun i hi => by
    obtain ⟨x, _, rfl⟩ := List.mem_map.mp (hp.mem_iff.mp hi)
    omega
  have e : PySem.W.sortI (l.map fun x : Nat => (x : Int)) = ((PySem.W.sortI (l.map fun x : Nat => (x : Int))).map Int.toNat).map fun x : Nat => (x : Int) := by
    rw [List.map_map]
    refine ((List.map_congr_left fun i hi => ?_).trans (List.map_id _)).symm
    have := nn i hi
    show ((i.toNat : Nat) : Int) = i
    omega
  refine ⟨_, e, ?_, fun x => ?_⟩
  · rw [List.pairwise_map]
    refine List.Pairwise.imp_of_mem (fun {a b} ha hb h => ?_) hr
    have := nn a ha
    have := nn b hb
    omega
  · rw [List.mem_map]
    constructor
    · rintro ⟨i, hi, rfl⟩
      obtain ⟨y, hy, rfl⟩ := List.mem_map.mp (hp.mem_iff.mp hi)
      simpa using hy
    · intro hx
      exact ⟨(x : Int), hp.mem_iff.mpr (List.mem_map_of_mem hx), by simp⟩
theorem last_w {zs : List Str} {w : List Nat} (h : w ≠ []) : ixD (wD zs w) (dI (-1)) = some (.frz (clD zs (lst w))) := by
  unfold wD
  rw [ix_l]
  have hl : 0 < w.length := List.length_pos_iff.mpr h
  have e : atI (w.map (clD zs)) (-1) = some (clD zs (lst w)) := by
    have e1 : ixN (w.map (clD zs)).length (-1) = some (w.length - 1) := by
      rw [List.length_map]
      unfold ixN
      rw [if_neg (by decide), if_pos (by omega)]
      congr 1
      omega
    unfold atI
    rw [e1, Option.bind_some, List.getElem?_map, List.getElem?_eq_getElem (by omega)]
    show some (clD zs w[w.length - 1]) = _
    unfold lst
    rw [List.getLastD_eq_getLast?, List.getLast?_eq_getElem?, List.getElem?_eq_getElem (by omega)]
    rfl
  rw [e]
  rfl
theorem ways_l {zs : List Str} (hn : zs.Nodup) (hs : ∀ z ∈ zs, SOk z) (hz : zs.length ≤ 24) {fa : List Fact} (h : ∀ f ∈ fa, FOk zs f) (hl : fa.length ≤ 30) {c : Nat} (hc : c < 2 * zs.length) :
    g_l_ways (dP zs) (dL (fa.map dF)) (clD zs c) = .ok (dL ((wys zs fa c).map (wD zs))) := by
  have hS : ∀ a, ∀ b ∈ stp zs fa a, b < 2 * zs.length := fun a => stp_lt
  refine ok_eq ?_
  unfold g_l_ways
  rw [ok_runR]
  refine cw_cut (fun s => s.1 = dL ((wys zs fa c).map (wD zs))) ?_ ?_
  · refine while_inv (fun s => ∃ (W : List (List Nat)) (p : Nat), s = (dL (W.map (wD zs)), dL ((W.map lst).map (clD zs)), dI (p : Nat)) ∧ BI (stp zs fa) (2 * zs.length) c W p ∧ it (stp zs fa) (2 * zs.length + 1 - p) W p = wys zs fa c)
      (fun s => match s.2.2 with | .at (.int i) => 2 * zs.length + 1 - i.toNat | _ => 0) ⟨[[c]], 0, rfl, .start hc, rfl⟩ (by show 2 * zs.length + 1 - 0 < 1000; omega) ?_
    rintro s ⟨W, p, rfl, B, hit⟩
    have hWm := B.len
    dsimp only
    rw [len_l, List.length_map, opF_f, yb_ok, lt_i, opF_f, yb_ok, bolR_b, yb_ok, ok_ok]
    by_cases hp : p < W.length
    · have hwp : W[p] ∈ W := List.getElem_mem hp
      have hlp : lst W[p] < 2 * zs.length := B.lt _ hwp
      have hne : W[p] ≠ [] := (B.wk _ hwp).ne
      rw [if_pos (decide_eq_true (by omega))]
      have e2 : ixD (dL (W.map (wD zs))) (dI (p : Nat)) = some (.frz (wD zs W[p])) := ix_map hp
      have e4 : addD (dI (p : Nat)) (dI 1) = some (aI ((p + 1 : Nat) : Int)) := rfl
      have e5 : negD (dI 1) = some (aI (-1)) := rfl
      obtain ⟨L, hL⟩ : ∃ L, L = (fa.flatMap (lsF (nm zs (lst W[p])) (od (lst W[p])))) := ⟨_, rfl⟩
      have e6 : g_l_steps (dL (fa.map dF)) (clD zs (lst W[p])) = .ok (dL (L.map dC)) := by
        rw [hL]
        exact steps_l (by omega) (nm zs (lst W[p])) (od (lst W[p]))
      have hLl : L.length ≤ 60 := by
        have := flat_len h (nm zs (lst W[p])) (od (lst W[p]))
        rw [← hL] at this
        omega
      have hLz : ∀ q ∈ L, q.1 ∈ zs := fun q hq => by
        rw [hL] at hq
        obtain ⟨f, hf, hq⟩ := List.mem_flatMap.mp hq
        exact lsF_in (h f hf) hq
      rw [e2, opF_f, yb_ok, e4, opF_f, yb_ok, e5, opF_f, yb_ok, last_w hne, opF_f, yb_ok, e6, yb_ok, lstR_l, yb_ok, cap_ok (by rw [List.length_map]; omega), yb_ok, compR_all (k := fun q => dI (clN zs q : Nat)), yb_ok]
      · have e7 : L.map (fun q => dI (clN zs q : Nat)) = (L.map (clN zs)).map fun x => dI (x : Nat) := by
          rw [List.map_map]; rfl
        obtain ⟨l', hl1, hl2, hl3⟩ := sort_any (L.map (clN zs))
        rw [e7, sort_nn (by rw [List.length_map]; omega), hl1, opO_o, yb_ok, lstR_l, yb_ok, List.map_map]
        have hm : ∀ r, r ∈ l' ↔ r ∈ stp zs fa (lst W[p]) := fun r => by
          rw [hl3, stp_mem h, edges_mem, List.mem_map]
          constructor
          · rintro ⟨q, hq, rfl⟩
            rw [hL] at hq
            obtain ⟨f, hf, hq⟩ := List.mem_flatMap.mp hq
            exact ⟨f, hf, (lsF_edge hn (h f hf) hlp).mp (List.mem_map_of_mem hq)⟩
          · rintro ⟨f, hf, e⟩
            obtain ⟨q, hq, e2⟩ := List.mem_map.mp ((lsF_edge hn (h f hf) hlp).mpr e)
            exact ⟨q, by rw [hL]; exact List.mem_flatMap.mpr ⟨f, hf, hq⟩, e2⟩
        have hext : ext W W[p] l' = ext W W[p] (stp zs fa (lst W[p])) := ext_eq hl2 (stp_up.imp Nat.le_of_lt) hm
        refine cw_cut (fun s => s = (dL ((ext W W[p] (stp zs fa (lst W[p]))).map (wD zs)), dL (((ext W W[p] (stp zs fa (lst W[p]))).map lst).map (clD zs)))) ?_ ?_
        · refine for_map (fun rest s => ∃ W' : List (List Nat), s = (dL (W'.map (wD zs)), dL ((W'.map lst).map (clD zs))) ∧ ext W' W[p] rest = ext W W[p] (stp zs fa (lst W[p])) ∧ (W'.map lst).Nodup ∧ (∀ w ∈ W', lst w < 2 * zs.length) ∧ ∀ b ∈ rest, b < 2 * zs.length) ⟨W, rfl, hext, B.nd, B.lt, fun b hb => stp_lt _ ((hm b).mp hb)⟩ ?_ ?_
          · rintro r rest s ⟨W', rfl, h1, h3, h4, h5⟩
            have hr := h5 r List.mem_cons_self
            have hlW : ∀ a ∈ W'.map lst, a < 2 * zs.length := fun x hx => by
              obtain ⟨w, hw, rfl⟩ := List.mem_map.mp hx
              exact h4 w hw
            have hW' : W'.length ≤ 2 * zs.length := by
              have := nodup_le h3 (m := 2 * zs.length) hlW
              simpa using this
            have ecl : dTu [dS (nm zs r), dB (od r)] = clD zs r := rfl
            show CW (yb (opF (fdivD (dI (r : Nat)) (dI 2))) _) _
            rw [half, opF_f, yb_ok, ix_nm hr, opF_f, yb_ok]
            show CW (yb (opF (modD (dI (r : Nat)) (dI 2))) _) _
            rw [modt, opF_f, yb_ok, eq_i, opF_f, yb_ok, od_eq, ecl, nin_cl hn hs hr hlW, opF_f, yb_ok, bolR_b, yb_ok]
            rw [show ext W' W[p] (r :: rest) = ext (if r ∈ W'.map lst then W' else W' ++ [W[p] ++ [r]]) W[p] rest from rfl] at h1
            by_cases hin : r ∈ W'.map lst
            · rw [if_pos hin] at h1
              rw [decide_eq_true hin]
              exact ⟨W', rfl, h1, h3, h4, fun b hb => h5 b (List.mem_cons_of_mem _ hb)⟩
            · rw [if_neg hin] at h1
              rw [decide_eq_false hin]
              have hlen : W[p].length ≤ 16777000 := by
                have := B.ln p hp
                omega
              have a2 : addD (wD zs W[p]) (dL [clD zs r]) = some (.own (wD zs (W[p] ++ [r]))) := by
                unfold wD
                rw [add_l (by rw [List.length_map]; show _ ≤ 16777216; simp; omega), List.map_append]
                rfl
              have a3 : chgR appG (dL (W'.map (wD zs))) [wD zs (W[p] ++ [r])] = .ok (dL ((W' ++ [W[p] ++ [r]]).map (wD zs)), dN) := by
                rw [app_l (by rw [List.length_map]; show _ < 16777216; omega), List.map_append]
                rfl
              have a4 : chgR appG (dL ((W'.map lst).map (clD zs))) [clD zs r] = .ok (dL (((W' ++ [W[p] ++ [r]]).map lst).map (clD zs)), dN) := by
                rw [app_l (by rw [List.length_map, List.length_map]; show _ < 16777216; omega), List.map_append, List.map_append]
                show _ = R.ok (dL (_ ++ [clD zs (lst (W[p] ++ [r]))]), dN)
                rw [lst_snoc]
              show CW (bC (if true = true then _ else _) _) _
              rw [if_pos rfl, isLst_l, okR_t, yb_ok, a4, yb_ok, isLst_l, okR_t, yb_ok, a2, opO_o, yb_ok, a3, yb_ok]
              refine ⟨W' ++ [W[p] ++ [r]], rfl, h1, ?_, fun w hw => ?_, fun b hb => h5 b (List.mem_cons_of_mem _ hb)⟩
              · rw [List.map_append, List.nodup_append]
                refine ⟨h3, by simp, fun a ha b hb e => hin ?_⟩
                simp at hb
                rw [e, hb] at ha
                exact ha
              · rcases List.mem_append.mp hw with hw | hw
                · exact h4 w hw
                · rw [List.mem_singleton.mp hw, lst_snoc]
                  exact hr
          · rintro s ⟨W', rfl, h1, _⟩
            rw [show W' = ext W W[p] (stp zs fa (lst W[p])) from h1]
        · rintro s rfl
          refine ⟨⟨_, p + 1, rfl, B.step hS hp, ?_⟩, ?_⟩
          · rw [← hit, show 2 * zs.length + 1 - p = (2 * zs.length + 1 - (p + 1)) + 1 by omega]
            conv => rhs; unfold it
            rw [dif_pos hp]
          · show 2 * zs.length + 1 - ((p + 1 : Nat) : Int).toNat < 2 * zs.length + 1 - (p : Int).toNat
            rw [Int.toNat_natCast, Int.toNat_natCast]
            omega
      · intro q hq
        rw [rank_ok (hLz q hq), yb_ok]
    · rw [if_neg (by rw [decide_eq_false (by omega)]; decide)]
      show dL (W.map (wD zs)) = _
      have : it (stp zs fa) (2 * zs.length + 1 - p) W p = W := by
        have hle := B.le
        rw [show 2 * zs.length + 1 - p = (2 * zs.length - p) + 1 by omega]
        unfold it
        rw [dif_neg hp]
      rw [← hit, this]
  · rintro s hs
    exact hs
end K02

namespace K02
open PySem PySem.Spec PyProof.Rows L2 TL
/-! ### the law -/
theorem ne_bb' {a b : Bool} : neD (dB a) (dB b) = some (aB (!(a == b))) := by
  rw [ne_sh sh_b sh_b]
  cases a <;> cases b <;> rfl
theorem eqv_w {zs : List Str} (hn : zs.Nodup) {w : List Nat} (hw : ∀ c ∈ w, c < 2 * zs.length) : PyData.eqv (wD zs w).py (wD zs w).py = true := by
  have e : PyData.eqv (wD zs w).py (wD zs w).py = PyData.eqvAll (pys (w.map (clD zs))) (pys (w.map (clD zs))) := by
    show PyData.eqv (PyData.list (pys (w.map (clD zs)))) (PyData.list (pys (w.map (clD zs)))) = _
    unfold PyData.eqv
    rfl
  rw [e]
  clear e
  induction w with
  | nil => rfl
  | cons a w ih =>
    show (PyData.eqv (clD zs a).py (clD zs a).py && PyData.eqvAll (pys (w.map (clD zs))) (pys (w.map (clD zs)))) = _
    rw [eqv_cl hn (hw a List.mem_cons_self) (hw a List.mem_cons_self), ih fun c hc => hw c (List.mem_cons_of_mem _ hc), decide_eq_true rfl]
    rfl
theorem tx_cl {zs : List Str} (hz : ∀ z ∈ zs, NameOk z) {c : Nat} (hc : c < 2 * zs.length) : Tx 26 (clD zs c) := by
  have h := hz _ (nm_mem hc)
  refine tx_t (w := 12) (xs := [dS (nm zs c), dB (od c)]) fun d hd => ?_
  simp only [List.mem_cons, List.mem_nil_iff, or_false] at hd
  rcases hd with rfl | rfl
  · refine (tx_s fun x hx => ?_).up h.2.1
    have := h.2.2 x hx
    unfold Let at this
    omega
  · exact tx_b.up (by decide)
theorem str_w {zs : List Str} (hz : ∀ z ∈ zs, NameOk z) (hl : zs.length ≤ 24) {w : List Nat} (hw : ∀ c ∈ w, c < 2 * zs.length) (hwl : w.length ≤ 1000) : ∃ t, strA (wD zs w) = some (aS t) := by
  have h1 : Sh 2 (wD zs w) := sh_w (fun z hm => (hz z hm).sok) hw
  have h2 : Tx (w.length * 27) (wD zs w) := by
    have := tx_l (w := 26) (xs := w.map (clD zs)) fun d hd => by
      obtain ⟨c, hc, rfl⟩ := List.mem_map.mp hd
      exact tx_cl hz (hw c hc)
    rw [List.length_map] at this
    exact this
  obtain ⟨t, e⟩ := str_ok h1 (by decide) h2 (by omega)
  exact ⟨t, e⟩
def dueD (zs : List Str) (fa : List Fact) (c d : Nat) : D := ((wayL zs fa c d).map (wD zs)).getD dN
theorem optC_n {π : Type} {f g : D → π} : optC dN f g = f dN := rfl
theorem optC_w {π : Type} {f g : D → π} {zs : List Str} {w : List Nat} : optC (wD zs w) f g = g (wD zs w) := rfl
theorem clD_cn (zs : List Str) (c : Nat) : dTu [dS (nm zs c), dB (!od c)] = clD zs (cn c) := by
  unfold clD
  rw [nm_cn, od_cn]
theorem law_ok (ns : List Int) : OK (g_p_law (scrD ns)) (· = dB true) := by
  unfold g_p_law
  have e4 : rngR k1 [dI 4] = .ok ((List.range 4).map fun i => dI (i : Nat)) := rng1 (n := 4) (by decide)
  rw [e4, yb_ok, ok_runR]
  refine cw_cut (fun _ => True) ?_ fun _ _ => rfl
  refine for_map (fun ks _ => ∀ k ∈ ks, k < 1000) (fun k hk => by have := List.mem_range.mp hk; omega) ?_ fun _ _ => trivial
  intro k ks _ hk
  refine cw_by (pile_ok ns k (hk k List.mem_cons_self)) ?_
  intro p1 hp1
  have e8 : OK (g_l_take p1 (dI 8)) fun q => Pile q.2 ∧ ∃ r : Nat, q.1 = dI r ∧ r < 8 := take_ok hp1 (m := 8) (by decide)
  refine cw_by e8 ?_
  rintro ⟨_, p2⟩ ⟨hp2, r, rfl, hr⟩
  have ea : addD (dI 1) (dI (r : Nat)) = some (aI ((1 + r : Nat) : Int)) := by
    rw [add_i]
    congr 2
  dsimp only
  rw [ea, opF_f, yb_ok]
  refine cw_by (names_ok hp2 (n := 1 + r) (by omega) (by omega)) ?_
  rintro ⟨_, p3⟩ ⟨hp3, zs, rfl, hnm⟩
  obtain ⟨hzl, hn, hz⟩ := id hnm
  have hs : ∀ z ∈ zs, SOk z := fun z hm => (hz z hm).sok
  have hz24 : zs.length ≤ 24 := by omega
  dsimp only at hp3 ⊢
  have eh : OK (g_l_held p3 (dP zs) (dI 12)) fun q => Pile q.2 ∧ ∃ fa : List Fact, q.1 = dL (fa.map dF) ∧ (∀ f ∈ fa, FOk zs f) ∧ (∃ p ∈ subs zs, fa.all (keepsB p) = true) ∧ fa.length ≤ 12 := held_ok hp3 zs 12 ⟨by omega, by omega⟩ hs (by decide)
  refine cw_by eh ?_
  rintro ⟨_, p4⟩ ⟨_, fa, rfl, hf, ⟨p, _, hp⟩, hfl⟩
  dsimp only
  have ei : mkR (g_m_Facts___init__ (.nd (.ins "Facts" []) []) (dP zs) (dL (fa.map dF))) = .ok (facD zs fa) := by
    have := init_ok hnm (by omega) (by omega) hf (by omega) (noC hf hp)
    rw [show (D.nd (.ins "Facts" []) [] : D) = insF [] [] from rfl, this]
    rfl
  rw [ei, yb_ok, seqR_l, yb_ok]
  refine cw_cut (fun s => s = dL ((List.range (2 * zs.length)).map (clD zs))) ?_ ?_
  · refine for_map (fun rest s => ∃ i, s = dL ((List.range (2 * i)).map (clD zs)) ∧ zs.drop i = rest ∧ i ≤ zs.length) ⟨0, rfl, rfl, Nat.zero_le _⟩ ?_ ?_
    · rintro z rest s ⟨i, rfl, h1, h2⟩
      have hi : i < zs.length := by
        rcases Nat.lt_or_ge i zs.length with q | q
        · exact q
        · rw [List.drop_eq_nil_of_le q] at h1
          cases h1
      rw [List.drop_eq_getElem_cons hi] at h1
      obtain ⟨rfl, h3⟩ := List.cons.inj h1
      have c0 : dTu [dS zs[i], dB false] = clD zs (2 * i) := by
        unfold clD
        rw [nm_get (by omega), show od (2 * i) = false by unfold od; rw [show 2 * i % 2 = 0 by omega]; rfl]
        simp only [show 2 * i / 2 = i by omega]
      have c1 : dTu [dS zs[i], dB true] = clD zs (2 * i + 1) := by
        unfold clD
        rw [nm_get (by omega), show od (2 * i + 1) = true by unfold od; rw [show (2 * i + 1) % 2 = 1 by omega]; rfl]
        simp only [show (2 * i + 1) / 2 = i by omega]
      rw [c0, c1, add_l (by rw [List.length_map, List.length_range]; show _ ≤ 16777216; simp; omega), opO_o, yb_ok]
      refine ⟨i + 1, ?_, h3, hi⟩
      rw [show 2 * (i + 1) = 2 * i + 1 + 1 by omega, List.range_succ, List.range_succ, List.append_assoc, List.map_append]
      rfl
    · rintro s ⟨i, rfl, h1, h2⟩
      have : i = zs.length := by
        rcases Nat.lt_or_ge i zs.length with q | q
        · rw [List.drop_eq_getElem_cons q] at h1
          cases h1
        · omega
      rw [this]
  rintro s rfl
  rw [lstR_l, yb_ok]
  refine cw_cut (fun _ => True) ?_ fun _ _ => fun k' hk' => hk k' (List.mem_cons_of_mem _ hk')
  refine for_map (fun cs _ => ∀ c ∈ cs, c < 2 * zs.length) (fun c hc => List.mem_range.mp hc) ?_ fun _ _ => trivial
  intro c cs _ hcs
  have hc := hcs c List.mem_cons_self
  rw [ways_l hn hs hz24 hf (by omega) hc, yb_ok, lstR_l, yb_ok]
  refine cw_cut (fun _ => True) ?_ fun _ _ => fun c' hc' => hcs c' (List.mem_cons_of_mem _ hc')
  refine for_map (fun ds _ => ∀ d ∈ ds, d < 2 * zs.length) (fun d hd => List.mem_range.mp hd) ?_ fun _ _ => trivial
  intro d ds _ hds
  have hd := hds d List.mem_cons_self
  have hrest : ∀ d' ∈ ds, d' < 2 * zs.length := fun d' hd' => hds d' (List.mem_cons_of_mem _ hd')
  have B := wys_bi (fa := fa) hc
  have en : negD (dI 1) = some (aI (-1)) := rfl
  rw [yb_ok, cap_ok (by rw [List.length_map]; have := B.len; omega), yb_ok, compR_filter (p := fun w => lst w == d) (k := wD zs), yb_ok]
  · have edue : ixD (dL (((wys zs fa c).filter fun w => lst w == d).map (wD zs) ++ [dN])) (dI 0) = some (.frz (dueD zs fa c d)) := by
      rw [ix_l, at0]
      have e1 : ((wys zs fa c).filter fun w => lst w == d).head? = wayL zs fa c d := List.head?_filter
      unfold dueD
      rw [← e1]
      cases (wys zs fa c).filter fun w => lst w == d with
      | nil => rfl
      | cons w l => rfl
    have eins : insNo "Facts" "way" (facD zs fa) = true := rfl
    have hfl2 : ((wys zs fa c).filter fun w => lst w == d).length ≤ 1000 := by
      have := List.length_filter_le (fun w => lst w == d) (wys zs fa c)
      have := B.len
      omega
    have eway : ∀ {a b : Nat}, a < 2 * zs.length → b < 2 * zs.length → g_m_Facts_way (facD zs fa) (clD zs a) (clD zs b) = .ok (dueD zs fa a b) := fun ha hb => way_ok hn hz24 rfl rfl rfl ha hb
    have x0 : ∀ c, ixD (clD zs c) (dI 0) = some (.frz (dS (nm zs c))) := fun _ => rfl
    have x1 : ∀ c, ixD (clD zs c) (dI 1) = some (.frz (dB (od c))) := fun _ => rfl
    rw [add_l (by rw [List.length_map]; show _ ≤ 16777216; simp; omega), opO_o, yb_ok, edue, opF_f, yb_ok, eins, okR_t, yb_ok, eway hc hd, yb_ok]
    have ew2 : g_m_Facts_way (facD zs fa) (dTu [dS (nm zs d), dB (!od d)]) (dTu [dS (nm zs c), dB (!od c)]) = .ok (dueD zs fa (cn d) (cn c)) := by
      rw [clD_cn, clD_cn]
      exact eway (cn_lt hd) (cn_lt hc)
    obtain ⟨bk0, bk1⟩ := way_back2 hf hc hd
    have t00 : isT dN dN = some (aB true) := rfl
    have t0n : isnT dN dN = some (aB false) := rfl
    cases hw : wayL zs fa c d with
    | none =>
      have ed : dueD zs fa c d = dN := by unfold dueD; rw [hw]; rfl
      have ed2 : dueD zs fa (cn d) (cn c) = dN := by unfold dueD; rw [bk0 hw]; rfl
      rw [ed, optC_n]
      have es : strA dN = some (aS "None") := rfl
      rw [es, opF_f, yb_ok, yb_ok, ne_s, opF_f, yb_ok, bolR_b, yb_ok]
      rw [if_neg (by simp), yb_ok, x0, opF_f, yb_ok, x1, opF_f, yb_ok, tru_b, yb_ok, x0, opF_f, yb_ok, x1, opF_f, yb_ok, tru_b, yb_ok, ew2, ed2, yb_ok, t00, opF_f, yb_ok, yb_ok, ne_bb', opF_f, yb_ok, bolR_b, yb_ok]
      rw [if_neg (by decide)]
      refine cw_cut (fun _ => True) ?_ fun _ _ => hrest
      rw [t0n, opF_f, yb_ok, bolR_b, yb_ok, if_neg (by decide)]
      trivial
    | some w =>
      obtain ⟨hw1, hw2⟩ := wayL_some hw
      obtain ⟨w', hw', hlen⟩ := bk1 w hw
      have hwl := wk_lt hc (B.wk w hw1)
      have hwn := wys_len hc hw1
      have ed : dueD zs fa c d = wD zs w := by unfold dueD; rw [hw]; rfl
      have ed2 : dueD zs fa (cn d) (cn c) = wD zs w' := by unfold dueD; rw [hw']; rfl
      obtain ⟨t, es⟩ := str_w hz hz24 hwl (by omega)
      have t1 : ∀ u, isT (wD zs u) dN = some (aB false) := fun _ => rfl
      have t2 : isnT (wD zs w) dN = some (aB true) := rfl
      have el : ∀ u : List Nat, lenD (wD zs u) = some (aI (u.length : Nat)) := fun u => by
        unfold wD
        rw [len_l, List.length_map]
      have eq : neD (wD zs w) (wD zs w) = some (aB false) := by
        rw [ne_sh (sh_w hs hwl) (sh_w hs hwl), eqv_w hn hwl]
        rfl
      rw [ed, optC_w]
      rw [es, opF_f, yb_ok, yb_ok, ne_s, opF_f, yb_ok, bolR_b, yb_ok]
      rw [if_neg (by simp), yb_ok, x0, opF_f, yb_ok, x1, opF_f, yb_ok, tru_b, yb_ok, x0, opF_f, yb_ok, x1, opF_f, yb_ok, tru_b, yb_ok, ew2, ed2, yb_ok, t1, opF_f, yb_ok, t1, opF_f, yb_ok, ne_bb', opF_f, yb_ok, bolR_b, yb_ok]
      rw [if_neg (by decide)]
      refine cw_cut (fun _ => True) ?_ fun _ _ => hrest
      have e5 : chgR appG (wD zs w) [dS "x"] = .ok (dL (w.map (clD zs) ++ [dS "x"]), dN) := app_l (by rw [List.length_map]; omega)
      have e6 : isLst (wD zs w) = true := rfl
      rw [t2, opF_f, yb_ok, bolR_b, yb_ok, if_pos rfl, e6, okR_t, yb_ok, e5, yb_ok, el, opF_f, yb_ok, el, opF_f, yb_ok, ne_i, opF_f, yb_ok, bolR_b, yb_ok, hlen]
      rw [show (!(((w.length : Nat) : Int) == ((w.length : Nat) : Int))) = false by simp, orR_f, yb_ok, yb_ok, eq, opF_f, yb_ok, bolR_b, yb_ok, yb_ok, if_neg (by decide)]
      trivial
  · intro w hw
    have hwl := B.lt w hw
    rw [en, opF_f, yb_ok, last_w ((B.wk w hw).ne), opF_f, yb_ok, eq_sh (sh_cl hs hwl) (sh_cl hs hd), eqv_cl hn hwl hd, opF_f, yb_ok, bolR_b, yb_ok]
    have : decide (lst w = d) = (lst w == d) := by
      rw [Bool.eq_iff_iff, decide_eq_true_eq, beq_iff_eq]
    rw [this]
theorem pure_law (ns : List Int) (h : ns.length ≤ 63) : ∃ as, f_p_law [(.frz, scrD ns)] = .ok (.frz, .at (.bl true)) as := by
  obtain ⟨r, e, rfl⟩ := law_ok ns
  have := r_p_law (scrD ns)
  rw [e] at this
  exact this
end K02

namespace K02
open PySem PySem.Spec PyProof.Rows L2 TL
/-! ### what the module's names stand for -/
structure Txt (w : World) (K : PySem.W.Frag) (mg : Str → Option Value) : Prop where
  b_abs : mg "abs" = none
  b_all : mg "all" = none
  b_any : mg "any" = none
  b_bool : mg "bool" = none
  b_enumerate : mg "enumerate" = none
  b_int : mg "int" = none
  b_isinstance : mg "isinstance" = none
  b_len : mg "len" = none
  b_list : mg "list" = none
  b_range : mg "range" = none
  b_sorted : mg "sorted" = none
  b_str : mg "str" = none
  b_tuple : mg "tuple" = none
  k_LETTERS : ∃ t, mg "LETTERS" = some (.str "abcdefghijklmnopqrstuvwxyz" t)
  k_LONGEST_NAME : ∃ t, mg "LONGEST_NAME" = some (.int 12 t)
  k_MOST_FACTS : ∃ t, mg "MOST_FACTS" = some (.int 1200 t)
  k_MOST_REGIONS : ∃ t, mg "MOST_REGIONS" = some (.int 24 t)
  k_KINDS : Cst ⟨K, mg⟩ "KINDS" c_KINDS
  k_SIGNS : CstD ⟨K, mg⟩ w "SIGNS" t_SIGNS
  c_Facts : ClsT K mg "Facts" (He.ga K "Facts")
  n_Facts_closed : NoAttr K (He.ga K "Facts") "closed"
  n_Facts_forced : NoAttr K (He.ga K "Facts") "forced"
  n_Facts_masks : NoAttr K (He.ga K "Facts") "masks"
  n_Facts_names : NoAttr K (He.ga K "Facts") "names"
  n_Facts_places : NoAttr K (He.ga K "Facts") "places"
  n_Facts_said : NoAttr K (He.ga K "Facts") "said"
  n_Facts_steps : NoAttr K (He.ga K "Facts") "steps"
section
variable {P : Program} {w : World} {K : PySem.W.Frag} {mg : Str → Option Value} {base : Heap} {f : Addr} {fd : FuncData}
def N_l_pile : List Str := ["_law_script", "_law_k", "_law_cell", "_law_great"]
theorem sc_l_pile : FnScope ["_law_script", "_law_k", "_law_cell", "_law_great"] ["_law_script", "_law_k"] (defScope s_l_pile) := ⟨rfl, rfl, rfl, by decide +kernel, rfl, by decide +kernel, by decide +kernel⟩
theorem ok_l_pile (T : Txt w K mg) (F : FunD K "_law_pile" "_law_pile" (defArgs s_l_pile) (defBody s_l_pile) (defScope s_l_pile) [] [] f fd) (hm : mg "_law_pile" = some (.ref f))  : CalH P w K mg base "_law_pile" 1 2 f_l_pile :=
  calH_mk F hm sc_l_pile (F.bindsN fun _ _ _ _ _ _ us hl => match us, hl with | [_, _], _ => rfl) rfl (fun cdv A outer s H E hr k => by
    unfold b_l_pile
    exact (l_cons (s_set 2 k x_int) (l_cons (s_if (t_cmp (c_lt k) (x_var 1) (x_len T.b_len (a_cons (x_var 0) a_nil))) (l_cons (s_set 2 k (x_ix k (x_var 0) (x_var 1))) l_nil) l_nil) (l_cons (s_set 3 k (x_mod (x_intc T.b_int (a_cons (x_var 2) a_nil)) (x_mul (x_mul (x_pow x_int x_int) (x_pow x_int x_int)) (x_pow x_int x_int)))) (l_cons (s_ret (x_lst 3 (n_cons (n_cons (n_cons n_nil))) (a_cons (x_mul (x_var 3) (x_intc T.b_int (a_cons (x_cmp (c_ge k) (x_abs T.b_abs (a_cons (x_var 2) a_nil)) (x_pow x_int x_int)) a_nil))) (a_cons (x_mod (x_intc T.b_int (a_cons (x_var 2) a_nil)) x_int) (a_cons (x_fz (x_mul x_int (x_var 1))) a_nil))))) l_nil)))))
def N_l_mixed : List Str := ["_law_cell", "_law_k", "_law_number"]
theorem sc_l_mixed : FnScope ["_law_cell", "_law_k", "_law_number"] ["_law_cell", "_law_k"] (defScope s_l_mixed) := ⟨rfl, rfl, rfl, by decide +kernel, rfl, by decide +kernel, by decide +kernel⟩
theorem ok_l_mixed (T : Txt w K mg) (F : FunD K "_law_mixed" "_law_mixed" (defArgs s_l_mixed) (defBody s_l_mixed) (defScope s_l_mixed) [] [] f fd) (hm : mg "_law_mixed" = some (.ref f))  : CalH P w K mg base "_law_mixed" 1 2 f_l_mixed :=
  calH_mk F hm sc_l_mixed (F.bindsN fun _ _ _ _ _ _ us hl => match us, hl with | [_, _], _ => rfl) rfl (fun cdv A outer s H E hr k => by
    unfold b_l_mixed
    exact (l_cons (s_set 2 k (x_mod (x_add (x_add (x_mul (x_mod (x_intc T.b_int (a_cons (x_var 0) a_nil)) x_int) x_int) (x_fz (x_mul (x_var 1) x_int))) x_int) x_int)) (l_cons (s_set 2 k (x_mod (x_mul (x_var 2) (x_var 2)) x_int)) (l_cons (s_ret (x_fdiv (x_mod (x_mul (x_var 2) (x_var 2)) x_int) x_int)) l_nil))))
def N_l_take : List Str := ["_law_pile_here", "_law_many", "_law_digit"]
theorem sc_l_take : FnScope ["_law_pile_here", "_law_many", "_law_digit"] ["_law_pile_here", "_law_many"] (defScope s_l_take) := ⟨rfl, rfl, rfl, by decide +kernel, rfl, by decide +kernel, by decide +kernel⟩
theorem ok_l_take (T : Txt w K mg) (F : FunD K "_law_take" "_law_take" (defArgs s_l_take) (defBody s_l_take) (defScope s_l_take) [] [] f fd) (hm : mg "_law_take" = some (.ref f)) (h_l_mixed : CalH P w K mg base "_law_mixed" 1 2 f_l_mixed) : CalH P w K mg base "_law_take" 2 2 f_l_take :=
  calH_mk F hm sc_l_take (F.bindsN fun _ _ _ _ _ _ us hl => match us, hl with | [_, _], _ => rfl) rfl (fun cdv A outer s H E hr k => by
    unfold b_l_take
    exact (l_cons (s_if (t_cmp (c_eq k) (x_ix k (x_var 0) x_int) x_int) (l_cons (s_putL (x_var 0) x_int (x_add (x_ix k (x_var 0) x_int) x_int)) (l_cons (s_ret (x_mod (x_call k (h_l_mixed.cal hr) (n_cons (n_cons n_nil)) (a_cons (x_ix k (x_var 0) x_int) (a_cons (x_ix k (x_var 0) x_int) a_nil))) (x_var 1))) l_nil)) l_nil) (l_cons (s_set 2 k (x_mod (x_intc T.b_int (a_cons (x_ix k (x_var 0) x_int) a_nil)) (x_var 1))) (l_cons (s_putL (x_var 0) x_int (x_fdiv (x_ix k (x_var 0) x_int) (x_var 1))) (l_cons (s_ret (x_var 2)) l_nil)))))
def N_l_names : List Str := ["_law_pile_here", "_law_many", "_law_letters", "_law_stem", "_law_at", "_law_shift", "_law_step", "_law_tail", "_law_some", "_law_plain", "_law_k", "_law_name"]
theorem sc_l_names : FnScope ["_law_pile_here", "_law_many", "_law_letters", "_law_stem", "_law_at", "_law_shift", "_law_step", "_law_tail", "_law_some", "_law_plain", "_law_k", "_law_name"] ["_law_pile_here", "_law_many"] (defScope s_l_names) := ⟨rfl, rfl, rfl, by decide +kernel, rfl, by decide +kernel, by decide +kernel⟩
theorem ok_l_names (T : Txt w K mg) (F : FunD K "_law_names" "_law_names" (defArgs s_l_names) (defBody s_l_names) (defScope s_l_names) [] [] f fd) (hm : mg "_law_names" = some (.ref f)) (h_l_take : CalH P w K mg base "_law_take" 2 2 f_l_take) : CalH P w K mg base "_law_names" 3 2 f_l_names :=
  calH_mk F hm sc_l_names (F.bindsN fun _ _ _ _ _ _ us hl => match us, hl with | [_, _], _ => rfl) rfl (fun cdv A outer s H E hr k => by
    unfold b_l_names
    exact (l_cons (s_set 2 k x_str) (l_cons (s_set 3 k (x_join x_str (a_cons (x_lc (own := [(("_law_k" : Str), 10)]) k (i_rng1 T.b_range (a_cons (x_callm k (h_l_take.cal hr) (n_cons (n_cons n_nil)) (a_cons (x_var 0) (a_cons x_int a_nil))) a_nil)) (by rfl) (by decide) (fun _ _ _ _ _ => (g_name 10 k.blk.nd)) (fun _ _ _ _ _ => ts_nil) (fun _ _ _ _ _ => (x_ix k.blk (x_var 2) (x_callm k.blk (h_l_take.cal hr) (n_cons (n_cons n_nil)) (a_cons (x_var 0) (a_cons x_int a_nil)))))) a_nil))) (l_cons (s_set 4 k (x_callm k (h_l_take.cal hr) (n_cons (n_cons n_nil)) (a_cons (x_var 0) (a_cons (x_add (x_len T.b_len (a_cons (x_var 3) a_nil)) x_int) a_nil)))) (l_cons (s_set 5 k (x_callm k (h_l_take.cal hr) (n_cons (n_cons n_nil)) (a_cons (x_var 0) (a_cons x_int a_nil)))) (l_cons (s_set 6 k (x_ix k (x_lst 12 (n_cons (n_cons (n_cons (n_cons (n_cons (n_cons (n_cons (n_cons (n_cons (n_cons (n_cons (n_cons n_nil)))))))))))) (a_cons x_int (a_cons x_int (a_cons x_int (a_cons x_int (a_cons x_int (a_cons x_int (a_cons x_int (a_cons x_int (a_cons x_int (a_cons x_int (a_cons x_int (a_cons x_int a_nil))))))))))))) (x_callm k (h_l_take.cal hr) (n_cons (n_cons n_nil)) (a_cons (x_var 0) (a_cons x_int a_nil))))) (l_cons (s_if (TWX.t (w_and (t_cmp (c_eq k) (x_mod (x_var 5) x_int) x_int) (w_and1 (t_cmp (c_lt k) (x_var 1) x_int)))) (l_cons (s_set 9 k (x_lst 15 (n_cons (n_cons (n_cons (n_cons (n_cons (n_cons (n_cons (n_cons (n_cons (n_cons (n_cons (n_cons (n_cons (n_cons (n_cons n_nil))))))))))))))) (a_cons x_str (a_cons x_str (a_cons x_str (a_cons x_str (a_cons x_str (a_cons x_str (a_cons x_str (a_cons x_str (a_cons x_str (a_cons x_str (a_cons x_str (a_cons x_str (a_cons x_str (a_cons x_str (a_cons x_str a_nil))))))))))))))))) (l_cons (s_ret (x_sl (x_add (x_sl (x_var 9) (o_some (x_add (x_fdiv (x_var 5) x_int) (x_mod (x_var 6) x_int))) o_none) (x_var 9)) o_none (o_some (x_var 1)))) l_nil)) l_nil) (l_cons (s_set 7 k (x_mul x_str (x_intc T.b_int (a_cons (x_cmp (c_lt k) (x_len T.b_len (a_cons (x_var 3) a_nil)) x_int) a_nil)))) (l_cons (s_setLc 8 (own := [(("_law_k" : Str), 10)]) k (i_rng1 T.b_range (a_cons (x_var 1) a_nil)) (by rfl) (by decide) (fun _ _ _ _ _ => (g_name 10 k.blk.nd)) (fun _ _ _ _ _ => ts_nil) (fun _ _ _ _ _ => (x_add (x_add (x_sl (x_var 3) o_none (o_some (x_var 4))) (x_ix k.blk (x_var 2) (x_mod (x_add (x_var 5) (x_fz (x_mul (x_var 6) (x_var 10)))) x_int))) (x_sl (x_var 3) (o_some (x_var 4)) o_none)))) (l_cons (s_ret (x_lc (own := [(("_law_k" : Str), 10), (("_law_name" : Str), 11)]) k (i_enum T.b_enumerate (x_var 8)) (by rfl) (by decide) (fun _ _ _ _ _ => (g_tup k.blk.calm (gs_cons (g_name 10 k.blk.nd) (gs_cons (g_name 11 k.blk.nd) gs_nil)))) (fun _ _ _ _ _ => ts_nil) (fun _ _ _ _ _ => (x_add (x_var 11) (x_mul (x_var 7) (x_mod (x_var 10) x_int)))))) l_nil))))))))))
def N_l_all : List Str := ["_law_names_here", "_law_found", "_law_name", "_law_patch"]
theorem sc_l_all : FnScope ["_law_names_here", "_law_found", "_law_name", "_law_patch"] ["_law_names_here"] (defScope s_l_all) := ⟨rfl, rfl, rfl, by decide +kernel, rfl, by decide +kernel, by decide +kernel⟩
theorem ok_l_all (T : Txt w K mg) (F : FunD K "_law_all" "_law_all" (defArgs s_l_all) (defBody s_l_all) (defScope s_l_all) [] [] f fd) (hm : mg "_law_all" = some (.ref f))  : CalH P w K mg base "_law_all" 1 1 f_l_all :=
  calH_mk F hm sc_l_all (F.bindsN fun _ _ _ _ _ _ us hl => match us, hl with | [_], _ => rfl) rfl (fun cdv A outer s H E hr k => by
    unfold b_l_all
    exact (l_cons (s_set 1 k (x_lst 1 (n_cons n_nil) (a_cons (x_lst 0 n_nil a_nil) a_nil))) (l_cons (s_for k (i_seq (x_rev (x_var 0))) (g_name 2 k.nd) (l_cons (s_set 1 k (x_add (x_var 1) (x_lc (own := [(("_law_patch" : Str), 3)]) k (i_seq (x_var 1)) (by rfl) (by decide) (fun _ _ _ _ _ => (g_name 3 k.blk.nd)) (fun _ _ _ _ _ => ts_nil) (fun _ _ _ _ _ => (x_add (x_lst 1 (n_cons n_nil) (a_cons (x_var 2) a_nil)) (x_var 3)))))) (l_gh l_nil))) (l_cons (s_ret (x_var 1)) l_nil))))
def N_l_facts : List Str := ["_law_pile_here", "_law_names_here", "_law_most", "_law_found", "_law_way", "_law_turn", "_law_kind", "_law_one", "_law_other"]
theorem sc_l_facts : FnScope ["_law_pile_here", "_law_names_here", "_law_most", "_law_found", "_law_way", "_law_turn", "_law_kind", "_law_one", "_law_other"] ["_law_pile_here", "_law_names_here", "_law_most"] (defScope s_l_facts) := ⟨rfl, rfl, rfl, by decide +kernel, rfl, by decide +kernel, by decide +kernel⟩
theorem ok_l_facts (T : Txt w K mg) (F : FunD K "_law_facts" "_law_facts" (defArgs s_l_facts) (defBody s_l_facts) (defScope s_l_facts) [] [] f fd) (hm : mg "_law_facts" = some (.ref f)) (h_l_take : CalH P w K mg base "_law_take" 2 2 f_l_take) : CalH P w K mg base "_law_facts" 3 3 f_l_facts :=
  calH_mk F hm sc_l_facts (F.bindsN fun _ _ _ _ _ _ us hl => match us, hl with | [_, _, _], _ => rfl) rfl (fun cdv A outer s H E hr k => by
    unfold b_l_facts
    exact (l_cons (s_set 3 k (x_lst 0 n_nil a_nil)) (l_cons (s_set 4 k (x_callm k (h_l_take.cal hr) (n_cons (n_cons n_nil)) (a_cons (x_var 0) (a_cons x_int a_nil)))) (l_cons (s_for k (i_rng1 T.b_range (a_cons (x_callm k (h_l_take.cal hr) (n_cons (n_cons n_nil)) (a_cons (x_var 0) (a_cons (x_add (x_var 2) x_int) a_nil))) a_nil)) (g_name 5 k.nd) (l_cons (s_set 6 k (x_ix k (x_lst 3 (n_cons (n_cons (n_cons n_nil))) (a_cons x_str (a_cons x_str (a_cons x_str a_nil)))) (x_ix k (x_lst 5 (n_cons (n_cons (n_cons (n_cons (n_cons n_nil))))) (a_cons x_int (a_cons x_int (a_cons x_int (a_cons x_int (a_cons x_int a_nil)))))) (x_callm k (h_l_take.cal hr) (n_cons (n_cons n_nil)) (a_cons (x_var 0) (a_cons x_int a_nil)))))) (l_cons (s_if (t_cmp (c_eq k) (x_var 4) x_int) (l_cons (s_set 6 k x_str) l_nil) l_nil) (l_cons (s_if (t_cmp (c_eq k) (x_var 4) x_int) (l_cons (s_set 6 k (x_ix k (x_lst 2 (n_cons (n_cons n_nil)) (a_cons x_str (a_cons x_str a_nil))) (x_callm k (h_l_take.cal hr) (n_cons (n_cons n_nil)) (a_cons (x_var 0) (a_cons x_int a_nil))))) l_nil) l_nil) (l_cons (s_set 7 k (x_ix k (x_var 1) (x_callm k (h_l_take.cal hr) (n_cons (n_cons n_nil)) (a_cons (x_var 0) (a_cons (x_len T.b_len (a_cons (x_var 1) a_nil)) a_nil))))) (l_cons (s_set 8 k (x_ix k (x_var 1) (x_callm k (h_l_take.cal hr) (n_cons (n_cons n_nil)) (a_cons (x_var 0) (a_cons (x_len T.b_len (a_cons (x_var 1) a_nil)) a_nil))))) (l_cons (s_expr (x_append (x_var 3) (a_cons (x_tup 3 (n_cons (n_cons (n_cons n_nil))) (a_cons (x_var 6) (a_cons (x_var 7) (a_cons (x_var 8) a_nil)))) a_nil))) (l_gh l_nil)))))))) (l_cons (s_ret (x_var 3)) l_nil)))))
def N_l_keeps : List Str := ["_law_patch", "_law_fact", "_law_kind", "_law_one", "_law_other"]
theorem sc_l_keeps : FnScope ["_law_patch", "_law_fact", "_law_kind", "_law_one", "_law_other"] ["_law_patch", "_law_fact"] (defScope s_l_keeps) := ⟨rfl, rfl, rfl, by decide +kernel, rfl, by decide +kernel, by decide +kernel⟩
theorem ok_l_keeps (T : Txt w K mg) (F : FunD K "_law_keeps" "_law_keeps" (defArgs s_l_keeps) (defBody s_l_keeps) (defScope s_l_keeps) [] [] f fd) (hm : mg "_law_keeps" = some (.ref f))  : CalH P w K mg base "_law_keeps" 1 2 f_l_keeps :=
  calH_mk F hm sc_l_keeps (F.bindsN fun _ _ _ _ _ _ us hl => match us, hl with | [_, _], _ => rfl) rfl (fun cdv A outer s H E hr k => by
    unfold b_l_keeps
    exact (l_cons (s_asg (x_var 1) (g_tup k.calm (gs_cons (g_name 2 k.nd) (gs_cons (g_name 3 k.nd) (gs_cons (g_name 4 k.nd) gs_nil))))) (l_cons (s_if (t_cmp (c_eq k) (x_var 2) x_str) (l_cons (s_ret (x_or (x_cmp (c_nin k) (x_var 3) (x_var 0)) (x_one (x_cmp (c_in k) (x_var 4) (x_var 0))))) l_nil) l_nil) (l_cons (s_if (t_cmp (c_eq k) (x_var 2) x_str) (l_cons (s_ret (x_or (x_cmp (c_nin k) (x_var 3) (x_var 0)) (x_one (x_cmp (c_nin k) (x_var 4) (x_var 0))))) l_nil) l_nil) (l_cons (s_ret (x_or (x_cmp (c_in k) (x_var 3) (x_var 0)) (x_one (x_cmp (c_in k) (x_var 4) (x_var 0))))) l_nil)))))
def N_l_held : List Str := ["_law_pile_here", "_law_names_here", "_law_most", "_law_facts_here", "_law_patches", "_law_fact", "_law_some", "_law_patch"]
theorem sc_l_held : FnScope ["_law_pile_here", "_law_names_here", "_law_most", "_law_facts_here", "_law_patches", "_law_fact", "_law_some", "_law_patch"] ["_law_pile_here", "_law_names_here", "_law_most"] (defScope s_l_held) := ⟨rfl, rfl, rfl, by decide +kernel, rfl, by decide +kernel, by decide +kernel⟩
theorem ok_l_held (T : Txt w K mg) (F : FunD K "_law_held" "_law_held" (defArgs s_l_held) (defBody s_l_held) (defScope s_l_held) [] [] f fd) (hm : mg "_law_held" = some (.ref f)) (h_l_all : CalH P w K mg base "_law_all" 1 1 f_l_all) (h_l_facts : CalH P w K mg base "_law_facts" 3 3 f_l_facts) (h_l_keeps : CalH P w K mg base "_law_keeps" 1 2 f_l_keeps) : CalH P w K mg base "_law_held" 4 3 f_l_held :=
  calH_mk F hm sc_l_held (F.bindsN fun _ _ _ _ _ _ us hl => match us, hl with | [_, _, _], _ => rfl) rfl (fun cdv A outer s H E hr k => by
    unfold b_l_held
    exact (l_cons (s_set 3 k (x_lst 0 n_nil a_nil)) (l_cons (s_set 4 k (x_call k (h_l_all.cal hr) (n_cons n_nil) (a_cons (x_var 1) a_nil))) (l_gh (l_cons (s_for k (i_seq (x_callm k (h_l_facts.cal hr) (n_cons (n_cons (n_cons n_nil))) (a_cons (x_var 0) (a_cons (x_var 1) (a_cons (x_var 2) a_nil))))) (g_name 5 k.nd) (l_cons (s_setLc 6 (own := [(("_law_patch" : Str), 7)]) k (i_seq (x_var 4)) (by rfl) (by decide) (fun _ _ _ _ _ => (g_name 7 k.blk.nd)) (fun _ _ _ _ _ => (ts_one (t_truth (x_call k.blk (h_l_keeps.cal hr) (n_cons (n_cons n_nil)) (a_cons (x_var 7) (a_cons (x_var 5) a_nil)))))) (fun _ _ _ _ _ => (x_var 7))) (l_cons (s_if (t_cmp (c_ne k) (x_var 6) (x_lst 0 n_nil a_nil)) (l_cons (s_set 4 k (x_var 6)) (l_cons (s_expr (x_append (x_var 3) (a_cons (x_var 5) a_nil))) l_nil)) (l_gh l_nil)) (l_gh l_nil)))) (l_cons (s_ret (x_var 3)) l_nil))))))
def N_p_is_name : List Str := ["thing", "letter"]
theorem sc_p_is_name : FnScope ["thing", "letter"] ["thing"] (defScope s_p_is_name) := ⟨rfl, rfl, rfl, by decide +kernel, rfl, by decide +kernel, by decide +kernel⟩
theorem ok_p_is_name (T : Txt w K mg) (F : FunD K "is_name" "is_name" (defArgs s_p_is_name) (defBody s_p_is_name) (defScope s_p_is_name) [] [] f fd) (hm : mg "is_name" = some (.ref f))  : CalH P w K mg base "is_name" 1 1 f_p_is_name :=
  calH_mk F hm sc_p_is_name (F.bindsN fun _ _ _ _ _ _ us hl => match us, hl with | [_], _ => rfl) rfl (fun cdv A outer s H E hr k => by
    unfold b_p_is_name
    exact (l_cons (s_if (TWX.t (w_or (t_not (t_truth (x_isiB (T := .str) b_str T.b_str T.b_isinstance (x_var 0)))) (w_or1 (t_not (t_chain (c_le k) (c_le k) x_int (x_len T.b_len (a_cons (x_var 0) a_nil)) (x_gint T.k_LONGEST_NAME)))))) (l_cons (s_ret x_bl) l_nil) l_nil) (l_cons (s_ret (x_all k T.b_all (a_cons (x_lc (own := [(("letter" : Str), 1)]) k (i_seq (x_var 0)) (by rfl) (by decide) (fun _ _ _ _ _ => (g_name 1 k.blk.nd)) (fun _ _ _ _ _ => ts_nil) (fun _ _ _ _ _ => (x_cmp (c_in k.blk) (x_var 1) (x_gstr T.k_LETTERS)))) a_nil))) l_nil)))
def N_p_checked_regions : List Str := ["regions", "place", "thing"]
theorem sc_p_checked_regions : FnScope ["regions", "place", "thing"] ["regions"] (defScope s_p_checked_regions) := ⟨rfl, rfl, rfl, by decide +kernel, rfl, by decide +kernel, by decide +kernel⟩
theorem ok_p_checked_regions (T : Txt w K mg) (F : FunD K "checked_regions" "checked_regions" (defArgs s_p_checked_regions) (defBody s_p_checked_regions) (defScope s_p_checked_regions) [] [] f fd) (hm : mg "checked_regions" = some (.ref f)) (h_p_is_name : CalH P w K mg base "is_name" 1 1 f_p_is_name) : CalH P w K mg base "checked_regions" 2 1 f_p_checked_regions :=
  calH_mk F hm sc_p_checked_regions (F.bindsN fun _ _ _ _ _ _ us hl => match us, hl with | [_], _ => rfl) rfl (fun cdv A outer s H E hr k => by
    unfold b_p_checked_regions
    exact (l_cons (s_if (TWX.t (w_or (t_not (t_truth (x_isiB (T := .lst) b_list T.b_list T.b_isinstance (x_var 0)))) (w_or1 (t_not (t_chain (c_le k) (c_le k) x_int (x_len T.b_len (a_cons (x_var 0) a_nil)) (x_gint T.k_MOST_REGIONS)))))) (l_cons s_bad l_nil) l_nil) (l_cons (s_for k (i_enum T.b_enumerate (x_var 0)) (g_tup k.calm (gs_cons (g_name 1 k.nd) (gs_cons (g_name 2 k.nd) gs_nil))) (l_cons (s_if (TWX.t (w_or (t_not (t_truth (x_call k (h_p_is_name.cal hr) (n_cons n_nil) (a_cons (x_var 2) a_nil)))) (w_or1 (t_cmp (c_in k) (x_var 2) (x_fz (x_sl (x_var 0) o_none (o_some (x_var 1)))))))) (l_cons s_bad l_nil) l_nil) (l_gh l_nil))) (l_cons (s_ret (x_list T.b_list (a_cons (x_var 0) a_nil))) l_nil))))
def N_p_is_region : List Str := ["places", "thing"]
theorem sc_p_is_region : FnScope ["places", "thing"] ["places", "thing"] (defScope s_p_is_region) := ⟨rfl, rfl, rfl, by decide +kernel, rfl, by decide +kernel, by decide +kernel⟩
theorem ok_p_is_region (T : Txt w K mg) (F : FunD K "is_region" "is_region" (defArgs s_p_is_region) (defBody s_p_is_region) (defScope s_p_is_region) [] [] f fd) (hm : mg "is_region" = some (.ref f))  : CalH P w K mg base "is_region" 1 2 f_p_is_region :=
  calH_mk F hm sc_p_is_region (F.bindsN fun _ _ _ _ _ _ us hl => match us, hl with | [_, _], _ => rfl) rfl (fun cdv A outer s H E hr k => by
    unfold b_p_is_region
    exact (l_cons (s_ret (x_and (x_isiB (T := .str) b_str T.b_str T.b_isinstance (x_var 1)) (x_one (x_cmp (c_in k) (x_var 1) (x_var 0))))) l_nil))
def N_p_is_fact : List Str := ["places", "thing"]
theorem sc_p_is_fact : FnScope ["places", "thing"] ["places", "thing"] (defScope s_p_is_fact) := ⟨rfl, rfl, rfl, by decide +kernel, rfl, by decide +kernel, by decide +kernel⟩
theorem ok_p_is_fact (T : Txt w K mg) (F : FunD K "is_fact" "is_fact" (defArgs s_p_is_fact) (defBody s_p_is_fact) (defScope s_p_is_fact) [] [] f fd) (hm : mg "is_fact" = some (.ref f)) (h_p_is_region : CalH P w K mg base "is_region" 1 2 f_p_is_region) : CalH P w K mg base "is_fact" 2 2 f_p_is_fact :=
  calH_mk F hm sc_p_is_fact (F.bindsN fun _ _ _ _ _ _ us hl => match us, hl with | [_, _], _ => rfl) rfl (fun cdv A outer s H E hr k => by
    unfold b_p_is_fact
    exact (l_cons (s_if (TWX.t (w_or (t_not (t_truth (x_isiB (T := .tup) b_tuple T.b_tuple T.b_isinstance (x_var 1)))) (w_or1 (t_cmp (c_ne k) (x_len T.b_len (a_cons (x_var 1) a_nil)) x_int)))) (l_cons (s_ret x_bl) l_nil) l_nil) (l_cons (s_if (TWX.t (w_or (t_not (t_truth (x_isiB (T := .str) b_str T.b_str T.b_isinstance (x_ix k (x_var 1) x_int)))) (w_or1 (t_cmp (c_nin k) (x_ix k (x_var 1) x_int) (x_gcst T.k_KINDS))))) (l_cons (s_ret x_bl) l_nil) l_nil) (l_cons (s_ret (x_and (x_call k (h_p_is_region.cal hr) (n_cons (n_cons n_nil)) (a_cons (x_var 0) (a_cons (x_ix k (x_var 1) x_int) a_nil))) (x_one (x_call k (h_p_is_region.cal hr) (n_cons (n_cons n_nil)) (a_cons (x_var 0) (a_cons (x_ix k (x_var 1) x_int) a_nil)))))) l_nil))))
def N_p_checked_facts : List Str := ["places", "facts", "place", "thing"]
theorem sc_p_checked_facts : FnScope ["places", "facts", "place", "thing"] ["places", "facts"] (defScope s_p_checked_facts) := ⟨rfl, rfl, rfl, by decide +kernel, rfl, by decide +kernel, by decide +kernel⟩
theorem ok_p_checked_facts (T : Txt w K mg) (F : FunD K "checked_facts" "checked_facts" (defArgs s_p_checked_facts) (defBody s_p_checked_facts) (defScope s_p_checked_facts) [] [] f fd) (hm : mg "checked_facts" = some (.ref f)) (h_p_is_fact : CalH P w K mg base "is_fact" 2 2 f_p_is_fact) : CalH P w K mg base "checked_facts" 3 2 f_p_checked_facts :=
  calH_mk F hm sc_p_checked_facts (F.bindsN fun _ _ _ _ _ _ us hl => match us, hl with | [_, _], _ => rfl) rfl (fun cdv A outer s H E hr k => by
    unfold b_p_checked_facts
    exact (l_cons (s_if (TWX.t (w_or (t_not (t_truth (x_isiB (T := .lst) b_list T.b_list T.b_isinstance (x_var 1)))) (w_or1 (t_cmp (c_gt k) (x_len T.b_len (a_cons (x_var 1) a_nil)) (x_gint T.k_MOST_FACTS))))) (l_cons s_bad l_nil) l_nil) (l_cons (s_for k (i_enum T.b_enumerate (x_var 1)) (g_tup k.calm (gs_cons (g_name 2 k.nd) (gs_cons (g_name 3 k.nd) gs_nil))) (l_cons (s_if (t_not (t_truth (x_call k (h_p_is_fact.cal hr) (n_cons (n_cons n_nil)) (a_cons (x_var 0) (a_cons (x_var 3) a_nil))))) (l_cons s_bad l_nil) l_nil) (l_gh l_nil))) (l_cons (s_ret (x_list T.b_list (a_cons (x_var 1) a_nil))) l_nil))))
def N_p_breaking : List Str := ["places", "fact", "kind", "one", "other"]
theorem sc_p_breaking : FnScope ["places", "fact", "kind", "one", "other"] ["places", "fact"] (defScope s_p_breaking) := ⟨rfl, rfl, rfl, by decide +kernel, rfl, by decide +kernel, by decide +kernel⟩
theorem ok_p_breaking (T : Txt w K mg) (F : FunD K "breaking" "breaking" (defArgs s_p_breaking) (defBody s_p_breaking) (defScope s_p_breaking) [] [] f fd) (hm : mg "breaking" = some (.ref f))  : CalH P w K mg base "breaking" 1 2 f_p_breaking :=
  calH_mk F hm sc_p_breaking (F.bindsN fun _ _ _ _ _ _ us hl => match us, hl with | [_, _], _ => rfl) rfl (fun cdv A outer s H E hr k => by
    unfold b_p_breaking
    exact (l_cons (s_asg (x_var 1) (g_tup k.calm (gs_cons (g_name 2 k.nd) (gs_cons (g_name 3 k.nd) (gs_cons (g_name 4 k.nd) gs_nil))))) (l_cons (s_ret (x_tup 2 (n_cons (n_cons n_nil)) (a_cons (x_fz (x_add (x_fz (x_mul x_int (x_ix k (x_var 0) (x_var 3)))) (x_ix k (x_gdic T.k_SIGNS (x_var 2)) x_int))) (a_cons (x_fz (x_add (x_fz (x_mul x_int (x_ix k (x_var 0) (x_var 4)))) (x_ix k (x_gdic T.k_SIGNS (x_var 2)) x_int))) a_nil)))) l_nil)))
def N_p_steps_of : List Str := ["places", "facts", "pairs", "fact", "one", "other", "claim", "here", "later"]
theorem sc_p_steps_of : FnScope ["places", "facts", "pairs", "fact", "one", "other", "claim", "here", "later"] ["places", "facts"] (defScope s_p_steps_of) := ⟨rfl, rfl, rfl, by decide +kernel, rfl, by decide +kernel, by decide +kernel⟩
theorem ok_p_steps_of (T : Txt w K mg) (F : FunD K "steps_of" "steps_of" (defArgs s_p_steps_of) (defBody s_p_steps_of) (defScope s_p_steps_of) [] [] f fd) (hm : mg "steps_of" = some (.ref f)) (h_p_breaking : CalH P w K mg base "breaking" 1 2 f_p_breaking) : CalH P w K mg base "steps_of" 2 2 f_p_steps_of :=
  calH_mk F hm sc_p_steps_of (F.bindsN fun _ _ _ _ _ _ us hl => match us, hl with | [_, _], _ => rfl) rfl (fun cdv A outer s H E hr k => by
    unfold b_p_steps_of
    exact (l_cons (s_set 2 k x_dicT) (l_cons (s_for k (i_seq (x_var 1)) (g_name 3 k.nd) (l_cons (s_asg (x_call k (h_p_breaking.cal hr) (n_cons (n_cons n_nil)) (a_cons (x_var 0) (a_cons (x_var 3) a_nil))) (g_tup k.calm (gs_cons (g_name 4 k.nd) (gs_cons (g_name 5 k.nd) gs_nil)))) (l_cons (s_putD k (x_var 2) (x_tup 2 (n_cons (n_cons n_nil)) (a_cons (x_var 4) (a_cons (x_bxor (x_var 5) x_int) a_nil))) x_bl) (l_cons (s_putD k (x_var 2) (x_tup 2 (n_cons (n_cons n_nil)) (a_cons (x_var 5) (a_cons (x_bxor (x_var 4) x_int) a_nil))) x_bl) (l_gh l_nil))))) (l_cons (s_ret (x_lc (own := [(("claim" : Str), 6)]) k (i_rng1 T.b_range (a_cons (x_mul x_int (x_len T.b_len (a_cons (x_var 0) a_nil))) a_nil)) (by rfl) (by decide) (fun _ _ _ _ _ => (g_name 6 k.blk.nd)) (fun _ _ _ _ _ => ts_nil) (fun _ _ _ _ _ => (x_sorted T.b_sorted (a_cons (x_lock 2 (x_lc (own := [(("here" : Str), 7), (("later" : Str), 8)]) k.blk (i_keys (x_var 2)) (by rfl) (by decide) (fun _ _ _ _ _ => (g_tup k.blk.blk.calm (gs_cons (g_name 7 k.blk.blk.nd) (gs_cons (g_name 8 k.blk.blk.nd) gs_nil)))) (fun _ _ _ _ _ => (ts_one (t_cmp (c_eq k.blk.blk) (x_var 7) (x_var 6)))) (fun _ _ _ _ _ => (x_var 8)))) a_nil))))) l_nil))))
def N_p_mask_of : List Str := ["claims", "found", "claim"]
theorem sc_p_mask_of : FnScope ["claims", "found", "claim"] ["claims"] (defScope s_p_mask_of) := ⟨rfl, rfl, rfl, by decide +kernel, rfl, by decide +kernel, by decide +kernel⟩
theorem ok_p_mask_of (T : Txt w K mg) (F : FunD K "mask_of" "mask_of" (defArgs s_p_mask_of) (defBody s_p_mask_of) (defScope s_p_mask_of) [] [] f fd) (hm : mg "mask_of" = some (.ref f))  : CalH P w K mg base "mask_of" 1 1 f_p_mask_of :=
  calH_mk F hm sc_p_mask_of (F.bindsN fun _ _ _ _ _ _ us hl => match us, hl with | [_], _ => rfl) rfl (fun cdv A outer s H E hr k => by
    unfold b_p_mask_of
    exact (l_cons (s_set 1 k x_int) (l_cons (s_for k (i_seq (x_var 0)) (g_name 2 k.nd) (l_cons (s_set 1 k (x_bor (x_var 1) (x_shl x_int (x_var 2)))) (l_gh l_nil))) (l_cons (s_ret (x_var 1)) l_nil))))
def N_p_reached : List Str := ["steps", "claim", "ways", "pile", "place", "here", "later"]
theorem sc_p_reached : FnScope ["steps", "claim", "ways", "pile", "place", "here", "later"] ["steps", "claim"] (defScope s_p_reached) := ⟨rfl, rfl, rfl, by decide +kernel, rfl, by decide +kernel, by decide +kernel⟩
theorem ok_p_reached (T : Txt w K mg) (F : FunD K "reached" "reached" (defArgs s_p_reached) (defBody s_p_reached) (defScope s_p_reached) [] [] f fd) (hm : mg "reached" = some (.ref f))  : CalH P w K mg base "reached" 1 2 f_p_reached :=
  calH_mk F hm sc_p_reached (F.bindsN fun _ _ _ _ _ _ us hl => match us, hl with | [_, _], _ => rfl) rfl (fun cdv A outer s H E hr k => by
    unfold b_p_reached
    exact (l_cons (s_set 2 k (x_disp (d_cons (x_var 1) (x_lst 1 (n_cons n_nil) (a_cons (x_var 1) a_nil)) d_nil))) (l_cons (s_set 3 k (x_lst 1 (n_cons n_nil) (a_cons (x_var 1) a_nil))) (l_cons (s_set 4 k x_int) (l_cons (s_while 1000 k (t_cmp (c_lt k) (x_var 4) (x_len T.b_len (a_cons (x_var 3) a_nil))) (l_cons (s_set 5 k (x_ix k (x_var 3) (x_var 4))) (l_cons (s_set 4 k (x_add (x_var 4) x_int)) (l_cons (s_for k (i_seq (x_ix k (x_var 0) (x_var 5))) (g_name 6 k.nd) (l_cons (s_if (t_cmp (c_nin k) (x_var 6) (x_var 2)) (l_cons (s_putD k (x_var 2) (x_var 6) (x_add (x_ix k (x_var 2) (x_var 5)) (x_lst 1 (n_cons n_nil) (a_cons (x_var 6) a_nil)))) (l_cons (s_expr (x_append (x_var 3) (a_cons (x_var 6) a_nil))) l_nil)) l_nil) (l_gh l_nil))) (l_gh l_nil))))) (l_cons (s_ret (x_var 2)) l_nil))))))
def N_p_candidates : List Str := ["names", "found", "one", "kind", "place", "other"]
theorem sc_p_candidates : FnScope ["names", "found", "one", "kind", "place", "other"] ["names"] (defScope s_p_candidates) := ⟨rfl, rfl, rfl, by decide +kernel, rfl, by decide +kernel, by decide +kernel⟩
theorem ok_p_candidates (T : Txt w K mg) (F : FunD K "candidates" "candidates" (defArgs s_p_candidates) (defBody s_p_candidates) (defScope s_p_candidates) [] [] f fd) (hm : mg "candidates" = some (.ref f))  : CalH P w K mg base "candidates" 1 1 f_p_candidates :=
  calH_mk F hm sc_p_candidates (F.bindsN fun _ _ _ _ _ _ us hl => match us, hl with | [_], _ => rfl) rfl (fun cdv A outer s H E hr k => by
    unfold b_p_candidates
    exact (l_cons (s_set 1 k (x_lst 0 n_nil a_nil)) (l_cons (s_for k (i_seq (x_var 0)) (g_name 2 k.nd) (l_cons (s_expr (x_extend (x_var 1) (a_cons (x_lc (own := [(("other" : Str), 5)]) k (i_seq (x_var 0)) (by rfl) (by decide) (fun _ _ _ _ _ => (g_name 5 k.blk.nd)) (fun _ _ _ _ _ => (ts_one (t_cmp (c_ne k.blk) (x_var 5) (x_var 2)))) (fun _ _ _ _ _ => (x_tup 3 (n_cons (n_cons (n_cons n_nil))) (a_cons x_str (a_cons (x_var 2) (a_cons (x_var 5) a_nil)))))) a_nil))) (l_gh l_nil))) (l_cons (s_for k (i_seq (x_tup 2 (n_cons (n_cons n_nil)) (a_cons x_str (a_cons x_str a_nil)))) (g_name 3 k.nd) (l_cons (s_for k (i_enum T.b_enumerate (x_var 0)) (g_tup k.calm (gs_cons (g_name 4 k.nd) (gs_cons (g_name 2 k.nd) gs_nil))) (l_cons (s_expr (x_extend (x_var 1) (a_cons (x_lc (own := [(("other" : Str), 5)]) k (i_seq (x_fz (x_sl (x_var 0) (o_some (x_var 4)) o_none))) (by rfl) (by decide) (fun _ _ _ _ _ => (g_name 5 k.blk.nd)) (fun _ _ _ _ _ => ts_nil) (fun _ _ _ _ _ => (x_tup 3 (n_cons (n_cons (n_cons n_nil))) (a_cons (x_var 3) (a_cons (x_var 2) (a_cons (x_var 5) a_nil)))))) a_nil))) (l_gh l_nil))) (l_gh l_nil))) (l_cons (s_ret (x_var 1)) l_nil)))))
def N_p_clashes : List Str := ["mask", "both", "claim"]
theorem sc_p_clashes : FnScope ["mask", "both", "claim"] ["mask"] (defScope s_p_clashes) := ⟨rfl, rfl, rfl, by decide +kernel, rfl, by decide +kernel, by decide +kernel⟩
theorem ok_p_clashes (T : Txt w K mg) (F : FunD K "clashes" "clashes" (defArgs s_p_clashes) (defBody s_p_clashes) (defScope s_p_clashes) [] [] f fd) (hm : mg "clashes" = some (.ref f))  : CalH P w K mg base "clashes" 1 1 f_p_clashes :=
  calH_mk F hm sc_p_clashes (F.bindsN fun _ _ _ _ _ _ us hl => match us, hl with | [_], _ => rfl) rfl (fun cdv A outer s H E hr k => by
    unfold b_p_clashes
    exact (l_cons (s_set 1 k (x_band (x_var 0) (x_shr (x_var 0) x_int))) (l_cons (s_ret (x_any k T.b_any (a_cons (x_lc (own := [(("claim" : Str), 2)]) k (i_rng3 T.b_range (a_cons x_int (a_cons (x_bits (x_var 0)) (a_cons x_int a_nil)))) (by rfl) (by decide) (fun _ _ _ _ _ => (g_name 2 k.blk.nd)) (fun _ _ _ _ _ => ts_nil) (fun _ _ _ _ _ => (x_cmp (c_eq k.blk) (x_band (x_shr (x_var 1) (x_var 2)) x_int) x_int))) a_nil))) l_nil)))
def N_p_follows : List Str := ["facts", "fact", "one", "other"]
theorem sc_p_follows : FnScope ["facts", "fact", "one", "other"] ["facts", "fact"] (defScope s_p_follows) := ⟨rfl, rfl, rfl, by decide +kernel, rfl, by decide +kernel, by decide +kernel⟩
theorem ok_p_follows (T : Txt w K mg) (F : FunD K "follows" "follows" (defArgs s_p_follows) (defBody s_p_follows) (defScope s_p_follows) [] [] f fd) (hm : mg "follows" = some (.ref f)) (h_p_breaking : CalH P w K mg base "breaking" 1 2 f_p_breaking) (h_p_clashes : CalH P w K mg base "clashes" 1 1 f_p_clashes) : CalH P w K mg base "follows" 2 2 f_p_follows :=
  calH_mk F hm sc_p_follows (F.bindsN fun _ _ _ _ _ _ us hl => match us, hl with | [_, _], _ => rfl) rfl (fun cdv A outer s H E hr k => by
    unfold b_p_follows
    exact (l_cons (s_asg (x_call k (h_p_breaking.cal hr) (n_cons (n_cons n_nil)) (a_cons (x_fld T.c_Facts.x T.n_Facts_places (x_var 0)) (a_cons (x_var 1) a_nil))) (g_tup k.calm (gs_cons (g_name 2 k.nd) (gs_cons (g_name 3 k.nd) gs_nil)))) (l_cons (s_ret (x_call k (h_p_clashes.cal hr) (n_cons n_nil) (a_cons (x_bor (x_ix k (x_fld T.c_Facts.x T.n_Facts_masks (x_var 0)) (x_var 2)) (x_ix k (x_fld T.c_Facts.x T.n_Facts_masks (x_var 0)) (x_var 3))) a_nil))) l_nil)))
def N_m_Facts___init__ : List Str := ["self", "regions", "facts", "claim", "there", "back", "fact", "place", "name"]
theorem sc_m_Facts___init__ : FnScope ["self", "regions", "facts", "claim", "there", "back", "fact", "place", "name"] ["self", "regions", "facts"] (defScope s_m_Facts___init__) := ⟨rfl, rfl, rfl, by decide +kernel, rfl, by decide +kernel, by decide +kernel⟩
theorem ok_m_Facts___init__ (T : Txt w K mg) (F : FunD K "__init__" "Facts.__init__" (defArgs s_m_Facts___init__) (defBody s_m_Facts___init__) (defScope s_m_Facts___init__) [] [] f fd) (hm : Mk K (He.ga K "Facts") f) (h_p_checked_regions : CalH P w K mg base "checked_regions" 2 1 f_p_checked_regions) (h_p_checked_facts : CalH P w K mg base "checked_facts" 3 2 f_p_checked_facts) (h_p_steps_of : CalH P w K mg base "steps_of" 2 2 f_p_steps_of) (h_p_mask_of : CalH P w K mg base "mask_of" 1 1 f_p_mask_of) (h_p_reached : CalH P w K mg base "reached" 1 2 f_p_reached) (h_p_candidates : CalH P w K mg base "candidates" 1 1 f_p_candidates) (h_p_follows : CalH P w K mg base "follows" 2 2 f_p_follows) : CalHK P w K mg base "Facts" 4 3 f_m_Facts___init__ :=
  calHK_mk (m := "__init__") F T.c_Facts hm sc_m_Facts___init__ (F.bindsN fun _ _ _ _ _ _ us hl => match us, hl with | [_, _, _], _ => rfl) rfl (fun cdv A outer s H E hr k => by
    unfold b_m_Facts___init__
    exact (l_cons (s_fld T.c_Facts.x T.n_Facts_names (x_var 0) (x_call k (h_p_checked_regions.cal hr) (n_cons n_nil) (a_cons (x_var 1) a_nil))) (l_cons (s_fld T.c_Facts.x T.n_Facts_places (x_var 0) (x_dc (own := [(("place" : Str), 7), (("name" : Str), 8)]) k (i_enum T.b_enumerate (x_fld T.c_Facts.x T.n_Facts_names (x_var 0))) (by rfl) (by decide) (fun _ _ _ _ _ => (g_tup k.blk.calm (gs_cons (g_name 7 k.blk.nd) (gs_cons (g_name 8 k.blk.nd) gs_nil)))) (fun _ _ _ _ _ => ts_nil) (fun _ _ _ _ _ => (x_var 8)) (fun _ _ _ _ _ => (x_var 7)))) (l_cons (s_fld T.c_Facts.x T.n_Facts_said (x_var 0) (x_call k (h_p_checked_facts.cal hr) (n_cons (n_cons n_nil)) (a_cons (x_fld T.c_Facts.x T.n_Facts_places (x_var 0)) (a_cons (x_var 2) a_nil)))) (l_cons (s_fld T.c_Facts.x T.n_Facts_steps (x_var 0) (x_call k (h_p_steps_of.cal hr) (n_cons (n_cons n_nil)) (a_cons (x_fld T.c_Facts.x T.n_Facts_places (x_var 0)) (a_cons (x_fld T.c_Facts.x T.n_Facts_said (x_var 0)) a_nil)))) (l_cons (s_fld T.c_Facts.x T.n_Facts_masks (x_var 0) (x_lc (own := [(("claim" : Str), 3)]) k (i_rng1 T.b_range (a_cons (x_len T.b_len (a_cons (x_fld T.c_Facts.x T.n_Facts_steps (x_var 0)) a_nil)) a_nil)) (by rfl) (by decide) (fun _ _ _ _ _ => (g_name 3 k.blk.nd)) (fun _ _ _ _ _ => ts_nil) (fun _ _ _ _ _ => (x_call k.blk (h_p_mask_of.cal hr) (n_cons n_nil) (a_cons (x_listA k.blk T.b_list (a_cons (x_call k.blk (h_p_reached.cal hr) (n_cons (n_cons n_nil)) (a_cons (x_fld T.c_Facts.x T.n_Facts_steps (x_var 0)) (a_cons (x_var 3) a_nil))) a_nil)) a_nil))))) (l_cons (s_for k (i_rng3 T.b_range (a_cons x_int (a_cons (x_len T.b_len (a_cons (x_fld T.c_Facts.x T.n_Facts_masks (x_var 0)) a_nil)) (a_cons x_int a_nil)))) (g_name 3 k.nd) (l_cons (s_if (TWX.t (w_and (t_cmp (c_eq k) (x_band (x_shr (x_ix k (x_fld T.c_Facts.x T.n_Facts_masks (x_var 0)) (x_var 3)) (x_add (x_var 3) x_int)) x_int) x_int) (w_and1 (t_cmp (c_eq k) (x_band (x_shr (x_ix k (x_fld T.c_Facts.x T.n_Facts_masks (x_var 0)) (x_add (x_var 3) x_int)) (x_var 3)) x_int) x_int)))) l_bad l_nil) (l_gh l_nil))) (l_cons (s_fld T.c_Facts.x T.n_Facts_forced (x_var 0) (x_call k (h_p_mask_of.cal hr) (n_cons n_nil) (a_cons (x_lc (own := [(("claim" : Str), 3)]) k (i_rng1 T.b_range (a_cons (x_len T.b_len (a_cons (x_fld T.c_Facts.x T.n_Facts_masks (x_var 0)) a_nil)) a_nil)) (by rfl) (by decide) (fun _ _ _ _ _ => (g_name 3 k.blk.nd)) (fun _ _ _ _ _ => (ts_one (t_cmp (c_eq k.blk) (x_band (x_shr (x_ix k.blk (x_fld T.c_Facts.x T.n_Facts_masks (x_var 0)) (x_bxor (x_var 3) x_int)) (x_var 3)) x_int) x_int))) (fun _ _ _ _ _ => (x_var 3))) a_nil))) (l_cons (s_fld T.c_Facts.x T.n_Facts_closed (x_var 0) (x_lc (own := [(("fact" : Str), 6)]) k (i_seq (x_call k (h_p_candidates.cal hr) (n_cons n_nil) (a_cons (x_fld T.c_Facts.x T.n_Facts_names (x_var 0)) a_nil))) (by rfl) (by decide) (fun _ _ _ _ _ => (g_name 6 k.blk.nd)) (fun _ _ _ _ _ => (ts_one (t_truth (x_call k.blk (h_p_follows.cal hr) (n_cons (n_cons n_nil)) (a_cons (x_var 0) (a_cons (x_var 6) a_nil)))))) (fun _ _ _ _ _ => (x_var 6)))) l_nil)))))))))
def N_l_rank : List Str := ["_law_names_here", "_law_claim"]
theorem sc_l_rank : FnScope ["_law_names_here", "_law_claim"] ["_law_names_here", "_law_claim"] (defScope s_l_rank) := ⟨rfl, rfl, rfl, by decide +kernel, rfl, by decide +kernel, by decide +kernel⟩
theorem ok_l_rank (T : Txt w K mg) (F : FunD K "_law_rank" "_law_rank" (defArgs s_l_rank) (defBody s_l_rank) (defScope s_l_rank) [] [] f fd) (hm : mg "_law_rank" = some (.ref f))  : CalH P w K mg base "_law_rank" 1 2 f_l_rank :=
  calH_mk F hm sc_l_rank (F.bindsN fun _ _ _ _ _ _ us hl => match us, hl with | [_, _], _ => rfl) rfl (fun cdv A outer s H E hr k => by
    unfold b_l_rank
    exact (l_cons (s_ret (x_add (x_mul x_int (x_index (x_var 0) (a_cons (x_ix k (x_var 1) x_int) a_nil))) (x_intc T.b_int (a_cons (x_ix k (x_var 1) x_int) a_nil)))) l_nil))
def N_l_steps : List Str := ["_law_facts_here", "_law_claim", "_law_found", "_law_name", "_law_inside", "_law_kind", "_law_one", "_law_other", "_law_here", "_law_there"]
theorem sc_l_steps : FnScope ["_law_facts_here", "_law_claim", "_law_found", "_law_name", "_law_inside", "_law_kind", "_law_one", "_law_other", "_law_here", "_law_there"] ["_law_facts_here", "_law_claim"] (defScope s_l_steps) := ⟨rfl, rfl, rfl, by decide +kernel, rfl, by decide +kernel, by decide +kernel⟩
theorem ok_l_steps (T : Txt w K mg) (F : FunD K "_law_steps" "_law_steps" (defArgs s_l_steps) (defBody s_l_steps) (defScope s_l_steps) [] [] f fd) (hm : mg "_law_steps" = some (.ref f))  : CalH P w K mg base "_law_steps" 1 2 f_l_steps :=
  calH_mk F hm sc_l_steps (F.bindsN fun _ _ _ _ _ _ us hl => match us, hl with | [_, _], _ => rfl) rfl (fun cdv A outer s H E hr k => by
    unfold b_l_steps
    exact (l_cons (s_asg (x_var 1) (g_tup k.calm (gs_cons (g_name 3 k.nd) (gs_cons (g_name 4 k.nd) gs_nil)))) (l_cons (s_set 2 k (x_lst 0 n_nil a_nil)) (l_cons (s_for k (i_seq (x_var 0)) (g_tup k.calm (gs_cons (g_name 5 k.nd) (gs_cons (g_name 6 k.nd) (gs_cons (g_name 7 k.nd) gs_nil)))) (l_cons (s_if (TWX.t (w_and (t_cmp (c_eq k) (x_var 5) x_str) (w_and (t_truth (x_var 4)) (w_and1 (t_cmp (c_eq k) (x_var 6) (x_var 3)))))) (l_cons (s_expr (x_append (x_var 2) (a_cons (x_tup 2 (n_cons (n_cons n_nil)) (a_cons (x_var 7) (a_cons x_bl a_nil))) a_nil))) l_nil) l_nil) (l_cons (s_if (TWX.t (w_and (t_cmp (c_eq k) (x_var 5) x_str) (w_and (t_not (t_truth (x_var 4))) (w_and1 (t_cmp (c_eq k) (x_var 7) (x_var 3)))))) (l_cons (s_expr (x_append (x_var 2) (a_cons (x_tup 2 (n_cons (n_cons n_nil)) (a_cons (x_var 6) (a_cons x_bl a_nil))) a_nil))) l_nil) l_nil) (l_cons (s_if (TWX.t (w_and (t_cmp (c_eq k) (x_var 5) x_str) (w_and1 (t_truth (x_var 4))))) (l_cons (s_set 2 k (x_add (x_var 2) (x_lc (own := [(("_law_here" : Str), 8), (("_law_there" : Str), 9)]) k (i_seq (x_lst 2 (n_cons (n_cons n_nil)) (a_cons (x_tup 2 (n_cons (n_cons n_nil)) (a_cons (x_var 6) (a_cons (x_var 7) a_nil))) (a_cons (x_tup 2 (n_cons (n_cons n_nil)) (a_cons (x_var 7) (a_cons (x_var 6) a_nil))) a_nil)))) (by rfl) (by decide) (fun _ _ _ _ _ => (g_tup k.blk.calm (gs_cons (g_name 8 k.blk.nd) (gs_cons (g_name 9 k.blk.nd) gs_nil)))) (fun _ _ _ _ _ => (ts_one (t_cmp (c_eq k.blk) (x_var 8) (x_var 3)))) (fun _ _ _ _ _ => (x_tup 2 (n_cons (n_cons n_nil)) (a_cons (x_var 9) (a_cons x_bl a_nil))))))) l_nil) l_nil) (l_cons (s_if (TWX.t (w_and (t_cmp (c_eq k) (x_var 5) x_str) (w_and1 (t_not (t_truth (x_var 4)))))) (l_cons (s_set 2 k (x_add (x_var 2) (x_lc (own := [(("_law_here" : Str), 8), (("_law_there" : Str), 9)]) k (i_seq (x_lst 2 (n_cons (n_cons n_nil)) (a_cons (x_tup 2 (n_cons (n_cons n_nil)) (a_cons (x_var 6) (a_cons (x_var 7) a_nil))) (a_cons (x_tup 2 (n_cons (n_cons n_nil)) (a_cons (x_var 7) (a_cons (x_var 6) a_nil))) a_nil)))) (by rfl) (by decide) (fun _ _ _ _ _ => (g_tup k.blk.calm (gs_cons (g_name 8 k.blk.nd) (gs_cons (g_name 9 k.blk.nd) gs_nil)))) (fun _ _ _ _ _ => (ts_one (t_cmp (c_eq k.blk) (x_var 8) (x_var 3)))) (fun _ _ _ _ _ => (x_tup 2 (n_cons (n_cons n_nil)) (a_cons (x_var 9) (a_cons x_bl a_nil))))))) l_nil) l_nil) (l_gh l_nil)))))) (l_cons (s_ret (x_var 2)) l_nil)))))
def N_l_ways : List Str := ["_law_names_here", "_law_facts_here", "_law_claim", "_law_ways_here", "_law_met", "_law_place", "_law_way", "_law_ranks", "_law_rank_here", "_law_later"]
theorem sc_l_ways : FnScope ["_law_names_here", "_law_facts_here", "_law_claim", "_law_ways_here", "_law_met", "_law_place", "_law_way", "_law_ranks", "_law_rank_here", "_law_later"] ["_law_names_here", "_law_facts_here", "_law_claim"] (defScope s_l_ways) := ⟨rfl, rfl, rfl, by decide +kernel, rfl, by decide +kernel, by decide +kernel⟩
theorem ok_l_ways (T : Txt w K mg) (F : FunD K "_law_ways" "_law_ways" (defArgs s_l_ways) (defBody s_l_ways) (defScope s_l_ways) [] [] f fd) (hm : mg "_law_ways" = some (.ref f)) (h_l_steps : CalH P w K mg base "_law_steps" 1 2 f_l_steps) (h_l_rank : CalH P w K mg base "_law_rank" 1 2 f_l_rank) : CalH P w K mg base "_law_ways" 2 3 f_l_ways :=
  calH_mk F hm sc_l_ways (F.bindsN fun _ _ _ _ _ _ us hl => match us, hl with | [_, _, _], _ => rfl) rfl (fun cdv A outer s H E hr k => by
    unfold b_l_ways
    exact (l_cons (s_set 3 k (x_lst 1 (n_cons n_nil) (a_cons (x_lst 1 (n_cons n_nil) (a_cons (x_var 2) a_nil)) a_nil))) (l_cons (s_set 4 k (x_lst 1 (n_cons n_nil) (a_cons (x_var 2) a_nil))) (l_cons (s_set 5 k x_int) (l_cons (s_while 1000 k (t_cmp (c_lt k) (x_var 5) (x_len T.b_len (a_cons (x_var 3) a_nil))) (l_cons (s_set 6 k (x_ix k (x_var 3) (x_var 5))) (l_cons (s_set 5 k (x_add (x_var 5) x_int)) (l_cons (s_set 7 k (x_sorted T.b_sorted (a_cons (x_lc (own := [(("_law_later" : Str), 9)]) k (i_seq (x_call k (h_l_steps.cal hr) (n_cons (n_cons n_nil)) (a_cons (x_var 1) (a_cons (x_ix k (x_var 6) (x_neg x_int)) a_nil)))) (by rfl) (by decide) (fun _ _ _ _ _ => (g_name 9 k.blk.nd)) (fun _ _ _ _ _ => ts_nil) (fun _ _ _ _ _ => (x_call k.blk (h_l_rank.cal hr) (n_cons (n_cons n_nil)) (a_cons (x_var 0) (a_cons (x_var 9) a_nil))))) a_nil))) (l_cons (s_for k (i_seq (x_var 7)) (g_name 8 k.nd) (l_cons (s_set 9 k (x_tup 2 (n_cons (n_cons n_nil)) (a_cons (x_ix k (x_var 0) (x_fdiv (x_var 8) x_int)) (a_cons (x_cmp (c_eq k) (x_mod (x_var 8) x_int) x_int) a_nil)))) (l_cons (s_if (t_cmp (c_nin k) (x_var 9) (x_var 4)) (l_cons (s_expr (x_append (x_var 4) (a_cons (x_var 9) a_nil))) (l_cons (s_expr (x_append (x_var 3) (a_cons (x_add (x_var 6) (x_lst 1 (n_cons n_nil) (a_cons (x_var 9) a_nil))) a_nil))) l_nil)) l_nil) (l_gh l_nil)))) (l_gh l_nil)))))) (l_cons (s_ret (x_var 3)) l_nil))))))
def N_p_is_claim : List Str := ["facts", "thing"]
theorem sc_p_is_claim : FnScope ["facts", "thing"] ["facts", "thing"] (defScope s_p_is_claim) := ⟨rfl, rfl, rfl, by decide +kernel, rfl, by decide +kernel, by decide +kernel⟩
theorem ok_p_is_claim (T : Txt w K mg) (F : FunD K "is_claim" "is_claim" (defArgs s_p_is_claim) (defBody s_p_is_claim) (defScope s_p_is_claim) [] [] f fd) (hm : mg "is_claim" = some (.ref f)) (h_p_is_region : CalH P w K mg base "is_region" 1 2 f_p_is_region) : CalH P w K mg base "is_claim" 2 2 f_p_is_claim :=
  calH_mk F hm sc_p_is_claim (F.bindsN fun _ _ _ _ _ _ us hl => match us, hl with | [_, _], _ => rfl) rfl (fun cdv A outer s H E hr k => by
    unfold b_p_is_claim
    exact (l_cons (s_if (TWX.t (w_or (t_not (t_truth (x_isiB (T := .tup) b_tuple T.b_tuple T.b_isinstance (x_var 1)))) (w_or1 (t_cmp (c_ne k) (x_len T.b_len (a_cons (x_var 1) a_nil)) x_int)))) (l_cons (s_ret x_bl) l_nil) l_nil) (l_cons (s_ret (x_and (x_call k (h_p_is_region.cal hr) (n_cons (n_cons n_nil)) (a_cons (x_fld T.c_Facts.x T.n_Facts_places (x_var 0)) (a_cons (x_ix k (x_var 1) x_int) a_nil))) (x_one (x_isiB (T := .bl) b_bool T.b_bool T.b_isinstance (x_ix k (x_var 1) x_int))))) l_nil)))
def N_p_claim_number : List Str := ["facts", "claim"]
theorem sc_p_claim_number : FnScope ["facts", "claim"] ["facts", "claim"] (defScope s_p_claim_number) := ⟨rfl, rfl, rfl, by decide +kernel, rfl, by decide +kernel, by decide +kernel⟩
theorem ok_p_claim_number (T : Txt w K mg) (F : FunD K "claim_number" "claim_number" (defArgs s_p_claim_number) (defBody s_p_claim_number) (defScope s_p_claim_number) [] [] f fd) (hm : mg "claim_number" = some (.ref f))  : CalH P w K mg base "claim_number" 1 2 f_p_claim_number :=
  calH_mk F hm sc_p_claim_number (F.bindsN fun _ _ _ _ _ _ us hl => match us, hl with | [_, _], _ => rfl) rfl (fun cdv A outer s H E hr k => by
    unfold b_p_claim_number
    exact (l_cons (s_ret (x_add (x_fz (x_mul x_int (x_ix k (x_fld T.c_Facts.x T.n_Facts_places (x_var 0)) (x_ix k (x_var 1) x_int)))) (x_intc T.b_int (a_cons (x_ix k (x_var 1) x_int) a_nil)))) l_nil))
def N_p_told_claims : List Str := ["names", "numbers", "claim"]
theorem sc_p_told_claims : FnScope ["names", "numbers", "claim"] ["names", "numbers"] (defScope s_p_told_claims) := ⟨rfl, rfl, rfl, by decide +kernel, rfl, by decide +kernel, by decide +kernel⟩
theorem ok_p_told_claims (T : Txt w K mg) (F : FunD K "told_claims" "told_claims" (defArgs s_p_told_claims) (defBody s_p_told_claims) (defScope s_p_told_claims) [] [] f fd) (hm : mg "told_claims" = some (.ref f))  : CalH P w K mg base "told_claims" 1 2 f_p_told_claims :=
  calH_mk F hm sc_p_told_claims (F.bindsN fun _ _ _ _ _ _ us hl => match us, hl with | [_, _], _ => rfl) rfl (fun cdv A outer s H E hr k => by
    unfold b_p_told_claims
    exact (l_cons (s_ret (x_lc (own := [(("claim" : Str), 2)]) k (i_seq (x_var 1)) (by rfl) (by decide) (fun _ _ _ _ _ => (g_name 2 k.blk.nd)) (fun _ _ _ _ _ => ts_nil) (fun _ _ _ _ _ => (x_tup 2 (n_cons (n_cons n_nil)) (a_cons (x_ix k.blk (x_var 0) (x_fdiv (x_var 2) x_int)) (a_cons (x_cmp (c_eq k.blk) (x_mod (x_var 2) x_int) x_int) a_nil)))))) l_nil))
def N_m_Facts_way : List Str := ["self", "claim", "other", "found", "index", "thing"]
theorem sc_m_Facts_way : FnScope ["self", "claim", "other", "found", "index", "thing"] ["self", "claim", "other"] (defScope s_m_Facts_way) := ⟨rfl, rfl, rfl, by decide +kernel, rfl, by decide +kernel, by decide +kernel⟩
theorem ok_m_Facts_way (T : Txt w K mg) (F : FunD K "way" "Facts.way" (defArgs s_m_Facts_way) (defBody s_m_Facts_way) (defScope s_m_Facts_way) [] [] f fd) (hm : Meth K (He.ga K "Facts") "way" f) (h_p_is_claim : CalH P w K mg base "is_claim" 2 2 f_p_is_claim) (h_p_reached : CalH P w K mg base "reached" 1 2 f_p_reached) (h_p_claim_number : CalH P w K mg base "claim_number" 1 2 f_p_claim_number) (h_p_told_claims : CalH P w K mg base "told_claims" 1 2 f_p_told_claims) : CalHM P w K mg base "Facts" "way" 3 3 f_m_Facts_way :=
  calHM_mk F T.c_Facts hm sc_m_Facts_way (F.bindsN fun _ _ _ _ _ _ us hl => match us, hl with | [_, _, _], _ => rfl) rfl (fun cdv A outer s H E hr k => by
    unfold b_m_Facts_way
    exact (l_cons (s_for k (i_enum T.b_enumerate (x_lst 2 (n_cons (n_cons n_nil)) (a_cons (x_var 1) (a_cons (x_var 2) a_nil)))) (g_tup k.calm (gs_cons (g_name 4 k.nd) (gs_cons (g_name 5 k.nd) gs_nil))) (l_cons (s_if (t_not (t_truth (x_call k (h_p_is_claim.cal hr) (n_cons (n_cons n_nil)) (a_cons (x_var 0) (a_cons (x_var 5) a_nil))))) (l_cons s_bad l_nil) l_nil) (l_gh l_nil))) (l_cons (s_set 3 k (x_dget k (x_call k (h_p_reached.cal hr) (n_cons (n_cons n_nil)) (a_cons (x_fld T.c_Facts.x T.n_Facts_steps (x_var 0)) (a_cons (x_call k (h_p_claim_number.cal hr) (n_cons (n_cons n_nil)) (a_cons (x_var 0) (a_cons (x_var 1) a_nil))) a_nil))) (x_call k (h_p_claim_number.cal hr) (n_cons (n_cons n_nil)) (a_cons (x_var 0) (a_cons (x_var 2) a_nil))))) (l_cons (s_if (t_cmp (c_is k) (x_var 3) x_non) (l_cons (s_ret x_non) l_nil) l_nil) (l_cons (s_ret (x_call k (h_p_told_claims.cal hr) (n_cons (n_cons n_nil)) (a_cons (x_fld T.c_Facts.x T.n_Facts_names (x_var 0)) (a_cons (x_var 3) a_nil)))) l_nil)))))
def N_p_law : List Str := ["_law_script", "_law_at", "_law_pile_here", "_law_names_here", "_law_facts_here", "_law_made", "_law_claims", "_law_name", "_law_claim", "_law_ways_here", "_law_other", "_law_due", "_law_found", "_law_back", "_law_way"]
theorem sc_p_law : FnScope ["_law_script", "_law_at", "_law_pile_here", "_law_names_here", "_law_facts_here", "_law_made", "_law_claims", "_law_name", "_law_claim", "_law_ways_here", "_law_other", "_law_due", "_law_found", "_law_back", "_law_way"] ["_law_script"] (defScope s_p_law) := ⟨rfl, rfl, rfl, by decide +kernel, rfl, by decide +kernel, by decide +kernel⟩
theorem ok_p_law (T : Txt w K mg) (F : FunD K "law" "law" (defArgs s_p_law) (defBody s_p_law) (defScope s_p_law) [] [] f fd) (h_l_pile : CalH P w K mg base "_law_pile" 1 2 f_l_pile) (h_l_names : CalH P w K mg base "_law_names" 3 2 f_l_names) (h_l_take : CalH P w K mg base "_law_take" 2 2 f_l_take) (h_l_held : CalH P w K mg base "_law_held" 4 3 f_l_held) (h_m_Facts___init__ : CalHK P w K mg base "Facts" 4 3 f_m_Facts___init__) (h_l_ways : CalH P w K mg base "_law_ways" 2 3 f_l_ways) (h_m_Facts_way : CalHM P w K mg base "Facts" "way" 3 3 f_m_Facts_way) : LawAt P w K mg base f fd ["_law_script"] (spF ⟨K, mg⟩ 1 f_p_law) :=
  lawAt_mk (k := 5) F sc_p_law rfl ⟨rfl, by decide, by decide⟩ (fun cdv s H E hr gd k => by
    unfold b_p_law
    exact (l_cons (s_for k (i_rng1 T.b_range (a_cons x_int a_nil)) (g_name 1 k.nd) (l_cons (s_set 2 k (x_call k (h_l_pile.cal hr) (n_cons (n_cons n_nil)) (a_cons (x_var 0) (a_cons (x_var 1) a_nil)))) (l_cons (s_set 3 k (x_callm k (h_l_names.cal hr) (n_cons (n_cons n_nil)) (a_cons (x_var 2) (a_cons (x_add x_int (x_callm k (h_l_take.cal hr) (n_cons (n_cons n_nil)) (a_cons (x_var 2) (a_cons x_int a_nil)))) a_nil)))) (l_cons (s_set 4 k (x_callm k (h_l_held.cal hr) (n_cons (n_cons (n_cons n_nil))) (a_cons (x_var 2) (a_cons (x_var 3) (a_cons x_int a_nil))))) (l_cons (s_set 5 k (x_fz (x_make k (h_m_Facts___init__.cal hr) (n_cons (n_cons n_nil)) (a_cons (x_var 3) (a_cons (x_var 4) a_nil))))) (l_cons (s_set 6 k (x_lst 0 n_nil a_nil)) (l_cons (s_for k (i_seq (x_var 3)) (g_name 7 k.nd) (l_cons (s_set 6 k (x_add (x_var 6) (x_lst 2 (n_cons (n_cons n_nil)) (a_cons (x_tup 2 (n_cons (n_cons n_nil)) (a_cons (x_var 7) (a_cons x_bl a_nil))) (a_cons (x_tup 2 (n_cons (n_cons n_nil)) (a_cons (x_var 7) (a_cons x_bl a_nil))) a_nil))))) (l_gh l_nil))) (l_cons (s_for k (i_seq (x_var 6)) (g_name 8 k.nd) (l_cons (s_set 9 k (x_call k (h_l_ways.cal hr) (n_cons (n_cons (n_cons n_nil))) (a_cons (x_var 3) (a_cons (x_var 4) (a_cons (x_var 8) a_nil))))) (l_cons (s_for k (i_seq (x_var 6)) (g_name 10 k.nd) (l_cons (s_set 11 k (x_ix k (x_add (x_lc (own := [(("_law_way" : Str), 14)]) k (i_seq (x_var 9)) (by rfl) (by decide) (fun _ _ _ _ _ => (g_name 14 k.blk.nd)) (fun _ _ _ _ _ => (ts_one (t_cmp (c_eq k.blk) (x_ix k.blk (x_var 14) (x_neg x_int)) (x_var 10)))) (fun _ _ _ _ _ => (x_var 14))) (x_lst 1 (n_cons n_nil) (a_cons x_non a_nil))) x_int)) (l_cons (s_set 12 k (x_meth k (h_m_Facts_way.cal hr) (n_cons (n_cons n_nil)) (x_var 5) (a_cons (x_var 8) (a_cons (x_var 10) a_nil)))) (l_cons (s_if (t_cmp (c_ne k) (x_strA k gd T.b_str (a_cons (x_var 12) a_nil)) (x_strA k gd T.b_str (a_cons (x_var 11) a_nil))) (l_cons (s_ret x_bl) l_nil) l_nil) (l_cons (s_set 13 k (x_fz (x_meth k (h_m_Facts_way.cal hr) (n_cons (n_cons n_nil)) (x_var 5) (a_cons (x_tup 2 (n_cons (n_cons n_nil)) (a_cons (x_ix k (x_var 10) x_int) (a_cons (x_not (x_ix k (x_var 10) x_int)) a_nil))) (a_cons (x_tup 2 (n_cons (n_cons n_nil)) (a_cons (x_ix k (x_var 8) x_int) (a_cons (x_not (x_ix k (x_var 8) x_int)) a_nil))) a_nil))))) (l_cons (s_if (t_cmp (c_ne k) (x_cmp (c_is k) (x_var 13) x_non) (x_cmp (c_is k) (x_var 11) x_non)) (l_cons (s_ret x_bl) l_nil) l_nil) (l_cons (s_if (t_cmp (c_isn k) (x_var 11) x_non) (l_cons (s_expr (x_append (x_var 12) (a_cons x_str a_nil))) (l_cons (s_if (TWX.t (w_or (t_cmp (c_ne k) (x_len T.b_len (a_cons (x_var 13) a_nil)) (x_len T.b_len (a_cons (x_var 11) a_nil))) (w_or1 (t_cmp (c_ne k) (x_fz (x_meth k (h_m_Facts_way.cal hr) (n_cons (n_cons n_nil)) (x_var 5) (a_cons (x_var 8) (a_cons (x_var 10) a_nil)))) (x_var 11))))) (l_cons (s_ret x_bl) l_nil) l_nil) l_nil)) l_nil) (l_gh l_nil)))))))) (l_gh l_nil)))) (l_gh l_nil))))))))) (l_cons (s_ret x_bl) l_nil)))
end
/-! ### the head -/
def d_l_pile : He.DefD := ⟨("_law_pile", none), "_law_pile", "_law_pile", defArgs s_l_pile, defBody s_l_pile, defScope s_l_pile, [], []⟩
def d_l_mixed : He.DefD := ⟨("_law_mixed", none), "_law_mixed", "_law_mixed", defArgs s_l_mixed, defBody s_l_mixed, defScope s_l_mixed, [], []⟩
def d_l_take : He.DefD := ⟨("_law_take", none), "_law_take", "_law_take", defArgs s_l_take, defBody s_l_take, defScope s_l_take, [], []⟩
def d_l_names : He.DefD := ⟨("_law_names", none), "_law_names", "_law_names", defArgs s_l_names, defBody s_l_names, defScope s_l_names, [], []⟩
def d_l_all : He.DefD := ⟨("_law_all", none), "_law_all", "_law_all", defArgs s_l_all, defBody s_l_all, defScope s_l_all, [], []⟩
def d_l_facts : He.DefD := ⟨("_law_facts", none), "_law_facts", "_law_facts", defArgs s_l_facts, defBody s_l_facts, defScope s_l_facts, [], []⟩
def d_l_keeps : He.DefD := ⟨("_law_keeps", none), "_law_keeps", "_law_keeps", defArgs s_l_keeps, defBody s_l_keeps, defScope s_l_keeps, [], []⟩
def d_l_held : He.DefD := ⟨("_law_held", none), "_law_held", "_law_held", defArgs s_l_held, defBody s_l_held, defScope s_l_held, [], []⟩
def d_p_is_name : He.DefD := ⟨("is_name", none), "is_name", "is_name", defArgs s_p_is_name, defBody s_p_is_name, defScope s_p_is_name, [], []⟩
def d_p_checked_regions : He.DefD := ⟨("checked_regions", none), "checked_regions", "checked_regions", defArgs s_p_checked_regions, defBody s_p_checked_regions, defScope s_p_checked_regions, [], []⟩
def d_p_is_region : He.DefD := ⟨("is_region", none), "is_region", "is_region", defArgs s_p_is_region, defBody s_p_is_region, defScope s_p_is_region, [], []⟩
def d_p_is_fact : He.DefD := ⟨("is_fact", none), "is_fact", "is_fact", defArgs s_p_is_fact, defBody s_p_is_fact, defScope s_p_is_fact, [], []⟩
def d_p_checked_facts : He.DefD := ⟨("checked_facts", none), "checked_facts", "checked_facts", defArgs s_p_checked_facts, defBody s_p_checked_facts, defScope s_p_checked_facts, [], []⟩
def d_p_breaking : He.DefD := ⟨("breaking", none), "breaking", "breaking", defArgs s_p_breaking, defBody s_p_breaking, defScope s_p_breaking, [], []⟩
def d_p_steps_of : He.DefD := ⟨("steps_of", none), "steps_of", "steps_of", defArgs s_p_steps_of, defBody s_p_steps_of, defScope s_p_steps_of, [], []⟩
def d_p_mask_of : He.DefD := ⟨("mask_of", none), "mask_of", "mask_of", defArgs s_p_mask_of, defBody s_p_mask_of, defScope s_p_mask_of, [], []⟩
def d_p_reached : He.DefD := ⟨("reached", none), "reached", "reached", defArgs s_p_reached, defBody s_p_reached, defScope s_p_reached, [], []⟩
def d_p_candidates : He.DefD := ⟨("candidates", none), "candidates", "candidates", defArgs s_p_candidates, defBody s_p_candidates, defScope s_p_candidates, [], []⟩
def d_p_clashes : He.DefD := ⟨("clashes", none), "clashes", "clashes", defArgs s_p_clashes, defBody s_p_clashes, defScope s_p_clashes, [], []⟩
def d_p_follows : He.DefD := ⟨("follows", none), "follows", "follows", defArgs s_p_follows, defBody s_p_follows, defScope s_p_follows, [], []⟩
def d_m_Facts___init__ : He.DefD := ⟨("Facts", some "__init__"), "__init__", "Facts.__init__", defArgs s_m_Facts___init__, defBody s_m_Facts___init__, defScope s_m_Facts___init__, [], []⟩
def d_l_rank : He.DefD := ⟨("_law_rank", none), "_law_rank", "_law_rank", defArgs s_l_rank, defBody s_l_rank, defScope s_l_rank, [], []⟩
def d_l_steps : He.DefD := ⟨("_law_steps", none), "_law_steps", "_law_steps", defArgs s_l_steps, defBody s_l_steps, defScope s_l_steps, [], []⟩
def d_l_ways : He.DefD := ⟨("_law_ways", none), "_law_ways", "_law_ways", defArgs s_l_ways, defBody s_l_ways, defScope s_l_ways, [], []⟩
def d_p_is_claim : He.DefD := ⟨("is_claim", none), "is_claim", "is_claim", defArgs s_p_is_claim, defBody s_p_is_claim, defScope s_p_is_claim, [], []⟩
def d_p_claim_number : He.DefD := ⟨("claim_number", none), "claim_number", "claim_number", defArgs s_p_claim_number, defBody s_p_claim_number, defScope s_p_claim_number, [], []⟩
def d_p_told_claims : He.DefD := ⟨("told_claims", none), "told_claims", "told_claims", defArgs s_p_told_claims, defBody s_p_told_claims, defScope s_p_told_claims, [], []⟩
def d_m_Facts_way : He.DefD := ⟨("Facts", some "way"), "way", "Facts.way", defArgs s_m_Facts_way, defBody s_m_Facts_way, defScope s_m_Facts_way, [], []⟩
def d_p_law : He.DefD := ⟨("law", none), "law", "law", defArgs s_p_law, defBody s_p_law, defScope s_p_law, [], []⟩
def fn : List He.DefD := [d_l_pile, d_l_mixed, d_l_take, d_l_names, d_l_all, d_l_facts, d_l_keeps, d_l_held, d_p_is_name, d_p_checked_regions, d_p_is_region, d_p_is_fact, d_p_checked_facts, d_p_breaking, d_p_steps_of, d_p_mask_of, d_p_reached, d_p_candidates, d_p_clashes, d_p_follows, d_m_Facts___init__, d_l_rank, d_l_steps, d_l_ways, d_p_is_claim, d_p_claim_number, d_p_told_claims, d_m_Facts_way, d_p_law]
def fa : List He.Fa := [.glo "_law_pile", .glo "_law_mixed", .glo "_law_take", .glo "_law_names", .glo "_law_all", .glo "_law_facts", .glo "_law_keeps", .glo "_law_held", .glo "is_name", .glo "checked_regions", .glo "is_region", .glo "is_fact", .glo "checked_facts", .glo "breaking", .glo "steps_of", .glo "mask_of", .glo "reached", .glo "candidates", .glo "clashes", .glo "follows", .glo "_law_rank", .glo "_law_steps", .glo "_law_ways", .glo "is_claim", .glo "claim_number", .glo "told_claims", .glo "law", .free "abs", .free "all", .free "any", .free "bool", .free "enumerate", .free "int", .free "isinstance", .free "len", .free "list", .free "range", .free "sorted", .free "str", .free "tuple", .str "LETTERS" "abcdefghijklmnopqrstuvwxyz", .int "LONGEST_NAME" 12, .int "MOST_FACTS" 1200, .int "MOST_REGIONS" 24, .glo "SIGNS", .glo "Facts", .cls "Facts", .noat "Facts" "closed", .noat "Facts" "forced", .noat "Facts" "masks", .noat "Facts" "names", .noat "Facts" "places", .noat "Facts" "said", .noat "Facts" "steps", .mkr "Facts", .meth "Facts" "way"]
def ts : List He.Tab := [(fun K => He.ga K "SIGNS", ["in", "apart", "cover"])]
def ex (K : PySem.W.Frag) : Bool := (gcB "KINDS" c_KINDS K && (tabB "SIGNS" t_SIGNS K && true))
def loose0 : List Str := ["_wall", "CoatError", "InvalidRegion", "InvalidFact", "InvalidClaim", "Contradiction", "TooMany", "LETTERS", "LONGEST_NAME", "MOST_REGIONS", "MOST_FACTS", "KINDS", "SIGNS", "is_name", "checked_regions", "is_region", "is_fact", "checked_facts", "breaking", "steps_of", "reached", "mask_of", "clashes", "candidates", "Facts", "both_facts", "follows", "told_claims", "is_claim", "claim_number"]
def loose1 : List Str := ["_law_mixed", "_law_pile", "_law_take", "_law_order", "_law_names", "_law_facts", "_law_keeps", "_law_all", "_law_possible", "_law_held", "_law_steps", "_law_rank", "_law_ways"]
def loose : List Str := loose0 ++ loose1
abbrev Rw : PySem.W.OpenRow := PySem.W.OpenLaw.row PySem.Challenge.rw_coatrows_k02_best_ways
abbrev hk : PySem.W.Hook := He.hookX 6 fa fn ts [] ex
def ob (s : PySem.W.SharedT) : He.AlX := He.obsX 6 fa fn ts [] ex (HandSHeadRun.getT s)
theorem ob_eq (s : PySem.W.SharedT) : ob s = hk.obs s.abs := He.obsX_eq (HandSHeadRun.getT_eq s)
theorem run (w : World) : HandSHeadRun.RunEq Rw (PySem.W.view Rw.prog [46]) hk ob 8000 loose w := by
  revert w
  exact PySem.W.byRow2 "special-get-raises" (P := fun w => HandSHeadRun.RunEq Rw (PySem.W.view Rw.prog [46]) hk ob 8000 loose w) (fun w os => by kernel_rfl) (fun w os => by kernel_rfl)
theorem txt_of {w : World} {K : PySem.W.Frag} {h : Heap} {mg : Str → Option Value} (X : K.In h) (G : h.Ns mainGlobals mg) (c : He.SaysX fa fn ts [] ex w h K) : Txt w K mg where
  b_abs := He.free_ok X G (c.t.d.fact 27 (f := .free "abs") rfl)
  b_all := He.free_ok X G (c.t.d.fact 28 (f := .free "all") rfl)
  b_any := He.free_ok X G (c.t.d.fact 29 (f := .free "any") rfl)
  b_bool := He.free_ok X G (c.t.d.fact 30 (f := .free "bool") rfl)
  b_enumerate := He.free_ok X G (c.t.d.fact 31 (f := .free "enumerate") rfl)
  b_int := He.free_ok X G (c.t.d.fact 32 (f := .free "int") rfl)
  b_isinstance := He.free_ok X G (c.t.d.fact 33 (f := .free "isinstance") rfl)
  b_len := He.free_ok X G (c.t.d.fact 34 (f := .free "len") rfl)
  b_list := He.free_ok X G (c.t.d.fact 35 (f := .free "list") rfl)
  b_range := He.free_ok X G (c.t.d.fact 36 (f := .free "range") rfl)
  b_sorted := He.free_ok X G (c.t.d.fact 37 (f := .free "sorted") rfl)
  b_str := He.free_ok X G (c.t.d.fact 38 (f := .free "str") rfl)
  b_tuple := He.free_ok X G (c.t.d.fact 39 (f := .free "tuple") rfl)
  k_LETTERS := He.str_ok X G (c.t.d.fact 40 (f := .str "LETTERS" "abcdefghijklmnopqrstuvwxyz") rfl)
  k_LONGEST_NAME := He.int_ok X G (c.t.d.fact 41 (f := .int "LONGEST_NAME" 12) rfl)
  k_MOST_FACTS := He.int_ok X G (c.t.d.fact 42 (f := .int "MOST_FACTS" 1200) rfl)
  k_MOST_REGIONS := He.int_ok X G (c.t.d.fact 43 (f := .int "MOST_REGIONS" 24) rfl)
  k_KINDS := gcB_ok X G (He.ba c.more).1
  k_SIGNS := tabB_ok (He.glo_ok X G (c.t.d.fact 44 (f := .glo "SIGNS") rfl)) (c.t.tab 0) (He.ba (He.ba c.more).2).1
  c_Facts := ⟨He.glo_ok X G (c.t.d.fact 45 (f := .glo "Facts") rfl), He.cls_ok (c.t.d.fact 46 (f := .cls "Facts") rfl)⟩
  n_Facts_closed := He.noat_ok (c.t.d.fact 47 (f := .noat "Facts" "closed") rfl)
  n_Facts_forced := He.noat_ok (c.t.d.fact 48 (f := .noat "Facts" "forced") rfl)
  n_Facts_masks := He.noat_ok (c.t.d.fact 49 (f := .noat "Facts" "masks") rfl)
  n_Facts_names := He.noat_ok (c.t.d.fact 50 (f := .noat "Facts" "names") rfl)
  n_Facts_places := He.noat_ok (c.t.d.fact 51 (f := .noat "Facts" "places") rfl)
  n_Facts_said := He.noat_ok (c.t.d.fact 52 (f := .noat "Facts" "said") rfl)
  n_Facts_steps := He.noat_ok (c.t.d.fact 53 (f := .noat "Facts" "steps") rfl)
theorem facts {P : Program} {w : World} {K : PySem.W.Frag} {h : Heap} {mg : Str → Option Value} {f : Addr} (X : K.In h) (G : h.Ns mainGlobals mg) (hfa : mg ("law" : Str) = some (.ref f)) (c : He.SaysX fa fn ts [] ex w h K) :
    ∃ fd : FuncData, (∀ (s : Shared) (v : Value), BindsTo s fd ⟨[v], []⟩ [("_law_script", v)]) ∧ ∀ base : Heap, K.In base → base.Ns mainGlobals mg → LawAt P w K mg base f fd ["_law_script"] (spF ⟨K, mg⟩ 1 f_p_law) := by
  have T := txt_of X G c
  obtain ⟨fd_l_pile, F_l_pile⟩ := c.t.d.def_ 0 (d := d_l_pile) rfl
  have g_l_pile := He.glo_ok X G (c.t.d.fact 0 (f := .glo "_law_pile") rfl)
  obtain ⟨fd_l_mixed, F_l_mixed⟩ := c.t.d.def_ 1 (d := d_l_mixed) rfl
  have g_l_mixed := He.glo_ok X G (c.t.d.fact 1 (f := .glo "_law_mixed") rfl)
  obtain ⟨fd_l_take, F_l_take⟩ := c.t.d.def_ 2 (d := d_l_take) rfl
  have g_l_take := He.glo_ok X G (c.t.d.fact 2 (f := .glo "_law_take") rfl)
  obtain ⟨fd_l_names, F_l_names⟩ := c.t.d.def_ 3 (d := d_l_names) rfl
  have g_l_names := He.glo_ok X G (c.t.d.fact 3 (f := .glo "_law_names") rfl)
  obtain ⟨fd_l_all, F_l_all⟩ := c.t.d.def_ 4 (d := d_l_all) rfl
  have g_l_all := He.glo_ok X G (c.t.d.fact 4 (f := .glo "_law_all") rfl)
  obtain ⟨fd_l_facts, F_l_facts⟩ := c.t.d.def_ 5 (d := d_l_facts) rfl
  have g_l_facts := He.glo_ok X G (c.t.d.fact 5 (f := .glo "_law_facts") rfl)
  obtain ⟨fd_l_keeps, F_l_keeps⟩ := c.t.d.def_ 6 (d := d_l_keeps) rfl
  have g_l_keeps := He.glo_ok X G (c.t.d.fact 6 (f := .glo "_law_keeps") rfl)
  obtain ⟨fd_l_held, F_l_held⟩ := c.t.d.def_ 7 (d := d_l_held) rfl
  have g_l_held := He.glo_ok X G (c.t.d.fact 7 (f := .glo "_law_held") rfl)
  obtain ⟨fd_p_is_name, F_p_is_name⟩ := c.t.d.def_ 8 (d := d_p_is_name) rfl
  have g_p_is_name := He.glo_ok X G (c.t.d.fact 8 (f := .glo "is_name") rfl)
  obtain ⟨fd_p_checked_regions, F_p_checked_regions⟩ := c.t.d.def_ 9 (d := d_p_checked_regions) rfl
  have g_p_checked_regions := He.glo_ok X G (c.t.d.fact 9 (f := .glo "checked_regions") rfl)
  obtain ⟨fd_p_is_region, F_p_is_region⟩ := c.t.d.def_ 10 (d := d_p_is_region) rfl
  have g_p_is_region := He.glo_ok X G (c.t.d.fact 10 (f := .glo "is_region") rfl)
  obtain ⟨fd_p_is_fact, F_p_is_fact⟩ := c.t.d.def_ 11 (d := d_p_is_fact) rfl
  have g_p_is_fact := He.glo_ok X G (c.t.d.fact 11 (f := .glo "is_fact") rfl)
  obtain ⟨fd_p_checked_facts, F_p_checked_facts⟩ := c.t.d.def_ 12 (d := d_p_checked_facts) rfl
  have g_p_checked_facts := He.glo_ok X G (c.t.d.fact 12 (f := .glo "checked_facts") rfl)
  obtain ⟨fd_p_breaking, F_p_breaking⟩ := c.t.d.def_ 13 (d := d_p_breaking) rfl
  have g_p_breaking := He.glo_ok X G (c.t.d.fact 13 (f := .glo "breaking") rfl)
  obtain ⟨fd_p_steps_of, F_p_steps_of⟩ := c.t.d.def_ 14 (d := d_p_steps_of) rfl
  have g_p_steps_of := He.glo_ok X G (c.t.d.fact 14 (f := .glo "steps_of") rfl)
  obtain ⟨fd_p_mask_of, F_p_mask_of⟩ := c.t.d.def_ 15 (d := d_p_mask_of) rfl
  have g_p_mask_of := He.glo_ok X G (c.t.d.fact 15 (f := .glo "mask_of") rfl)
  obtain ⟨fd_p_reached, F_p_reached⟩ := c.t.d.def_ 16 (d := d_p_reached) rfl
  have g_p_reached := He.glo_ok X G (c.t.d.fact 16 (f := .glo "reached") rfl)
  obtain ⟨fd_p_candidates, F_p_candidates⟩ := c.t.d.def_ 17 (d := d_p_candidates) rfl
  have g_p_candidates := He.glo_ok X G (c.t.d.fact 17 (f := .glo "candidates") rfl)
  obtain ⟨fd_p_clashes, F_p_clashes⟩ := c.t.d.def_ 18 (d := d_p_clashes) rfl
  have g_p_clashes := He.glo_ok X G (c.t.d.fact 18 (f := .glo "clashes") rfl)
  obtain ⟨fd_p_follows, F_p_follows⟩ := c.t.d.def_ 19 (d := d_p_follows) rfl
  have g_p_follows := He.glo_ok X G (c.t.d.fact 19 (f := .glo "follows") rfl)
  obtain ⟨fd_m_Facts___init__, F_m_Facts___init__⟩ := c.t.d.def_ 20 (d := d_m_Facts___init__) rfl
  have g_m_Facts___init__ := He.mkr_ok (c.t.d.fact 54 (f := .mkr "Facts") rfl)
  obtain ⟨fd_l_rank, F_l_rank⟩ := c.t.d.def_ 21 (d := d_l_rank) rfl
  have g_l_rank := He.glo_ok X G (c.t.d.fact 20 (f := .glo "_law_rank") rfl)
  obtain ⟨fd_l_steps, F_l_steps⟩ := c.t.d.def_ 22 (d := d_l_steps) rfl
  have g_l_steps := He.glo_ok X G (c.t.d.fact 21 (f := .glo "_law_steps") rfl)
  obtain ⟨fd_l_ways, F_l_ways⟩ := c.t.d.def_ 23 (d := d_l_ways) rfl
  have g_l_ways := He.glo_ok X G (c.t.d.fact 22 (f := .glo "_law_ways") rfl)
  obtain ⟨fd_p_is_claim, F_p_is_claim⟩ := c.t.d.def_ 24 (d := d_p_is_claim) rfl
  have g_p_is_claim := He.glo_ok X G (c.t.d.fact 23 (f := .glo "is_claim") rfl)
  obtain ⟨fd_p_claim_number, F_p_claim_number⟩ := c.t.d.def_ 25 (d := d_p_claim_number) rfl
  have g_p_claim_number := He.glo_ok X G (c.t.d.fact 24 (f := .glo "claim_number") rfl)
  obtain ⟨fd_p_told_claims, F_p_told_claims⟩ := c.t.d.def_ 26 (d := d_p_told_claims) rfl
  have g_p_told_claims := He.glo_ok X G (c.t.d.fact 25 (f := .glo "told_claims") rfl)
  obtain ⟨fd_m_Facts_way, F_m_Facts_way⟩ := c.t.d.def_ 27 (d := d_m_Facts_way) rfl
  have g_m_Facts_way := He.meth_ok (c.t.d.fact 55 (f := .meth "Facts" "way") rfl)
  obtain ⟨fd_p_law, F_p_law⟩ := c.t.d.def_ 28 (d := d_p_law) rfl
  have g_p_law := He.glo_ok X G (c.t.d.fact 26 (f := .glo "law") rfl)
  cases hfa.symm.trans g_p_law
  have b := FunD.bindsA (ps := ["_law_script"]) F_p_law fun _ _ _ _ _ _ us hl => match us, hl with | [_], _ => rfl
  refine ⟨fd_p_law, fun s v => b s [v] rfl, fun base _ _ => ?_⟩
  have h_l_pile := ok_l_pile (P := P) (w := w) (base := base) T F_l_pile g_l_pile
  have h_l_mixed := ok_l_mixed (P := P) (w := w) (base := base) T F_l_mixed g_l_mixed
  have h_l_take := ok_l_take (P := P) (w := w) (base := base) T F_l_take g_l_take h_l_mixed
  have h_l_names := ok_l_names (P := P) (w := w) (base := base) T F_l_names g_l_names h_l_take
  have h_l_all := ok_l_all (P := P) (w := w) (base := base) T F_l_all g_l_all
  have h_l_facts := ok_l_facts (P := P) (w := w) (base := base) T F_l_facts g_l_facts h_l_take
  have h_l_keeps := ok_l_keeps (P := P) (w := w) (base := base) T F_l_keeps g_l_keeps
  have h_l_held := ok_l_held (P := P) (w := w) (base := base) T F_l_held g_l_held h_l_all h_l_facts h_l_keeps
  have h_p_is_name := ok_p_is_name (P := P) (w := w) (base := base) T F_p_is_name g_p_is_name
  have h_p_checked_regions := ok_p_checked_regions (P := P) (w := w) (base := base) T F_p_checked_regions g_p_checked_regions h_p_is_name
  have h_p_is_region := ok_p_is_region (P := P) (w := w) (base := base) T F_p_is_region g_p_is_region
  have h_p_is_fact := ok_p_is_fact (P := P) (w := w) (base := base) T F_p_is_fact g_p_is_fact h_p_is_region
  have h_p_checked_facts := ok_p_checked_facts (P := P) (w := w) (base := base) T F_p_checked_facts g_p_checked_facts h_p_is_fact
  have h_p_breaking := ok_p_breaking (P := P) (w := w) (base := base) T F_p_breaking g_p_breaking
  have h_p_steps_of := ok_p_steps_of (P := P) (w := w) (base := base) T F_p_steps_of g_p_steps_of h_p_breaking
  have h_p_mask_of := ok_p_mask_of (P := P) (w := w) (base := base) T F_p_mask_of g_p_mask_of
  have h_p_reached := ok_p_reached (P := P) (w := w) (base := base) T F_p_reached g_p_reached
  have h_p_candidates := ok_p_candidates (P := P) (w := w) (base := base) T F_p_candidates g_p_candidates
  have h_p_clashes := ok_p_clashes (P := P) (w := w) (base := base) T F_p_clashes g_p_clashes
  have h_p_follows := ok_p_follows (P := P) (w := w) (base := base) T F_p_follows g_p_follows h_p_breaking h_p_clashes
  have h_m_Facts___init__ := ok_m_Facts___init__ (P := P) (w := w) (base := base) T F_m_Facts___init__ g_m_Facts___init__ h_p_checked_regions h_p_checked_facts h_p_steps_of h_p_mask_of h_p_reached h_p_candidates h_p_follows
  have h_l_rank := ok_l_rank (P := P) (w := w) (base := base) T F_l_rank g_l_rank
  have h_l_steps := ok_l_steps (P := P) (w := w) (base := base) T F_l_steps g_l_steps
  have h_l_ways := ok_l_ways (P := P) (w := w) (base := base) T F_l_ways g_l_ways h_l_steps h_l_rank
  have h_p_is_claim := ok_p_is_claim (P := P) (w := w) (base := base) T F_p_is_claim g_p_is_claim h_p_is_region
  have h_p_claim_number := ok_p_claim_number (P := P) (w := w) (base := base) T F_p_claim_number g_p_claim_number
  have h_p_told_claims := ok_p_told_claims (P := P) (w := w) (base := base) T F_p_told_claims g_p_told_claims
  have h_m_Facts_way := ok_m_Facts_way (P := P) (w := w) (base := base) T F_m_Facts_way g_m_Facts_way h_p_is_claim h_p_reached h_p_claim_number h_p_told_claims
  exact ok_p_law T F_p_law h_l_pile h_l_names h_l_take h_l_held h_m_Facts___init__ h_l_ways h_m_Facts_way
end K02

open PySem PySem.W PySem.Calls PyProof.Rows
theorem PySem.Challenge.cw_coatrows_k02_best_ways_holds : PySem.Challenge.rw_coatrows_k02_best_ways.Holds := by
  w_on; o_law
  refine HandSHeadRun.head_any (r := OpenLaw.row PySem.Challenge.rw_coatrows_k02_best_ways) (q := view (OpenLaw.row PySem.Challenge.rw_coatrows_k02_best_ways).prog [46]) (H := K02.hk) (ob := K02.ob) (M := 8000) (loose := K02.loose) (d := HandSHeadRun.topDef (OpenLaw.row PySem.Challenge.rw_coatrows_k02_best_ways).prog 46) (kwd := []) K02.ob_eq
    (by kernel_rfl) (fun s => by kernel_rfl) K02.run (by kernel_rfl) (by kernel_rfl) (by kernel_rfl) (by rfl) (by first | assumption | decide +kernel) (by decide +kernel) ⟨rfl, rfl, rfl, rfl, rfl, by decide +kernel⟩ ?hw ?hc
  case hw => w_witness2
  case hc =>
    refine TL.walk_law (l := PySem.Challenge.rw_coatrows_k02_best_ways) (n := 63) (x := "_law_script") (f := K02.f_p_law) rfl (by decide) (by kernel_rfl) K02.pure_law ?F
    intro w mg fa h Y G hmg0
    obtain ⟨K, KX, c⟩ := Y
    have hmg : mg ("law" : PySem.Str) = some (.ref fa) := by
      have e : (HandSHeadRun.topDef (OpenLaw.row PySem.Challenge.rw_coatrows_k02_best_ways).prog 46).name = ("law" : PySem.Str) := by kernel_rfl
      rw [← e]
      exact hmg0
    obtain ⟨fd, hb, hF⟩ := K02.facts (P := (PySem.Challenge.rw_coatrows_k02_best_ways).prog) (w := w) KX G hmg c
    exact ⟨K, fd, KX, hb, hF⟩

