import PyProof.Rows.All
import HandS.ForMost
import HandS.ForExc
import HandS.CallSlots
import HandS.ExcInit
import HandS.ExcIs
import HandS.ExcField
import HandS.IsInst
import HandS.Deep
import HandS.TupAny
import HandS.Conv
import HandS.Flt
import HandS.Walk
import KE.KExcSuper
import HandS.Defaults
import HandS.WordsExc
import HandS.ExcOwn
import KE.KExcIs
import PySem.Challenge.RW_pathsandchances_k44_distances_of_texts
set_option Elab.async false
set_option linter.all false
set_option maxRecDepth 100000
set_option maxHeartbeats 4000000
namespace Dl
open PySem PySem.Spec L2

/-- plain data -/
inductive D where
  | non | bl (b : Bool) | int (i : Int) | str (s : List Nat)
  | lst (xs : List D) | tup (xs : List D)
  | ins (c : Str) (fs : List (Str × D))
  | dic (kvs : List (List Key × D)) (one : Bool)
  | cst (x : Str)
  | ty (n : String)

mutual
def Rep (K : PySem.W.Frag) (mg : Str → Option Value) (G : Hp) : D → V → Prop
  | .non, v => v = .non
  | .bl b, v => v = .bl b
  | .int i, v => v = .int i
  | .str s, v => v = .str ⟨s.toArray⟩
  | .lst ds, v => ∃ a vs, v = .ref a ∧ SqL K G a vs ∧ Reps K mg G ds vs
  | .tup ds, v => ∃ a vs, v = .ref a ∧ SqT K G a vs ∧ Reps K mg G ds vs
  | .ins c fs, v => ∃ a C dx vs, v = .ref a ∧ mg c = some (.ref C) ∧ G a = some (.ins C dx vs) ∧ RepF K mg G fs vs
  | .dic kvs true, v => ∃ a vs, v = .ref a ∧ G a = some (.dK vs) ∧ RepK K mg G kvs vs
  | .dic kvs false, v => ∃ a vs, v = .ref a ∧ G a = some (.dT vs) ∧ RepT K mg G kvs vs
  | .cst x, v => ∃ a, v = .ref a ∧ mg x = some (.ref a)
  | .ty n, v => v = .ty n
def Reps (K : PySem.W.Frag) (mg : Str → Option Value) (G : Hp) : List D → List V → Prop
  | [], vs => vs = []
  | d :: ds, vs => ∃ v r, vs = v :: r ∧ Rep K mg G d v ∧ Reps K mg G ds r
def RepF (K : PySem.W.Frag) (mg : Str → Option Value) (G : Hp) : List (Str × D) → List (Str × V) → Prop
  | [], vs => vs = []
  | (f, d) :: ds, vs => ∃ v r, vs = (f, v) :: r ∧ Rep K mg G d v ∧ RepF K mg G ds r
def RepK (K : PySem.W.Frag) (mg : Str → Option Value) (G : Hp) : List (List Key × D) → List (Key × V) → Prop
  | [], vs => vs = []
  | (k, d) :: ds, vs => ∃ k' v r, vs = (k', v) :: r ∧ k = [k'] ∧ Rep K mg G d v ∧ RepK K mg G ds r
def RepT (K : PySem.W.Frag) (mg : Str → Option Value) (G : Hp) : List (List Key × D) → List (List Key × V) → Prop
  | [], vs => vs = []
  | (k, d) :: ds, vs => ∃ v r, vs = (k, v) :: r ∧ Rep K mg G d v ∧ RepT K mg G ds r
end

/-- all of G stands in H -/
def Sub (G H : Hp) : Prop := ∀ a o, G a = some o → H a = some o
theorem Sub.refl (G : Hp) : Sub G G := fun _ _ h => h
theorem Sub.trans {A B C : Hp} (h : Sub A B) (k : Sub B C) : Sub A C := fun a o e => k a o (h a o e)
theorem Sub.rd {G H : Hp} (s : Sub G H) {a : Addr} {u : HO} (h : Rd G a u) : Rd H a u := by
  rcases h with h | ⟨o, h⟩
  · exact .inl (s a _ h)
  · exact .inr ⟨o, s a _ h⟩
theorem Sub.sqL {K : PySem.W.Frag} {G H : Hp} (s : Sub G H) {a : Addr} {xs : List V} (h : SqL K G a xs) : SqL K H a xs := h.imp s.rd id
theorem Sub.sqT {K : PySem.W.Frag} {G H : Hp} (s : Sub G H) {a : Addr} {xs : List V} (h : SqT K G a xs) : SqT K H a xs := h.imp s.rd id
theorem Sub.new {G : Hp} {a : Addr} {o : HO} (n : G a = none) : Sub G (upd G a o) := fun b u e => by
  rw [upd_ne (ne_of_none e n)]; exact e

mutual
theorem Rep.mono {K : PySem.W.Frag} {mg : Str → Option Value} {G G' : Hp} (s : Sub G G') : ∀ {d : D} {v : V}, Rep K mg G d v → Rep K mg G' d v
  | .non, _, h => h
  | .bl _, _, h => h
  | .int _, _, h => h
  | .str _, _, h => h
  | .lst _, _, h => let ⟨a, vs, e, l, r⟩ := h; ⟨a, vs, e, s.sqL l, Reps.mono s r⟩
  | .tup _, _, h => let ⟨a, vs, e, l, r⟩ := h; ⟨a, vs, e, s.sqT l, Reps.mono s r⟩
  | .ins _ _, _, h => let ⟨a, C, dx, vs, e, m, l, r⟩ := h; ⟨a, C, dx, vs, e, m, s a _ l, RepF.mono s r⟩
  | .dic _ true, _, h => let ⟨a, vs, e, l, r⟩ := h; ⟨a, vs, e, s a _ l, RepK.mono s r⟩
  | .dic _ false, _, h => let ⟨a, vs, e, l, r⟩ := h; ⟨a, vs, e, s a _ l, RepT.mono s r⟩
  | .cst _, _, h => h
  | .ty _, _, h => h
theorem Reps.mono {K : PySem.W.Frag} {mg : Str → Option Value} {G G' : Hp} (s : Sub G G') : ∀ {d : List D} {v : List V}, Reps K mg G d v → Reps K mg G' d v
  | [], _, h => h
  | _ :: _, _, h => let ⟨v, r, e, h1, h2⟩ := h; ⟨v, r, e, Rep.mono s h1, Reps.mono s h2⟩
theorem RepF.mono {K : PySem.W.Frag} {mg : Str → Option Value} {G G' : Hp} (s : Sub G G') : ∀ {d : List (Str × D)} {v : List (Str × V)}, RepF K mg G d v → RepF K mg G' d v
  | [], _, h => h
  | (_, _) :: _, _, h => let ⟨v, r, e, h1, h2⟩ := h; ⟨v, r, e, Rep.mono s h1, RepF.mono s h2⟩
theorem RepK.mono {K : PySem.W.Frag} {mg : Str → Option Value} {G G' : Hp} (s : Sub G G') : ∀ {d : List (List Key × D)} {v : List (Key × V)}, RepK K mg G d v → RepK K mg G' d v
  | [], _, h => h
  | (_, _) :: _, _, h => let ⟨k, v, r, e, e2, h1, h2⟩ := h; ⟨k, v, r, e, e2, Rep.mono s h1, RepK.mono s h2⟩
theorem RepT.mono {K : PySem.W.Frag} {mg : Str → Option Value} {G G' : Hp} (s : Sub G G') : ∀ {d : List (List Key × D)} {v : List (List Key × V)}, RepT K mg G d v → RepT K mg G' d v
  | [], _, h => h
  | (_, _) :: _, _, h => let ⟨v, r, e, h1, h2⟩ := h; ⟨v, r, e, Rep.mono s h1, RepT.mono s h2⟩
end

/-! ### values that may hold mutable objects -/
/-- the names' values; the exception that is being handled -/
structure MG where
  f : Str → Option Value
  xe : Option (Addr × Value × Option Addr)
instance : Coe MG (Str → Option Value) := ⟨MG.f⟩
inductive E where
  | d (x : D) | h (n : Nat) | t (es : List E) | x (c : Str) (fs : List (Str × D))
inductive Ob where
  | lst (xs : List E)
  | dic (kvs : List (List Key × E)) (one : Bool)
  | ins (c : Str) (fs : List (Str × E))
inductive Cell where
  | own (o : Ob) | frz (x : D) | dead
abbrev Sto := List Cell
abbrev En := List (Option E)

section
variable (K : PySem.W.Frag) (mg : MG) (G : Hp) (α : List Addr)
mutual
def RE : E → V → Prop
  | .d x, v => Rep K mg G x v
  | .h n, v => ∃ a, v = .ref a ∧ α[n]? = some a
  | .t es, v => ∃ a vs, v = .ref a ∧ G a = some (.tup vs) ∧ REs es vs
  | .x _ _, _ => False
def REs : List E → List V → Prop
  | [], vs => vs = []
  | d :: ds, vs => ∃ v r, vs = v :: r ∧ RE d v ∧ REs ds r
end
def REF : List (Str × E) → List (Str × V) → Prop
  | [], vs => vs = []
  | (f, d) :: ds, vs => ∃ v r, vs = (f, v) :: r ∧ RE K mg G α d v ∧ REF ds r
def REK : List (List Key × E) → List (Key × V) → Prop
  | [], vs => vs = []
  | (k, d) :: ds, vs => ∃ k' v r, vs = (k', v) :: r ∧ k = [k'] ∧ RE K mg G α d v ∧ REK ds r
def RET : List (List Key × E) → List (List Key × V) → Prop
  | [], vs => vs = []
  | (k, d) :: ds, vs => ∃ v r, vs = (k, v) :: r ∧ RE K mg G α d v ∧ RET ds r
/-- an own object at a -/
def RO (H : Hp) (a : Addr) : Ob → Prop
  | .lst es => ∃ vs, H a = some (.lst vs) ∧ REs K mg G α es vs
  | .dic kvs true => ∃ vs, H a = some (.dK vs) ∧ REK K mg G α kvs vs
  | .dic kvs false => ∃ vs, H a = some (.dT vs) ∧ RET K mg G α kvs vs
  | .ins c fs => ∃ C dx vs, mg.f c = some (.ref C) ∧ H a = some (.ins C dx vs) ∧ REF K mg G α fs vs
def RS1 : Option E → Option V → Prop
  | some e, some v => RE K mg G α e v
  | none, _ => True
  | some _, none => False
structure RL (H : Hp) (S : Sto) : Prop where
  sub : Sub G H
  len : α.length = S.length
  own : ∀ (n : Nat) (o : Ob), S[n]? = some (.own o) → ∃ a, α[n]? = some a ∧ G a = none ∧ RO K mg G α H a o
  inj : ∀ (n m : Nat) (a : Addr) (o : Ob), S[n]? = some (.own o) → α[n]? = some a → α[m]? = some a → n = m
  frz : ∀ (n : Nat) (x : D), S[n]? = some (.frz x) → ∃ a, α[n]? = some a ∧ Rep K mg G x (.ref a)
  al : ∀ a ∈ α, ∃ o, H a = some o
/-- the exception that is being handled, in a slot -/
def RXE (e : E) (v : V) : Prop := ∃ c fs a C dx, e = .x c fs ∧ v = .ref a ∧ mg.xe = some (a, .ref C, dx) ∧ mg.f c = some (.ref C) ∧ ((fs = [] ∧ dx = none) ∨ ∃ d vs, dx = some d ∧ G d = some (.xd vs) ∧ RepF K mg.f G fs vs)
def RV (E : En) (σ : St) : Prop := E.length = σ.length ∧ ∀ (i : Nat) (e : Dl.E), E[i]? = some (some e) → ∃ v, σ[i]? = some (some v) ∧ (RE K mg G α e v ∨ RXE K mg G e v)
end

/-- a step: the ground grows, what is not owned stays -/
structure Stp (G : Hp) (α : List Addr) (H : Hp) (G' : Hp) (α' : List Addr) (H' : Hp) : Prop where
  g : Sub G G'
  al : α <+: α'
  h : ∀ a o, H a = some o → a ∉ α → H' a = some o
  gn : ∀ a o, G' a = some o → G a = none → a ∈ α ∨ H a = none ∨ ∃ vs, H a = some (.xd vs)
  an : ∀ a, a ∈ α' → a ∈ α ∨ H a = none
theorem Stp.refl (G : Hp) (α : List Addr) (H : Hp) : Stp G α H G α H := ⟨Sub.refl G, List.prefix_rfl, fun _ _ h _ => h, fun _ _ h n => (by rw [n] at h; cases h), fun _ h => .inl h⟩
theorem Stp.trans {G G1 G2 : Hp} {α α1 α2 : List Addr} {H H1 H2 : Hp} (p : Stp G α H G1 α1 H1) (q : Stp G1 α1 H1 G2 α2 H2) : Stp G α H G2 α2 H2 where
  g := p.g.trans q.g
  al := p.al.trans q.al
  h := fun a o e n => by
    have e1 := p.h a o e n
    refine q.h a o e1 fun m => ?_
    rcases p.an a m with z | z
    · exact n z
    · rw [e] at z; cases z
  gn := fun a o e n => by
    cases e1 : G1 a with
    | some u => exact p.gn a u e1 n
    | none =>
      rcases q.gn a o e e1 with m | m
      · exact (p.an a m).imp id .inl
      · cases e2 : H a with
        | none => exact .inr (.inl rfl)
        | some u =>
          by_cases hm : a ∈ α
          · exact .inl hm
          · rw [p.h a u e2 hm] at m
            rcases m with m | ⟨vs, m⟩
            · cases m
            · exact .inr (.inr ⟨vs, m⟩)
  an := fun a m => by
    rcases q.an a m with z | z
    · exact p.an a z
    · cases e2 : H a with
      | none => exact .inr rfl
      | some u =>
        by_cases hm : a ∈ α
        · exact .inl hm
        · rw [p.h a u e2 hm] at z; cases z

theorem pre_get {α β : List Addr} (h : α <+: β) {n : Nat} {a : Addr} (e : α[n]? = some a) : β[n]? = some a := by
  obtain ⟨r, rfl⟩ := h
  rw [List.getElem?_append_left (List.getElem?_eq_some_iff.mp e).1]; exact e
section
variable {K : PySem.W.Frag} {mg : MG} {G G' : Hp} {α α' : List Addr}
mutual
theorem RE.mono (s : Sub G G') (p : α <+: α') : ∀ {e : E} {v : V}, RE K mg G α e v → RE K mg G' α' e v
  | .d _, _, h => Rep.mono s h
  | .h _, _, h => let ⟨a, e, x⟩ := h; ⟨a, e, pre_get p x⟩
  | .t _, _, h => let ⟨a, vs, e, l, r⟩ := h; ⟨a, vs, e, s a _ l, REs.mono s p r⟩
  | .x _ _, _, h => h.elim
theorem REs.mono (s : Sub G G') (p : α <+: α') : ∀ {e : List E} {v : List V}, REs K mg G α e v → REs K mg G' α' e v
  | [], _, h => h
  | _ :: _, _, h => let ⟨v, r, e, h1, h2⟩ := h; ⟨v, r, e, RE.mono s p h1, REs.mono s p h2⟩
end
theorem REF.mono (s : Sub G G') (p : α <+: α') : ∀ {e : List (Str × E)} {v : List (Str × V)}, REF K mg G α e v → REF K mg G' α' e v
  | [], _, h => h
  | (_, _) :: _, _, h => let ⟨v, r, e, h1, h2⟩ := h; ⟨v, r, e, RE.mono s p h1, REF.mono s p h2⟩
theorem REK.mono (s : Sub G G') (p : α <+: α') : ∀ {e : List (List Key × E)} {v : List (Key × V)}, REK K mg G α e v → REK K mg G' α' e v
  | [], _, h => h
  | (_, _) :: _, _, h => let ⟨k, v, r, e, e2, h1, h2⟩ := h; ⟨k, v, r, e, e2, RE.mono s p h1, REK.mono s p h2⟩
theorem RET.mono (s : Sub G G') (p : α <+: α') : ∀ {e : List (List Key × E)} {v : List (List Key × V)}, RET K mg G α e v → RET K mg G' α' e v
  | [], _, h => h
  | (_, _) :: _, _, h => let ⟨v, r, e, h1, h2⟩ := h; ⟨v, r, e, RE.mono s p h1, RET.mono s p h2⟩
theorem RO.mono {H H' : Hp} {a : Addr} (s : Sub G G') (p : α <+: α') (hh : ∀ o, H a = some o → H' a = some o) : ∀ {o : Ob}, RO K mg G α H a o → RO K mg G' α' H' a o
  | .lst _, h => let ⟨vs, e, r⟩ := h; ⟨vs, hh _ e, REs.mono s p r⟩
  | .dic _ true, h => let ⟨vs, e, r⟩ := h; ⟨vs, hh _ e, REK.mono s p r⟩
  | .dic _ false, h => let ⟨vs, e, r⟩ := h; ⟨vs, hh _ e, RET.mono s p r⟩
  | .ins _ _, h => let ⟨C, dx, vs, m, e, r⟩ := h; ⟨C, dx, vs, m, hh _ e, REF.mono s p r⟩
theorem RO.there {H : Hp} {a : Addr} : ∀ {o : Ob}, RO K mg G α H a o → ∃ u, H a = some u
  | .lst _, h => let ⟨_, e, _⟩ := h; ⟨_, e⟩
  | .dic _ true, h => let ⟨_, e, _⟩ := h; ⟨_, e⟩
  | .dic _ false, h => let ⟨_, e, _⟩ := h; ⟨_, e⟩
  | .ins _ _, h => let ⟨_, _, _, _, e, _⟩ := h; ⟨_, e⟩
theorem RV.mono {E : En} {σ : St} (s : Sub G G') (p : α <+: α') (h : RV K mg G α E σ) : RV K mg G' α' E σ :=
  ⟨h.1, fun i e q => let ⟨v, a, b⟩ := h.2 i e q; ⟨v, a, b.imp (RE.mono s p) fun ⟨c, fs, a, C, dx, e, x, m, y, q⟩ => ⟨c, fs, a, C, dx, e, x, m, y, q.imp id fun ⟨d, vs, e, l, r⟩ => ⟨d, vs, e, s d _ l, RepF.mono s r⟩⟩⟩⟩
end

/-! ### what an evaluation gives -/
structure Xc where
  cls : Str
  fs : List (Str × D)
inductive R (τ : Type) where
  | ok (v : τ) (S : Sto) | ex (e : Xc) (S : Sto) | no
def R.bind {τ υ : Type} (r : R τ) (f : τ → Sto → R υ) : R υ := match r with
  | .ok v S => f v S
  | .ex e S => .ex e S
  | .no => .no
theorem R.bind_ok {τ υ : Type} {v : τ} {S : Sto} {f : τ → Sto → R υ} : (R.ok v S).bind f = f v S := rfl
abbrev DE := En → Sto → R E
abbrev DT := En → Sto → R Bool
abbrev DA := En → Sto → R (List E)
/-- a caught or raised exception: its class by its name, its own fields -/
def RX (K : PySem.W.Frag) (mg : MG) (G : Hp) (H : Hp) (cls : Value) (dx : Option Addr) (e : Xc) : Prop :=
  ∃ C, mg.f e.cls = some (.ref C) ∧ cls = .ref C ∧ ((e.fs = [] ∧ dx = none) ∨ ∃ d vs, dx = some d ∧ H d = some (.xd vs) ∧ RepF K mg G e.fs vs)

section
variable (K : PySem.W.Frag) (mg : MG) (W : WX)
def pstX (σ : St) (G : Hp) (α : List Addr) (H : Hp) (S' : Sto) (e : Xc) : Prop := ∀ cls dx G' α' H', Stp G α H G' α' H' → RL K mg G' α' H' S' → RX K mg G' H' cls dx e → W cls dx σ H'
/-- what is wanted of the outcome r -/
def pst {τ υ : Type} (Rel : Hp → List Addr → τ → υ → Prop) (σ : St) (G : Hp) (α : List Addr) (H : Hp) (Q : υ → Hp → Prop) : R τ → Prop
  | .ok e S' => ∀ v G' α' H', Stp G α H G' α' H' → RL K mg G' α' H' S' → Rel G' α' e v → Q v H'
  | .ex e S' => pstX K mg W σ G α H S' e
  | .no => False
abbrev RlT : Hp → List Addr → Bool → Bool → Prop := fun _ _ b v => v = b
/-- a reading is met by a function -/
def SE (t : TE) (d : DE) : Prop := ∀ (G : Hp) (α : List Addr) (H : Hp) (S : Sto) (E : En) (σ : St) (Q : V → Hp → Prop), RL K mg G α H S → RV K mg G α E σ → pst K mg W (RE K mg) σ G α H Q (d E S) → t σ H Q
def STe (t : TT) (d : DT) : Prop := ∀ (G : Hp) (α : List Addr) (H : Hp) (S : Sto) (E : En) (σ : St) (Q : Bool → Hp → Prop), RL K mg G α H S → RV K mg G α E σ → pst K mg W RlT σ G α H Q (d E S) → t σ H Q
def SA (t : TA) (d : DA) : Prop := ∀ (G : Hp) (α : List Addr) (H : Hp) (S : Sto) (E : En) (σ : St) (Q : List V → Hp → Prop), RL K mg G α H S → RV K mg G α E σ → pst K mg W (REs K mg) σ G α H Q (d E S) → t σ H Q
end
inductive RSt where
  | nx (E : En) (S : Sto) | rt (v : E) (S : Sto) | bk (E : En) (S : Sto) | ct (E : En) (S : Sto) | ex (e : Xc) (E : En) (S : Sto) | no
abbrev DS := En → Sto → RSt
def R.st {τ : Type} (r : R τ) (E : En) (f : τ → Sto → RSt) : RSt := match r with
  | .ok v S => f v S
  | .ex e S => .ex e E S
  | .no => .no
def RSt.bind (r : RSt) (f : En → Sto → RSt) : RSt := match r with
  | .nx E S => f E S
  | .rt v S => .rt v S
  | .bk E S => .bk E S
  | .ct E S => .ct E S
  | .ex e E S => .ex e E S
  | .no => .no
section
variable (K : PySem.W.Frag) (mg : MG) (W : WX)
def pstF (G : Hp) (α : List Addr) (H : Hp) (Q : St → Hp → Prop) (E' : En) (S' : Sto) : Prop := ∀ σ' G' α' H', Stp G α H G' α' H' → RL K mg G' α' H' S' → RV K mg G' α' E' σ' → Q σ' H'
def pstS (G : Hp) (α : List Addr) (H : Hp) (Dn : Ends) : RSt → Prop
  | .nx E' S' => pstF K mg G α H Dn.nx E' S'
  | .bk E' S' => pstF K mg G α H Dn.bk E' S'
  | .ct E' S' => pstF K mg G α H Dn.ct E' S'
  | .rt e S' => ∀ v G' α' H', Stp G α H G' α' H' → RL K mg G' α' H' S' → RE K mg G' α' e v → Dn.rt v H'
  | .ex e E' S' => ∀ cls dx σ' G' α' H', Stp G α H G' α' H' → RL K mg G' α' H' S' → RV K mg G' α' E' σ' → RX K mg G' H' cls dx e → W cls dx σ' H'
  | .no => False
def SS (t : TS) (d : DS) : Prop := ∀ (G : Hp) (α : List Addr) (H : Hp) (S : Sto) (E : En) (σ : St) (Dn : Ends), RL K mg G α H S → RV K mg G α E σ → pstS K mg W G α H Dn (d E S) → t Dn σ H
end
section
variable {K : PySem.W.Frag} {mg : MG} {W : WX} {G G1 : Hp} {α α1 : List Addr} {H H1 : Hp} {σ : St} {τ υ τ' υ' : Type} {Rel : Hp → List Addr → τ → υ → Prop} {Rel' : Hp → List Addr → τ' → υ' → Prop}
theorem pstX.fwd {S' : Sto} {e : Xc} (p : Stp G α H G1 α1 H1) (h : pstX K mg W σ G α H S' e) : pstX K mg W σ G1 α1 H1 S' e := fun cls dx G' α' H' q l x => h cls dx G' α' H' (p.trans q) l x
theorem pst.fwd {Q : υ → Hp → Prop} (p : Stp G α H G1 α1 H1) : ∀ {r : R τ}, pst K mg W Rel σ G α H Q r → pst K mg W Rel σ G1 α1 H1 Q r
  | .ok _ _, h => fun v G' α' H' q l x => h v G' α' H' (p.trans q) l x
  | .ex _ _, h => pstX.fwd p h
  | .no, h => h
theorem pstF.fwd {Q : St → Hp → Prop} {E' : En} {S' : Sto} (p : Stp G α H G1 α1 H1) (h : pstF K mg G α H Q E' S') : pstF K mg G1 α1 H1 Q E' S' := fun σ' G' α' H' q l x => h σ' G' α' H' (p.trans q) l x
theorem pstS.fwd {Dn : Ends} (p : Stp G α H G1 α1 H1) : ∀ {r : RSt}, pstS K mg W G α H Dn r → pstS K mg W G1 α1 H1 Dn r
  | .nx _ _, h => pstF.fwd p h
  | .bk _ _, h => pstF.fwd p h
  | .ct _ _, h => pstF.fwd p h
  | .rt _ _, h => fun v G' α' H' q l x => h v G' α' H' (p.trans q) l x
  | .ex _ _ _, h => fun cls dx σ' G' α' H' q l x y => h cls dx σ' G' α' H' (p.trans q) l x y
  | .no, h => h
/-- one after another -/
theorem pst.bind {Q : υ' → Hp → Prop} {Q' : υ → Hp → Prop} {f : τ → Sto → R τ'} : ∀ {r : R τ}, pst K mg W Rel' σ G α H Q (r.bind f) →
    (∀ v e S' G' α' H', Stp G α H G' α' H' → RL K mg G' α' H' S' → Rel G' α' e v → pst K mg W Rel' σ G' α' H' Q (f e S') → Q' v H') → pst K mg W Rel σ G α H Q' r
  | .ok _ _, p, k => fun v G' α' H' s l x => k v _ _ G' α' H' s l x (pst.fwd s p)
  | .ex _ _, p, _ => p
  | .no, p, _ => p
theorem pst.st {Q' : υ → Hp → Prop} {Dn : Ends} {E : En} {f : τ → Sto → RSt} (rv : RV K mg G α E σ) : ∀ {r : R τ}, pstS K mg W G α H Dn (r.st E f) →
    (∀ v e S' G' α' H', Stp G α H G' α' H' → RL K mg G' α' H' S' → Rel G' α' e v → pstS K mg W G' α' H' Dn (f e S') → Q' v H') → pst K mg W Rel σ G α H Q' r
  | .ok _ _, p, k => fun v G' α' H' s l x => k v _ _ G' α' H' s l x (pstS.fwd s p)
  | .ex _ _, p, _ => fun cls dx G' α' H' s l x => p cls dx σ G' α' H' s l (rv.mono s.g s.al) x
  | .no, p, _ => p
theorem pstS.bind {Dn : Ends} {f : En → Sto → RSt} : ∀ {r : RSt}, pstS K mg W G α H Dn (r.bind f) →
    pstS K mg W G α H { Dn with nx := fun σ' H' => ∃ E' S' G' α', Stp G α H G' α' H' ∧ RL K mg G' α' H' S' ∧ RV K mg G' α' E' σ' ∧ pstS K mg W G' α' H' Dn (f E' S') } r
  | .nx _ _, p => fun σ' G' α' H' s l x => ⟨_, _, G', α', s, l, x, pstS.fwd s p⟩
  | .bk _ _, p => p
  | .ct _ _, p => p
  | .rt _ _, p => p
  | .ex _ _ _, p => p
  | .no, p => p
/-- at once -/
theorem pst.here {Q : υ → Hp → Prop} {e : τ} {S : Sto} {v : υ} (p : pst K mg W Rel σ G α H Q (.ok e S)) (l : RL K mg G α H S) (x : Rel G α e v) : Q v H := p v G α H (Stp.refl G α H) l x
end
end Dl

namespace Dl
open PySem PySem.Spec L2
section
variable {K : PySem.W.Frag} {mg : MG} {W : WX} {G : Hp} {α : List Addr} {H : Hp} {S : Sto} {p a : Addr} {ho : HO} {n : Nat} {o o' : Ob} {x : D}
theorem RL.ne_new (l : RL K mg G α H S) (hp : H p = none) : ∀ {m : Nat}, α[m]? ≠ some p := fun {m} e => by
  obtain ⟨u, h⟩ := l.al p (List.mem_of_getElem? e)
  rw [hp] at h; cases h
theorem Stp.alloc (hp : H p = none) : Stp G α H G (α ++ [p]) (upd H p ho) where
  g := Sub.refl G
  al := List.prefix_append ..
  h := fun a o e _ => by rw [upd_ne (ne_of_none e hp)]; exact e
  gn := fun a o e n => by rw [n] at e; cases e
  an := fun a m => by
    rcases List.mem_append.mp m with m | m
    · exact .inl m
    · rw [List.mem_singleton.mp m]; exact .inr hp
/-- a new object of one's own -/
theorem RL.alloc (l : RL K mg G α H S) (hp : H p = none) (ro : RO K mg G (α ++ [p]) (upd H p ho) p o) : RL K mg G (α ++ [p]) (upd H p ho) (S ++ [.own o]) where
  sub := fun a o e => by rw [upd_ne (ne_of_none (l.sub a o e) hp)]; exact l.sub a o e
  len := by rw [List.length_append, List.length_append, l.len]; rfl
  own := fun n o1 e => by
    by_cases hn : n < S.length
    · rw [List.getElem?_append_left hn] at e
      obtain ⟨a, h1, h2, h3⟩ := l.own n o1 e
      refine ⟨a, by rw [List.getElem?_append_left (by rw [l.len]; exact hn)]; exact h1, h2, RO.mono (Sub.refl G) (List.prefix_append ..) (fun u q => ?_) h3⟩
      rw [upd_ne (ne_of_none q hp)]; exact q
    · rw [List.getElem?_append_right (by omega)] at e
      have hn' : n - S.length = 0 := by
        by_cases z : n - S.length = 0
        · exact z
        · rw [List.getElem?_eq_none (by simp; omega)] at e; cases e
      rw [hn'] at e
      cases e
      have : n = S.length := by omega
      subst this
      refine ⟨p, by rw [← l.len]; simp, ?_, ro⟩
      cases g : G p with
      | none => rfl
      | some u => rw [l.sub p u g] at hp; cases hp
  inj := fun n m a o1 e h1 h2 => by
    by_cases hn : n < S.length
    · rw [List.getElem?_append_left hn] at e
      rw [List.getElem?_append_left (by rw [l.len]; exact hn)] at h1
      by_cases hm : m < α.length
      · rw [List.getElem?_append_left hm] at h2
        exact l.inj n m a o1 e h1 h2
      · rw [List.getElem?_append_right (by omega)] at h2
        have hm' : m - α.length = 0 := by
          by_cases z : m - α.length = 0
          · exact z
          · rw [List.getElem?_eq_none (by simp; omega)] at h2; cases h2
        rw [hm'] at h2
        cases h2
        exact absurd h1 (l.ne_new hp)
    · have hn2 : n < α.length + 1 := by
        have := (List.getElem?_eq_some_iff.mp h1).1
        simpa using this
      have hn3 : n = α.length := by rw [← l.len] at hn; omega
      subst hn3
      have h1' : a = p := by simpa using h1.symm
      subst h1'
      by_cases hm : m < α.length
      · rw [List.getElem?_append_left hm] at h2
        exact absurd h2 (l.ne_new hp)
      · have := (List.getElem?_eq_some_iff.mp h2).1
        simp at this
        omega
  frz := fun n x e => by
    by_cases hn : n < S.length
    · rw [List.getElem?_append_left hn] at e
      obtain ⟨a, h1, h2⟩ := l.frz n x e
      exact ⟨a, by rw [List.getElem?_append_left (by rw [l.len]; exact hn)]; exact h1, h2⟩
    · rw [List.getElem?_append_right (by omega)] at e
      by_cases z : n - S.length = 0
      · rw [z] at e; cases e
      · rw [List.getElem?_eq_none (by simp; omega)] at e; cases e
  al := fun b m => by
    rcases List.mem_append.mp m with m | m
    · obtain ⟨u, e⟩ := l.al b m
      exact ⟨u, by rw [upd_ne (ne_of_none e hp)]; exact e⟩
    · rw [List.mem_singleton.mp m]; exact ⟨_, upd_same⟩
/-- a new object in the ground -/
theorem Stp.ground (l : RL K mg G α H S) (hp : H p = none) : Stp G α H (upd G p ho) α (upd H p ho) where
  g := fun a o e => by rw [upd_ne (ne_of_none (l.sub a o e) hp)]; exact e
  al := List.prefix_rfl
  h := fun a o e _ => by rw [upd_ne (ne_of_none e hp)]; exact e
  gn := fun a o e n => by
    by_cases z : a = p
    · rw [z]; exact .inr (.inl hp)
    · rw [upd_ne z, n] at e; cases e
  an := fun a m => .inl m
theorem RL.ground (l : RL K mg G α H S) (hp : H p = none) : RL K mg (upd G p ho) α (upd H p ho) S where
  sub := fun a o e => by
    by_cases z : a = p
    · rw [z] at e ⊢; rw [upd_same] at e ⊢; exact e
    · rw [upd_ne z] at e ⊢; exact l.sub a o e
  len := l.len
  own := fun n o1 e => by
    obtain ⟨a, h1, h2, h3⟩ := l.own n o1 e
    obtain ⟨u, hu⟩ := RO.there h3
    have ne : a ≠ p := ne_of_none hu hp
    exact ⟨a, h1, by rw [upd_ne ne]; exact h2, RO.mono (Stp.ground l hp).g List.prefix_rfl (fun u q => by rw [upd_ne ne]; exact q) h3⟩
  inj := l.inj
  frz := fun n x e => by
    obtain ⟨a, h1, h2⟩ := l.frz n x e
    exact ⟨a, h1, Rep.mono (Stp.ground l hp).g h2⟩
  al := fun b m => by
    obtain ⟨u, e⟩ := l.al b m
    exact ⟨u, by rw [upd_ne (ne_of_none e hp)]; exact e⟩
/-- an own object is changed -/
theorem Stp.write (h1 : α[n]? = some a) : Stp G α H G α (upd H a ho) where
  g := Sub.refl G
  al := List.prefix_rfl
  h := fun b o e m => by rw [upd_ne (fun z => m (by rw [z]; exact List.mem_of_getElem? h1))]; exact e
  gn := fun a o e n => by rw [n] at e; cases e
  an := fun a m => .inl m
theorem RL.write (l : RL K mg G α H S) (hn : S[n]? = some (.own o)) (ha : α[n]? = some a) (ro : RO K mg G α (upd H a ho) a o') : RL K mg G α (upd H a ho) (S.set n (.own o')) where
  sub := fun b u e => by
    obtain ⟨a', h1, h2, _⟩ := l.own n o hn
    rw [ha] at h1
    cases h1
    rw [upd_ne (ne_of_none e h2)]
    exact l.sub b u e
  len := by rw [List.length_set]; exact l.len
  own := fun m o1 e => by
    by_cases z : m = n
    · subst z
      rw [List.getElem?_set_self (List.getElem?_eq_some_iff.mp hn).1] at e
      cases e
      obtain ⟨a', h1, h2, _⟩ := l.own m o hn
      rw [ha] at h1
      cases h1
      exact ⟨a, ha, h2, ro⟩
    · rw [List.getElem?_set_ne (Ne.symm z)] at e
      obtain ⟨b, h1, h2, h3⟩ := l.own m o1 e
      have nb : b ≠ a := fun q => by
        rw [q] at h1
        exact z (l.inj n m a o hn ha h1).symm
      exact ⟨b, h1, h2, RO.mono (Sub.refl G) List.prefix_rfl (fun u q => by rw [upd_ne nb]; exact q) h3⟩
  inj := fun m k b o1 e h1 h2 => by
    by_cases z : m = n
    · subst z
      exact l.inj m k b o hn h1 h2
    · rw [List.getElem?_set_ne (Ne.symm z)] at e
      exact l.inj m k b o1 e h1 h2
  frz := fun m x e => by
    by_cases z : m = n
    · subst z
      rw [List.getElem?_set_self (List.getElem?_eq_some_iff.mp hn).1] at e
      cases e
    · rw [List.getElem?_set_ne (Ne.symm z)] at e
      exact l.frz m x e
  al := fun b m => by
    by_cases z : b = a
    · rw [z]; exact ⟨_, upd_same⟩
    · rw [upd_ne z]; exact l.al b m
/-- an own object goes into the ground -/
theorem Stp.freeze (l : RL K mg G α H S) (ha : α[n]? = some a) (g0 : G a = none) : Stp G α H (upd G a ho) α H where
  g := Sub.new g0
  al := List.prefix_rfl
  h := fun _ _ e _ => e
  gn := fun b o e n => by
    by_cases z : b = a
    · rw [z]; exact .inl (List.mem_of_getElem? ha)
    · rw [upd_ne z, n] at e; cases e
  an := fun a m => .inl m
theorem RL.freeze (l : RL K mg G α H S) (hn : S[n]? = some (.own o)) (ha : α[n]? = some a) (g0 : G a = none) (hh : H a = some ho) (rx : Rep K mg (upd G a ho) x (.ref a)) : RL K mg (upd G a ho) α H (S.set n (.frz x)) where
  sub := fun b u e => by
    by_cases z : b = a
    · rw [z, upd_same] at e; cases e; rw [z]; exact hh
    · rw [upd_ne z] at e; exact l.sub b u e
  len := by rw [List.length_set]; exact l.len
  own := fun m o1 e => by
    by_cases z : m = n
    · subst z
      rw [List.getElem?_set_self (List.getElem?_eq_some_iff.mp hn).1] at e
      cases e
    · rw [List.getElem?_set_ne (Ne.symm z)] at e
      obtain ⟨b, h1, h2, h3⟩ := l.own m o1 e
      have nb : b ≠ a := fun q => by
        rw [q] at h1
        exact z (l.inj n m a o hn ha h1).symm
      exact ⟨b, h1, by rw [upd_ne nb]; exact h2, RO.mono (Sub.new g0) List.prefix_rfl (fun u q => q) h3⟩
  inj := fun m k b o1 e h1 h2 => by
    by_cases z : m = n
    · subst z
      rw [List.getElem?_set_self (List.getElem?_eq_some_iff.mp hn).1] at e
      cases e
    · rw [List.getElem?_set_ne (Ne.symm z)] at e
      exact l.inj m k b o1 e h1 h2
  frz := fun m y e => by
    by_cases z : m = n
    · subst z
      rw [List.getElem?_set_self (List.getElem?_eq_some_iff.mp hn).1] at e
      cases e
      exact ⟨a, ha, rx⟩
    · rw [List.getElem?_set_ne (Ne.symm z)] at e
      obtain ⟨b, h1, h2⟩ := l.frz m y e
      exact ⟨b, h1, Rep.mono (Sub.new g0) h2⟩
  al := l.al
theorem Reps.length : ∀ {ds : List D} {vs : List V}, Reps K mg G ds vs → vs.length = ds.length
  | [], _, h => by rw [show _ = [] from h]; rfl
  | _ :: _, _, h => by obtain ⟨v, r, rfl, _, h2⟩ := h; simp [Reps.length h2]
theorem REs.length : ∀ {ds : List E} {vs : List V}, REs K mg G α ds vs → vs.length = ds.length
  | [], _, h => by rw [show _ = [] from h]; rfl
  | _ :: _, _, h => by obtain ⟨v, r, rfl, _, h2⟩ := h; simp [REs.length h2]
theorem REs.of_d : ∀ {ds : List D} {vs : List V}, Reps K mg G ds vs → REs K mg G α (ds.map .d) vs
  | [], _, h => h
  | _ :: _, _, h => by obtain ⟨v, r, e, h1, h2⟩ := h; exact ⟨v, r, e, h1, REs.of_d h2⟩
theorem REs.to_d : ∀ {ds : List D} {vs : List V}, REs K mg G α (ds.map .d) vs → Reps K mg G ds vs
  | [], _, h => h
  | _ :: _, _, h => by obtain ⟨v, r, e, h1, h2⟩ := h; exact ⟨v, r, e, h1, REs.to_d h2⟩
theorem REs.get : ∀ {es : List E} {vs : List V} {i : Nat} {e : E}, REs K mg G α es vs → es[i]? = some e → ∃ v, vs[i]? = some v ∧ RE K mg G α e v
  | [], _, _, _, _, h => by simp at h
  | _ :: _, _, 0, _, h, q => by
    obtain ⟨v, r, rfl, h1, h2⟩ := h
    simp at q; subst q
    exact ⟨v, rfl, h1⟩
  | _ :: _, _, i + 1, _, h, q => by
    obtain ⟨v, r, rfl, h1, h2⟩ := h
    obtain ⟨u, a, b⟩ := REs.get h2 (by simpa using q)
    exact ⟨u, by simpa using a, b⟩
theorem REs.append : ∀ {es fs : List E} {vs us : List V}, REs K mg G α es vs → REs K mg G α fs us → REs K mg G α (es ++ fs) (vs ++ us)
  | [], _, _, _, h, k => by rw [show _ = [] from h]; exact k
  | _ :: _, _, _, _, h, k => by obtain ⟨v, r, rfl, h1, h2⟩ := h; exact ⟨v, _, rfl, h1, REs.append h2 k⟩
theorem REs.one {e : E} {v : V} (h : RE K mg G α e v) : REs K mg G α [e] [v] := ⟨v, [], rfl, h, rfl⟩
theorem REs.set {e : E} {v : V} (r : RE K mg G α e v) : ∀ {es : List E} {vs : List V} (i : Nat), REs K mg G α es vs → REs K mg G α (es.set i e) (vs.set i v)
  | [], _, _, h => by rw [show _ = [] from h]; exact rfl
  | _ :: _, _, 0, h => by obtain ⟨u, t, rfl, h1, h2⟩ := h; exact ⟨v, t, rfl, r, h2⟩
  | _ :: _, _, i + 1, h => by obtain ⟨u, t, rfl, h1, h2⟩ := h; exact ⟨u, _, rfl, h1, REs.set r i h2⟩
theorem REs.drop : ∀ {es : List E} {vs : List V} (i : Nat), REs K mg G α es vs → REs K mg G α (es.drop i) (vs.drop i)
  | _, _, 0, h => h
  | [], _, i + 1, h => by rw [show _ = [] from h]; exact rfl
  | _ :: _, _, i + 1, h => by obtain ⟨u, t, rfl, h1, h2⟩ := h; exact REs.drop i h2
theorem REs.take : ∀ {es : List E} {vs : List V} (i : Nat), REs K mg G α es vs → REs K mg G α (es.take i) (vs.take i)
  | _, _, 0, h => rfl
  | [], _, i + 1, h => by rw [show _ = [] from h]; exact rfl
  | _ :: _, _, i + 1, h => by obtain ⟨u, t, rfl, h1, h2⟩ := h; exact ⟨u, _, rfl, h1, REs.take i h2⟩
theorem REs.dropLast {es : List E} {vs : List V} (h : REs K mg G α es vs) : REs K mg G α es.dropLast vs.dropLast := by
  rw [List.dropLast_eq_take, List.dropLast_eq_take, REs.length h]; exact h.take _
theorem REs.reverse : ∀ {es : List E} {vs : List V}, REs K mg G α es vs → REs K mg G α es.reverse vs.reverse
  | [], _, h => by rw [show _ = [] from h]; exact rfl
  | _ :: _, _, h => by
    obtain ⟨u, t, rfl, h1, h2⟩ := h
    rw [List.reverse_cons, List.reverse_cons]
    exact (REs.reverse h2).append (REs.one h1)
end

/-! ### views -/
def asI : E → Option Int
  | .d (.int i) => some i
  | _ => none
def asB : E → Option Bool
  | .d (.bl i) => some i
  | _ => none
def asS : E → Option (List Nat)
  | .d (.str i) => some i
  | _ => none
/-- a list: its items -/
def asL (S : Sto) : E → Option (List E)
  | .d (.lst ds) => some (ds.map .d)
  | .h n => match S[n]? with
    | some (.own (.lst es)) => some es
    | some (.frz (.lst ds)) => some (ds.map .d)
    | _ => none
  | _ => none
def asU : E → Option (List E)
  | .d (.tup ds) => some (ds.map .d)
  | .t es => some es
  | _ => none
section
variable {K : PySem.W.Frag} {mg : MG} {W : WX} {G : Hp} {α : List Addr} {H : Hp} {S : Sto} {e : E} {v : V}
theorem asI_ok {i : Int} (h : asI e = some i) (r : RE K mg G α e v) : v = .int i := by
  unfold asI at h
  split at h
  · cases h; exact r
  · cases h
theorem asB_ok {i : Bool} (h : asB e = some i) (r : RE K mg G α e v) : v = .bl i := by
  unfold asB at h
  split at h
  · cases h; exact r
  · cases h
theorem asS_ok {i : List Nat} (h : asS e = some i) (r : RE K mg G α e v) : v = .str ⟨i.toArray⟩ := by
  unfold asS at h
  split at h
  · cases h; exact r
  · cases h
theorem asL_ok {es : List E} (l : RL K mg G α H S) (h : asL S e = some es) (r : RE K mg G α e v) : ∃ a vs, v = .ref a ∧ SqL K H a vs ∧ REs K mg G α es vs := by
  unfold asL at h
  split at h
  · cases h
    obtain ⟨a, vs, rfl, q, s⟩ := r
    exact ⟨a, vs, rfl, l.sub.sqL q, .of_d s⟩
  · obtain ⟨a, rfl, ha⟩ := r
    split at h
    · rename_i hs
      cases h
      obtain ⟨b, h1, _, h3⟩ := l.own _ _ hs
      rw [ha] at h1
      cases h1
      obtain ⟨vs, q, s⟩ := h3
      exact ⟨a, vs, rfl, .of q, s⟩
    · rename_i hs
      cases h
      obtain ⟨b, h1, h3⟩ := l.frz _ _ hs
      rw [ha] at h1
      cases h1
      obtain ⟨c, vs, q1, q, s⟩ := h3
      cases q1
      exact ⟨a, vs, rfl, l.sub.sqL q, .of_d s⟩
    · cases h
  · cases h
theorem asU_ok {es : List E} (l : RL K mg G α H S) (h : asU e = some es) (r : RE K mg G α e v) : ∃ a vs, v = .ref a ∧ SqT K H a vs ∧ REs K mg G α es vs := by
  unfold asU at h
  split at h
  · cases h
    obtain ⟨a, vs, rfl, q, s⟩ := r
    exact ⟨a, vs, rfl, l.sub.sqT q, .of_d s⟩
  · cases h
    obtain ⟨a, vs, rfl, q, s⟩ := r
    exact ⟨a, vs, rfl, .of (l.sub _ _ q), s⟩
  · cases h
end

/-! ### names, constants -/
section
variable {K : PySem.W.Frag} {mg : MG} {W : WX}
def dVar (i : Nat) : DE := fun E S => match E[i]? with
  | some (some (.x _ _)) => .no
  | some (some e) => .ok e S
  | _ => .no
theorem se_var {i : Nat} : SE K mg W (tVar i) (dVar i) := fun G α H S E σ Q l r p => by
  unfold dVar at p
  split at p
  · exact p.elim
  · rename_i e he h
    obtain ⟨v, hv, hr⟩ := r.2 i e h
    rcases hr with hr | ⟨c, fs, a, C, dx, rfl, _⟩
    · exact ⟨v, hv, p.here l hr⟩
    · exact absurd rfl (he c fs)
  · exact p.elim
def dC (x : D) : DE := fun _ S => .ok (.d x) S
theorem se_c {x : D} {v : V} (h : ∀ G, Rep K mg G x v) : SE K mg W (tC v) (dC x) := fun G α H S E σ Q l r p => p.here l (h G)

/-! ### operators -/
abbrev G2 := Sto → E → E → R E
def dOp (g : G2) (da db : DE) : DE := fun E S => (da E S).bind fun x S1 => (db E S1).bind fun y S2 => g S2 x y
/-- an operation by values is met -/
def SO (K : PySem.W.Frag) (mg : MG) (W : WX) (r : R2) (g : G2) : Prop := ∀ (G : Hp) (α : List Addr) (H : Hp) (S : Sto) (σ : St) (Q : V → Hp → Prop) (x y : E) (v w : V),
  RL K mg G α H S → RE K mg G α x v → RE K mg G α y w → pst K mg W (RE K mg) σ G α H Q (g S x y) → r v w H Q
variable {ta tb tc : TE} {da db dc : DE} {r r' : R2} {g g' : G2}
theorem se_op (ho : SO K mg W r g) (ha : SE K mg W ta da) (hb : SE K mg W tb db) : SE K mg W (tOp r ta tb) (dOp g da db) := fun G α H S E σ Q l rv p =>
  ha G α H S E σ _ l rv (pst.bind p fun v e S1 G1 α1 H1 s1 l1 r1 p1 => hb G1 α1 H1 S1 E σ _ l1 (rv.mono s1.g s1.al) (pst.bind p1 fun w f S2 G2 α2 H2 s2 l2 r2 p2 => ho G2 α2 H2 S2 σ Q e f v w l2 (r1.mono s2.g s2.al) r2 p2))
/-- by the first that knows what to do -/
def gOr (g g' : G2) : G2 := fun S x y => match g S x y with
  | .no => g' S x y
  | .ok v S => .ok v S
  | .ex e S => .ex e S
theorem so_or (h : SO K mg W r g) (h' : SO K mg W r' g') : SO K mg W (fun x y H Q => r x y H Q ∨ r' x y H Q) (gOr g g') := fun G α H S σ Q x y v w l rx ry p => by
  unfold gOr at p
  cases e : g S x y with
  | no => rw [e] at p; exact .inr (h' G α H S σ Q x y v w l rx ry p)
  | ok z T => rw [e] at p; exact .inl (h G α H S σ Q x y v w l rx ry (by rw [e]; exact p))
  | ex z T => rw [e] at p; exact .inl (h G α H S σ Q x y v w l rx ry (by rw [e]; exact p))
/-- two ints, under a test -/
def gI (C : Int → Int → Bool) (f : Int → Int → D) : G2 := fun S x y => match asI x, asI y with
  | some i, some j => if C i j then .ok (.d (f i j)) S else .no
  | _, _ => .no
theorem so_I {C : Int → Int → Bool} {f : Int → Int → D} {P : Int → Int → Prop} {k : Int → Int → V} (hC : ∀ i j, C i j = true → P i j) (hf : ∀ i j G, Rep K mg G (f i j) (k i j)) : SO K mg W (rI P k) (gI C f) := fun G α H S σ Q x y v w l rx ry p => by
  unfold gI at p
  split at p
  · rename_i i j hi hj
    split at p
    · rename_i hc
      exact ⟨i, j, asI_ok hi rx, asI_ok hj ry, hC i j hc, p.here l (hf i j G)⟩
    · exact p.elim
  · exact p.elim
def gI0 (f : Int → Int → D) : G2 := fun S x y => match asI x, asI y with
  | some i, some j => .ok (.d (f i j)) S
  | _, _ => .no
theorem so_I0 {f : Int → Int → D} {k : Int → Int → V} (hf : ∀ i j G, Rep K mg G (f i j) (k i j)) : SO K mg W (rI0 k) (gI0 f) := fun G α H S σ Q x y v w l rx ry p => by
  unfold gI0 at p
  split at p
  · rename_i i j hi hj
    exact ⟨i, j, asI_ok hi rx, asI_ok hj ry, p.here l (hf i j G)⟩
  · exact p.elim
/-- two strs -/
abbrev Cs := List Nat
abbrev mkS (s : Cs) : Str := ⟨s.toArray⟩
def gS0 (C : Cs → Cs → Bool) (f : Cs → Cs → D) : G2 := fun S x y => match asS x, asS y with
  | some i, some j => if C i j then .ok (.d (f i j)) S else .no
  | _, _ => .no
theorem so_S {C : Cs → Cs → Bool} {f : Cs → Cs → D} {P : Str → Str → Prop} {k : Str → Str → V} (hC : ∀ i j, C i j = true → P (mkS i) (mkS j)) (hf : ∀ i j G, Rep K mg G (f i j) (k (mkS i) (mkS j))) :
    SO K mg W (fun x y H Q => ∃ i j, x = .str i ∧ y = .str j ∧ P i j ∧ Q (k i j) H) (gS0 C f) := fun G α H S σ Q x y v w l rx ry p => by
  unfold gS0 at p
  split at p
  · rename_i i j hi hj
    split at p
    · rename_i hc
      exact ⟨mkS i, mkS j, asS_ok hi rx, asS_ok hj ry, hC i j hc, p.here l (hf i j G)⟩
    · exact p.elim
  · exact p.elim
def gS1 (f : Cs → Cs → D) : G2 := fun S x y => match asS x, asS y with
  | some i, some j => .ok (.d (f i j)) S
  | _, _ => .no
theorem so_S0 {f : Cs → Cs → D} {k : Str → Str → V} (hf : ∀ i j G, Rep K mg G (f i j) (k (mkS i) (mkS j))) :
    SO K mg W (fun x y H Q => ∃ i j, x = .str i ∧ y = .str j ∧ Q (k i j) H) (gS1 f) := fun G α H S σ Q x y v w l rx ry p => by
  unfold gS1 at p
  split at p
  · rename_i i j hi hj
    exact ⟨mkS i, mkS j, asS_ok hi rx, asS_ok hj ry, p.here l (hf i j G)⟩
  · exact p.elim
def newL (S : Sto) (es : List E) : R E := .ok (.h S.length) (S ++ [.own (.lst es)])
theorem new_list {G : Hp} {α : List Addr} {H : Hp} {S : Sto} {σ : St} {Q : V → Hp → Prop} {es : List E} {vs : List V} (l : RL K mg G α H S) (r : REs K mg G α es vs) (p : pst K mg W (RE K mg) σ G α H Q (newL S es)) :
    ∀ a, H a = none → Q (.ref a) (upd H a (.lst vs)) := fun a ha =>
  p (.ref a) G (α ++ [a]) _ (Stp.alloc ha) (l.alloc ha ⟨vs, upd_same, r.mono (Sub.refl G) (List.prefix_append ..)⟩) ⟨a, rfl, by rw [← l.len]; simp⟩
/-- all of them plain -/
def allD : List E → Option (List D)
  | [] => some []
  | .d x :: es => (allD es).map (x :: ·)
  | _ :: _ => none
theorem allD_map : ∀ ds : List D, allD (ds.map .d) = some ds
  | [] => rfl
  | d :: ds => by show (allD (ds.map .d)).map (d :: ·) = _; rw [allD_map ds]; rfl
theorem allD_eq : ∀ {es : List E} {ds : List D}, allD es = some ds → es = ds.map .d
  | [], ds, h => by cases h; rfl
  | .d x :: es, ds, h => by
    have h' : (allD es).map (x :: ·) = some ds := h
    cases e : allD es with
    | none => rw [e] at h'; cases h'
    | some r => rw [e] at h'; cases h'; rw [allD_eq e]; rfl
  | .h _ :: _, _, h => by cases h
  | .t _ :: _, _, h => by cases h
def mkU (es : List E) : E := match allD es with
  | some ds => .d (.tup ds)
  | none => .t es
def newU (S : Sto) (es : List E) : R E := .ok (mkU es) S
theorem new_tuple {G : Hp} {α : List Addr} {H : Hp} {S : Sto} {σ : St} {Q : V → Hp → Prop} {es : List E} {vs : List V} (l : RL K mg G α H S) (r : REs K mg G α es vs) (p : pst K mg W (RE K mg) σ G α H Q (newU S es)) :
    ∀ a, H a = none → Q (.ref a) (upd H a (.tup vs)) := fun a ha => by
  have g : Sub G (upd G a (.tup vs)) := (Stp.ground (ho := .tup vs) l ha).g
  refine p (.ref a) (upd G a (.tup vs)) α _ (Stp.ground l ha) (l.ground ha) ?_
  unfold mkU
  cases e : allD es with
  | some ds =>
    have := allD_eq e
    subst this
    exact ⟨a, vs, rfl, .of upd_same, Reps.mono g r.to_d⟩
  | none => exact ⟨a, vs, rfl, upd_same, r.mono g List.prefix_rfl⟩

/-! ### argument lists, displays -/
def dNil : DA := fun _ S => .ok [] S
def dCons (da : DE) (dr : DA) : DA := fun E S => (da E S).bind fun x S1 => (dr E S1).bind fun xs S2 => .ok (x :: xs) S2
theorem sa_nil : SA K mg W tNil dNil := fun G α H S E σ Q l r p => p.here l rfl
theorem sa_cons {tr : TA} {dr : DA} (ha : SE K mg W ta da) (hr : SA K mg W tr dr) : SA K mg W (tCons ta tr) (dCons da dr) := fun G α H S E σ Q l rv p =>
  ha G α H S E σ _ l rv (pst.bind p fun v e S1 G1 α1 H1 s1 l1 r1 p1 => hr G1 α1 H1 S1 E σ _ l1 (rv.mono s1.g s1.al) (pst.bind p1 fun w f S2 G2 α2 H2 s2 l2 r2 p2 => p2.here l2 ⟨v, w, rfl, r1.mono s2.g s2.al, r2⟩))
def dLst (d : DA) : DE := fun E S => (d E S).bind fun es S1 => if es.length ≤ 1000 then newL S1 es else .no
def dTup (d : DA) : DE := fun E S => (d E S).bind fun es S1 => if es.length ≤ 1000 then newU S1 es else .no
theorem small {n : Nat} (h : n ≤ 16777216) : n ≤ sizeLine := by rw [sizeLine_eq]; exact h
theorem se_lst {t : TA} {d : DA} (h : SA K mg W t d) : SE K mg W (tLst t) (dLst d) := fun G α H S E σ Q l rv p =>
  h G α H S E σ _ l rv (pst.bind p fun v e S1 G1 α1 H1 s1 l1 r1 p1 => by
    split at p1
    · exact ⟨by rw [REs.length r1]; exact small (by omega), new_list l1 r1 p1⟩
    · exact p1.elim)
theorem se_tup {t : TA} {d : DA} (h : SA K mg W t d) : SE K mg W (tTup t) (dTup d) := fun G α H S E σ Q l rv p =>
  h G α H S E σ _ l rv (pst.bind p fun v e S1 G1 α1 H1 s1 l1 r1 p1 => by
    split at p1
    · exact ⟨by rw [REs.length r1]; exact small (by omega), new_tuple l1 r1 p1⟩
    · exact p1.elim)

/-! ### tests -/
variable {tt tu : TT} {dt du : DT}
def dB (d : DE) : DT := fun E S => (d E S).bind fun x S1 => match asB x with
  | some b => .ok b S1
  | none => .no
theorem st_B (h : SE K mg W ta da) : STe K mg W (tB ta) (dB da) := fun G α H S E σ Q l rv p =>
  h G α H S E σ _ l rv (pst.bind p fun v e S1 G1 α1 H1 s1 l1 r1 p1 => by
    split at p1
    · rename_i b hb
      exact ⟨b, asB_ok hb r1, p1.here l1 rfl⟩
    · exact p1.elim)
theorem st_test (h : SE K mg W ta da) : STe K mg W (tTest ta) (dB da) := st_B h
def dAnd (d u : DT) : DT := fun E S => (d E S).bind fun b S1 => if b then u E S1 else .ok false S1
def dOr (d u : DT) : DT := fun E S => (d E S).bind fun b S1 => if b then .ok true S1 else u E S1
def dNot (d : DT) : DT := fun E S => (d E S).bind fun b S1 => .ok (!b) S1
theorem st_and (h : STe K mg W tt dt) (k : STe K mg W tu du) : STe K mg W (tAnd tt tu) (dAnd dt du) := fun G α H S E σ Q l rv p =>
  h G α H S E σ _ l rv (pst.bind p fun v e S1 G1 α1 H1 s1 l1 r1 p1 => by
    subst r1
    cases v with
    | true => exact iteT (k G1 α1 H1 S1 E σ Q l1 (rv.mono s1.g s1.al) p1)
    | false => exact iteF (p1.here l1 rfl))
theorem st_or (h : STe K mg W tt dt) (k : STe K mg W tu du) : STe K mg W (tOr tt tu) (dOr dt du) := fun G α H S E σ Q l rv p =>
  h G α H S E σ _ l rv (pst.bind p fun v e S1 G1 α1 H1 s1 l1 r1 p1 => by
    subst r1
    cases v with
    | true => exact iteT (p1.here l1 rfl)
    | false => exact iteF (k G1 α1 H1 S1 E σ Q l1 (rv.mono s1.g s1.al) p1))
theorem st_not (h : STe K mg W tt dt) : STe K mg W (tNot tt) (dNot dt) := fun G α H S E σ Q l rv p =>
  h G α H S E σ _ l rv (pst.bind p fun v e S1 G1 α1 H1 s1 l1 r1 p1 => by
    subst r1
    exact p1.here l1 rfl)
def dIf (d : DT) (da db : DE) : DE := fun E S => (d E S).bind fun b S1 => if b then da E S1 else db E S1
theorem se_if (h : STe K mg W tt dt) (ha : SE K mg W ta da) (hb : SE K mg W tb db) : SE K mg W (tIf tt ta tb) (dIf dt da db) := fun G α H S E σ Q l rv p =>
  h G α H S E σ _ l rv (pst.bind p fun v e S1 G1 α1 H1 s1 l1 r1 p1 => by
    subst r1
    cases v with
    | true => exact iteT (ha G1 α1 H1 S1 E σ Q l1 (rv.mono s1.g s1.al) p1)
    | false => exact iteF (hb G1 α1 H1 S1 E σ Q l1 (rv.mono s1.g s1.al) p1))
/-- not, of a value -/
def dNotV (d : DE) : DE := fun E S => (d E S).bind fun x S1 => match asB x with
  | some b => .ok (.d (.bl (!b))) S1
  | none => .no
theorem se_notV (h : SE K mg W ta da) : SE K mg W (tNotV ta) (dNotV da) := fun G α H S E σ Q l rv p =>
  h G α H S E σ _ l rv (pst.bind p fun v e S1 G1 α1 H1 s1 l1 r1 p1 => by
    split at p1
    · rename_i b hb
      exact ⟨b, asB_ok hb r1, p1.here l1 rfl⟩
    · exact p1.elim)
def dAndV (da db : DE) : DE := fun E S => (da E S).bind fun x S1 => match asB x with
  | some true => db E S1
  | some false => .ok (.d (.bl false)) S1
  | none => .no
def dOrV (da db : DE) : DE := fun E S => (da E S).bind fun x S1 => match asB x with
  | some true => .ok (.d (.bl true)) S1
  | some false => db E S1
  | none => .no
theorem se_andV (h : SE K mg W ta da) (k : SE K mg W tb db) : SE K mg W (tAndV ta tb) (dAndV da db) := fun G α H S E σ Q l rv p =>
  h G α H S E σ _ l rv (pst.bind p fun v e S1 G1 α1 H1 s1 l1 r1 p1 => by
    split at p1
    · rename_i hb
      exact ⟨true, asB_ok hb r1, iteT (k G1 α1 H1 S1 E σ Q l1 (rv.mono s1.g s1.al) p1)⟩
    · rename_i hb
      exact ⟨false, asB_ok hb r1, iteF (p1.here l1 rfl)⟩
    · exact p1.elim)
theorem se_orV (h : SE K mg W ta da) (k : SE K mg W tb db) : SE K mg W (tOrV ta tb) (dOrV da db) := fun G α H S E σ Q l rv p =>
  h G α H S E σ _ l rv (pst.bind p fun v e S1 G1 α1 H1 s1 l1 r1 p1 => by
    split at p1
    · rename_i hb
      exact ⟨true, asB_ok hb r1, iteT (p1.here l1 rfl)⟩
    · rename_i hb
      exact ⟨false, asB_ok hb r1, iteF (k G1 α1 H1 S1 E σ Q l1 (rv.mono s1.g s1.al) p1)⟩
    · exact p1.elim)
/-- a value's truth -/
def tru (S : Sto) (e : E) : Option Bool := match e with
  | .d .non => some false
  | .d (.bl b) => some b
  | .d (.int i) => some (i != 0)
  | .d (.str s) => if s.length ≤ 16777216 then some ((s.length : Int) != 0) else none
  | e => match asL S e with
    | some es => some (!es.isEmpty)
    | none => match asU e with
      | some es => some (!es.isEmpty)
      | none => none
def dTru (d : DE) : DT := fun E S => (d E S).bind fun x S1 => match tru S1 x with
  | some b => .ok b S1
  | none => .no
theorem empty_eq {es : List E} {vs : List V} {G : Hp} {α : List Addr} (h : REs K mg G α es vs) : (!es.isEmpty) = !vs.isEmpty := by
  have := REs.length h
  cases es <;> cases vs <;> first | rfl | simp at this
theorem tru_ok' {G : Hp} {α : List Addr} {H : Hp} {S : Sto} {e : E} {v : V} {b : Bool} (l : RL K mg G α H S) (r : RE K mg G α e v) (h : tru S e = some b) : TruV K v H b := by
  unfold tru at h
  split at h
  · cases h; rw [show v = .non from r]; exact rfl
  · cases h; rw [show v = .bl _ from r]; exact rfl
  · cases h; rw [show v = .int _ from r]; exact rfl
  · split at h
    · rename_i hs
      cases h; rw [show v = .str _ from r]; exact ⟨small (by show _ ≤ _; simpa [Str.length] using hs), by simp [Str.length]⟩
    · cases h
  · split at h
    · rename_i es hs
      cases h
      obtain ⟨a, vs, rfl, q, s⟩ := asL_ok l hs r
      exact .inl ⟨vs, q, empty_eq s⟩
    · split at h
      · rename_i es hs
        cases h
        obtain ⟨a, vs, rfl, q, s⟩ := asU_ok l hs r
        exact .inr (.inl ⟨vs, q, empty_eq s⟩)
      · cases h
theorem st_tru (h : SE K mg W ta da) : STe K mg W (fun σ H Q => ta σ H fun x H' => ∃ k, TruV K x H' k ∧ Q k H') (dTru da) := fun G α H S E σ Q l rv p =>
  h G α H S E σ _ l rv (pst.bind p fun v e S1 G1 α1 H1 s1 l1 r1 p1 => by
    split at p1
    · rename_i b hb
      exact ⟨b, tru_ok' l1 r1 hb, p1.here l1 rfl⟩
    · exact p1.elim)
end
end Dl

namespace Dl
open PySem PySem.Spec L2

section
variable {K : PySem.W.Frag} {mg : MG} {W : WX}
theorem len_mk (i : Cs) : (mkS i).length = i.length := by simp [Str.length]
theorem app_mk (i j : Cs) : mkS i ++ mkS j = mkS (i ++ j) := by
  show Str.append _ _ = _
  simp [Str.append]
/-! ### ints -/
def okMul (i j : Int) : Bool := decide ((-(2 ^ 64) < i ∧ i < 2 ^ 64) ∨ (-(2 ^ 64) < j ∧ j < 2 ^ 64))
def okDiv (_ j : Int) : Bool := decide (0 < j ∧ j < 1073741824)
def okMod (_ j : Int) : Bool := decide (0 < j)
def okPow (i j : Int) : Bool := decide (0 ≤ j ∧ j ≤ 1000 ∧ i.natAbs ≤ 10000)
def gAddI : G2 := gI0 fun i j => .int (i + j)
def gSub : G2 := gI0 fun i j => .int (i - j)
def gMulI : G2 := gI okMul fun i j => .int (i * j)
def gDiv : G2 := gI okDiv fun i j => .int (i / j)
def gMod : G2 := gI okMod fun i j => .int (i % j)
def gPow : G2 := gI okPow fun i j => .int (i ^ j.toNat)
theorem so_addI : SO K mg W (rI0 fun i j => .int (i + j)) gAddI := so_I0 fun _ _ _ => rfl
theorem so_sub : SO K mg W (rI0 fun i j => .int (i - j)) gSub := so_I0 fun _ _ _ => rfl
theorem so_mulI : SO K mg W (rI CMul fun i j => .int (i * j)) gMulI := so_I (fun i j h => (by unfold okMul at h; exact of_decide_eq_true h : (-(2 ^ 64) < i ∧ i < 2 ^ 64) ∨ (-(2 ^ 64) < j ∧ j < 2 ^ 64))) fun _ _ _ => rfl
theorem so_div : SO K mg W (rI CDiv fun i j => .int (i / j)) gDiv := so_I (fun i j h => (by unfold okDiv at h; exact of_decide_eq_true h : 0 < j ∧ j < 1073741824)) fun _ _ _ => rfl
theorem so_mod : SO K mg W (rI (fun _ j => 0 < j) fun i j => .int (i % j)) gMod := so_I (fun _ _ h => of_decide_eq_true h) fun _ _ _ => rfl
theorem so_pow : SO K mg W (rI CPow fun i j => .int (i ^ j.toNat)) gPow := so_I (fun i j h => by
  obtain ⟨h1, h2, h3⟩ : 0 ≤ j ∧ j ≤ 1000 ∧ i.natAbs ≤ 10000 := of_decide_eq_true h
  exact ⟨h1, by omega, by omega⟩) fun _ _ _ => rfl
/-! ### texts -/
def gAddS : G2 := gS0 (fun i j => decide (i.length + j.length ≤ 16777216)) fun i j => .str (i ++ j)
theorem so_addS : SO K mg W (fun x y H Q => ∃ i j, x = .str i ∧ y = .str j ∧ i.length + j.length ≤ sizeLine ∧ Q (.str (i ++ j)) H) gAddS :=
  so_S (P := fun i j => i.length + j.length ≤ sizeLine) (k := fun i j => .str (i ++ j)) (fun i j h => by rw [len_mk, len_mk]; exact small (of_decide_eq_true h)) fun i j G => by rw [app_mk]; exact rfl
/-! ### tuples, lists -/
def gAddU : G2 := fun S x y => match asU x, asU y with
  | some es, some fs => if es.length + fs.length ≤ 16777216 then (if es.isEmpty then .ok y S else if fs.isEmpty then .ok x S else newU S (es ++ fs)) else .no
  | _, _ => .no
theorem isE {τ : Type} {l : List τ} (h : l.isEmpty = true) : l = [] := by cases l; rfl; cases h
theorem isN {τ : Type} {l : List τ} (h : ¬ l.isEmpty = true) : l ≠ [] := by rintro rfl; exact h rfl
theorem REs.nil_iff {G : Hp} {α : List Addr} {es : List E} {vs : List V} (h : REs K mg G α es vs) : es = [] ↔ vs = [] := by
  have := REs.length h
  cases es <;> cases vs <;> simp_all
theorem so_addU : SO K mg W (rCatA K) gAddU := fun G α H S σ Q x y v w l rx ry p => by
  unfold gAddU at p
  split at p
  · rename_i es fs h1 h2
    obtain ⟨a, vs, rfl, q1, r1⟩ := asU_ok l h1 rx
    obtain ⟨b, us, rfl, q2, r2⟩ := asU_ok l h2 ry
    split at p
    · rename_i hz
      refine ⟨a, b, vs, us, rfl, rfl, q1, q2, by rw [REs.length r1, REs.length r2]; exact small hz, fun e => ?_, fun e e2 => ?_, fun e e2 => ?_⟩
      · have := r1.nil_iff.mpr e
        subst this
        rw [if_pos (show ([] : List E).isEmpty = true from rfl)] at p
        exact p.here l ry
      · have n1 : es ≠ [] := fun z => e (r1.nil_iff.mp z)
        have := r2.nil_iff.mpr e2
        subst this
        rw [if_neg (by intro z; exact n1 (isE z)), if_pos (show ([] : List E).isEmpty = true from rfl)] at p
        exact p.here l rx
      · have n1 : es ≠ [] := fun z => e (r1.nil_iff.mp z)
        have n2 : fs ≠ [] := fun z => e2 (r2.nil_iff.mp z)
        rw [if_neg (by intro z; exact n1 (isE z)), if_neg (by intro z; exact n2 (isE z))] at p
        exact new_tuple l (r1.append r2) p
    · exact p.elim
  · exact p.elim
/-- an own list, its address -/
theorem own_at {G : Hp} {α : List Addr} {H : Hp} {S : Sto} {n : Nat} {es : List E} {v : V} (l : RL K mg G α H S) (h : S[n]? = some (.own (.lst es))) (r : RE K mg G α (.h n) v) :
    ∃ a vs, v = .ref a ∧ α[n]? = some a ∧ H a = some (.lst vs) ∧ REs K mg G α es vs := by
  obtain ⟨a, rfl, ha⟩ := r
  obtain ⟨b, h1, _, vs, q, s⟩ := l.own _ _ h
  rw [ha] at h1
  cases h1
  exact ⟨a, vs, rfl, ha, q, s⟩
/-- a list that stands in the heap itself -/
def asH (S : Sto) : E → Option (List E)
  | .h n => match S[n]? with
    | some (.own (.lst es)) => some es
    | _ => none
  | _ => none
theorem asH_ok {G : Hp} {α : List Addr} {H : Hp} {S : Sto} {e : E} {v : V} {es : List E} (l : RL K mg G α H S) (h : asH S e = some es) (r : RE K mg G α e v) :
    ∃ n a vs, e = .h n ∧ S[n]? = some (.own (.lst es)) ∧ v = .ref a ∧ α[n]? = some a ∧ H a = some (.lst vs) ∧ REs K mg G α es vs := by
  unfold asH at h
  split at h
  · split at h
    · rename_i n _ _ hs
      cases h
      obtain ⟨a, vs, e1, e2, e3, e4⟩ := own_at l hs r
      exact ⟨_, a, vs, rfl, hs, e1, e2, e3, e4⟩
    · cases h
  · cases h
def gAddL : G2 := fun S x y => match asH S x, asH S y with
  | some es, some fs => if es.length + fs.length ≤ 16777216 then newL S (es ++ fs) else .no
  | _, _ => .no
theorem so_addL : SO K mg W rCat gAddL := fun G α H S σ Q x y v w l rx ry p => by
  unfold gAddL at p
  split at p
  · rename_i es fs h1 h2
    obtain ⟨_, a, vs, _, _, rfl, _, q1, r1⟩ := asH_ok l h1 rx
    obtain ⟨_, b, us, _, _, rfl, _, q2, r2⟩ := asH_ok l h2 ry
    split at p
    · rename_i hz
      exact ⟨a, b, vs, us, rfl, rfl, q1, q2, by rw [REs.length r1, REs.length r2]; exact small hz, new_list l (r1.append r2) p⟩
    · exact p.elim
  · exact p.elim
/-- x + y -/
abbrev rAdd : R2 := fun x y H Q => rI0 (fun i j => .int (i + j)) x y H Q ∨ (∃ i j, x = .str i ∧ y = .str j ∧ i.length + j.length ≤ sizeLine ∧ Q (.str (i ++ j)) H)
abbrev rAddA (K : PySem.W.Frag) : R2 := fun x y H Q => rAdd x y H Q ∨ rCatA K x y H Q ∨ rCat x y H Q
def gAdd : G2 := gOr (gOr gAddI gAddS) (gOr gAddU gAddL)
theorem so_add : SO K mg W (rAddA K) gAdd := so_or (so_or so_addI so_addS) (so_or so_addU so_addL)
theorem op_addA {X : Cx} : OpR X (binaryOp .Add) (rAddA X.K) := (op_add.or op_add_str).or (op_catA.or op_cat)
/-! ### texts and lists repeated -/
def rMulS : R2 := fun x y H Q => ∃ i n, x = .str i ∧ y = .int n ∧ PySem.MulOk i n ∧ Q (.str (Txt.mul i n)) H
theorem op_mulS {X : Cx} : OpR X (binaryOp .Mult) rMulS := by
  intro pins s σ H x y v u Q I rx ry h
  obtain ⟨i, n, rfl, rfl, hk, q⟩ := h
  obtain ⟨t, rfl⟩ := rx
  obtain ⟨t', rfl⟩ := ry
  exact PySem.SB.mul hk fun t' k => ⟨.str _, H, I.tok k, ⟨t', rfl⟩, q⟩
def repS (s : Cs) (n : Nat) : Cs := (List.replicate n s).flatten
def gMulS : G2 := fun S x y => match asS x, asI y with
  | some s, some n => if n ≤ 100000 ∧ s.length * n.toNat ≤ 1000000 ∧ -100000 ≤ n then .ok (.d (.str (repS s n.toNat))) S else .no
  | _, _ => .no
theorem foldl_app (l : List (Array Nat)) : ∀ (acc : Array Nat), (l.foldl (· ++ ·) acc).toList = acc.toList ++ (l.map Array.toList).flatten := by
  induction l with
  | nil => intro acc; simp
  | cons a r ih => intro acc; rw [List.foldl_cons, ih]; simp
theorem mul_mk (s : Cs) (n : Int) : Txt.mul (mkS s) n = mkS (repS s n.toNat) := by
  unfold Txt.mul
  split
  · rename_i h
    rw [show n.toNat = 0 by omega]
    rfl
  · rename_i h
    split
    · rename_i h2
      rw [Bool.or_eq_true] at h2
      rcases h2 with h2 | h2
      · have : n = 1 := by simpa using h2
        subst this
        show mkS s = mkS (repS s 1)
        simp [repS]
      · have hs : s = [] := by
          rw [len_mk] at h2
          cases s
          · rfl
          · simp at h2
        subst hs
        show mkS [] = _
        unfold repS
        have : (List.replicate n.toNat ([] : List Nat)).flatten = [] := by
          induction n.toNat with
          | zero => rfl
          | succ k ih => rw [List.replicate_succ, List.flatten_cons, ih]; rfl
        rw [this]
    · show (⟨_⟩ : Str) = ⟨_⟩
      congr 1
      apply Array.toList_inj.mp
      rw [foldl_app]
      simp [repS, List.map_replicate]
theorem so_mulS : SO K mg W rMulS gMulS := fun G α H S σ Q x y v w l rx ry p => by
  unfold gMulS at p
  split at p
  · rename_i s n h1 h2
    split at p
    · rename_i hz
      obtain ⟨h1a, h1b, h1c⟩ := hz
      refine ⟨mkS s, n, asS_ok h1 rx, asI_ok h2 ry, ⟨?_, fun hn hc => ?_, fun hn hc => ?_⟩, ?_⟩
      · rw [Bool.or_eq_false_iff]
        exact ⟨decide_eq_false (by omega), decide_eq_false (by omega)⟩
      · rw [len_mk]
        have : (s.length : Int) ≤ 1000000 := by
          have h0 : 1 ≤ n.toNat := by omega
          have := Nat.le_mul_of_pos_right s.length h0
          omega
        have h9 : (9223372036854 : Int) ≤ (2 ^ 63 - 1) / n := by
          rw [Int.le_ediv_iff_mul_le (by omega)]
          omega
        omega
      · rw [len_mk]
        show decide (_ > sizeLine) = false
        rw [sizeLine_eq]
        exact decide_eq_false (by omega)
      · rw [mul_mk]
        exact p.here l rfl
    · exact p.elim
  · exact p.elim
def gMulL : G2 := fun S x y => match asH S x, asI y with
  | some es, some n => if n ≤ 100000 ∧ es.length * n.toNat ≤ 1000000 ∧ -100000 ≤ n then newL S (List.replicate n.toNat es).flatten else .no
  | _, _ => .no
theorem so_mulL : SO K mg W rRep gMulL := fun G α H S σ Q x y v w l rx ry p => by
  unfold gMulL at p
  split at p
  · rename_i es n h1 h2
    obtain ⟨_, a, vs, _, _, rfl, _, q1, r1⟩ := asH_ok l h1 rx
    split at p
    · rename_i hz
      obtain ⟨h1a, h1b, h1c⟩ := hz
      refine ⟨a, n, vs, rfl, asI_ok h2 ry, q1, by omega, by omega, by rw [REs.length r1]; exact small (by omega), new_list l ?_ p⟩
      induction n.toNat with
      | zero => exact rfl
      | succ k ih =>
        rw [List.replicate_succ, List.replicate_succ, List.flatten_cons, List.flatten_cons]
        exact r1.append ih
    · exact p.elim
  · exact p.elim
abbrev rMulA : R2 := fun x y H Q => rI CMul (fun i j => .int (i * j)) x y H Q ∨ rMulS x y H Q ∨ rRep x y H Q
def gMul : G2 := gOr gMulI (gOr gMulS gMulL)
theorem so_mul : SO K mg W rMulA gMul := so_or so_mulI (so_or so_mulS so_mulL)
theorem op_mulA {X : Cx} : OpR X (binaryOp .Mult) rMulA := op_mul.or (op_mulS.or op_rep)

/-! ### comparisons -/
def gLt : G2 := gI0 fun i j => .bl (decide (i < j))
def gLe : G2 := gI0 fun i j => .bl (decide (i ≤ j))
def gGt : G2 := gI0 fun i j => .bl (decide (j < i))
def gGe : G2 := gI0 fun i j => .bl (decide (j ≤ i))
theorem so_lt : SO K mg W (rI0 fun i j => .bl (decide (i < j))) gLt := so_I0 fun _ _ _ => rfl
theorem so_le : SO K mg W (rI0 fun i j => .bl (decide (i ≤ j))) gLe := so_I0 fun _ _ _ => rfl
theorem so_gt : SO K mg W (rI0 fun i j => .bl (decide (j < i))) gGt := so_I0 fun _ _ _ => rfl
theorem so_ge : SO K mg W (rI0 fun i j => .bl (decide (j ≤ i))) gGe := so_I0 fun _ _ _ => rfl
/-- scalars -/
def eqS : E → E → Option Bool
  | .d (.int i), .d (.int j) => some (decide (i = j))
  | .d (.str i), .d (.str j) => some (decide (i = j))
  | .d (.bl i), .d (.bl j) => some (decide (i = j))
  | _, _ => none
def gEqS (neg : Bool) : G2 := fun S x y => match eqS x y with
  | some b => .ok (.d (.bl (if neg then !b else b))) S
  | none => .no
theorem eqS_ok {G : Hp} {α : List Addr} {x y : E} {v w : V} {b : Bool} (h : eqS x y = some b) (rx : RE K mg G α x v) (ry : RE K mg G α y w) : scal v w = true ∧ decide (v = w) = b := by
  unfold eqS at h
  split at h
  · cases h
    rw [show v = .int _ from rx, show w = .int _ from ry]
    exact ⟨rfl, by rw [decide_eq_decide]; exact ⟨V.int.inj, fun z => by rw [z]⟩⟩
  · cases h
    rw [show v = .str _ from rx, show w = .str _ from ry]
    refine ⟨rfl, ?_⟩
    rw [decide_eq_decide]
    constructor
    · intro z
      have z1 := V.str.inj z
      have z2 := congrArg (fun s : Str => s.cps.toList) z1
      simpa using z2
    · intro z; rw [z]
  · cases h
    rw [show v = .bl _ from rx, show w = .bl _ from ry]
    exact ⟨rfl, by rw [decide_eq_decide]; exact ⟨V.bl.inj, fun z => by rw [z]⟩⟩
  · cases h
theorem so_eqS : SO K mg W rEq (gEqS false) := fun G α H S σ Q x y v w l rx ry p => by
  unfold gEqS at p
  split at p
  · rename_i b h
    obtain ⟨h1, h2⟩ := eqS_ok h rx ry
    exact ⟨h1, by rw [h2]; exact p.here l rfl⟩
  · exact p.elim
theorem so_neS : SO K mg W rNe (gEqS true) := fun G α H S σ Q x y v w l rx ry p => by
  unfold gEqS at p
  split at p
  · rename_i b h
    obtain ⟨h1, h2⟩ := eqS_ok h rx ry
    exact ⟨h1, by rw [h2]; exact p.here l rfl⟩
  · exact p.elim
/-! data at any depth -/
mutual
def toP : D → Option PyData
  | .non => some .none
  | .bl b => some (.bool b)
  | .int i => some (.int i)
  | .str s => some (.str (mkS s))
  | .lst ds => (toPs ds).map .list
  | .tup ds => (toPs ds).map .tuple
  | _ => none
def toPs : List D → Option (List PyData)
  | [] => some []
  | d :: ds => (toP d).bind fun p => (toPs ds).map (p :: ·)
end
mutual
theorem toP_ok {G : Hp} : ∀ {d : D} {p : PyData} {v : V}, toP d = some p → Rep K mg G d v → Dp K G v p
  | .non, p, v, h, r => by cases h; rw [show v = .non from r]; exact .non
  | .bl b, p, v, h, r => by cases h; rw [show v = .bl _ from r]; exact .bl b
  | .int i, p, v, h, r => by cases h; rw [show v = .int _ from r]; exact .int i
  | .str s, p, v, h, r => by cases h; rw [show v = .str _ from r]; exact .str _
  | .lst ds, p, v, h, r => by
    have h' : (toPs ds).map PyData.list = some p := h
    cases e : toPs ds with
    | none => rw [e] at h'; cases h'
    | some ps =>
      rw [e] at h'
      cases h'
      obtain ⟨a, vs, rfl, q, s⟩ := r
      exact .lst q (toPs_ok e s)
  | .tup ds, p, v, h, r => by
    have h' : (toPs ds).map PyData.tuple = some p := h
    cases e : toPs ds with
    | none => rw [e] at h'; cases h'
    | some ps =>
      rw [e] at h'
      cases h'
      obtain ⟨a, vs, rfl, q, s⟩ := r
      exact .tup q (toPs_ok e s)
  | .ins _ _, _, _, h, _ => by cases h
  | .dic _ _, _, _, h, _ => by cases h
  | .cst _, _, _, h, _ => by cases h
  | .ty _, _, _, h, _ => by cases h
theorem toPs_ok {G : Hp} : ∀ {d : List D} {p : List PyData} {v : List V}, toPs d = some p → Reps K mg G d v → DpAll K G v p
  | [], p, v, h, r => by cases h; rw [show v = [] from r]; exact .nil
  | d :: ds, p, v, h, r => by
    have h' : ((toP d).bind fun p => (toPs ds).map (p :: ·)) = some p := h
    cases e : toP d with
    | none => rw [e] at h'; cases h'
    | some p1 =>
      rw [e] at h'
      cases e2 : toPs ds with
      | none => rw [Option.bind_some, e2] at h'; cases h'
      | some ps =>
        rw [Option.bind_some, e2] at h'
        cases h'
        obtain ⟨v1, vs, rfl, r1, r2⟩ := r
        exact .cons (toP_ok e r1) (toPs_ok e2 r2)
end
mutual
theorem Dp.up {G H : Hp} (s : Sub G H) : ∀ {v : V} {p : PyData}, Dp K G v p → Dp K H v p
  | _, _, .non => .non
  | _, _, .bl b => .bl b
  | _, _, .int i => .int i
  | _, _, .str x => .str x
  | _, _, .lst q r => .lst (s.sqL q) (DpAll.up s r)
  | _, _, .tup q r => .tup (s.sqT q) (DpAll.up s r)
theorem DpAll.up {G H : Hp} (s : Sub G H) : ∀ {v : List V} {p : List PyData}, DpAll K G v p → DpAll K H v p
  | _, _, .nil => .nil
  | _, _, .cons q r => .cons (Dp.up s q) (DpAll.up s r)
end
def optAll {τ υ : Type} (f : τ → Option υ) : List τ → Option (List υ)
  | [] => some []
  | x :: xs => match f x, optAll f xs with
    | some y, some ys => some (y :: ys)
    | _, _ => none
def vP (S : Sto) : Nat → E → Option PyData
  | 0, _ => none
  | _ + 1, .d x => toP x
  | k + 1, .h n => match S[n]? with
    | some (.own (.lst es)) => (optAll (vP S k) es).map .list
    | some (.frz x) => toP x
    | _ => none
  | k + 1, .t es => (optAll (vP S k) es).map .tuple
  | _ + 1, .x _ _ => none
theorem vP_ok {G : Hp} {α : List Addr} {H : Hp} {S : Sto} (l : RL K mg G α H S) : ∀ {k : Nat} {e : E} {p : PyData} {v : V}, vP S k e = some p → RE K mg G α e v → Dp K H v p := by
  intro k
  have all : ∀ {k : Nat}, (∀ {e : E} {p : PyData} {v : V}, vP S k e = some p → RE K mg G α e v → Dp K H v p) → ∀ {es : List E} {ps : List PyData} {vs : List V}, optAll (vP S k) es = some ps → REs K mg G α es vs → DpAll K H vs ps := by
    intro k hk es
    induction es with
    | nil => intro ps vs h r; cases h; rw [show vs = [] from r]; exact .nil
    | cons e es ih =>
      intro ps vs h r
      obtain ⟨v1, vs, rfl, r1, r2⟩ := r
      unfold optAll at h
      split at h
      · rename_i y ys h1 h2
        cases h
        exact .cons (hk h1 r1) (ih h2 r2)
      · cases h
  induction k with
  | zero => intro e p v h; cases h
  | succ k ih =>
    intro e p v h r
    cases e with
    | d x => exact Dp.up l.sub (toP_ok h r)
    | h n =>
      have h' : (match S[n]? with
        | some (.own (.lst es)) => (optAll (vP S k) es).map PyData.list
        | some (.frz x) => toP x
        | _ => none) = some p := h
      split at h'
      · rename_i es hs
        obtain ⟨a, vs, rfl, _, q, s⟩ := own_at l hs r
        cases e2 : optAll (vP S k) es with
        | none => rw [e2] at h'; cases h'
        | some ps => rw [e2] at h'; cases h'; exact .lst (.of q) (all ih e2 s)
      · rename_i x hs
        obtain ⟨a, rfl, ha⟩ := r
        obtain ⟨b, h1, h3⟩ := l.frz _ _ hs
        rw [ha] at h1
        cases h1
        exact Dp.up l.sub (toP_ok h' h3)
      · cases h'
    | t es =>
      have h' : (optAll (vP S k) es).map PyData.tuple = some p := h
      obtain ⟨a, vs, rfl, q, s⟩ := r
      cases e2 : optAll (vP S k) es with
      | none => rw [e2] at h'; cases h'
      | some ps => rw [e2] at h'; cases h'; exact .tup (.of (l.sub _ _ q)) (all ih e2 s)
    | x _ _ => cases h
def gEqD (neg : Bool) : G2 := fun S x y => match vP S 4 x, vP S 4 y with
  | some p, some q => if SeqAt.shaped p && SeqAt.shaped q then .ok (.d (.bl (if neg then !PyData.eqv p q else PyData.eqv p q))) S else .no
  | _, _ => .no
theorem so_eqD : SO K mg W (rEqD K) (gEqD false) := fun G α H S σ Q x y v w l rx ry p => by
  unfold gEqD at p
  split at p
  · rename_i a b h1 h2
    split at p
    · rename_i hs
      rw [Bool.and_eq_true] at hs
      exact ⟨a, b, vP_ok l h1 rx, vP_ok l h2 ry, hs.1, hs.2, p.here l rfl⟩
    · exact p.elim
  · exact p.elim
theorem so_neD : SO K mg W (rNeD K) (gEqD true) := fun G α H S σ Q x y v w l rx ry p => by
  unfold gEqD at p
  split at p
  · rename_i a b h1 h2
    split at p
    · rename_i hs
      rw [Bool.and_eq_true] at hs
      exact ⟨a, b, vP_ok l h1 rx, vP_ok l h2 ry, hs.1, hs.2, p.here l rfl⟩
    · exact p.elim
  · exact p.elim
abbrev rEqA (K : PySem.W.Frag) : R2 := fun x y H Q => rEq x y H Q ∨ rEqD K x y H Q
abbrev rNeA (K : PySem.W.Frag) : R2 := fun x y H Q => rNe x y H Q ∨ rNeD K x y H Q
def gEq : G2 := gOr (gEqS false) (gEqD false)
def gNe : G2 := gOr (gEqS true) (gEqD true)
theorem so_eq : SO K mg W (rEqA K) gEq := so_or so_eqS so_eqD
theorem so_ne : SO K mg W (rNeA K) gNe := so_or so_neS so_neD
theorem op_eqA {X : Cx} (hu : X.A.units + 64 < cLine) : OpR X (compareOp .Eq) (rEqA X.K) := op_eq.or (op_eqD hu)
theorem op_neA {X : Cx} (hu : X.A.units + 64 < cLine) : OpR X (compareOp .NotEq) (rNeA X.K) := op_ne.or (op_neD hu)
/-- is None -/
def isNo : E → Bool
  | .d .non => true
  | _ => false
def gIsN (neg : Bool) : G2 := fun S x y => if isNo y then .ok (.d (.bl (if neg then !isNo x else isNo x))) S else .no
theorem isNo_ok {G : Hp} {α : List Addr} : ∀ {x : E} {v : V}, RE K mg G α x v → decide (v = .non) = isNo x
  | .d .non, v, r => by rw [show v = .non from r]; rfl
  | .d (.bl b), v, r => by rw [show v = .bl b from r]; rfl
  | .d (.int b), v, r => by rw [show v = .int b from r]; rfl
  | .d (.str b), v, r => by rw [show v = .str _ from r]; rfl
  | .d (.lst _), v, r => by obtain ⟨a, vs, rfl, _⟩ := r; rfl
  | .d (.tup _), v, r => by obtain ⟨a, vs, rfl, _⟩ := r; rfl
  | .d (.ins _ _), v, r => by obtain ⟨a, C, dx, vs, rfl, _⟩ := r; rfl
  | .d (.dic _ true), v, r => by obtain ⟨a, vs, rfl, _⟩ := r; rfl
  | .d (.dic _ false), v, r => by obtain ⟨a, vs, rfl, _⟩ := r; rfl
  | .d (.cst _), v, r => by obtain ⟨a, rfl, _⟩ := r; rfl
  | .d (.ty n), v, r => by rw [show v = .ty n from r]; rfl
  | .h _, v, r => by obtain ⟨a, rfl, _⟩ := r; rfl
  | .t _, v, r => by obtain ⟨a, vs, rfl, _⟩ := r; rfl
  | .x _ _, v, r => r.elim
theorem so_isN : SO K mg W (fun x y H Q => y = .non ∧ Q (.bl (decide (x = .non))) H) (gIsN false) := fun G α H S σ Q x y v w l rx ry p => by
  unfold gIsN at p
  split at p
  · rename_i h
    have e := isNo_ok ry
    rw [h] at e
    exact ⟨of_decide_eq_true e, by rw [isNo_ok rx]; exact p.here l rfl⟩
  · exact p.elim
theorem so_notN : SO K mg W (fun x y H Q => y = .non ∧ Q (.bl (!decide (x = .non))) H) (gIsN true) := fun G α H S σ Q x y v w l rx ry p => by
  unfold gIsN at p
  split at p
  · rename_i h
    have e := isNo_ok ry
    rw [h] at e
    exact ⟨of_decide_eq_true e, by rw [isNo_ok rx]; exact p.here l rfl⟩
  · exact p.elim
/-! ### in -/
def gInS (neg : Bool) : G2 := fun S x y => match asS x, asS y with
  | some [c], some z => .ok (.d (.bl (if neg then !decide (c ∈ z) else decide (c ∈ z)))) S
  | _, _ => .no
theorem so_inS : SO K mg W (fun x y H Q => ∃ (c : Nat) (z : Str), x = .str ⟨#[c]⟩ ∧ y = .str z ∧ Q (.bl (decide (c ∈ z.cps.toList))) H) (gInS false) := fun G α H S σ Q x y v w l rx ry p => by
  unfold gInS at p
  split at p
  · rename_i c z h1 h2
    exact ⟨c, mkS z, asS_ok h1 rx, asS_ok h2 ry, p.here l rfl⟩
  · exact p.elim
theorem so_notInS : SO K mg W (fun x y H Q => ∃ (c : Nat) (z : Str), x = .str ⟨#[c]⟩ ∧ y = .str z ∧ Q (.bl (!decide (c ∈ z.cps.toList))) H) (gInS true) := fun G α H S σ Q x y v w l rx ry p => by
  unfold gInS at p
  split at p
  · rename_i c z h1 h2
    exact ⟨c, mkS z, asS_ok h1 rx, asS_ok h2 ry, p.here l rfl⟩
  · exact p.elim
/-- flat values in lists and tuples -/
def asV : E → Option V
  | .d .non => some .non
  | .d (.bl b) => some (.bl b)
  | .d (.int b) => some (.int b)
  | .d (.str b) => some (.str (mkS b))
  | _ => none
theorem asV_ok {G : Hp} {α : List Addr} {x : E} {v u : V} (h : asV x = some u) (r : RE K mg G α x v) : v = u ∧ flatV u = true := by
  unfold asV at h
  split at h
  all_goals first | cases h; exact ⟨r, rfl⟩ | cases h
theorem asVs_ok {G : Hp} {α : List Addr} : ∀ {es : List E} {vs us : List V}, optAll asV es = some us → REs K mg G α es vs → vs = us ∧ us.all flatV = true
  | [], vs, us, h, r => by cases h; exact ⟨r, rfl⟩
  | e :: es, vs, us, h, r => by
    obtain ⟨v1, vs, rfl, r1, r2⟩ := r
    unfold optAll at h
    split at h
    · rename_i y ys h1 h2
      cases h
      obtain ⟨a, b⟩ := asV_ok h1 r1
      obtain ⟨c, d⟩ := asVs_ok h2 r2
      exact ⟨by rw [a, c], by rw [List.all_cons, b, d]; rfl⟩
    · cases h
def asQ (S : Sto) (e : E) : Option (List E) := match asL S e with
  | some es => some es
  | none => asU e
theorem asQ_ok {G : Hp} {α : List Addr} {H : Hp} {S : Sto} {e : E} {v : V} {es : List E} (l : RL K mg G α H S) (h : asQ S e = some es) (r : RE K mg G α e v) : ∃ a vs, v = .ref a ∧ (SqL K H a vs ∨ SqT K H a vs) ∧ REs K mg G α es vs := by
  unfold asQ at h
  split at h
  · rename_i fs h1
    cases h
    obtain ⟨a, vs, h1, h2, h3⟩ := asL_ok l h1 r
    exact ⟨a, vs, h1, .inl h2, h3⟩
  · obtain ⟨a, vs, h1, h2, h3⟩ := asU_ok l h r
    exact ⟨a, vs, h1, .inr h2, h3⟩
def gInQ (neg : Bool) : G2 := fun S x y => match asV x, asQ S y with
  | some v, some es => match optAll asV es with
    | some us => .ok (.d (.bl (if neg then !inV v us else inV v us))) S
    | none => .no
  | _, _ => .no
theorem so_inQ {neg : Bool} : SO K mg W (rIn K neg) (gInQ neg) := fun G α H S σ Q x y v w l rx ry p => by
  unfold gInQ at p
  split at p
  · rename_i u es h1 h2
    split at p
    · rename_i us h3
      obtain ⟨rfl, f⟩ := asV_ok h1 rx
      obtain ⟨a, vs, rfl, q, r⟩ := asQ_ok l h2 ry
      obtain ⟨rfl, f2⟩ := asVs_ok h3 r
      exact ⟨a, vs, rfl, q, f, f2, p.here l rfl⟩
    · exact p.elim
  · exact p.elim
abbrev rInA (K : PySem.W.Frag) : R2 := fun x y H Q => (∃ (c : Nat) (z : Str), x = .str ⟨#[c]⟩ ∧ y = .str z ∧ Q (.bl (decide (c ∈ z.cps.toList))) H) ∨ rIn K false x y H Q
abbrev rNotInA (K : PySem.W.Frag) : R2 := fun x y H Q => (∃ (c : Nat) (z : Str), x = .str ⟨#[c]⟩ ∧ y = .str z ∧ Q (.bl (!decide (c ∈ z.cps.toList))) H) ∨ rIn K true x y H Q
def gIn : G2 := gOr (gInS false) (gInQ false)
def gNotIn : G2 := gOr (gInS true) (gInQ true)
theorem so_in : SO K mg W (rInA K) gIn := so_or so_inS so_inQ
theorem so_notIn : SO K mg W (rNotInA K) gNotIn := so_or so_notInS so_inQ
theorem op_inA {X : Cx} : OpR X (compareOp .In) (rInA X.K) := op_in_sign.or op_in_seq
theorem op_notInA {X : Cx} : OpR X (compareOp .NotIn) (rNotInA X.K) := op_notIn_sign.or op_notIn_seq
/-! ### subscripts -/
def gIxQ : G2 := fun S x y => match asQ S x, asI y with
  | some es, some i => match atI es i with
    | some e => .ok e S
    | none => .no
  | _, _ => .no
def gIxS : G2 := fun S x y => match asS x, asI y with
  | some s, some i => if s.length ≤ 16777216 then (match atI s i with
    | some c => .ok (.d (.str [c])) S
    | none => .no) else .no
  | _, _ => .no
theorem at_of {G : Hp} {α : List Addr} {es : List E} {vs : List V} {i : Int} {e : E} (r : REs K mg G α es vs) (h : atI es i = some e) : ∃ v, atI vs i = some v ∧ RE K mg G α e v := by
  unfold atI at h ⊢
  rw [REs.length r]
  cases q : ixN es.length i with
  | none => rw [q] at h; cases h
  | some j => rw [q] at h; exact r.get h
theorem so_ixQ : SO K mg W (fun x y H Q => rIxL K x y H Q ∨ rIxT K x y H Q) gIxQ := fun G α H S σ Q x y v w l rx ry p => by
  unfold gIxQ at p
  split at p
  · rename_i es i h1 h2
    split at p
    · rename_i e h3
      obtain ⟨a, vs, rfl, q, r⟩ := asQ_ok l h1 rx
      obtain ⟨u, h4, h5⟩ := at_of r h3
      rcases q with q | q
      · exact .inl ⟨a, vs, i, u, rfl, asI_ok h2 ry, q, h4, p.here l h5⟩
      · exact .inr ⟨a, vs, i, u, rfl, asI_ok h2 ry, q, h4, p.here l h5⟩
    · exact p.elim
  · exact p.elim
theorem so_ixS : SO K mg W rIxS gIxS := fun G α H S σ Q x y v w l rx ry p => by
  unfold gIxS at p
  split at p
  · rename_i s i h1 h2
    split at p
    · rename_i hz
      split at p
      · rename_i c h3
        exact ⟨mkS s, i, c, asS_ok h1 rx, asI_ok h2 ry, by rw [len_mk]; exact small hz, h3, p.here l rfl⟩
      · exact p.elim
    · exact p.elim
  · exact p.elim
abbrev rIxA (K : PySem.W.Frag) : R2 := fun x y H Q => (rIxL K x y H Q ∨ rIxT K x y H Q) ∨ rIxS x y H Q
def gIx : G2 := gOr gIxQ gIxS
theorem so_ix : SO K mg W (rIxA K) gIx := so_or so_ixQ so_ixS
theorem ix_A {X : Cx} : IxR X (rIxA X.K) := (ix_list.or ix_tup).or ix_str
/-! ### slices -/
abbrev DO := En → Sto → R (Option Int)
abbrev RlO : Hp → List Addr → Option Int → Option Int → Prop := fun _ _ b v => v = b
def SPo (K : PySem.W.Frag) (mg : MG) (W : WX) (t : TO) (d : DO) : Prop := ∀ (G : Hp) (α : List Addr) (H : Hp) (S : Sto) (E : En) (σ : St) (Q : Option Int → Hp → Prop), RL K mg G α H S → RV K mg G α E σ → pst K mg W RlO σ G α H Q (d E S) → t σ H Q
def dNoPart : DO := fun _ S => .ok none S
def dPart (d : DE) : DO := fun E S => (d E S).bind fun x S1 => match asI x with
  | some i => .ok (some i) S1
  | none => .no
theorem sp_none : SPo K mg W tNoPart dNoPart := fun G α H S E σ Q l r p => p.here l rfl
theorem sp_some {te : TE} {d : DE} (h : SE K mg W te d) : SPo K mg W (tPart te) (dPart d) := fun G α H S E σ Q l rv p =>
  h G α H S E σ _ l rv (pst.bind p fun v e S1 G1 α1 H1 s1 l1 r1 p1 => by
    split at p1
    · rename_i i hi
      exact ⟨i, asI_ok hi r1, p1.here l1 rfl⟩
    · exact p1.elim)
def cut {τ : Type} (xs : List τ) (lo hi : Option Int) : List τ := (xs.drop (HT.sIx xs.length 0 lo)).take (HT.sIx xs.length xs.length hi - HT.sIx xs.length 0 lo)
abbrev rSlP (K : PySem.W.Frag) : V → Option Int → Option Int → Hp → VK → Prop := fun x lo hi H Q => rSlL K x lo hi H Q ∨ rSlA K x lo hi H Q ∨ rSlS x lo hi H Q
def gSl (S : Sto) (x : E) (lo hi : Option Int) : R E := match asS x with
  | some s => if s.length ≤ 16777216 then .ok (.d (.str (cut s lo hi))) S else .no
  | none => match asL S x with
    | some es => newL S (cut es lo hi)
    | none => match asU x with
      | some es => if HT.sIx es.length 0 lo = 0 ∧ HT.sIx es.length es.length hi = es.length then .ok x S else newU S (cut es lo hi)
      | none => .no
theorem so_sl {G : Hp} {α : List Addr} {H : Hp} {S : Sto} {σ : St} {Q : V → Hp → Prop} {x : E} {v : V} {lo hi : Option Int} (l : RL K mg G α H S) (rx : RE K mg G α x v) (p : pst K mg W (RE K mg) σ G α H Q (gSl S x lo hi)) : rSlP K v lo hi H Q := by
  unfold gSl at p
  split at p
  · rename_i s h1
    split at p
    · rename_i hz
      refine .inr (.inr ⟨mkS s, asS_ok h1 rx, by rw [len_mk]; exact small hz, ?_⟩)
      have : cutS (mkS s) lo hi = mkS (cut s lo hi) := by
        unfold cutS cut
        rw [len_mk]
      rw [this]
      exact p.here l rfl
    · exact p.elim
  · split at p
    · rename_i es h1
      obtain ⟨a, vs, rfl, q, r⟩ := asL_ok l h1 rx
      refine .inl ⟨a, vs, rfl, q, ?_⟩
      refine new_list l ?_ p
      unfold cut cutV
      rw [REs.length r]
      exact (r.drop _).take _
    · split at p
      · rename_i es h1
        obtain ⟨a, vs, rfl, q, r⟩ := asU_ok l h1 rx
        refine .inr (.inl ⟨a, vs, rfl, q, fun h => ?_, fun h => ?_⟩)
        · rw [REs.length r] at h
          rw [if_pos h] at p
          exact p.here l rx
        · rw [REs.length r] at h
          rw [if_neg h] at p
          refine new_tuple l ?_ p
          unfold cut cutV
          rw [REs.length r]
          exact (r.drop _).take _
      · exact p.elim
def dSl (d : DE) (dl dh : DO) : DE := fun E S => (d E S).bind fun x S1 => (dl E S1).bind fun lo S2 => (dh E S2).bind fun hi S3 => gSl S3 x lo hi
theorem se_sl {te : TE} {tl th : TO} {d : DE} {dl dh : DO} (h : SE K mg W te d) (hl : SPo K mg W tl dl) (hh : SPo K mg W th dh) : SE K mg W (tSl (rSlP K) te tl th) (dSl d dl dh) := fun G α H S E σ Q l rv p =>
  h G α H S E σ _ l rv (pst.bind p fun v e S1 G1 α1 H1 s1 l1 r1 p1 => hl G1 α1 H1 S1 E σ _ l1 (rv.mono s1.g s1.al) (pst.bind p1 fun a b S2 G2 α2 H2 s2 l2 r2 p2 =>
    hh G2 α2 H2 S2 E σ _ l2 ((rv.mono s1.g s1.al).mono s2.g s2.al) (pst.bind p2 fun a' b' S3 G3 α3 H3 s3 l3 r3 p3 => by
      subst r2 r3
      exact so_sl l3 ((r1.mono s2.g s2.al).mono s3.g s3.al) p3)))
theorem sl_P {X : Cx} : SlR X (rSlP X.K) := sl_list.or (sl_tupA.or sl_str)
end
end Dl

namespace Dl
open PySem PySem.Spec L2

section
variable {K : PySem.W.Frag} {mg : MG} {W : WX}
/-! ### built-ins by values -/
abbrev GA := Sto → List E → R E
def SC (K : PySem.W.Frag) (mg : MG) (W : WX) (r : List V → Hp → VK → Prop) (g : GA) : Prop := ∀ (G : Hp) (α : List Addr) (H : Hp) (S : Sto) (σ : St) (Q : V → Hp → Prop) (xs : List E) (vs : List V),
  RL K mg G α H S → REs K mg G α xs vs → pst K mg W (RE K mg) σ G α H Q (g S xs) → r vs H Q
def dCB (g : GA) (da : DA) : DE := fun E S => (da E S).bind fun xs S1 => g S1 xs
variable {ta tb tc te : TE} {da db dc d : DE} {r r' : List V → Hp → VK → Prop} {g g' : GA} {tl : TA} {dl : DA}
theorem se_cb (hr : SC K mg W r g) (h : SA K mg W tl dl) : SE K mg W (tCB r tl) (dCB g dl) := fun G α H S E σ Q l rv p =>
  h G α H S E σ _ l rv (pst.bind p fun v e S1 G1 α1 H1 s1 l1 r1 p1 => hr G1 α1 H1 S1 σ Q e v l1 r1 p1)
def gOrA (g g' : GA) : GA := fun S x => match g S x with
  | .no => g' S x
  | .ok v S => .ok v S
  | .ex e S => .ex e S
theorem sc_or (h : SC K mg W r g) (h' : SC K mg W r' g') : SC K mg W (fun x H Q => r x H Q ∨ r' x H Q) (gOrA g g') := fun G α H S σ Q x v l rx p => by
  unfold gOrA at p
  cases e : g S x with
  | no => rw [e] at p; exact .inr (h' G α H S σ Q x v l rx p)
  | ok z T => rw [e] at p; exact .inl (h G α H S σ Q x v l rx (by rw [e]; exact p))
  | ex z T => rw [e] at p; exact .inl (h G α H S σ Q x v l rx (by rw [e]; exact p))
theorem CallR.or {X : Cx} {f : Value} (h : CallR X f r) (h' : CallR X f r') : CallR X f (fun x H Q => r x H Q ∨ r' x H Q) := fun pins s σ H xs us Q I rv q => by
  rcases q with q | q
  · exact h pins s σ H xs us Q I rv q
  · exact h' pins s σ H xs us Q I rv q
theorem REs.of1 {G : Hp} {α : List Addr} {x : E} {vs : List V} (h : REs K mg G α [x] vs) : ∃ v, vs = [v] ∧ RE K mg G α x v := by
  obtain ⟨v, r, rfl, h1, h2⟩ := h
  rw [show r = [] from h2]
  exact ⟨v, rfl, h1⟩
theorem REs.of2 {G : Hp} {α : List Addr} {x y : E} {vs : List V} (h : REs K mg G α [x, y] vs) : ∃ v w, vs = [v, w] ∧ RE K mg G α x v ∧ RE K mg G α y w := by
  obtain ⟨v, r, rfl, h1, h2⟩ := h
  obtain ⟨w, rfl, h3⟩ := REs.of1 h2
  exact ⟨v, w, rfl, h1, h3⟩
theorem REs.of3 {G : Hp} {α : List Addr} {x y z : E} {vs : List V} (h : REs K mg G α [x, y, z] vs) : ∃ v w u, vs = [v, w, u] ∧ RE K mg G α x v ∧ RE K mg G α y w ∧ RE K mg G α z u := by
  obtain ⟨v, r, rfl, h1, h2⟩ := h
  obtain ⟨w, u, rfl, h3, h4⟩ := REs.of2 h2
  exact ⟨v, w, u, rfl, h1, h3, h4⟩
/-- len -/
def gLen : GA := fun S xs => match xs with
  | [x] => match asS x with
    | some s => if s.length ≤ 16777216 then .ok (.d (.int s.length)) S else .no
    | none => match asQ S x with
      | some es => .ok (.d (.int es.length)) S
      | none => .no
  | _ => .no
theorem sc_len : SC K mg W (fun xs H Q => ∃ x n, xs = [x] ∧ LenV K x H n ∧ Q (.int n) H) gLen := fun G α H S σ Q xs vs l rx p => by
  unfold gLen at p
  split at p
  · obtain ⟨v, rfl, r⟩ := rx.of1
    split at p
    · rename_i s h
      split at p
      · rename_i hz
        have := asS_ok h r
        subst this
        exact ⟨_, s.length, rfl, ⟨by rw [len_mk]; exact small hz, by rw [len_mk]⟩, p.here l rfl⟩
      · exact p.elim
    · split at p
      · rename_i es h
        obtain ⟨a, vs, rfl, q, s⟩ := asQ_ok l h r
        refine ⟨_, es.length, rfl, ?_, p.here l rfl⟩
        rcases q with q | q
        · exact .inl ⟨vs, q, by rw [REs.length s]⟩
        · exact .inr ⟨vs, q, by rw [REs.length s]⟩
      · exact p.elim
  · exact p.elim
/-- int -/
def gInt : GA := fun S xs => match xs with
  | [x] => match asI x with
    | some i => .ok (.d (.int i)) S
    | none => match asB x with
      | some b => .ok (.d (.int (if b then 1 else 0))) S
      | none => .no
  | _ => .no
theorem sc_int : SC K mg W (fun xs H Q => (∃ i, xs = [.int i] ∧ Q (.int i) H) ∨ ∃ k, xs = [.bl k] ∧ Q (.int (if k then 1 else 0)) H) gInt := fun G α H S σ Q xs vs l rx p => by
  unfold gInt at p
  split at p
  · obtain ⟨v, rfl, r⟩ := rx.of1
    split at p
    · rename_i i h
      exact .inl ⟨i, by rw [asI_ok h r], p.here l rfl⟩
    · split at p
      · rename_i b h
        exact .inr ⟨b, by rw [asB_ok h r], p.here l rfl⟩
      · exact p.elim
  · exact p.elim
/-- min, max -/
def g2I (f : Int → Int → Int) : GA := fun S xs => match xs with
  | [x, y] => match asI x, asI y with
    | some i, some j => .ok (.d (.int (f i j))) S
    | _, _ => .no
  | _ => .no
theorem sc_2I {f : Int → Int → Int} : SC K mg W (fun xs H Q => ∃ i j, xs = [.int i, .int j] ∧ Q (.int (f i j)) H) (g2I f) := fun G α H S σ Q xs vs l rx p => by
  unfold g2I at p
  split at p
  · obtain ⟨v, w, rfl, r1, r2⟩ := rx.of2
    split at p
    · rename_i i j h1 h2
      exact ⟨i, j, by rw [asI_ok h1 r1, asI_ok h2 r2], p.here l rfl⟩
    · exact p.elim
  · exact p.elim
def minI (i j : Int) : Int := if j < i then j else i
def maxI (i j : Int) : Int := if j > i then j else i
def g3I (f : Int → Int → Int) : GA := fun S xs => match xs with
  | [x, y, z] => match asI x, asI y, asI z with
    | some i, some j, some k => .ok (.d (.int (f (f i j) k))) S
    | _, _, _ => .no
  | _ => .no
theorem sc_min3 : SC K mg W (rNuC3 nuMin3) (g3I minI) := fun G α H S σ Q xs vs l rx p => by
  unfold g3I at p
  split at p
  · obtain ⟨v, w, u, rfl, r1, r2, r3⟩ := rx.of3
    split at p
    · rename_i i j k h1 h2 h3
      refine ⟨v, w, u, .int (minI (minI i j) k), rfl, ?_, p.here l rfl⟩
      rw [asI_ok h1 r1, asI_ok h2 r2, asI_ok h3 r3]
      show (nuMin2 (.int i) (.int j)).bind _ = _
      have e : ∀ a b : Int, nuMin2 (.int a) (.int b) = some (.int (minI a b)) := fun a b => by
        show some (if decide (b < a) = true then V.int b else V.int a) = _
        unfold minI
        by_cases h : b < a
        · rw [if_pos (decide_eq_true h), if_pos h]
        · rw [if_neg (by rw [decide_eq_true_iff]; exact h), if_neg h]
      rw [e]
      exact e _ _
    · exact p.elim
  · exact p.elim
/-- all of them ints -/
def allI : List E → Option (List Int)
  | [] => some []
  | x :: xs => match asI x, allI xs with
    | some i, some is => some (i :: is)
    | _, _ => none
theorem allI_ok {G : Hp} {α : List Addr} : ∀ {es : List E} {vs : List V} {is : List Int}, allI es = some is → REs K mg G α es vs → vs = is.map V.int
  | [], vs, is, h, r => by cases h; exact r
  | e :: es, vs, is, h, r => by
    obtain ⟨v1, vs, rfl, r1, r2⟩ := r
    unfold allI at h
    split at h
    · rename_i y ys h1 h2
      cases h
      rw [asI_ok h1 r1, allI_ok h2 r2]; rfl
    · cases h
theorem allI_map : ∀ is : List Int, allI (is.map fun i => .d (.int i)) = some is
  | [] => rfl
  | i :: is => by
    show (match asI (.d (.int i)), allI (is.map fun i => E.d (.int i)) with
      | some i, some is => some (i :: is)
      | _, _ => none) = _
    rw [allI_map is]; rfl
def minL : List Int → Int
  | [] => 0
  | [x] => x
  | x :: xs => minI x (minL xs)
def maxL : List Int → Int
  | [] => 0
  | [x] => x
  | x :: xs => maxI x (maxL xs)
theorem minL_mem : ∀ {l : List Int}, l ≠ [] → minL l ∈ l
  | [x], _ => List.mem_singleton.mpr rfl
  | x :: y :: r, _ => by
    show minI x (minL (y :: r)) ∈ _
    unfold minI
    split
    · exact List.mem_cons_of_mem _ (minL_mem (by simp))
    · exact List.mem_cons_self
theorem minL_le : ∀ {l : List Int}, ∀ z ∈ l, minL l ≤ z
  | [x], z, h => by rw [List.mem_singleton.mp h]; exact Int.le_refl _
  | x :: y :: r, z, h => by
    show minI x (minL (y :: r)) ≤ z
    have ih := @minL_le (y :: r)
    unfold minI
    rcases List.mem_cons.mp h with rfl | h
    · split <;> omega
    · have := ih z h
      split <;> omega
theorem maxL_mem : ∀ {l : List Int}, l ≠ [] → maxL l ∈ l
  | [x], _ => List.mem_singleton.mpr rfl
  | x :: y :: r, _ => by
    show maxI x (maxL (y :: r)) ∈ _
    unfold maxI
    split
    · exact List.mem_cons_of_mem _ (maxL_mem (by simp))
    · exact List.mem_cons_self
theorem maxL_ge : ∀ {l : List Int}, ∀ z ∈ l, z ≤ maxL l
  | [x], z, h => by rw [List.mem_singleton.mp h]; exact Int.le_refl _
  | x :: y :: r, z, h => by
    show z ≤ maxI x (maxL (y :: r))
    have ih := @maxL_ge (y :: r)
    unfold maxI
    rcases List.mem_cons.mp h with rfl | h
    · split <;> omega
    · have := ih z h
      split <;> omega
def gLI (f : List Int → Int) : GA := fun S xs => match xs with
  | [x] => match asL S x with
    | some es => match allI es with
      | some is => .ok (.d (.int (f is))) S
      | none => .no
    | none => .no
  | _ => .no
def gLI1 (f : List Int → Int) : GA := fun S xs => match xs with
  | [x] => match asL S x with
    | some es => match allI es with
      | some is => if is.isEmpty then .no else .ok (.d (.int (f is))) S
      | none => .no
    | none => .no
  | _ => .no
theorem sc_sum : SC K mg W (rSum K) (gLI List.sum) := fun G α H S σ Q xs vs l rx p => by
  unfold gLI at p
  split at p
  · obtain ⟨v, rfl, r⟩ := rx.of1
    split at p
    · rename_i es h1
      split at p
      · rename_i is h2
        obtain ⟨a, vs, rfl, q, s⟩ := asL_ok l h1 r
        exact ⟨a, is, rfl, by rw [← allI_ok h2 s]; exact q, p.here l rfl⟩
      · exact p.elim
    · exact p.elim
  · exact p.elim
theorem sc_minL : SC K mg W (rMin K) (gLI1 minL) := fun G α H S σ Q xs vs l rx p => by
  unfold gLI1 at p
  split at p
  · obtain ⟨v, rfl, r⟩ := rx.of1
    split at p
    · rename_i es h1
      split at p
      · rename_i is h2
        split at p
        · exact p.elim
        · rename_i hne
          obtain ⟨a, vs, rfl, q, s⟩ := asL_ok l h1 r
          have ne := isN hne
          refine ⟨a, is, rfl, by rw [← allI_ok h2 s]; exact q, List.length_pos_iff.mpr ne, fun m hm hle => ?_⟩
          have e : m = minL is := Int.le_antisymm (hle _ (minL_mem ne)) (minL_le _ hm)
          rw [e]
          exact p.here l rfl
      · exact p.elim
    · exact p.elim
  · exact p.elim
theorem sc_maxL : SC K mg W (rMax K) (gLI1 maxL) := fun G α H S σ Q xs vs l rx p => by
  unfold gLI1 at p
  split at p
  · obtain ⟨v, rfl, r⟩ := rx.of1
    split at p
    · rename_i es h1
      split at p
      · rename_i is h2
        split at p
        · exact p.elim
        · rename_i hne
          obtain ⟨a, vs, rfl, q, s⟩ := asL_ok l h1 r
          have ne := isN hne
          refine ⟨a, is, rfl, by rw [← allI_ok h2 s]; exact q, List.length_pos_iff.mpr ne, fun m hm hle => ?_⟩
          have e : m = maxL is := Int.le_antisymm (maxL_ge _ hm) (hle _ (maxL_mem ne))
          rw [e]
          exact p.here l rfl
      · exact p.elim
    · exact p.elim
  · exact p.elim
abbrev rMinA (K : PySem.W.Frag) : List V → Hp → VK → Prop := fun xs H Q => (∃ i j, xs = [.int i, .int j] ∧ Q (.int (if j < i then j else i)) H) ∨ rNuC3 nuMin3 xs H Q ∨ rMin K xs H Q
abbrev rMaxA (K : PySem.W.Frag) : List V → Hp → VK → Prop := fun xs H Q => (∃ i j, xs = [.int i, .int j] ∧ Q (.int (if j > i then j else i)) H) ∨ rMax K xs H Q
def gMin : GA := gOrA (g2I minI) (gOrA (g3I minI) (gLI1 minL))
def gMax : GA := gOrA (g2I maxI) (gLI1 maxL)
theorem sc_min : SC K mg W (rMinA K) gMin := sc_or (sc_2I (f := minI)) (sc_or sc_min3 sc_minL)
theorem sc_max : SC K mg W (rMaxA K) gMax := sc_or (sc_2I (f := maxI)) sc_maxL
theorem call_minA {X : Cx} (hc : X.calm = true) : CallR X (.builtin "min") (rMinA X.K) := CallR.or (call_min2 hc) (CallR.or (call_min3Nu hc) (cr_min hc))
theorem call_maxA {X : Cx} (hc : X.calm = true) : CallR X (.builtin "max") (rMaxA X.K) := CallR.or (call_max2 hc) (cr_max hc)
/-- list(x), tuple(x) -/
def gList : GA := fun S xs => match xs with
  | [x] => match asQ S x with
    | some es => newL S es
    | none => .no
  | _ => .no
theorem sc_list : SC K mg W (fun xs H Q => ∃ p ys, xs = [.ref p] ∧ (SqL K H p ys ∨ SqT K H p ys) ∧ ∀ l, H l = none → Q (.ref l) (upd H l (.lst ys))) gList := fun G α H S σ Q xs vs l rx p => by
  unfold gList at p
  split at p
  · obtain ⟨v, rfl, r⟩ := rx.of1
    split at p
    · rename_i es h1
      obtain ⟨a, vs, rfl, q, s⟩ := asQ_ok l h1 r
      exact ⟨a, vs, rfl, q, new_list l s p⟩
    · exact p.elim
  · exact p.elim
def gTuple : GA := fun S xs => match xs with
  | [x] => match asL S x with
    | some es => newU S es
    | none => match asU x with
      | some es => .ok x S
      | none => .no
  | _ => .no
theorem sc_tuple : SC K mg W (fun xs H Q => ∃ p ys, xs = [.ref p] ∧ ((SqL K H p ys ∧ ∀ l, H l = none → Q (.ref l) (upd H l (.tup ys))) ∨ (SqT K H p ys ∧ Q (.ref p) H))) gTuple := fun G α H S σ Q xs vs l rx p => by
  unfold gTuple at p
  split at p
  · obtain ⟨v, rfl, r⟩ := rx.of1
    split at p
    · rename_i es h1
      obtain ⟨a, vs, rfl, q, s⟩ := asL_ok l h1 r
      exact ⟨a, vs, rfl, .inl ⟨q, new_tuple l s p⟩⟩
    · split at p
      · rename_i es h1
        obtain ⟨a, vs, rfl, q, s⟩ := asU_ok l h1 r
        exact ⟨a, vs, rfl, .inr ⟨q, p.here l r⟩⟩
      · exact p.elim
  · exact p.elim
/-- list(range(..)) -/
def SRg (K : PySem.W.Frag) (mg : MG) (W : WX) (t : St → Hp → (Int → Int → Hp → Prop) → Prop) (d : En → Sto → R (Int × Int)) : Prop :=
  ∀ (G : Hp) (α : List Addr) (H : Hp) (S : Sto) (E : En) (σ : St) (Q : Int → Int → Hp → Prop), RL K mg G α H S → RV K mg G α E σ → pst K mg W (fun _ _ a (b : Int × Int) => b = a) σ G α H (fun x H => Q x.1 x.2 H) (d E S) → t σ H Q
def dRg1 (d : DE) : En → Sto → R (Int × Int) := fun E S => (d E S).bind fun x S1 => match asI x with
  | some n => .ok (0, n) S1
  | none => .no
def dRg2 (d e : DE) : En → Sto → R (Int × Int) := fun E S => (d E S).bind fun x S1 => (e E S1).bind fun y S2 => match asI x, asI y with
  | some i, some j => .ok (i, j) S2
  | _, _ => .no
theorem sr_1 (h : SE K mg W ta da) : SRg K mg W (tRg1 ta) (dRg1 da) := fun G α H S E σ Q l rv p =>
  h G α H S E σ _ l rv (pst.bind p fun v e S1 G1 α1 H1 s1 l1 r1 p1 => by
    split at p1
    · rename_i n hn
      exact ⟨n, asI_ok hn r1, p1.here (v := (0, n)) l1 rfl⟩
    · exact p1.elim)
theorem sr_2 (h : SE K mg W ta da) (k : SE K mg W tb db) : SRg K mg W (tRg2 ta tb) (dRg2 da db) := fun G α H S E σ Q l rv p =>
  h G α H S E σ _ l rv (pst.bind p fun v e S1 G1 α1 H1 s1 l1 r1 p1 => k G1 α1 H1 S1 E σ _ l1 (rv.mono s1.g s1.al) (pst.bind p1 fun w f S2 G2 α2 H2 s2 l2 r2 p2 => by
    split at p2
    · rename_i i j hi hj
      exact ⟨i, j, asI_ok hi (r1.mono s2.g s2.al), asI_ok hj r2, p2.here (v := (i, j)) l2 rfl⟩
    · exact p2.elim))
def rgE (a b : Int) : List E := (List.range (b - a).toNat).map fun i => .d (.int (a + (i : Nat)))
theorem REs_map {τ : Type} {G : Hp} {α : List Addr} {f : τ → E} {k : τ → V} (h : ∀ x, RE K mg G α (f x) (k x)) : ∀ l : List τ, REs K mg G α (l.map f) (l.map k)
  | [] => rfl
  | x :: l => ⟨k x, _, rfl, h x, REs_map h l⟩
def dLstRg (d : En → Sto → R (Int × Int)) : DE := fun E S => (d E S).bind fun x S1 => if -1000000 ≤ x.1 ∧ x.1 ≤ 1000000 ∧ -1000000 ≤ x.2 ∧ x.2 ≤ 1000000 then newL S1 (rgE x.1 x.2) else .no
theorem se_lstRg {t : St → Hp → (Int → Int → Hp → Prop) → Prop} {d : En → Sto → R (Int × Int)} (h : SRg K mg W t d) : SE K mg W (tLstRg t) (dLstRg d) := fun G α H S E σ Q l rv p =>
  h G α H S E σ _ l rv (pst.bind p fun v e S1 G1 α1 H1 s1 l1 r1 p1 => by
    subst r1
    split at p1
    · rename_i hz
      obtain ⟨h1, h2, h3, h4⟩ := hz
      refine ⟨⟨by omega, by omega, by omega, by omega, by omega⟩, new_list l1 ?_ p1⟩
      exact REs_map (f := fun i : Nat => Dl.E.d (.int (v.1 + (i : Nat)))) (k := fun i : Nat => V.int (v.1 + (i : Nat))) (fun _ => (rfl : _ = _)) _
    · exact p1.elim)
/-! ### isinstance of built-in types -/
def tyE (S : Sto) (e : E) : Option String := match e with
  | .d .non => some "NoneType"
  | .d (.bl _) => some "bool"
  | .d (.int _) => some "int"
  | .d (.str _) => some "str"
  | .d (.dic _ _) => some "dict"
  | e => match asL S e with
    | some _ => some "list"
    | none => match asU e with
      | some _ => some "tuple"
      | none => none
theorem tyL {H : Hp} {a : Addr} {vs : List V} (h : SqL K H a vs) : TyX K H (.ref a) (.type "list") := by
  rcases h with (h | ⟨o, h⟩) | ⟨o, its, n, h1, h2, _⟩
  · exact .base (.lst h)
  · exact .base (.frz h)
  · exact .kList h1 h2
theorem tyU {H : Hp} {a : Addr} {vs : List V} (h : SqT K H a vs) : TyX K H (.ref a) (.type "tuple") := by
  rcases h with (h | ⟨o, h⟩) | ⟨o, its, n, h1, h2, _⟩
  · exact .base (.tup h)
  · exact .fTuple h
  · exact .kTuple h1 h2
theorem tyE_ok {G : Hp} {α : List Addr} {H : Hp} {S : Sto} {e : E} {v : V} {T : String} (l : RL K mg G α H S) (h : tyE S e = some T) (r : RE K mg G α e v) : TyX K H v (.type T) := by
  unfold tyE at h
  split at h
  · cases h; rw [show v = .non from r]; exact .base .non
  · cases h; rw [show v = .bl _ from r]; exact .base (.bl _)
  · cases h; rw [show v = .int _ from r]; exact .base (.int _)
  · cases h; rw [show v = .str _ from r]; exact .base (.str _)
  · rename_i kvs one
    cases h
    cases one
    · obtain ⟨a, vs, rfl, q, _⟩ := r
      exact .base (.dT (l.sub _ _ q))
    · obtain ⟨a, vs, rfl, q, _⟩ := r
      exact .base (.dK (l.sub _ _ q))
  · split at h
    · rename_i es hs
      cases h
      obtain ⟨a, vs, rfl, q, _⟩ := asL_ok l hs r
      exact tyL q
    · split at h
      · rename_i es hs
        cases h
        obtain ⟨a, vs, rfl, q, _⟩ := asU_ok l hs r
        exact tyU q
      · cases h
def gIsi : GA := fun S xs => match xs with
  | [x, .d (.ty T)] => match tyE S x with
    | some t => match kitB t T with
      | some b => .ok (.d (.bl b)) S
      | none => .no
    | none => .no
  | _ => .no
theorem sc_isi : SC K mg W (rIsi K) gIsi := fun G α H S σ Q xs vs l rx p => by
  unfold gIsi at p
  split at p
  · obtain ⟨v, w, rfl, r1, r2⟩ := rx.of2
    split at p
    · rename_i t ht
      split at p
      · rename_i b hb
        exact ⟨v, w, .type t, .type _, b, rfl, by rw [show w = .ty _ from r2]; exact .ty _, tyE_ok l ht r1, kit_ty hb, p.here l rfl⟩
      · exact p.elim
    · exact p.elim
  · exact p.elim
/-! ### methods -/
abbrev GM := Sto → E → List E → R E
def SM (K : PySem.W.Frag) (mg : MG) (W : WX) (r : V → List V → Hp → VK → Prop) (g : GM) : Prop := ∀ (G : Hp) (α : List Addr) (H : Hp) (S : Sto) (σ : St) (Q : V → Hp → Prop) (x : E) (v : V) (xs : List E) (vs : List V),
  RL K mg G α H S → RE K mg G α x v → REs K mg G α xs vs → pst K mg W (RE K mg) σ G α H Q (g S x xs) → r v vs H Q
/-- is it of that type -/
def isTy (T : String) (S : Sto) (x : E) : Bool := if T == "list" then (asL S x).isSome else if T == "str" then (asS x).isSome else false
theorem isTy_ok {G : Hp} {α : List Addr} {H : Hp} {S : Sto} {x : E} {v : V} {T : String} (l : RL K mg G α H S) (h : isTy T S x = true) (r : RE K mg G α x v) : tyV K T v H := by
  unfold isTy at h
  split at h
  · rename_i hT
    have hT' : T = "list" := by simpa using hT
    obtain ⟨es, he⟩ := Option.isSome_iff_exists.mp h
    obtain ⟨a, vs, rfl, q, _⟩ := asL_ok l he r
    exact .inl ⟨hT', vs, q⟩
  · split at h
    · rename_i hT
      have hT' : T = "str" := by simpa using hT
      obtain ⟨es, he⟩ := Option.isSome_iff_exists.mp h
      rw [asS_ok he r]
      exact hT'
    · cases h
def dBM (T : String) (g : GM) (d : DE) (da : DA) : DE := fun E S => (d E S).bind fun x S1 => if isTy T S1 x then (da E S1).bind fun xs S2 => g S2 x xs else .no
theorem se_bm {T : String} {r : V → List V → Hp → VK → Prop} {g : GM} (hr : SM K mg W r g) (h : SE K mg W ta da) (k : SA K mg W tl dl) : SE K mg W (tBM K T r ta tl) (dBM T g da dl) := fun G α H S E σ Q l rv p =>
  h G α H S E σ _ l rv (pst.bind p fun v e S1 G1 α1 H1 s1 l1 r1 p1 => by
    split at p1
    · rename_i ht
      exact ⟨isTy_ok l1 ht r1, k G1 α1 H1 S1 E σ _ l1 (rv.mono s1.g s1.al) (pst.bind p1 fun w f S2 G2 α2 H2 s2 l2 r2 p2 => hr G2 α2 H2 S2 σ Q e v f w l2 (r1.mono s2.g s2.al) r2 p2)⟩
    · exact p1.elim)
theorem se_bm0 {T : String} {r : V → List V → Hp → VK → Prop} {g : GM} (hr : SM K mg W r g) (h : SE K mg W ta da) : SE K mg W (tBM0 K T r ta) (dBM T g da dNil) := fun G α H S E σ Q l rv p =>
  h G α H S E σ _ l rv (pst.bind p fun v e S1 G1 α1 H1 s1 l1 r1 p1 => by
    split at p1
    · rename_i ht
      exact ⟨isTy_ok l1 ht r1, hr G1 α1 H1 S1 σ Q e v [] [] l1 r1 rfl p1⟩
    · exact p1.elim)
/-- the own list of a handle -/
def gAppend : GM := fun S x xs => match x, xs with
  | .h n, [y] => match S[n]? with
    | some (.own (.lst es)) => if es.length < 10000000 then .ok (.d .non) (S.set n (.own (.lst (es ++ [y])))) else .no
    | _ => .no
  | _, _ => .no
theorem write_list {G : Hp} {α : List Addr} {H : Hp} {S : Sto} {σ : St} {Q : V → Hp → Prop} {n : Nat} {a : Addr} {o : Ob} {e : E} {v : V} {es : List E} {vs : List V} (l : RL K mg G α H S) (hn : S[n]? = some (.own o)) (ha : α[n]? = some a)
    (r : REs K mg G α es vs) (re : RE K mg G α e v) (p : pst K mg W (RE K mg) σ G α H Q (.ok e (S.set n (.own (.lst es))))) : Q v (upd H a (.lst vs)) :=
  p v G α _ (Stp.write ha) (l.write hn ha ⟨vs, upd_same, r⟩) re
theorem sm_append : SM K mg W rAppend gAppend := fun G α H S σ Q x v xs vs l rx rxs p => by
  unfold gAppend at p
  split at p
  · split at p
    · rename_i es hs
      obtain ⟨a, us, rfl, ha, hH, r⟩ := own_at l hs rx
      obtain ⟨w, rfl, rw⟩ := rxs.of1
      split at p
      · rename_i hz
        exact ⟨a, us, w, rfl, rfl, hH, by rw [REs.length r, sizeLine_eq]; omega, write_list (e := .d .non) l hs ha (r.append (.one rw)) (rfl : V.non = V.non) p⟩
      · exact p.elim
    · exact p.elim
  · exact p.elim
def gPop : GM := fun S x xs => match x, xs with
  | .h n, [] => match S[n]? with
    | some (.own (.lst es)) => match es[es.length - 1]? with
      | some e => .ok e (S.set n (.own (.lst es.dropLast)))
      | none => .no
    | _ => .no
  | _, _ => .no
theorem sm_pop : SM K mg W rPop gPop := fun G α H S σ Q x v xs vs l rx rxs p => by
  unfold gPop at p
  split at p
  · split at p
    · rename_i es hs
      obtain ⟨a, us, rfl, ha, hH, r⟩ := own_at l hs rx
      split at p
      · rename_i e he
        obtain ⟨u, hu, ru⟩ := r.get he
        rw [show vs = [] from rxs]
        exact ⟨a, us, u, rfl, rfl, hH, by rw [REs.length r]; exact hu, write_list l hs ha r.dropLast ru p⟩
      · exact p.elim
    · exact p.elim
  · exact p.elim
def gExtend : GM := fun S x xs => match x, xs with
  | .h n, [y] => match S[n]?, asH S y with
    | some (.own (.lst es)), some fs => if es.length + fs.length < 10000000 then .ok (.d .non) (S.set n (.own (.lst (es ++ fs)))) else .no
    | _, _ => .no
  | _, _ => .no
theorem sm_extend : SM K mg W rExtend gExtend := fun G α H S σ Q x v xs vs l rx rxs p => by
  unfold gExtend at p
  split at p
  · split at p
    · rename_i es fs hs h2
      obtain ⟨a, us, rfl, ha, hH, r⟩ := own_at l hs rx
      obtain ⟨w, rfl, rw⟩ := rxs.of1
      obtain ⟨m, b, ws, rfl, hs2, rfl, hb, hH2, r2⟩ := asH_ok l h2 rw
      split at p
      · rename_i hz
        exact ⟨a, b, us, ws, rfl, rfl, hH, hH2, by rw [REs.length r, REs.length r2, sizeLine_eq]; omega, write_list (e := .d .non) l hs ha (r.append r2) (rfl : V.non = V.non) p⟩
      · exact p.elim
    · exact p.elim
  · exact p.elim
/-- sep.join(list of texts) -/
def allS : List E → Option (List Cs)
  | [] => some []
  | x :: xs => match asS x, allS xs with
    | some i, some is => some (i :: is)
    | _, _ => none
theorem allS_ok {G : Hp} {α : List Addr} : ∀ {es : List E} {vs : List V} {is : List Cs}, allS es = some is → REs K mg G α es vs → vs = (is.map mkS).map V.str
  | [], vs, is, h, r => by cases h; exact r
  | e :: es, vs, is, h, r => by
    obtain ⟨v1, vs, rfl, r1, r2⟩ := r
    unfold allS at h
    split at h
    · rename_i y ys h1 h2
      cases h
      rw [asS_ok h1 r1, allS_ok h2 r2]; rfl
    · cases h
theorem allS_map : ∀ is : List Cs, allS (is.map fun i => .d (.str i)) = some is
  | [] => rfl
  | i :: is => by
    show (match asS (.d (.str i)), allS (is.map fun i => E.d (.str i)) with
      | some i, some is => some (i :: is)
      | _, _ => none) = _
    rw [allS_map is]; rfl
def gJoin : GM := fun S x xs => match xs with
  | [y] => match asS x, asQ S y with
    | some s, some es => match allS es with
      | some ss => if (ss.map (·.length)).sum + ss.length * s.length ≤ 16777216 then .ok (.d (.str (TL.joinL s ss))) S else .no
      | none => .no
    | _, _ => .no
  | _ => .no
theorem sm_join : SM K mg W (fun x xs H Q => ∃ a p, ∃ ys : List Str, x = .str a ∧ xs = [.ref p] ∧ (SqL K H p (ys.map V.str) ∨ SqT K H p (ys.map V.str)) ∧ (ys.map (·.length)).sum + ys.length * a.length ≤ 16777216 ∧ Q (.str (Txt.join a ys)) H) gJoin := fun G α H S σ Q x v xs vs l rx rxs p => by
  unfold gJoin at p
  split at p
  · split at p
    · rename_i s es h1 h2
      split at p
      · rename_i ss h3
        obtain ⟨w, rfl, rw'⟩ := rxs.of1
        obtain ⟨a, us, rfl, q, r⟩ := asQ_ok l h2 rw'
        have e := allS_ok h3 r
        subst e
        split at p
        · rename_i hz
          refine ⟨mkS s, a, ss.map mkS, asS_ok h1 rx, rfl, q, ?_, ?_⟩
          · have : ((ss.map mkS).map (·.length)) = ss.map (·.length) := by
              rw [List.map_map]
              exact List.map_congr_left fun y _ => len_mk y
            rw [this, List.length_map, len_mk]
            exact hz
          · have hj : Txt.join (mkS s) (ss.map mkS) = mkS (TL.joinL s ss) := by
              have e1 := TL.tl_join (mkS s) (ss.map mkS)
              have e2 : (ss.map mkS).map TL.tl = ss := by
                rw [List.map_map]
                conv => rhs; rw [← List.map_id ss]
                exact List.map_congr_left fun y _ => rfl
              rw [e2] at e1
              rw [TL.join_eq]
              have e3 : (Str.join (mkS s) (ss.map mkS)).cps.toList = TL.joinL s ss := e1
              rw [← e3]
            rw [hj]
            exact p.here l rfl
        · exact p.elim
      · exact p.elim
    · exact p.elim
  · exact p.elim
end
end Dl

namespace Dl
open PySem PySem.Spec L2

section
variable {K : PySem.W.Frag} {mg : MG} {W : WX} {ta tb te : TE} {da db d : DE} {tt : TT} {dt : DT} {t u : TS} {s s' : DS}
/-! ### statements -/
def sNext : DS := fun E S => .nx E S
def sSeq (s s' : DS) : DS := fun E S => (s E S).bind s'
def sRet (d : DE) : DS := fun E S => (d E S).st E fun v S1 => .rt v S1
def sRetN : DS := fun _ S => .rt (.d .non) S
def sDrop (d : DE) : DS := fun E S => (d E S).st E fun _ S1 => .nx E S1
def sBreak : DS := fun E S => .bk E S
def sCont : DS := fun E S => .ct E S
def sIf (d : DT) (s s' : DS) : DS := fun E S => (d E S).st E fun b S1 => if b then s E S1 else s' E S1
theorem pstF.here {G : Hp} {α : List Addr} {H : Hp} {Q : St → Hp → Prop} {E' : En} {S' : Sto} {σ : St} (p : pstF K mg G α H Q E' S') (l : RL K mg G α H S') (r : RV K mg G α E' σ) : Q σ H := p σ G α H (Stp.refl G α H) l r
theorem ss_next : SS K mg W tNext sNext := fun G α H S E σ Dn l rv p => pstF.here (Q := Dn.nx) p l rv
theorem ss_brk : SS K mg W tBreak sBreak := fun G α H S E σ Dn l rv p => pstF.here (Q := Dn.bk) p l rv
theorem ss_cont : SS K mg W tCont sCont := fun G α H S E σ Dn l rv p => pstF.here (Q := Dn.ct) p l rv
theorem ss_seq (h : SS K mg W t s) (k : SS K mg W u s') : SS K mg W (tSeq t u) (sSeq s s') := fun G α H S E σ Dn l rv p => by
  refine h G α H S E σ _ l rv ?_
  have q := pstS.bind p
  show pstS K mg W G α H { Dn with nx := u Dn } (s E S)
  revert q
  cases s E S with
  | nx E' S' =>
    intro q σ' G' α' H' st l' r'
    obtain ⟨E1, S1, G1, α1, s1, l1, r1, p1⟩ := q σ' G' α' H' st l' r'
    exact k G1 α1 H' S1 E1 σ' Dn l1 r1 p1
  | rt v S' => exact fun q => q
  | bk E' S' => exact fun q => q
  | ct E' S' => exact fun q => q
  | ex e E' S' => exact fun q => q
  | no => exact fun q => q
theorem ss_ret (h : SE K mg W ta da) : SS K mg W (tRet ta) (sRet da) := fun G α H S E σ Dn l rv p =>
  h G α H S E σ _ l rv (pst.st rv p fun v e S1 G1 α1 H1 s1 l1 r1 p1 => p1 v G1 α1 H1 (Stp.refl ..) l1 r1)
theorem ss_retN : SS K mg W tRetN sRetN := fun G α H S E σ Dn l rv p => p .non G α H (Stp.refl ..) l (rfl : V.non = V.non)
theorem ss_drop (h : SE K mg W ta da) : SS K mg W (tDrop ta) (sDrop da) := fun G α H S E σ Dn l rv p =>
  h G α H S E σ _ l rv (pst.st rv p fun v e S1 G1 α1 H1 s1 l1 r1 p1 => pstF.here (Q := Dn.nx) p1 l1 (rv.mono s1.g s1.al))
theorem ss_if (h : STe K mg W tt dt) (k1 : SS K mg W t s) (k2 : SS K mg W u s') : SS K mg W (tIfS tt t u) (sIf dt s s') := fun G α H S E σ Dn l rv p =>
  h G α H S E σ _ l rv (pst.st rv p fun v e S1 G1 α1 H1 s1 l1 r1 p1 => by
    subst r1
    cases v with
    | true => exact iteT (k1 G1 α1 H1 S1 E σ Dn l1 (rv.mono s1.g s1.al) p1)
    | false => exact iteF (k2 G1 α1 H1 S1 E σ Dn l1 (rv.mono s1.g s1.al) p1))
/-! ### targets -/
abbrev DG := E → En → Option En
def SG (K : PySem.W.Frag) (mg : MG) (g : TG) (dg : DG) : Prop := ∀ (G : Hp) (α : List Addr) (H : Hp) (S : Sto) (E E' : En) (σ : St) (e : Dl.E) (v : V) (Q : St → Hp → Prop),
  RL K mg G α H S → RV K mg G α E σ → RE K mg G α e v → dg e E = some E' → (∀ σ', RV K mg G α E' σ' → Q σ' H) → g v σ H Q
theorem RV.set {G : Hp} {α : List Addr} {E : En} {σ : St} {e : Dl.E} {v : V} (r : RV K mg G α E σ) (re : RE K mg G α e v) (i : Nat) : RV K mg G α (E.set i (some e)) (σ.set i (some v)) := by
  refine ⟨by rw [List.length_set, List.length_set]; exact r.1, fun j f hj => ?_⟩
  by_cases h : i = j
  · subst h
    have hi : i < E.length := by
      have := (List.getElem?_eq_some_iff.mp hj).1
      simpa using this
    rw [List.getElem?_set_self hi] at hj
    cases hj
    exact ⟨v, by rw [List.getElem?_set_self (by rw [← r.1]; exact hi)], .inl re⟩
  · rw [List.getElem?_set_ne h] at hj
    obtain ⟨w, h1, h2⟩ := r.2 j f hj
    exact ⟨w, by rw [List.getElem?_set_ne h]; exact h1, h2⟩
theorem RV.setN {G : Hp} {α : List Addr} {E : En} {σ : St} (r : RV K mg G α E σ) (i : Nat) : RV K mg G α (E.set i none) (σ.set i none) := by
  refine ⟨by rw [List.length_set, List.length_set]; exact r.1, fun j f hj => ?_⟩
  by_cases h : i = j
  · subst h
    have hi : i < E.length := by
      have := (List.getElem?_eq_some_iff.mp hj).1
      simpa using this
    rw [List.getElem?_set_self hi] at hj
    cases hj
  · rw [List.getElem?_set_ne h] at hj
    obtain ⟨w, h1, h2⟩ := r.2 j f hj
    exact ⟨w, by rw [List.getElem?_set_ne h]; exact h1, h2⟩
def oName (i : Nat) : DG := fun e E => some (E.set i (some e))
theorem sg_name {i : Nat} : SG K mg (gName i) (oName i) := fun G α H S E E' σ e v Q l rv re h q => by
  cases h
  exact q _ (rv.set re i)
def oAll : List DG → List E → En → Option En
  | [], [], E => some E
  | g :: gs, e :: es, E => (g e E).bind fun E1 => oAll gs es E1
  | _, _, _ => none
def oTup (gs : List DG) : DG := fun e E => match asU e with
  | some es => oAll gs es E
  | none => none
def SGs (K : PySem.W.Frag) (mg : MG) (g : TGs) (gs : List DG) : Prop := ∀ (G : Hp) (α : List Addr) (H : Hp) (S : Sto) (E E' : En) (σ : St) (es : List Dl.E) (vs : List V) (Q : St → Hp → Prop),
  RL K mg G α H S → RV K mg G α E σ → REs K mg G α es vs → oAll gs es E = some E' → (∀ σ', RV K mg G α E' σ' → Q σ' H) → g vs σ H Q
theorem sgs_nil : SGs K mg gNil [] := fun G α H S E E' σ es vs Q l rv re h q => by
  cases es with
  | nil =>
    cases h
    exact ⟨re, q _ rv⟩
  | cons _ _ => cases h
theorem sgs_cons {g : TG} {gr : TGs} {dg : DG} {gs : List DG} (h1 : SG K mg g dg) (h2 : SGs K mg gr gs) : SGs K mg (gCons g gr) (dg :: gs) := fun G α H S E E' σ es vs Q l rv re h q => by
  cases es with
  | nil => cases h
  | cons e es =>
    obtain ⟨v, r, rfl, r1, r2⟩ := re
    have h' : (dg e E).bind (fun E1 => oAll gs es E1) = some E' := h
    cases e1 : dg e E with
    | none => rw [e1] at h'; cases h'
    | some E1 =>
      rw [e1] at h'
      exact ⟨v, r, rfl, h1 G α H S E E1 σ e v _ l rv r1 e1 fun σ1 rv1 => h2 G α H S E1 E' σ1 es r Q l rv1 r2 h' q⟩
theorem oAll_len : ∀ {gs : List DG} {es : List E} {E E' : En}, oAll gs es E = some E' → es.length = gs.length
  | [], [], _, _, _ => rfl
  | g :: gs, e :: es, E, E', h => by
    have h' : (g e E).bind (fun E1 => oAll gs es E1) = some E' := h
    cases e1 : g e E with
    | none => rw [e1] at h'; cases h'
    | some E1 => rw [e1] at h'; simp [oAll_len h']
  | [], _ :: _, _, _, h => by cases h
  | _ :: _, [], _, _, h => by cases h
theorem sg_tup {gr : TGs} {gs : List DG} {n : Nat} (h : SGs K mg gr gs) (hn : gs.length = n) : SG K mg (gTup K n gr) (oTup gs) := fun G α H S E E' σ e v Q l rv re hh q => by
  unfold oTup at hh
  split at hh
  · rename_i es h1
    obtain ⟨a, vs, rfl, qs, r⟩ := asU_ok l h1 re
    exact ⟨a, vs, rfl, qs, by rw [REs.length r, oAll_len hh, hn], h G α H S E E' σ es vs Q l rv r hh q⟩
  · cases hh
def sAsg (d : DE) (g : DG) : DS := fun E S => (d E S).st E fun e S1 => match g e E with
  | some E1 => .nx E1 S1
  | none => .no
theorem ss_asg {g : TG} {dg : DG} (h : SE K mg W ta da) (hg : SG K mg g dg) : SS K mg W (tAsg ta g) (sAsg da dg) := fun G α H S E σ Dn l rv p =>
  h G α H S E σ _ l rv (pst.st rv p fun v e S1 G1 α1 H1 s1 l1 r1 p1 => by
    split at p1
    · rename_i E1 h1
      exact hg G1 α1 H1 S1 E E1 σ e v _ l1 (rv.mono s1.g s1.al) r1 h1 fun σ' rv' => pstF.here (Q := Dn.nx) p1 l1 rv'
    · exact p1.elim)
def sSet (i : Nat) (d : DE) : DS := sAsg d (oName i)
theorem ss_set {i : Nat} (h : SE K mg W ta da) : SS K mg W (tAsg ta (gName i)) (sSet i da) := ss_asg h sg_name
/-- name += e, ints -/
def sAug (f : Int → Int → Int) (i : Nat) (d : DE) : DS := fun E S => match E[i]? with
  | some (some e) => (d E S).st E fun y S1 => match asI e, asI y with
    | some a, some b => .nx (E.set i (some (.d (.int (f a b))))) S1
    | _, _ => .no
  | _ => .no
theorem ss_aug {f : Int → Int → Int} {i : Nat} (h : SE K mg W ta da) : SS K mg W (tAug i ta (ipI f)) (sAug f i da) := fun G α H S E σ Dn l rv p => by
  unfold sAug at p
  split at p
  · rename_i e he
    obtain ⟨v, hv, hr0⟩ := rv.2 i e he
    refine ⟨v, hv, h G α H S E σ _ l rv (pst.st rv p fun w y S1 G1 α1 H1 s1 l1 r1 p1 => ?_)⟩
    split at p1
    · rename_i a b ha hb
      have hr : RE K mg G α e v := by
        rcases hr0 with hr | ⟨c, fs, a, C, dx, rfl, _⟩
        · exact hr
        · cases ha
      refine ⟨a, b, asI_ok ha hr, asI_ok hb r1, ?_⟩
      exact pstF.here (Q := Dn.nx) p1 l1 ((rv.mono s1.g s1.al).set (e := .d (.int (f a b))) (v := .int (f a b)) (rfl : V.int _ = V.int _) i)
    · exact p1.elim
  · exact p.elim

/-! ### what a loop walks -/
/-- the items; the own list that must stand -/
abbrev DI := En → Sto → R (List E × Option Nat)
def Grd (es : List E) (gh : Option Nat) (S : Sto) : Prop := match gh with
  | none => True
  | some n => S[n]? = some (.own (.lst es))
/-- J walks the items es while the guard stands -/
def WalkE (K : PySem.W.Frag) (mg : MG) (J : It) (G : Hp) (α : List Addr) (H : Hp) (es : List E) (gh : Option Nat) : Prop :=
  ∀ (G2 : Hp) (α2 : List Addr) (H2 : Hp) (S2 : Sto), Stp G α H G2 α2 H2 → RL K mg G2 α2 H2 S2 → Grd es gh S2 →
    (∀ i, i < es.length → J.go i H2) ∧ J.stop es.length H2 ∧
    ∀ i e x H3, es[i]? = some e → J.yld i H2 x H3 → ∃ G3, Stp G2 α2 H2 G3 α2 H3 ∧ RL K mg G3 α2 H3 S2 ∧ RE K mg G3 α2 e x
def SI (K : PySem.W.Frag) (mg : MG) (W : WX) (wi : TI) (di : DI) : Prop := ∀ (G : Hp) (α : List Addr) (H : Hp) (S : Sto) (E : En) (σ : St) (Rq : It → Hp → Prop), RL K mg G α H S → RV K mg G α E σ →
  (match di E S with
    | .ok (es, gh) S' => ∀ J G' α' H', Stp G α H G' α' H' → RL K mg G' α' H' S' → Grd es gh S' → WalkE K mg J G' α' H' es gh → Rq J H'
    | .ex e S' => pstX K mg W σ G α H S' e
    | .no => False) → wi σ H Rq
/-- one turn after another; no guard -/
def forN (g : DG) (b : DS) : List E → En → Sto → RSt
  | [], E, S => .nx E S
  | x :: xs, E, S => match g x E with
    | none => .no
    | some E1 => match b E1 S with
      | .nx E2 S2 => forN g b xs E2 S2
      | .ct E2 S2 => forN g b xs E2 S2
      | .bk E2 S2 => .nx E2 S2
      | .rt v S2 => .rt v S2
      | .ex e E2 S2 => .ex e E2 S2
      | .no => .no
open Classical in
/-- .. while the own list n stands -/
noncomputable def forG (g : DG) (b : DS) (n : Nat) (all : List E) : List E → En → Sto → RSt
  | [], E, S => if S[n]? = some (.own (.lst all)) then .nx E S else .no
  | x :: xs, E, S => if S[n]? = some (.own (.lst all)) then (match g x E with
    | none => .no
    | some E1 => match b E1 S with
      | .nx E2 S2 => forG g b n all xs E2 S2
      | .ct E2 S2 => forG g b n all xs E2 S2
      | .bk E2 S2 => .nx E2 S2
      | .rt v S2 => .rt v S2
      | .ex e E2 S2 => .ex e E2 S2
      | .no => .no) else .no
noncomputable def sFor (di : DI) (g : DG) (b : DS) : DS := fun E S => (di E S).st E fun p S1 => match p.2 with
  | none => forN g b p.1 E S1
  | some n => forG g b n p.1 p.1 E S1
noncomputable def forE (g : DG) (b : DS) (gh : Option Nat) (all : List E) (rest : List E) (E : En) (S : Sto) : RSt := match gh with
  | none => forN g b rest E S
  | some n => forG g b n all rest E S
theorem forE_grd {g : DG} {b : DS} {gh : Option Nat} {all rest : List E} {E : En} {S : Sto} {G : Hp} {α : List Addr} {H : Hp} {Dn : Ends} (h : pstS K mg W G α H Dn (forE g b gh all rest E S)) : Grd all gh S := by
  cases gh with
  | none => trivial
  | some n =>
    show S[n]? = some (.own (.lst all))
    have h' : pstS K mg W G α H Dn (forG g b n all rest E S) := h
    cases rest <;>
    · unfold forG at h'
      split at h'
      · assumption
      · exact h'.elim
theorem forE_cons {g : DG} {b : DS} {gh : Option Nat} {all xs : List E} {x : Dl.E} {E : En} {S : Sto} {G : Hp} {α : List Addr} {H : Hp} {Dn : Ends} (h : pstS K mg W G α H Dn (forE g b gh all (x :: xs) E S)) :
    ∃ E1, g x E = some E1 ∧ pstS K mg W G α H Dn (match b E1 S with
      | .nx E2 S2 => forE g b gh all xs E2 S2
      | .ct E2 S2 => forE g b gh all xs E2 S2
      | .bk E2 S2 => .nx E2 S2
      | .rt v S2 => .rt v S2
      | .ex e E2 S2 => .ex e E2 S2
      | .no => .no) := by
  cases gh with
  | none =>
    have h' : pstS K mg W G α H Dn (forN g b (x :: xs) E S) := h
    unfold forN at h'
    cases e : g x E with
    | none => rw [e] at h'; exact h'.elim
    | some E1 => rw [e] at h'; exact ⟨E1, rfl, h'⟩
  | some n =>
    have h' : pstS K mg W G α H Dn (forG g b n all (x :: xs) E S) := h
    unfold forG at h'
    split at h'
    · cases e : g x E with
      | none => rw [e] at h'; exact h'.elim
      | some E1 => rw [e] at h'; exact ⟨E1, rfl, h'⟩
    · exact h'.elim
theorem forE_nil {g : DG} {b : DS} {gh : Option Nat} {all : List E} {E : En} {S : Sto} {G : Hp} {α : List Addr} {H : Hp} {Dn : Ends} (h : pstS K mg W G α H Dn (forE g b gh all [] E S)) : pstF K mg G α H Dn.nx E S := by
  cases gh with
  | none => exact h
  | some n =>
    have h' : pstS K mg W G α H Dn (forG g b n all [] E S) := h
    unfold forG at h'
    split at h'
    · exact h'
    · exact h'.elim
theorem ss_for {wi : TI} {di : DI} {g : TG} {dg : DG} {tb : TS} {b : DS} (hi : SI K mg W wi di) (hg : SG K mg g dg) (hb : SS K mg W tb b) : SS K mg W (tFor wi g tb) (sFor di dg b) := fun G α H S E σ Dn l rv p => by
  refine hi G α H S E σ _ l rv ?_
  unfold sFor at p
  cases e : di E S with
  | no => rw [e] at p; exact p
  | ex x S' =>
    rw [e] at p
    exact fun cls dx G' α' H' s l x => p cls dx σ G' α' H' s l (rv.mono s.g s.al) x
  | ok q S' =>
    obtain ⟨es, gh⟩ := q
    rw [e] at p
    intro J G1 α1 H1 st1 l1 _ wk
    have p1 : pstS K mg W G1 α1 H1 Dn (forE dg b gh es es E S') := by
      have p' := pstS.fwd st1 p
      cases gh <;> exact p'
    refine ⟨fun i m σ' H' => m = es.length - i ∧ i ≤ es.length ∧ ∃ G2 α2 E2 S2, Stp G1 α1 H1 G2 α2 H' ∧ RL K mg G2 α2 H' S2 ∧ RV K mg G2 α2 E2 σ' ∧ pstS K mg W G2 α2 H' Dn (forE dg b gh es (es.drop i) E2 S2),
      ⟨es.length, rfl, Nat.zero_le _, G1, α1, E, S', Stp.refl .., l1, rv.mono st1.g st1.al, p1⟩, ?_⟩
    rintro i m σ' H' ⟨rfl, hi, G2, α2, E2, S2, st2, l2, rv2, p2⟩
    obtain ⟨w1, w2, w3⟩ := wk G2 α2 H' S2 st2 l2 (forE_grd p2)
    by_cases hlt : i < es.length
    · refine .inr ⟨w1 i hlt, fun σ3 H3 => i + 1 ≤ es.length ∧ ∃ G3 α3 E3 S3, Stp G1 α1 H1 G3 α3 H3 ∧ RL K mg G3 α3 H3 S3 ∧ RV K mg G3 α3 E3 σ3 ∧ pstS K mg W G3 α3 H3 Dn (forE dg b gh es (es.drop (i + 1)) E3 S3), fun σ3 H3 h3 => ⟨es.length - (i + 1), by omega, rfl, h3⟩, fun x H3 hy => ?_⟩
      have hx : es[i]? = some es[i] := List.getElem?_eq_getElem hlt
      obtain ⟨G3, st3, l3, re3⟩ := w3 i _ x H3 hx hy
      rw [List.drop_eq_getElem_cons hlt] at p2
      obtain ⟨E3, hE3, p3⟩ := forE_cons (pstS.fwd st3 p2)
      refine hg G3 α2 H3 S2 E2 E3 σ' _ x _ l3 (rv2.mono st3.g st3.al) re3 hE3 fun σ4 rv4 => ?_
      refine hb G3 α2 H3 S2 E3 σ4 _ l3 rv4 ?_
      revert p3
      cases b E3 S2 with
      | nx E' S' => exact fun q σ5 G5 α5 H5 s5 l5 r5 => ⟨hlt, G5, α5, E', S', (st2.trans st3).trans s5, l5, r5, pstS.fwd s5 q⟩
      | ct E' S' => exact fun q σ5 G5 α5 H5 s5 l5 r5 => ⟨hlt, G5, α5, E', S', (st2.trans st3).trans s5, l5, r5, pstS.fwd s5 q⟩
      | bk E' S' => exact fun q => q
      | rt v S' => exact fun q => q
      | ex e E' S' => exact fun q => q
      | no => exact fun q => q
    · have e : i = es.length := by omega
      subst e
      rw [List.drop_length] at p2
      exact .inl ⟨w2, pstF.here (Q := Dn.nx) (forE_nil p2) l2 rv2⟩
/-! ### instances -/
theorem Sub.frm {G : Hp} {α : List Addr} {H : Hp} {S : Sto} (l : RL K mg G α H S) {G2 : Hp} {α2 : List Addr} {H2 : Hp} {S2 : Sto} (st : Stp G α H G2 α2 H2) (l2 : RL K mg G2 α2 H2 S2) : Sub G H2 := st.g.trans l2.sub
theorem walk_of {J : It} {n : Nat} {Gd : Hp → Prop} {Y : Nat → Hp → V → Hp → Prop} (w : Walk J n Gd Y) {G : Hp} {α : List Addr} {H : Hp} {es : List E} {gh : Option Nat} (hn : es.length = n)
    (hG : ∀ G2 α2 H2 S2, Stp G α H G2 α2 H2 → RL K mg G2 α2 H2 S2 → Grd es gh S2 → Gd H2)
    (hY : ∀ G2 α2 H2 S2 i e x H3, Stp G α H G2 α2 H2 → RL K mg G2 α2 H2 S2 → Grd es gh S2 → es[i]? = some e → Y i H2 x H3 → ∃ G3, Stp G2 α2 H2 G3 α2 H3 ∧ RL K mg G3 α2 H3 S2 ∧ RE K mg G3 α2 e x) : WalkE K mg J G α H es gh := by
  subst hn
  intro G2 α2 H2 S2 st l2 gd
  have g := hG G2 α2 H2 S2 st l2 gd
  exact ⟨fun i hi => w.goes i H2 hi g, w.stops H2 g, fun i e x H3 he hy => hY G2 α2 H2 S2 i e x H3 st l2 gd he (w.yields i H2 x H3 (List.getElem?_eq_some_iff.mp he).1 g hy)⟩
/-- a list: plain, own; a tuple; a text -/
def itE (S1 : Sto) (x : E) : Option (List E × Option Nat) := match x with
  | .d (.lst ds) => some (ds.map .d, none)
  | .d (.tup ds) => some (ds.map .d, none)
  | .t es => some (es, none)
  | .d (.str s) => some (s.map fun c => .d (.str [c]), none)
  | .h n => match S1[n]? with
    | some (.own (.lst es)) => some (es, some n)
    | some (.frz (.lst ds)) => some (ds.map .d, none)
    | _ => none
  | _ => none
def itA (d : DE) : DI := fun E S => (d E S).bind fun x S1 => match itE S1 x with
  | some q => .ok q S1
  | none => .no
abbrev iAny (K : PySem.W.Frag) (te : TE) : TI := fun σ H Rq => iList K te σ H Rq ∨ iTup K te σ H Rq ∨ iStr te σ H Rq
theorem PI.or {X : Cx} {tg iter : Expr} {w1 w2 : TI} (h1 : PI X tg iter w1) (h2 : PI X tg iter w2) : PI X tg iter (fun σ H Rq => w1 σ H Rq ∨ w2 σ H Rq) :=
  ⟨fun pins s σ H Rq I h => by
    rcases h with h | h
    · exact h1.run pins s σ H Rq I h
    · exact h2.run pins s σ H Rq I h⟩
theorem pi_any {X : Cx} {tg e : Expr} {te : TE} (he : PE X e te) : PI X tg e (iAny X.K te) := PI.or (pi_list he) (PI.or (pi_tup he) (pi_str he))
theorem sameY {G2 : Hp} {α2 : List Addr} {H2 : Hp} {S2 : Sto} {e : E} {x : V} {H3 : Hp} (l : RL K mg G2 α2 H2 S2) (h : H3 = H2) (r : RE K mg G2 α2 e x) : ∃ G3, Stp G2 α2 H2 G3 α2 H3 ∧ RL K mg G3 α2 H3 S2 ∧ RE K mg G3 α2 e x := by
  subst h
  exact ⟨G2, Stp.refl .., l, r⟩
theorem wk_list {G : Hp} {α : List Addr} {H : Hp} {a : Addr} {vs : List V} {ds : List D} (q : SqL K G a vs) (s : Reps K mg G ds vs) : WalkE K mg (Itl K a) G α H (ds.map .d) none :=
  walk_of walk_list (by rw [List.length_map, Reps.length s]) (fun G2 α2 H2 S2 st l2 _ => (st.g.trans l2.sub).sqL q) fun G2 α2 H2 S2 i e x H3 st l2 _ he y => by
    obtain ⟨y1, y2⟩ := y
    obtain ⟨v, h1, h2⟩ := (REs.of_d (α := α2) s).get he
    rw [h1] at y2
    cases y2
    exact sameY l2 y1 (h2.mono st.g List.prefix_rfl)
theorem wk_tup {G : Hp} {α : List Addr} {H : Hp} {a : Addr} {vs : List V} {es : List E} (q : SqT K G a vs) (s : REs K mg G α es vs) : WalkE K mg (Itt K a) G α H es none :=
  walk_of walk_tup (by rw [REs.length s]) (fun G2 α2 H2 S2 st l2 _ => (st.g.trans l2.sub).sqT q) fun G2 α2 H2 S2 i e x H3 st l2 _ he y => by
    obtain ⟨y1, y2⟩ := y
    obtain ⟨v, h1, h2⟩ := s.get he
    rw [h1] at y2
    cases y2
    exact sameY l2 y1 (h2.mono st.g st.al)
theorem wk_str {G : Hp} {α : List Addr} {H : Hp} {s : Cs} : WalkE K mg (Its (mkS s)) G α H (s.map fun c => .d (.str [c])) none :=
  walk_of walk_str (by simp) (fun _ _ _ _ _ _ _ => trivial) fun G2 α2 H2 S2 i e x H3 st l2 _ he y => by
    obtain ⟨y1, c, y2, y3⟩ := y
    refine sameY l2 y1 ?_
    rw [List.getElem?_map] at he
    have y2' : s[i]? = some c := by simpa using y2
    rw [y2'] at he
    cases he
    exact y3
theorem wk_own {G : Hp} {α : List Addr} {H : Hp} {n : Nat} {a : Addr} {es : List E} (ha : α[n]? = some a) : WalkE K mg (Itl K a) G α H es (some n) := by
  intro G2 α2 H2 S2 st l2 gd
  obtain ⟨b, vs, e1, e2, e3, e4⟩ := own_at (v := .ref a) l2 gd ⟨a, rfl, pre_get st.al ha⟩
  cases e1
  have w := @walk_list K a vs
  have q : SqL K H2 a vs := .of e3
  rw [← REs.length e4]
  refine ⟨fun i hi => w.goes i H2 hi q, w.stops H2 q, fun i e x H3 he hy => ?_⟩
  obtain ⟨v, h1, h2⟩ := e4.get he
  obtain ⟨y1, y2⟩ := w.yields i H2 x H3 (List.getElem?_eq_some_iff.mp h1).1 q hy
  rw [h1] at y2
  cases y2
  exact sameY l2 y1 h2
theorem si_any (h : SE K mg W te d) : SI K mg W (iAny K te) (itA d) := fun G α H S E σ Rq l rv p => by
  unfold itA at p
  cases e : d E S with
  | no => rw [e] at p; exact p.elim
  | ex x S1 => rw [e] at p; exact .inl (h G α H S E σ _ l rv (by rw [e]; exact p))
  | ok x S1 =>
    rw [e, R.bind_ok] at p
    have go : ∀ {Q : V → Hp → Prop}, (∀ v G' α' H', Stp G α H G' α' H' → RL K mg G' α' H' S1 → RE K mg G' α' x v → Q v H') → pst K mg W (RE K mg) σ G α H Q (d E S) := fun {Q} k => by rw [e]; exact k
    cases hr : itE S1 x with
    | none => rw [hr] at p; exact p.elim
    | some q0 =>
      rw [hr] at p
      unfold itE at hr
      split at hr
      · rename_i ds
        cases hr
        refine .inl (h G α H S E σ _ l rv (go fun v G1 α1 H1 s1 l1 r1 => ?_))
        obtain ⟨a, vs, rfl, q, s⟩ := r1
        exact ⟨a, rfl, ⟨vs, l1.sub.sqL q⟩, p _ G1 α1 H1 s1 l1 trivial (wk_list q s)⟩
      · rename_i ds
        cases hr
        refine .inr (.inl (h G α H S E σ _ l rv (go fun v G1 α1 H1 s1 l1 r1 => ?_)))
        obtain ⟨a, vs, rfl, q, s⟩ := r1
        exact ⟨a, rfl, ⟨vs, l1.sub.sqT q⟩, p _ G1 α1 H1 s1 l1 trivial (wk_tup q (.of_d s))⟩
      · rename_i es
        cases hr
        refine .inr (.inl (h G α H S E σ _ l rv (go fun v G1 α1 H1 s1 l1 r1 => ?_)))
        obtain ⟨a, vs, rfl, q, s⟩ := r1
        exact ⟨a, rfl, ⟨vs, .of (l1.sub _ _ q)⟩, p _ G1 α1 H1 s1 l1 trivial (wk_tup (.of q) s)⟩
      · rename_i z
        cases hr
        refine .inr (.inr (h G α H S E σ _ l rv (go fun v G1 α1 H1 s1 l1 r1 => ?_)))
        exact ⟨mkS z, r1, p _ G1 α1 H1 s1 l1 trivial wk_str⟩
      · rename_i n
        split at hr
        · rename_i es hs
          cases hr
          refine .inl (h G α H S E σ _ l rv (go fun v G1 α1 H1 s1 l1 r1 => ?_))
          obtain ⟨a, vs, rfl, ha, q, s⟩ := own_at l1 hs r1
          exact ⟨a, rfl, ⟨vs, .of q⟩, p _ G1 α1 H1 s1 l1 hs (wk_own ha)⟩
        · rename_i ds hs
          cases hr
          refine .inl (h G α H S E σ _ l rv (go fun v G1 α1 H1 s1 l1 r1 => ?_))
          obtain ⟨a, rfl, ha⟩ := r1
          obtain ⟨b, h1, c, vs, h2, q, s⟩ := l1.frz _ _ hs
          rw [ha] at h1
          cases h1
          cases h2
          exact ⟨a, rfl, ⟨vs, l1.sub.sqL q⟩, p _ G1 α1 H1 s1 l1 trivial (wk_list q s)⟩
        · cases hr
      · cases hr
/-- range(n), range(a, b) -/
def rg1 (xs : List E) : Option (Int × Nat) := match xs with
  | [x] => match asI x with
    | some j => if -1000000 ≤ j ∧ j ≤ 100000000 then some (0, j.toNat) else none
    | none => none
  | _ => none
def rg2 (xs : List E) : Option (Int × Nat) := match xs with
  | [x, y] => match asI x, asI y with
    | some i, some j => if (-1000000 ≤ i ∧ i ≤ 100000000) ∧ -1000000 ≤ j ∧ j ≤ 100000000 then some (i, (j - i).toNat) else none
    | _, _ => none
  | _ => none
def rgL (lo : Int) (n : Nat) : List E := (List.range n).map fun k => .d (.int (lo + (k : Nat)))
def itR1 (da : DA) : DI := fun E S => (da E S).bind fun xs S1 => match rg1 xs with
  | some q => .ok (rgL q.1 q.2, none) S1
  | none => .no
def itR2 (da : DA) : DI := fun E S => (da E S).bind fun xs S1 => match rg2 xs with
  | some q => .ok (rgL q.1 q.2, none) S1
  | none => .no
theorem wk_rng {G : Hp} {α : List Addr} {H : Hp} {lo : Int} {n : Nat} {es : List E} (hes : es = rgL lo n) : WalkE K mg (Itr lo n) G α H es none := by
  subst hes
  unfold rgL
  refine walk_of walk_range (by simp) (fun _ _ _ _ _ _ _ => trivial) fun G2 α2 H2 S2 i e x H3 st l2 _ he y => ?_
  obtain ⟨y1, y2⟩ := y
  refine sameY l2 y1 ?_
  rw [List.getElem?_map] at he
  have hi : i < n := by
    by_cases h : i < n
    · exact h
    · rw [List.getElem?_eq_none (by simp; omega)] at he; cases he
  rw [List.getElem?_range hi] at he
  cases he
  exact y2
theorem si_r1 {ta : TA} {da : DA} (h : SA K mg W ta da) : SI K mg W (iRng1 ta) (itR1 da) := fun G α H S E σ Rq l rv p => by
  unfold itR1 at p
  refine h G α H S E σ _ l rv ?_
  cases e : da E S with
  | no => rw [e] at p; exact p
  | ex x S1 => rw [e] at p; exact p
  | ok xs S1 =>
    rw [e, R.bind_ok] at p
    intro vs G1 α1 H1 s1 l1 r1
    cases hr : rg1 xs with
    | none => rw [hr] at p; exact p.elim
    | some q =>
      rw [hr] at p
      unfold rg1 at hr
      split at hr
      · obtain ⟨v, rfl, r⟩ := r1.of1
        split at hr
        · rename_i j hj
          split at hr
          · cases hr
            exact ⟨j, by rw [asI_ok hj r], by omega, by omega, p _ G1 α1 H1 s1 l1 trivial (wk_rng rfl)⟩
          · cases hr
        · cases hr
      · cases hr
theorem si_r2 {ta : TA} {da : DA} (h : SA K mg W ta da) : SI K mg W (iRng2 ta) (itR2 da) := fun G α H S E σ Rq l rv p => by
  unfold itR2 at p
  refine h G α H S E σ _ l rv ?_
  cases e : da E S with
  | no => rw [e] at p; exact p
  | ex x S1 => rw [e] at p; exact p
  | ok xs S1 =>
    rw [e, R.bind_ok] at p
    intro vs G1 α1 H1 s1 l1 r1
    cases hr : rg2 xs with
    | none => rw [hr] at p; exact p.elim
    | some q =>
      rw [hr] at p
      unfold rg2 at hr
      split at hr
      · obtain ⟨v, w, rfl, r, r'⟩ := r1.of2
        split at hr
        · rename_i i j hi hj
          split at hr
          · cases hr
            exact ⟨i, j, by rw [asI_ok hi r, asI_ok hj r'], by omega, p _ G1 α1 H1 s1 l1 trivial (wk_rng rfl)⟩
          · cases hr
        · cases hr
      · cases hr
end
end Dl

namespace Dl
open PySem PySem.Spec L2

section
variable {K : PySem.W.Frag} {mg : MG} {W : WX} {G : Hp} {α : List Addr} {H : Hp} {S S1 : Sto} {σ : St}
/-! ### plain data out of what is frozen -/
def res (S : Sto) : E → Option D
  | .d x => some x
  | .h n => match S[n]? with
    | some (.frz x) => some x
    | _ => none
  | .t es => (ress S es).map .tup
  | .x _ _ => none
where ress (S : Sto) : List E → Option (List D)
  | [] => some []
  | e :: es => match res S e, ress S es with
    | some x, some xs => some (x :: xs)
    | _, _ => none
mutual
theorem res_ok (l : RL K mg G α H S) : ∀ {e : E} {x : D} {v : V}, res S e = some x → RE K mg G α e v → Rep K mg G x v
  | .d x, y, v, h, r => by cases h; exact r
  | .h n, y, v, h, r => by
    have h' : (match S[n]? with
      | some (.frz x) => some x
      | _ => none) = some y := h
    obtain ⟨a, rfl, ha⟩ := r
    split at h'
    · rename_i x hs
      cases h'
      obtain ⟨b, h1, h2⟩ := l.frz _ _ hs
      rw [ha] at h1
      cases h1
      exact h2
    · cases h'
  | .t es, y, v, h, r => by
    have h' : (res.ress S es).map D.tup = some y := h
    obtain ⟨a, vs, rfl, q, s⟩ := r
    cases e : res.ress S es with
    | none => rw [e] at h'; cases h'
    | some xs => rw [e] at h'; cases h'; exact ⟨a, vs, rfl, .of q, ress_ok l e s⟩
  | .x _ _, _, _, h, _ => by cases h
theorem ress_ok (l : RL K mg G α H S) : ∀ {e : List E} {x : List D} {v : List V}, res.ress S e = some x → REs K mg G α e v → Reps K mg G x v
  | [], y, v, h, r => by cases h; exact r
  | e :: es, y, v, h, r => by
    obtain ⟨v1, vs, rfl, r1, r2⟩ := r
    have h' : (match res S e, res.ress S es with
      | some x, some xs => some (x :: xs)
      | _, _ => none) = some y := h
    split at h'
    · rename_i x xs h1 h2
      cases h'
      exact ⟨v1, vs, rfl, res_ok l h1 r1, ress_ok l h2 r2⟩
    · cases h'
end
theorem ress_d (S : Sto) : ∀ ds : List D, res.ress S (ds.map .d) = some ds
  | [] => rfl
  | d :: ds => by
    show (match res S (.d d), res.ress S (ds.map E.d) with
      | some x, some xs => some (x :: xs)
      | _, _ => none) = _
    rw [ress_d S ds]; rfl
def resF (S : Sto) : List (Str × E) → Option (List (Str × D))
  | [] => some []
  | (f, e) :: es => match res S e, resF S es with
    | some x, some xs => some ((f, x) :: xs)
    | _, _ => none
theorem resF_ok (l : RL K mg G α H S) : ∀ {e : List (Str × E)} {x : List (Str × D)} {v : List (Str × V)}, resF S e = some x → REF K mg G α e v → RepF K mg G x v
  | [], y, v, h, r => by cases h; exact r
  | (f, e) :: es, y, v, h, r => by
    obtain ⟨v1, vs, rfl, r1, r2⟩ := r
    unfold resF at h
    split at h
    · rename_i x xs h1 h2
      cases h
      exact ⟨v1, vs, rfl, res_ok l h1 r1, resF_ok l h2 r2⟩
    · cases h
def resK (S : Sto) : List (List Key × E) → Option (List (List Key × D))
  | [] => some []
  | (f, e) :: es => match res S e, resK S es with
    | some x, some xs => some ((f, x) :: xs)
    | _, _ => none
theorem resK_ok (l : RL K mg G α H S) : ∀ {e : List (List Key × E)} {x : List (List Key × D)} {v : List (Key × V)}, resK S e = some x → REK K mg G α e v → RepK K mg G x v
  | [], y, v, h, r => by cases h; exact r
  | (f, e) :: es, y, v, h, r => by
    obtain ⟨k', v1, vs, rfl, e2, r1, r2⟩ := r
    unfold resK at h
    split at h
    · rename_i x xs h1 h2
      cases h
      exact ⟨k', v1, vs, rfl, e2, res_ok l h1 r1, resK_ok l h2 r2⟩
    · cases h
theorem resT_ok (l : RL K mg G α H S) : ∀ {e : List (List Key × E)} {x : List (List Key × D)} {v : List (List Key × V)}, resK S e = some x → RET K mg G α e v → RepT K mg G x v
  | [], y, v, h, r => by cases h; exact r
  | (f, e) :: es, y, v, h, r => by
    obtain ⟨v1, vs, rfl, r1, r2⟩ := r
    unfold resK at h
    split at h
    · rename_i x xs h1 h2
      cases h
      exact ⟨v1, vs, rfl, res_ok l h1 r1, resT_ok l h2 r2⟩
    · cases h
def resO (S : Sto) : Ob → Option D
  | .lst es => (res.ress S es).map .lst
  | .dic kvs b => (resK S kvs).map fun x => .dic x b
  | .ins c fs => (resF S fs).map (.ins c)
/-- an own object whose parts are frozen is frozen -/
theorem freeze1 {n : Nat} {o : Ob} {x : D} (l : RL K mg G α H S) (hn : S[n]? = some (.own o)) (h : resO S o = some x) : ∃ G', Stp G α H G' α H ∧ RL K mg G' α H (S.set n (.frz x)) := by
  obtain ⟨a, h1, h2, h3⟩ := l.own n o hn
  cases o with
  | lst es =>
    obtain ⟨vs, q, r⟩ := h3
    have h' : (res.ress S es).map D.lst = some x := h
    cases e : res.ress S es with
    | none => rw [e] at h'; cases h'
    | some xs =>
      rw [e] at h'
      cases h'
      refine ⟨upd G a (.lst vs), Stp.freeze l h1 h2, l.freeze hn h1 h2 q ⟨a, vs, rfl, .of upd_same, Reps.mono (Sub.new h2) (ress_ok l e r)⟩⟩
  | dic kvs b =>
    have h' : (resK S kvs).map (fun x => D.dic x b) = some x := h
    cases e : resK S kvs with
    | none => rw [e] at h'; cases h'
    | some xs =>
      rw [e] at h'
      cases h'
      cases b with
      | true =>
        obtain ⟨vs, q, r⟩ := h3
        exact ⟨upd G a (.dK vs), Stp.freeze l h1 h2, l.freeze hn h1 h2 q ⟨a, vs, rfl, upd_same, RepK.mono (Sub.new h2) (resK_ok l e r)⟩⟩
      | false =>
        obtain ⟨vs, q, r⟩ := h3
        exact ⟨upd G a (.dT vs), Stp.freeze l h1 h2, l.freeze hn h1 h2 q ⟨a, vs, rfl, upd_same, RepT.mono (Sub.new h2) (resT_ok l e r)⟩⟩
  | ins c fs =>
    have h' : (resF S fs).map (D.ins c) = some x := h
    cases e : resF S fs with
    | none => rw [e] at h'; cases h'
    | some xs =>
      rw [e] at h'
      cases h'
      obtain ⟨C, dx, vs, m, q, r⟩ := h3
      exact ⟨upd G a (.ins C dx vs), Stp.freeze l h1 h2, l.freeze hn h1 h2 q ⟨a, C, dx, vs, rfl, m, upd_same, RepF.mono (Sub.new h2) (resF_ok l e r)⟩⟩
/-- all that hangs on e is frozen -/
def obE : Ob → List E
  | .lst es => es
  | .dic kvs _ => kvs.map (·.2)
  | .ins _ fs => fs.map (·.2)
def fz : Nat → Sto → List E → Option Sto
  | 0, _, _ => none
  | _ + 1, S, [] => some S
  | k + 1, S, .d _ :: es => fz k S es
  | k + 1, S, .t fs :: es => (fz k S fs).bind fun S1 => fz k S1 es
  | _ + 1, _, .x _ _ :: _ => none
  | k + 1, S, .h n :: es => match S[n]? with
    | some (.frz _) => fz k S es
    | some (.own o) => (fz k S (obE o)).bind fun S1 => match S1[n]? with
      | some (.own o') => (resO S1 o').bind fun x => fz k (S1.set n (.frz x)) es
      | some (.frz _) => fz k S1 es
      | _ => none
    | _ => none
theorem fz_ok : ∀ {k : Nat} {S S1 : Sto} {es : List E} {G : Hp}, RL K mg G α H S → fz k S es = some S1 → ∃ G', Stp G α H G' α H ∧ RL K mg G' α H S1
  | 0, _, _, _, _, _, h => by cases h
  | k + 1, S, S1, [], G, l, h => by cases h; exact ⟨G, Stp.refl .., l⟩
  | k + 1, S, S1, .d _ :: es, G, l, h => fz_ok (k := k) l h
  | _ + 1, _, _, .x _ _ :: _, _, _, h => by cases h
  | k + 1, S, S1, .t fs :: es, G, l, h => by
    have h' : ((fz k S fs).bind fun S1 => fz k S1 es) = some S1 := h
    cases e : fz k S fs with
    | none => rw [e] at h'; cases h'
    | some S2 =>
      rw [e] at h'
      obtain ⟨G1, s1, l1⟩ := fz_ok (k := k) l e
      obtain ⟨G2, s2, l2⟩ := fz_ok (k := k) l1 h'
      exact ⟨G2, s1.trans s2, l2⟩
  | k + 1, S, S1, .h n :: es, G, l, h => by
    have h' : (match S[n]? with
      | some (.frz _) => fz k S es
      | some (.own o) => (fz k S (obE o)).bind fun S1 => match S1[n]? with
        | some (.own o') => (resO S1 o').bind fun x => fz k (S1.set n (.frz x)) es
        | some (.frz _) => fz k S1 es
        | _ => none
      | _ => none) = some S1 := h
    split at h'
    · exact fz_ok (k := k) l h'
    · rename_i o ho
      cases e : fz k S (obE o) with
      | none => rw [e] at h'; cases h'
      | some S2 =>
        rw [e] at h'
        obtain ⟨G1, s1, l1⟩ := fz_ok (k := k) l e
        have h2 : (match S2[n]? with
          | some (.own o') => (resO S2 o').bind fun x => fz k (S2.set n (.frz x)) es
          | some (.frz _) => fz k S2 es
          | _ => none) = some S1 := h'
        split at h2
        · rename_i o' ho'
          cases e3 : resO S2 o' with
          | none => rw [e3] at h2; cases h2
          | some x =>
            rw [e3] at h2
            obtain ⟨G2, s2, l2⟩ := freeze1 l1 ho' e3
            obtain ⟨G3, s3, l3⟩ := fz_ok (k := k) l2 h2
            exact ⟨G3, (s1.trans s2).trans s3, l3⟩
        · obtain ⟨G3, s3, l3⟩ := fz_ok (k := k) l1 h2
          exact ⟨G3, s1.trans s3, l3⟩
        · cases h2
    · cases h'
theorem fz_d (k : Nat) (S : Sto) : ∀ (ds : List D), ds.length < k → fz k S (ds.map .d) = some S := by
  induction k with
  | zero => intro ds h; omega
  | succ k ih =>
    intro ds h
    cases ds with
    | nil => rfl
    | cons d ds => exact ih ds (by simpa using h)
def argsD (S : Sto) (es : List E) : Option (List D × Sto) := (fz 10000 S es).bind fun S1 => (res.ress S1 es).map fun ds => (ds, S1)
theorem argsD_ok {es : List E} {vs : List V} {ds : List D} (l : RL K mg G α H S) (r : REs K mg G α es vs) (h : argsD S es = some (ds, S1)) :
    ∃ G', Stp G α H G' α H ∧ RL K mg G' α H S1 ∧ Reps K mg G' ds vs := by
  unfold argsD at h
  cases e : fz 10000 S es with
  | none => rw [e] at h; cases h
  | some S2 =>
    rw [e] at h
    have h' : (res.ress S2 es).map (fun ds => (ds, S2)) = some (ds, S1) := h
    cases e2 : res.ress S2 es with
    | none => rw [e2] at h'; cases h'
    | some ds' =>
      rw [e2] at h'
      cases h'
      obtain ⟨G1, s1, l1⟩ := fz_ok l e
      exact ⟨G1, s1, l1, ress_ok l1 e2 (r.mono s1.g s1.al)⟩

/-! ### defs by their functions -/
inductive MR where
  | ok (e : E) (cs : List Ob) | ex (e : Xc) | no
def spM (K : PySem.W.Frag) (mg : Str → Option Value) (n : Nat) (M : List D → MR) : Sp := fun vs H Q X => vs.length = n ∧ ∃ (ds : List D) (G : Hp), Sub G H ∧ Reps K mg G ds vs ∧
  match M ds with
  | .ok e cs => ∀ v G' α' H', Stp G [] H G' α' H' → RL K ⟨mg, none⟩ G' α' H' (cs.map .own) → RE K ⟨mg, none⟩ G' α' e v → Q v H'
  | .ex x => ∀ cls dx G' H', Stp G [] H G' [] H' → Sub G' H' → RX K ⟨mg, none⟩ G' H' cls dx x → X cls dx H'
  | .no => False
mutual
def shE (k : Nat) : E → E
  | .d x => .d x
  | .h n => .h (k + n)
  | .t es => .t (shEs k es)
  | .x c fs => .x c fs
def shEs (k : Nat) : List E → List E
  | [] => []
  | e :: es => shE k e :: shEs k es
end
def shO (k : Nat) : Ob → Ob
  | .lst es => .lst (shEs k es)
  | .dic kvs b => .dic (kvs.map fun x => (x.1, shE k x.2)) b
  | .ins c fs => .ins c (fs.map fun x => (x.1, shE k x.2))
variable {α' : List Addr}
mutual
theorem RE.sh : ∀ {e : E} {v : V}, RE K mg G α' e v → RE K mg G (α ++ α') (shE α.length e) v
  | .d _, _, r => r
  | .h n, _, r => by
    obtain ⟨a, rfl, h⟩ := r
    exact ⟨a, rfl, by rw [List.getElem?_append_right (by omega)]; simpa using h⟩
  | .t es, _, r => by
    obtain ⟨a, vs, rfl, q, s⟩ := r
    exact ⟨a, vs, rfl, q, REs.sh s⟩
  | .x _ _, _, r => r.elim
theorem REs.sh : ∀ {e : List E} {v : List V}, REs K mg G α' e v → REs K mg G (α ++ α') (shEs α.length e) v
  | [], _, r => r
  | _ :: _, _, r => by
    obtain ⟨v, t, rfl, r1, r2⟩ := r
    exact ⟨v, t, rfl, RE.sh r1, REs.sh r2⟩
end
theorem REF.sh : ∀ {e : List (Str × E)} {v : List (Str × V)}, REF K mg G α' e v → REF K mg G (α ++ α') (e.map fun x => (x.1, shE α.length x.2)) v
  | [], _, r => r
  | (_, _) :: _, _, r => by
    obtain ⟨v, t, rfl, r1, r2⟩ := r
    exact ⟨v, t, rfl, RE.sh r1, REF.sh r2⟩
theorem REK.sh : ∀ {e : List (List Key × E)} {v : List (Key × V)}, REK K mg G α' e v → REK K mg G (α ++ α') (e.map fun x => (x.1, shE α.length x.2)) v
  | [], _, r => r
  | (_, _) :: _, _, r => by
    obtain ⟨k, v, t, rfl, e2, r1, r2⟩ := r
    exact ⟨k, v, t, rfl, e2, RE.sh r1, REK.sh r2⟩
theorem RET.sh : ∀ {e : List (List Key × E)} {v : List (List Key × V)}, RET K mg G α' e v → RET K mg G (α ++ α') (e.map fun x => (x.1, shE α.length x.2)) v
  | [], _, r => r
  | (_, _) :: _, _, r => by
    obtain ⟨v, t, rfl, r1, r2⟩ := r
    exact ⟨v, t, rfl, RE.sh r1, RET.sh r2⟩
theorem RO.sh {a : Addr} : ∀ {o : Ob}, RO K mg G α' H a o → RO K mg G (α ++ α') H a (shO α.length o)
  | .lst _, r => by obtain ⟨vs, q, s⟩ := r; exact ⟨vs, q, REs.sh s⟩
  | .dic _ true, r => by obtain ⟨vs, q, s⟩ := r; exact ⟨vs, q, REK.sh s⟩
  | .dic _ false, r => by obtain ⟨vs, q, s⟩ := r; exact ⟨vs, q, RET.sh s⟩
  | .ins _ _, r => by obtain ⟨C, dx, vs, m, q, s⟩ := r; exact ⟨C, dx, vs, m, q, REF.sh s⟩
theorem Stp.join {G' H' : Hp} (st : Stp G [] H G' α' H') : Stp G α H G' (α ++ α') H' where
  g := st.g
  al := List.prefix_append ..
  h := fun a o e _ => st.h a o e (by simp)
  gn := fun a o e n => by
    rcases st.gn a o e n with z | z
    · cases z
    · exact .inr z
  an := fun a m => by
    rcases List.mem_append.mp m with m | m
    · exact .inl m
    · rcases st.an a m with z | z
      · cases z
      · exact .inr z
theorem RO.nxd {a : Addr} : ∀ {o : Ob}, RO K mg G α H a o → ∀ vs, H a ≠ some (.xd vs)
  | .lst _, h, vs, z => by obtain ⟨_, e, _⟩ := h; rw [e] at z; cases z
  | .dic _ true, h, vs, z => by obtain ⟨_, e, _⟩ := h; rw [e] at z; cases z
  | .dic _ false, h, vs, z => by obtain ⟨_, e, _⟩ := h; rw [e] at z; cases z
  | .ins _ _, h, vs, z => by obtain ⟨_, _, _, _, e, _⟩ := h; rw [e] at z; cases z
mutual
theorem RE.up0 {x0 xe : Option (Addr × Value × Option Addr)} : ∀ {e : E} {v : V}, RE K ⟨mg.f, x0⟩ G α e v → RE K ⟨mg.f, xe⟩ G α e v
  | .d _, _, r => r
  | .h _, _, r => r
  | .t _, _, r => by obtain ⟨a, vs, e, q, s⟩ := r; exact ⟨a, vs, e, q, REs.up0 s⟩
  | .x _ _, _, r => r.elim
theorem REs.up0 {x0 xe : Option (Addr × Value × Option Addr)} : ∀ {e : List E} {v : List V}, REs K ⟨mg.f, x0⟩ G α e v → REs K ⟨mg.f, xe⟩ G α e v
  | [], _, r => r
  | _ :: _, _, r => by obtain ⟨v, t, rfl, r1, r2⟩ := r; exact ⟨v, t, rfl, RE.up0 r1, REs.up0 r2⟩
end
theorem REF.up0 {x0 xe : Option (Addr × Value × Option Addr)} : ∀ {e : List (Str × E)} {v : List (Str × V)}, REF K ⟨mg.f, x0⟩ G α e v → REF K ⟨mg.f, xe⟩ G α e v
  | [], _, r => r
  | (_, _) :: _, _, r => by obtain ⟨v, t, rfl, r1, r2⟩ := r; exact ⟨v, t, rfl, RE.up0 r1, REF.up0 r2⟩
theorem REK.up0 {x0 xe : Option (Addr × Value × Option Addr)} : ∀ {e : List (List Key × E)} {v : List (Key × V)}, REK K ⟨mg.f, x0⟩ G α e v → REK K ⟨mg.f, xe⟩ G α e v
  | [], _, r => r
  | (_, _) :: _, _, r => by obtain ⟨k, v, t, rfl, e2, r1, r2⟩ := r; exact ⟨k, v, t, rfl, e2, RE.up0 r1, REK.up0 r2⟩
theorem RET.up0 {x0 xe : Option (Addr × Value × Option Addr)} : ∀ {e : List (List Key × E)} {v : List (List Key × V)}, RET K ⟨mg.f, x0⟩ G α e v → RET K ⟨mg.f, xe⟩ G α e v
  | [], _, r => r
  | (_, _) :: _, _, r => by obtain ⟨v, t, rfl, r1, r2⟩ := r; exact ⟨v, t, rfl, RE.up0 r1, RET.up0 r2⟩
theorem RO.up0 {x0 xe : Option (Addr × Value × Option Addr)} {a : Addr} : ∀ {o : Ob}, RO K ⟨mg.f, x0⟩ G α H a o → RO K ⟨mg.f, xe⟩ G α H a o
  | .lst _, r => by obtain ⟨vs, q, s⟩ := r; exact ⟨vs, q, REs.up0 s⟩
  | .dic _ true, r => by obtain ⟨vs, q, s⟩ := r; exact ⟨vs, q, REK.up0 s⟩
  | .dic _ false, r => by obtain ⟨vs, q, s⟩ := r; exact ⟨vs, q, RET.up0 s⟩
  | .ins _ _, r => by obtain ⟨C, dx, vs, m, q, s⟩ := r; exact ⟨C, dx, vs, m, q, REF.up0 s⟩
theorem RL.up0 {x0 xe : Option (Addr × Value × Option Addr)} (l : RL K ⟨mg.f, x0⟩ G α H S) : RL K ⟨mg.f, xe⟩ G α H S :=
  ⟨l.sub, l.len, fun n o e => let ⟨a, h1, h2, h3⟩ := l.own n o e; ⟨a, h1, h2, RO.up0 h3⟩, l.inj, l.frz, l.al⟩
/-- behind a call: the new objects come behind the old ones -/
theorem RL.join {G' H' : Hp} {cs : List Ob} (l : RL K mg G α H S) (st : Stp G [] H G' α' H') (l' : RL K mg G' α' H' (cs.map .own)) : RL K mg G' (α ++ α') H' (S ++ cs.map fun o => .own (shO S.length o)) := by
  have hs : α.length = S.length := l.len
  have hc : α'.length = cs.length := by rw [l'.len, List.length_map]
  have fresh : ∀ a ∈ α', H a = none := fun a m => by
    rcases st.an a m with z | z
    · cases z
    · exact z
  have tail : ∀ (n : Nat) (c : Cell), ¬ n < S.length → (S ++ cs.map fun o => Cell.own (shO S.length o))[n]? = some c → ∃ o, cs[n - S.length]? = some o ∧ c = .own (shO S.length o) := fun n c hn e => by
    rw [List.getElem?_append_right (by omega), List.getElem?_map] at e
    cases q : cs[n - S.length]? with
    | none => rw [q] at e; cases e
    | some o => rw [q] at e; cases e; exact ⟨o, rfl, rfl⟩
  constructor
  · exact l'.sub
  · rw [List.length_append, List.length_append, List.length_map, hs, hc]
  · intro n o e
    by_cases hn : n < S.length
    · rw [List.getElem?_append_left hn] at e
      obtain ⟨a, h1, h2, h3⟩ := l.own n o e
      obtain ⟨u, hu⟩ := RO.there h3
      refine ⟨a, by rw [List.getElem?_append_left (by omega)]; exact h1, ?_, RO.mono st.g (List.prefix_append ..) (fun u q => st.h a u q (by simp)) h3⟩
      cases g : G' a with
      | none => rfl
      | some w =>
        rcases st.gn a w g h2 with z | z | ⟨vs, z⟩
        · cases z
        · rw [hu] at z; cases z
        · exact absurd z (RO.nxd h3 vs)
    · obtain ⟨o1, q1, q2⟩ := tail n _ hn e
      cases q2
      obtain ⟨a, h1, h2, h3⟩ := l'.own (n - S.length) o1 (by rw [List.getElem?_map, q1]; rfl)
      refine ⟨a, by rw [List.getElem?_append_right (by omega), hs]; exact h1, h2, ?_⟩
      rw [← hs]
      exact RO.sh h3
  · intro n m a o e h1 h2
    by_cases hn : n < S.length
    · rw [List.getElem?_append_left hn] at e
      rw [List.getElem?_append_left (by omega)] at h1
      by_cases hm : m < α.length
      · rw [List.getElem?_append_left hm] at h2
        exact l.inj n m a o e h1 h2
      · rw [List.getElem?_append_right (by omega)] at h2
        obtain ⟨u, hu⟩ := l.al a (List.mem_of_getElem? h1)
        rw [fresh a (List.mem_of_getElem? h2)] at hu
        cases hu
    · obtain ⟨o1, q1, q2⟩ := tail n _ hn e
      rw [List.getElem?_append_right (by omega)] at h1
      by_cases hm : m < α.length
      · rw [List.getElem?_append_left hm] at h2
        obtain ⟨u, hu⟩ := l.al a (List.mem_of_getElem? h2)
        rw [fresh a (List.mem_of_getElem? h1)] at hu
        cases hu
      · rw [List.getElem?_append_right (by omega)] at h2
        have := l'.inj (n - α.length) (m - α.length) a o1 (by rw [List.getElem?_map, hs, q1]; rfl) h1 h2
        omega
  · intro n x e
    by_cases hn : n < S.length
    · rw [List.getElem?_append_left hn] at e
      obtain ⟨a, h1, h2⟩ := l.frz n x e
      exact ⟨a, by rw [List.getElem?_append_left (by omega)]; exact h1, Rep.mono st.g h2⟩
    · obtain ⟨o1, q1, q2⟩ := tail n _ hn e
      cases q2
  · intro b m
    rcases List.mem_append.mp m with m | m
    · obtain ⟨u, e⟩ := l.al b m
      exact ⟨u, st.h b u e (by simp)⟩
    · exact l'.al b m
theorem RL.empty (s : Sub G H) : RL K mg G [] H [] :=
  ⟨s, rfl, fun n o e => (by cases n <;> cases e), fun n m a o e => (by cases n <;> cases e), fun n x e => (by cases n <;> cases e), fun a m => (by cases m)⟩
/-- f(args): the function M; dvs: the defaults -/
def dCall (M : List D → MR) (dv : List D) (da : DA) : DE := fun E S => (da E S).bind fun es S1 => match argsD S1 es with
  | none => .no
  | some (ds, S2) => match M (ds ++ dv) with
    | .ok e cs => .ok (shE S2.length e) (S2 ++ cs.map fun o => .own (shO S2.length o))
    | .ex x => .ex x S2
    | .no => .no
theorem Reps.append : ∀ {xs ys : List D} {vs ws : List V}, Reps K mg G xs vs → Reps K mg G ys ws → Reps K mg G (xs ++ ys) (vs ++ ws)
  | [], _, _, _, h, k => by rw [show _ = [] from h]; exact k
  | _ :: _, _, _, _, h, k => by obtain ⟨v, r, rfl, h1, h2⟩ := h; exact ⟨v, _, rfl, h1, Reps.append h2 k⟩
theorem se_call {M : List D → MR} {n : Nat} {dv : List D} {dvs : List V} {ta : TA} {da : DA} (hd : ∀ G, Reps K mg G dv dvs) (hn : ∀ ds, (match M ds with | .no => False | _ => True) → ds.length = n) (h : SA K mg W ta da) :
    SE K mg W (tCallSD (spM K mg.f n M) dvs (WE W) ta) (dCall M dv da) := fun G α H S E σ Q l rv p =>
  h G α H S E σ _ l rv (pst.bind p fun vs es S1 G1 α1 H1 s1 l1 r1 p1 => by
    cases e : argsD S1 es with
    | none => rw [e] at p1; exact p1.elim
    | some q =>
      obtain ⟨ds, S2⟩ := q
      rw [e] at p1
      dsimp only at p1
      obtain ⟨G2, s2, l2, r2⟩ := argsD_ok l1 r1 e
      have p2 := pst.fwd s2 p1
      have rr := r2.append (hd G2)
      have hlen : (match M (ds ++ dv) with | .no => False | _ => True) → (vs ++ dvs).length = n := fun z => by rw [Reps.length rr]; exact hn _ z
      cases em : M (ds ++ dv) with
      | no => rw [em] at p2; exact p2.elim
      | ex x =>
        rw [em] at p2
        refine ⟨hlen (by rw [em]; trivial), ds ++ dv, G2, l2.sub, rr, ?_⟩
        rw [em]
        intro cls dx G' H' st sb rx
        have l3 := l2.join (cs := []) st (RL.empty sb)
        simp only [List.map_nil, List.append_nil] at l3
        have st3 := st.join (α := α1)
        rw [List.append_nil] at st3
        exact p2 cls dx G' α1 H' st3 l3 rx
      | ok e1 cs =>
        rw [em] at p2
        refine ⟨hlen (by rw [em]; trivial), ds ++ dv, G2, l2.sub, rr, ?_⟩
        rw [em]
        intro v G' α' H' st l' re
        exact p2 v G' (α1 ++ α') H' st.join (l2.join st (RL.up0 l')) (by rw [← l2.len]; exact (RE.up0 re).sh))

/-! ### a def's body -/
/-- what the end of a body gives: its value alone, all of it frozen -/
def finR (S : Sto) (e : E) : MR := match argsD S [e] with
  | some ([x], _) => .ok (.d x) []
  | _ => .no
def finD : RSt → MR
  | .nx _ _ => .ok (.d .non) []
  | .rt e S => finR S e
  | .ex x _ _ => .ex x
  | _ => .no
/-- M says no more than the body does -/
def MLe (a b : MR) : Prop := match a with
  | .no => True
  | a => a = b
theorem body_frz {mg : Str → Option Value} {N : List Str} {n : Nat} {M : List D → MR} {s : DS} {t : TS} {X : XK} {vs : List V} {Q : VK} (hN : n ≤ N.length) (ht : SS K ⟨mg, none⟩ (fun cls d _ H => X cls d H) t s)
    (hM : ∀ ds, ds.length = n → MLe (M ds) (finD (s (ds.map (fun x => some (.d x)) ++ List.replicate (N.length - n) none) []))) (h : spM K mg n M vs H Q X) : t { nx := fun _ H' => Q .non H', rt := Q } (L2.start N vs) H := by
  obtain ⟨hl, ds, G, sb, rr0, h⟩ := h
  have rr : Reps K (MG.f ⟨mg, none⟩) G ds vs := rr0
  have hdl : ds.length = n := by rw [← Reps.length rr]; exact hl
  have l := RL.empty (K := K) (mg := ⟨mg, none⟩) sb
  have rv : RV K ⟨mg, none⟩ G [] (ds.map (fun x => some (E.d x)) ++ List.replicate (N.length - n) none) (L2.start N vs) := by
    refine ⟨by unfold L2.start; simp [hl, hdl], fun i e he => ?_⟩
    have hi : i < ds.length := by
      by_cases hi : i < ds.length
      · exact hi
      · rw [List.getElem?_append_right (by simpa using hi), List.getElem?_replicate] at he
        split at he <;> cases he
    rw [List.getElem?_append_left (by simpa using hi), List.getElem?_map] at he
    cases e1 : ds[i]? with
    | none => rw [e1] at he; cases he
    | some x =>
      rw [e1] at he
      cases he
      obtain ⟨v, h1, h2⟩ := (REs.of_d (α := []) rr).get (i := i) (e := .d x) (by rw [List.getElem?_map, e1]; rfl)
      refine ⟨v, ?_, .inl h2⟩
      unfold L2.start
      rw [List.getElem?_append_left (by rw [List.length_map, hl, ← hdl]; exact hi), List.getElem?_map, h1]
      rfl
  refine ht G [] H [] _ (L2.start N vs) _ l rv ?_
  have hm := hM ds hdl
  revert hm h
  cases s (ds.map (fun x => some (E.d x)) ++ List.replicate (N.length - n) none) [] with
  | nx E' S' =>
    intro h hm σ' G' α' H' st l' _
    cases em : M ds with
    | no => rw [em] at h; exact h.elim
    | ex x => rw [em] at hm; cases hm
    | ok e cs =>
      rw [em] at h hm
      cases hm
      have st' : Stp G [] H G' [] H' := ⟨st.g, List.prefix_rfl, fun a o e _ => st.h a o e (by simp), fun a o e n => by
        rcases st.gn a o e n with z | z
        · cases z
        · exact .inr z, fun a z => by cases z⟩
      exact h .non G' [] H' st' (RL.empty l'.sub) rfl
  | rt e S' =>
    intro h hm v G' α' H' st l' re
    cases em : M ds with
    | no => rw [em] at h; exact h.elim
    | ex x =>
      rw [em] at hm
      have hm' : MR.ex x = finR S' e := hm
      unfold finR at hm'
      split at hm' <;> cases hm'
    | ok e1 cs =>
      rw [em] at h hm
      have hm' : MR.ok e1 cs = finR S' e := hm
      unfold finR at hm'
      split at hm'
      · rename_i x S2 ha
        cases hm'
        obtain ⟨G2, s2, l2, r2⟩ := argsD_ok l' (REs.one re) ha
        obtain ⟨w, r, e3, r3, _⟩ := r2
        cases e3
        have st2 := st.trans s2
        have st' : Stp G [] H G2 [] H' := ⟨st2.g, List.prefix_rfl, fun a o e _ => st2.h a o e (by simp), fun a o e n => by
          rcases st2.gn a o e n with z | z
          · cases z
          · exact .inr z, fun a z => by cases z⟩
        exact h v G2 [] H' st' (RL.empty l2.sub) r3
      · cases hm'
  | bk E' S' =>
    intro h hm
    cases em : M ds with
    | no => rw [em] at h; exact h.elim
    | ex x => rw [em] at hm; cases hm
    | ok e cs => rw [em] at hm; cases hm
  | ct E' S' =>
    intro h hm
    cases em : M ds with
    | no => rw [em] at h; exact h.elim
    | ex x => rw [em] at hm; cases hm
    | ok e cs => rw [em] at hm; cases hm
  | no =>
    intro h hm
    cases em : M ds with
    | no => rw [em] at h; exact h.elim
    | ex x => rw [em] at hm; cases hm
    | ok e cs => rw [em] at hm; cases hm
  | ex x E' S' =>
    intro h hm cls dx σ' G' α' H' st l' _ rx
    cases em : M ds with
    | no => rw [em] at h; exact h.elim
    | ok e cs => rw [em] at hm; cases hm
    | ex y =>
      rw [em] at h hm
      cases hm
      have st' : Stp G [] H G' [] H' := ⟨st.g, List.prefix_rfl, fun a o e _ => st.h a o e (by simp), fun a o e n => by
        rcases st.gn a o e n with z | z
        · cases z
        · exact .inr z, fun a z => by cases z⟩
      exact h cls dx G' H' st' l'.sub rx
end
end Dl

/-! enumerate over a text -/
namespace Dl
open PySem PySem.Spec PyProof.Rows L2
def Ites (x : Str) : It := ⟨fun i _ => i < x.cps.size, fun i H v H' => ∃ T c, v = .ref T ∧ H T = none ∧ H' = upd H T (.tup [.int (i : Nat), .str ⟨#[c]⟩]) ∧ x.cps[i]? = some c, fun i _ => x.cps.size ≤ i⟩
theorem str_draws {prog : Program} {w : World} {A : Around} (hh : A.handled = none) (it : Addr) (x : Str) (t : Tok) :
    Draws prog w A it [it] x.cps.size (fun i v => ∃ c u, x.cps[i]? = some c ∧ v = .str ⟨#[c]⟩ u) (fun i h => h.IsStrIter it (strIterType x) x t i) := by
  unfold strIterType
  split
  · exact Draws.strAscii hh it x t
  · exact Draws.strWide hh it x t
theorem turn_enumS {P : Program} {w : World} {K : PySem.W.Frag} {elts : List Expr} {kk : Nat} {tpos : Pos} (x : Str) (t : Tok) (e it : Addr) :
    Turn P w K (.Tuple elts kk tpos) (Ites x) [e, it] e (fun i h => (∃ old, IsEnum h e it ((i : Nat) : Int) old) ∧ h.IsStrIter it (strIterType x) x t i ∧ e ≠ it) where
  mem := List.mem_cons_self
  obj := fun i h st b hb => by
    obtain ⟨⟨old, he⟩, ⟨o, ho, hc, hd⟩, _⟩ := st
    rcases List.mem_cons.mp hb with z | z
    · exact ⟨_, by rw [z]; exact he, fun v q => by cases q⟩
    · refine ⟨o, by rw [List.mem_singleton.mp z]; exact ho, fun v q => ?_⟩
      rw [hd] at q; cases q
  keep := fun i h h' st k => by
    obtain ⟨⟨old, he⟩, ⟨o, ho, r⟩, hne⟩ := st
    exact ⟨⟨old, k e List.mem_cons_self _ he⟩, ⟨o, k it (List.mem_cons_of_mem _ List.mem_cons_self) o ho, r⟩, hne⟩
  item := fun X hP hw hK hc i pins s σ H E I hf st hg => by
    subst hP hw hK
    obtain ⟨⟨old, he⟩, hit, hne⟩ := st
    have hel : e < s.heap.objs.size := Heap.lt_size he
    have hil : it < s.heap.objs.size := by obtain ⟨_, q, _⟩ := hit; exact Heap.lt_size q
    have dr : Draws X.prog X.w X.A.in1 it [it] x.cps.size (fun i v => ∃ c u, x.cps[i]? = some c ∧ v = .str ⟨#[c]⟩ u) (fun i h => h.IsStrIter it (strIterType x) x t i) := str_draws (by exact I.ok.hd hc) it x t
    refine wpAny_pyNext_enum_itemD dr he hit hg hne (by simpa using hne) fun v h' tk hv ho hit' hT hsz hk => ?_
    obtain ⟨c, u, hcx, rfl⟩ := hv
    refine ⟨_, rfl, wpAny_letOwnedTupleGo_enum (s := { s with heap := h', toks := tk + 1 }) ho fun h'' he' sb => ?_⟩
    have hT2 : h''.get? s.heap.objs.size = some { cls := .type "tuple", data := .seq #[.int i tk, .str ⟨#[c]⟩ u] } := (sb.2 _ (Nat.ne_of_gt hel)).trans hT
    have nw : ObjOk X.prog X.w (upd H s.heap.objs.size (.tup [.int (i : Nat), .str ⟨#[c]⟩])) h'' s.heap.objs.size (.tup [.int (i : Nat), .str ⟨#[c]⟩]) :=
      ⟨by show 2 ≤ sizeLine; decide, [.int i tk, .str ⟨#[c]⟩ u], .cons ⟨_, rfl⟩ (.cons ⟨_, rfl⟩ .nil), ⟨_, hT2, rfl, _, rfl⟩⟩
    have J : Inv X pins σ (upd H s.heap.objs.size (.tup [.int (i : Nat), .str ⟨#[c]⟩])) { s with heap := h'', toks := tk + 1 } :=
      I.turnedNew (ch := [e, it]) (fun b ob hb q => (sb.2 b (fun z => hb (by rw [z]; exact List.mem_cons_self))).trans (hk b ob (fun z => hb (by rw [z]; exact List.mem_cons_self)) (fun z => hb (by rw [z]; exact List.mem_cons_of_mem _ List.mem_cons_self)) q)) hf (Nat.le_refl _) nw
    refine ⟨.ref s.heap.objs.size, _, J, rfl, ⟨_, c, rfl, I.hok.fresh (Nat.le_refl _), rfl, hcx⟩, ⟨⟨.str ⟨#[c]⟩ u, ?_⟩, ?_, hne⟩, fun b hb => ?_⟩
    · have e1 : ((i + 1 : Nat) : Int) = (i : Int) + 1 := by omega
      rw [e1]; exact he'
    · obtain ⟨o, q, r⟩ := hit'
      exact ⟨o, (sb.2 it (Ne.symm hne)).trans q, r⟩
    · have hb' : b < s.heap.objs.size := by
        rcases List.mem_cons.mp hb with z | z
        · rw [z]; exact hel
        · rw [List.mem_singleton.mp z]; exact hil
      rw [upd_ne (Nat.ne_of_lt hb')]
      exact (hf b hb).1
  done := fun X hP hw hK hc i pins s σ H E I hf st hg => by
    subst hP hw hK
    obtain ⟨⟨old, he⟩, hit, hne⟩ := st
    obtain ⟨f0, f1, f2, f3, f4, f5⟩ := hf it (List.mem_cons_of_mem _ List.mem_cons_self)
    have dr : Draws X.prog X.w X.A.in1 it [it] x.cps.size (fun i v => ∃ c u, x.cps[i]? = some c ∧ v = .str ⟨#[c]⟩ u) (fun i h => h.IsStrIter it (strIterType x) x t i) := str_draws (by exact I.ok.hd hc) it x t
    have hx : x.cps[i]? = none := Array.getElem?_eq_none hg
    have dn : ∀ (s : Shared) (Q : Value → Shared → Prop) (E : Value → Shared → Prop), s.heap.IsStrIter it (strIterType x) x t i →
        (∀ h' e, Heap.ExtBut it s.heap h' → (∃ o, h'.get? e = some o ∧ o.cls = .type "StopIteration") → E (.ref e) { s with heap := h' }) → wpAny (model X.prog X.w) X.A.in1 (Builtin.SmallTypes.nextOf (.ref it)) Q E s := by
      have hh : X.A.in1.handled = none := I.ok.hd hc
      unfold strIterType
      split
      · exact fun s Q E st hE => wpAny_nextOf_ascii_end hh st hx hE
      · exact fun s Q E st hE => wpAny_nextOf_wide_end hh st hx hE
    have dr2 : Draws X.prog X.w X.A.in1 it [it] i (fun _ _ => False) (fun j h => j = i ∧ h.IsStrIter it (strIterType x) x t i) :=
      { live := fun _ _ st => let ⟨_, o, ho, _⟩ := st; ⟨o, ho⟩
        frame := fun _ _ _ st hk => by obtain ⟨z, o, ho, r⟩ := st; exact ⟨z, o, hk it (by simp) o ho, r⟩
        item := fun j s Q E hi st hQ => by obtain ⟨z, _⟩ := st; omega
        done := fun s Q E st hE => dn s Q E st.2 hE }
    exact wpAny_pyNext_enum_endD dr2 he ⟨rfl, hit⟩ fun h' eb => ⟨rfl, I.turned (t' := s.toks) (fun b o hb q => eb b o hb q) f0 f1 f3 f4 f5⟩
  self := fun A i s Q E st h => by
    obtain ⟨⟨old, he⟩, _⟩ := st
    exact wpAny_pyIter_enum he h
def iEnumS (ta : TA) : TI := fun σ H Rq => ta σ H fun vs H1 => ∃ x, vs = [.str x] ∧ Rq (Ites x) H1
theorem pi_enumS {X : Cx} {e : Expr} {ta : TA} {p pos tpos : Pos} {elts : List Expr} {kk : Nat} (hg : Gl X "enumerate") (hm : X.mg "enumerate" = none) (ha : PA X [e] ta) (hs : starEach [e] X.env = [(false, eval e X.env)] := by rfl) :
    PI X (.Tuple elts kk tpos) (.Call (.Name "enumerate" p) [e] [] pos) (iEnumS ta) := by
  refine ⟨fun pins s σ H Rq I h => ?_⟩
  refine Call_ (ld_blt I hg hm boot_enumerate (PyProof.Rows.callWith_type1 (thn (ha.run pos pins s σ H _ I h) fun us s1 q1 => ?_) hs rfl))
  obtain ⟨vs, H1, I1, r1, x, ex, q⟩ := q1
  subst ex
  cases r1 with
  | cons r rr =>
    cases rr
    obtain ⟨t, rfl⟩ := r
    refine call_enumerate_str fun h' he hit hsz hk => wpAny_pyIter_enum he ?_
    have I2 : Inv X pins σ H1 { s1 with heap := h' } := I1.kept (t' := s1.toks) hk
    refine ⟨s1.heap.objs.size + 1, [s1.heap.objs.size + 1, s1.heap.objs.size], _, _, H1, rfl, I2, turn_enumS x t (s1.heap.objs.size + 1) s1.heap.objs.size, ⟨⟨.none, he⟩, hit, Nat.succ_ne_self _⟩, fun b hb => ?_, q⟩
    have hle : s1.heap.objs.size ≤ b := by
      rcases List.mem_cons.mp hb with z | z
      · rw [z]; exact Nat.le_add_right _ _
      · rw [List.mem_singleton.mp z]; exact Nat.le_refl _
    exact I1.fpOk hle (I1.hok.fresh hle)
theorem walk_enumS {x : Str} : Walk (Ites x) x.cps.size (fun _ => True) (YPair (fun i => some (.int (i : Nat))) (fun i => x.cps[i]?.map fun c => .str ⟨#[c]⟩)) := by
  refine ⟨fun _ _ hi _ => hi, fun _ _ => Nat.le_refl _, fun i H v H' _ _ y => ?_⟩
  obtain ⟨T, c, h1, h2, h3, h4⟩ := y
  exact ⟨T, .int (i : Nat), .str ⟨#[c]⟩, h1, h2, h3, rfl, by show x.cps[i]?.map _ = _; rw [h4]; rfl⟩
section
variable {K : PySem.W.Frag} {mg : MG} {W : WX} {G : Hp} {α : List Addr} {H : Hp} {S S1 : Sto} {σ : L2.St}
/-- a new pair of plain things -/
theorem pairY {G2 : Hp} {α2 : List Addr} {H2 : Hp} {S2 : Sto} {x y : E} {v w : V} {u : V} {H3 : Hp} {T : Addr} (l : RL K mg G2 α2 H2 S2) (hu : u = .ref T) (hT : H2 T = none) (h3 : H3 = upd H2 T (.tup [v, w])) (rx : RE K mg G2 α2 x v) (ry : RE K mg G2 α2 y w) :
    ∃ G3, Stp G2 α2 H2 G3 α2 H3 ∧ RL K mg G3 α2 H3 S2 ∧ RE K mg G3 α2 (mkU [x, y]) u := by
  subst hu h3
  have g : Sub G2 (upd G2 T (.tup [v, w])) := (Stp.ground (ho := .tup [v, w]) l hT).g
  refine ⟨upd G2 T (.tup [v, w]), Stp.ground l hT, l.ground hT, ?_⟩
  have rr : REs K mg (upd G2 T (.tup [v, w])) α2 [x, y] [v, w] := ⟨v, [w], rfl, rx.mono g List.prefix_rfl, w, [], rfl, ry.mono g List.prefix_rfl, rfl⟩
  unfold mkU
  cases e : allD [x, y] with
  | some ds =>
    rw [allD_eq e] at rr
    exact ⟨T, [v, w], rfl, .of upd_same, rr.to_d⟩
  | none => exact ⟨T, [v, w], rfl, upd_same, rr⟩
def enL (n : Nat) : List E → List E
  | [] => []
  | e :: es => mkU [.d (.int n), e] :: enL (n + 1) es
theorem enL_len : ∀ (n : Nat) (es : List E), (enL n es).length = es.length
  | _, [] => rfl
  | n, e :: es => by show (enL (n + 1) es).length + 1 = es.length + 1; rw [enL_len]
theorem enL_get : ∀ (n i : Nat) (es : List E) (x : E), (enL n es)[i]? = some x → ∃ e, es[i]? = some e ∧ x = mkU [.d (.int ((n + i : Nat) : Int)), e]
  | _, _, [], x, h => by simp [enL] at h
  | n, 0, e :: es, x, h => by
    have h' : some (mkU [.d (.int n), e]) = some x := h
    cases h'
    exact ⟨e, rfl, rfl⟩
  | n, i + 1, e :: es, x, h => by
    have h' : (enL (n + 1) es)[i]? = some x := by simpa [enL] using h
    obtain ⟨y, h1, h2⟩ := enL_get (n + 1) i es x h'
    exact ⟨y, by simpa using h1, by rw [h2]; congr 4; omega⟩
/-- enumerate(x): x a text or a list -/
def enE (S : Sto) (x : E) : Option (List E × Option Nat) := match x with
  | .d (.str s) => some (enL 0 (s.map fun c => .d (.str [c])), none)
  | .d (.lst ds) => some (enL 0 (ds.map .d), none)
  | .h n => match S[n]? with
    | some (.frz (.lst ds)) => some (enL 0 (ds.map .d), none)
    | _ => none
  | _ => none
def itEn (da : DA) : DI := fun E S => (da E S).bind fun xs S1 => match xs with
  | [x] => match enE S1 x with
    | some q => .ok q S1
    | none => .no
  | _ => .no
abbrev iEnumA (K : PySem.W.Frag) (ta : TA) : TI := fun σ H Rq => iEnumS ta σ H Rq ∨ iEnum K ta σ H Rq
theorem pi_enumA {X : Cx} {e : Expr} {ta : TA} {p pos tpos : Pos} {elts : List Expr} {kk : Nat} (hg : Gl X "enumerate") (hm : X.mg "enumerate" = none) (ha : PA X [e] ta) (hs : starEach [e] X.env = [(false, eval e X.env)] := by rfl) :
    PI X (.Tuple elts kk tpos) (.Call (.Name "enumerate" p) [e] [] pos) (iEnumA X.K ta) := PI.or (pi_enumS hg hm ha hs) (pi_enum hg hm ha hs)
theorem wk_enS {s : Cs} : WalkE K mg (Ites (mkS s)) G α H (enL 0 (s.map fun c => .d (.str [c]))) none :=
  walk_of walk_enumS (by rw [enL_len]; simp) (fun _ _ _ _ _ _ _ => trivial) fun G2 α2 H2 S2 i e x H3 st l2 _ he y => by
    obtain ⟨T, v, w, h1, h2, h3, h4, h5⟩ := y
    obtain ⟨f, hf, rfl⟩ := enL_get 0 i _ _ he
    cases h4
    rw [List.getElem?_map] at hf
    cases hc : s[i]? with
    | none => rw [hc] at hf; cases hf
    | some c =>
      rw [hc] at hf
      cases hf
      have h5' : (s[i]?.map fun c => V.str ⟨#[c]⟩) = some w := by simpa using h5
      rw [hc] at h5'
      cases h5'
      rw [Nat.zero_add]
      exact pairY l2 h1 h2 h3 (rfl : V.int _ = _) (rfl : V.str _ = _)
theorem wk_enL {a : Addr} {vs : List V} {ds : List D} (q : SqL K G a vs) (s : Reps K mg G ds vs) : WalkE K mg (Ite K a) G α H (enL 0 (ds.map .d)) none :=
  walk_of walk_enum (by rw [enL_len, List.length_map, Reps.length s]) (fun G2 α2 H2 S2 st l2 _ => (st.g.trans l2.sub).sqL q) fun G2 α2 H2 S2 i e x H3 st l2 _ he y => by
    obtain ⟨T, v, w, h1, h2, h3, h4, h5⟩ := y
    obtain ⟨f, hf, rfl⟩ := enL_get 0 i _ _ he
    cases h4
    obtain ⟨u, k1, k2⟩ := (REs.of_d (α := α2) s).get hf
    have h5' : vs[i]? = some w := h5
    rw [k1] at h5'
    cases h5'
    rw [Nat.zero_add]
    exact pairY l2 h1 h2 h3 (rfl : V.int _ = _) (k2.mono st.g List.prefix_rfl)
theorem si_en {ta : TA} {da : DA} (h : SA K mg W ta da) : SI K mg W (iEnumA K ta) (itEn da) := fun G α H S E σ Rq l rv p => by
  unfold itEn at p
  cases e : da E S with
  | no => rw [e] at p; exact p.elim
  | ex x S1 => rw [e] at p; exact .inl (h G α H S E σ _ l rv (by rw [e]; exact p))
  | ok xs S1 =>
    rw [e, R.bind_ok] at p
    cases xs with
    | nil => exact p.elim
    | cons x r =>
      cases r with
      | cons _ _ => exact p.elim
      | nil =>
        dsimp only at p
        cases hr : enE S1 x with
        | none => rw [hr] at p; exact p.elim
        | some q0 =>
          rw [hr] at p
          unfold enE at hr
          split at hr
          · rename_i s
            cases hr
            refine .inl (h G α H S E σ _ l rv ?_)
            rw [e]
            intro v G1 α1 H1 s1 l1 r1
            obtain ⟨w, rfl, r2⟩ := r1.of1
            exact ⟨mkS s, by rw [show w = .str _ from r2], p _ G1 α1 H1 s1 l1 trivial wk_enS⟩
          · rename_i ds
            cases hr
            refine .inr (h G α H S E σ _ l rv ?_)
            rw [e]
            intro v G1 α1 H1 s1 l1 r1
            obtain ⟨w, rfl, r2⟩ := r1.of1
            obtain ⟨a, vs, rfl, q, s⟩ := r2
            exact ⟨a, vs, rfl, l1.sub.sqL q, p _ G1 α1 H1 s1 l1 trivial (wk_enL q s)⟩
          · rename_i n
            split at hr
            · rename_i ds hs
              cases hr
              refine .inr (h G α H S E σ _ l rv ?_)
              rw [e]
              intro v G1 α1 H1 s1 l1 r1
              obtain ⟨w, rfl, r2⟩ := r1.of1
              obtain ⟨a, rfl, ha⟩ := r2
              obtain ⟨b, h1, c, vs, h2, q, s⟩ := l1.frz _ _ hs
              rw [ha] at h1
              cases h1
              cases h2
              exact ⟨a, vs, rfl, l1.sub.sqL q, p _ G1 α1 H1 s1 l1 trivial (wk_enL q s)⟩
            · cases hr
          · cases hr
/-! ### while -/
def whN (c : DT) (b : DS) : Nat → En → Sto → RSt
  | 0, _, _ => .no
  | k + 1, E, S => (c E S).st E fun q S1 => if q then (match b E S1 with
      | .nx E2 S2 => whN c b k E2 S2
      | .ct E2 S2 => whN c b k E2 S2
      | .bk E2 S2 => .nx E2 S2
      | .rt v S2 => .rt v S2
      | .ex e E2 S2 => .ex e E2 S2
      | .no => .no) else .nx E S1
/-- the bound k of the turns may hang on the state -/
def sWhile (k : En → Sto → Nat) (c : DT) (b : DS) : DS := fun E S => whN c b (k E S) E S
theorem ss_while {k : En → Sto → Nat} {tc : TT} {c : DT} {tb : TS} {b : DS} (hc : STe K mg W tc c) (hb : SS K mg W tb b) : SS K mg W (tWhile tc tb) (sWhile k c b) := fun G α H S E σ Dn l rv p => by
  refine ⟨fun m σ' H' => ∃ G2 α2 E2 S2, Stp G α H G2 α2 H' ∧ RL K mg G2 α2 H' S2 ∧ RV K mg G2 α2 E2 σ' ∧ pstS K mg W G2 α2 H' Dn (whN c b m E2 S2), ⟨k E S, G, α, E, S, Stp.refl .., l, rv, p⟩, ?_⟩
  rintro m σ' H' ⟨G2, α2, E2, S2, st2, l2, rv2, p2⟩
  cases m with
  | zero => exact p2.elim
  | succ m =>
    refine hc G2 α2 H' S2 E2 σ' _ l2 rv2 (pst.st rv2 p2 fun q e S3 G3 α3 H3 s3 l3 r3 p3 => ?_)
    subst r3
    cases q with
    | false => exact iteF (p3 σ' G3 α3 H3 (Stp.refl ..) l3 (rv2.mono s3.g s3.al))
    | true =>
      refine iteT ⟨fun σ4 H4 => ∃ G4 α4 E4 S4, Stp G α H G4 α4 H4 ∧ RL K mg G4 α4 H4 S4 ∧ RV K mg G4 α4 E4 σ4 ∧ pstS K mg W G4 α4 H4 Dn (whN c b m E4 S4), fun σ4 H4 h4 => ⟨m, Nat.lt_succ_self m, h4⟩, ?_⟩
      refine hb G3 α3 H3 S3 E2 σ' _ l3 (rv2.mono s3.g s3.al) ?_
      have p3' : pstS K mg W G3 α3 H3 Dn (match b E2 S3 with
        | .nx E2 S2 => whN c b m E2 S2
        | .ct E2 S2 => whN c b m E2 S2
        | .bk E2 S2 => .nx E2 S2
        | .rt v S2 => .rt v S2
        | .ex e E2 S2 => .ex e E2 S2
        | .no => .no) := p3
      revert p3'
      cases b E2 S3 with
      | nx E' S' => exact fun q σ5 G5 α5 H5 s5 l5 r5 => ⟨G5, α5, E', S', (st2.trans s3).trans s5, l5, r5, pstS.fwd s5 q⟩
      | ct E' S' => exact fun q σ5 G5 α5 H5 s5 l5 r5 => ⟨G5, α5, E', S', (st2.trans s3).trans s5, l5, r5, pstS.fwd s5 q⟩
      | bk E' S' => exact fun q => q
      | rt v S' => exact fun q => q
      | ex e E' S' => exact fun q => q
      | no => exact fun q => q
/-! ### comprehensions -/
def wipeE (E : En) : List Nat → En
  | [] => E
  | v :: vs => (wipeE E vs).set v none
theorem RV.wipe {E : En} (r : RV K mg G α E σ) : ∀ vs : List Nat, RV K mg G α (wipeE E vs) (wipe σ vs)
  | [] => r
  | v :: vs => (RV.wipe r vs).setN v
/-- the new list n: what it holds -/
def getL (S : Sto) (n : Nat) : Option (List E) := match S[n]? with
  | some (.own (.lst acc)) => some acc
  | _ => none
theorem getL_eq {n : Nat} {es : List E} (h : getL S n = some es) : S[n]? = some (.own (.lst es)) := by
  unfold getL at h
  split at h
  · cases h; assumption
  · cases h
def putL (S : Sto) (n : Nat) (y : E) : Option Sto := (getL S n).bind fun acc => if acc.length < 10000000 then some (S.set n (.own (.lst (acc ++ [y])))) else none
/-- the items one by one; E the slots, its own names wiped -/
def lcN (g : DG) (t : DT) (d : DE) (E : En) (n : Nat) : List Dl.E → Sto → Option Sto
  | [], S => some S
  | x :: xs, S => match g x E with
    | none => none
    | some E1 => match t E1 S with
      | .ok true S1 => match d E1 S1 with
        | .ok y S2 => match putL S2 n y with
          | some S3 => lcN g t d E n xs S3
          | none => none
        | _ => none
      | .ok false S1 => lcN g t d E n xs S1
      | _ => none
/-- no own list is walked -/
def dLc (di : DI) (g : DG) (t : DT) (d : DE) (vs : List Nat) : DE := fun E S => (di E S).bind fun p S1 => match p.2 with
  | some _ => .no
  | none => if p.1.length ≤ 1000000 then (match lcN g t d (wipeE E vs) S1.length p.1 (S1 ++ [.own (.lst [])]) with
    | some S2 => .ok (.h S1.length) S2
    | none => .no) else .no
abbrev WF : WX := fun _ _ _ _ => False
theorem getL_len {n : Nat} {y : E} {S' : Sto} (h : putL S n y = some S') : ∃ acc, S[n]? = some (.own (.lst acc)) ∧ acc.length < 10000000 ∧ S' = S.set n (.own (.lst (acc ++ [y]))) := by
  unfold putL at h
  cases e : getL S n with
  | none => rw [e] at h; cases h
  | some acc =>
    rw [e, Option.bind_some] at h
    split at h
    · cases h; exact ⟨acc, getL_eq e, by assumption, rfl⟩
    · cases h
theorem wipe_set {σ : L2.St} {j : Nat} {x : Option V} : ∀ {vs : List Nat}, j ∈ vs → wipe ((wipe σ vs).set j x) vs = wipe σ vs := by
  have get : ∀ (vs : List Nat) (σ : L2.St) (i : Nat), (wipe σ vs)[i]? = if i ∈ vs then (if i < σ.length then some none else none) else σ[i]? := by
    intro vs
    induction vs with
    | nil => intro σ i; simp [wipe]
    | cons v vs ih =>
      intro σ i
      show ((wipe σ vs).set v none)[i]? = _
      rw [List.getElem?_set]
      by_cases h : v = i
      · subst h
        rw [if_pos rfl, if_pos List.mem_cons_self, wipe_length]
      · rw [if_neg h, ih]
        by_cases h2 : i ∈ vs
        · rw [if_pos h2, if_pos (List.mem_cons_of_mem _ h2)]
        · rw [if_neg h2, if_neg (by rw [List.mem_cons]; rintro (z | z); exact h z.symm; exact h2 z)]
  intro vs hj
  apply List.ext_getElem?
  intro i
  rw [get, get, List.length_set, wipe_length]
  by_cases h : i ∈ vs
  · rw [if_pos h, if_pos h]
  · rw [if_neg h, if_neg h, List.getElem?_set_ne (by rintro rfl; exact h hj), get, if_neg h]
theorem wp_set {σ σ2 : L2.St} {vs : List Nat} {j : Nat} {x : Option V} (h : wipe σ2 vs = wipe σ vs) (hj : j ∈ vs) : wipe (σ2.set j x) vs = wipe σ vs := by
  have get : ∀ (vs : List Nat) (σ : L2.St) (i : Nat), (wipe σ vs)[i]? = if i ∈ vs then (if i < σ.length then some none else none) else σ[i]? := by
    intro vs
    induction vs with
    | nil => intro σ i; simp [wipe]
    | cons v vs ih =>
      intro σ i
      show ((wipe σ vs).set v none)[i]? = _
      rw [List.getElem?_set]
      by_cases h : v = i
      · subst h
        rw [if_pos rfl, if_pos List.mem_cons_self, wipe_length]
      · rw [if_neg h, ih]
        by_cases h2 : i ∈ vs
        · rw [if_pos h2, if_pos (List.mem_cons_of_mem _ h2)]
        · rw [if_neg h2, if_neg (by rw [List.mem_cons]; rintro (z | z); exact h z.symm; exact h2 z)]
  apply List.ext_getElem?
  intro i
  rw [get]
  by_cases hi : i ∈ vs
  · rw [if_pos hi, List.length_set]
    have := congrArg (fun l => l[i]?) h
    simp only [get, if_pos hi] at this
    rw [get, if_pos hi]
    exact this
  · rw [if_neg hi, List.getElem?_set_ne (by rintro rfl; exact hi hj)]
    have := congrArg (fun l => l[i]?) h
    simp only [get, if_neg hi] at this
    rw [get, if_neg hi]
    exact this
def KeepW (g : TG) (vs : List Nat) : Prop := ∀ (x : V) (σ σ0 : L2.St) (H : Hp) (Q : L2.St → Hp → Prop), wipe σ vs = wipe σ0 vs → g x σ H Q → g x σ H fun σ2 H2 => wipe σ2 vs = wipe σ0 vs ∧ Q σ2 H2
def KeepWs (g : TGs) (vs : List Nat) : Prop := ∀ (x : List V) (σ σ0 : L2.St) (H : Hp) (Q : L2.St → Hp → Prop), wipe σ vs = wipe σ0 vs → g x σ H Q → g x σ H fun σ2 H2 => wipe σ2 vs = wipe σ0 vs ∧ Q σ2 H2
theorem kw_name {j : Nat} {vs : List Nat} (h : j ∈ vs) : KeepW (gName j) vs := fun x σ σ0 H Q w q => ⟨wp_set w h, q⟩
theorem kw_nil {vs : List Nat} : KeepWs gNil vs := fun x σ σ0 H Q w q => ⟨q.1, w, q.2⟩
theorem gmono {g : TG} {gr : TGs} {vs : List Nat} (h : KeepW g vs) (k : KeepWs gr vs) (hm : ∀ (x : V) (σ : L2.St) (H : Hp) (Q Q' : L2.St → Hp → Prop), (∀ s h, Q s h → Q' s h) → g x σ H Q → g x σ H Q') : KeepWs (gCons g gr) vs := fun x σ σ0 H Q w q => by
  obtain ⟨v, r, rfl, q⟩ := q
  exact ⟨v, r, rfl, hm v σ H _ _ (fun s h z => k r s σ0 h Q z.1 z.2) (h v σ σ0 H _ w q)⟩
theorem kw_tup {gr : TGs} {vs : List Nat} {n : Nat} (k : KeepWs gr vs) : KeepW (gTup K n gr) vs := fun x σ σ0 H Q w q => by
  obtain ⟨a, xs, e, h1, h2, q⟩ := q
  exact ⟨a, xs, e, h1, h2, k xs σ σ0 H Q w q⟩
theorem wipe_wipe {σ : L2.St} : ∀ {vs : List Nat}, wipe (wipe σ vs) vs = wipe σ vs := by
  intro vs
  cases vs with
  | nil => rfl
  | cons v vs =>
    have h := wipe_set (σ := σ) (x := none) (List.mem_cons_self (a := v) (l := vs))
    have e : (wipe σ (v :: vs)).set v none = wipe σ (v :: vs) := by
      show ((wipe σ vs).set v none).set v none = (wipe σ vs).set v none
      rw [List.set_set]
    rw [e] at h
    exact h
theorem se_lc {wi : TI} {di : DI} {g : TG} {dg : DG} {tt : TT} {dt : DT} {te : TE} {d : DE} {vs : List Nat} (hi : SI K mg W wi di) (hg : SG K mg g dg) (hk : KeepW g vs) (ht : STe K mg WF tt dt) (he : SE K mg WF te d) :
    SE K mg W (tLc wi g tt te vs) (dLc di dg dt d vs) := fun G α H S E σ Q l rv p => by
  refine hi G α H S E σ _ l rv ?_
  unfold dLc at p
  cases e : di E S with
  | no => rw [e] at p; exact p
  | ex x S' => rw [e] at p; exact p
  | ok q S1 =>
    obtain ⟨es, gh⟩ := q
    rw [e, R.bind_ok] at p
    cases gh with
    | some n => exact p.elim
    | none =>
      dsimp only at p
      split at p
      · rename_i hz
        cases e2 : lcN dg dt d (wipeE E vs) S1.length es (S1 ++ [.own (.lst [])]) with
        | none => rw [e2] at p; exact p.elim
        | some S2 =>
          rw [e2] at p
          intro J G1 α1 H1 st1 l1 _ wk Da hD
          have lA : RL K mg G1 (α1 ++ [Da]) (upd H1 Da (.lst [])) (S1 ++ [.own (.lst [])]) := l1.alloc hD ⟨[], upd_same, rfl⟩
          have stA : Stp G1 α1 H1 G1 (α1 ++ [Da]) (upd H1 Da (.lst [])) := Stp.alloc hD
          have hn : (α1 ++ [Da])[S1.length]? = some Da := by rw [← l1.len]; simp
          have rvA := (rv.mono st1.g st1.al).mono stA.g stA.al
          refine ⟨fun i m H' => m = es.length - i ∧ i ≤ es.length ∧ ∃ G2 α2 S3, Stp G1 (α1 ++ [Da]) (upd H1 Da (.lst [])) G2 α2 H' ∧ RL K mg G2 α2 H' S3 ∧ lcN dg dt d (wipeE E vs) S1.length (es.drop i) S3 = some S2,
            ⟨es.length, rfl, Nat.zero_le _, G1, _, _, Stp.refl .., lA, e2⟩, ?_⟩
          rintro i m H' ⟨rfl, hle, G2, α2, S3, st2, l2, hl2⟩
          obtain ⟨w1, w2, w3⟩ := wk G2 α2 H' S3 (stA.trans st2) l2 trivial
          by_cases hlt : i < es.length
          · refine .inr ⟨w1 i hlt, fun H3 => i + 1 ≤ es.length ∧ ∃ G3 α3 S4, Stp G1 (α1 ++ [Da]) (upd H1 Da (.lst [])) G3 α3 H3 ∧ RL K mg G3 α3 H3 S4 ∧ lcN dg dt d (wipeE E vs) S1.length (es.drop (i + 1)) S4 = some S2, fun H3 h3 => ⟨es.length - (i + 1), by omega, rfl, h3⟩, fun x H3 hy => ?_⟩
            have hx : es[i]? = some es[i] := List.getElem?_eq_getElem hlt
            obtain ⟨G3, st3, l3, re3⟩ := w3 i _ x H3 hx hy
            rw [List.drop_eq_getElem_cons hlt] at hl2
            unfold lcN at hl2
            cases e3 : dg es[i] (wipeE E vs) with
            | none => rw [e3] at hl2; cases hl2
            | some E3 =>
              rw [e3] at hl2
              dsimp only at hl2
              have rv3 := ((rvA.mono st2.g st2.al).mono st3.g st3.al).wipe vs
              refine hk x (wipe σ vs) σ H3 _ wipe_wipe (hg G3 α2 H3 S3 _ E3 _ _ x _ l3 rv3 re3 e3 fun σ4 rv4 => ?_)
              refine ht G3 α2 H3 S3 E3 σ4 _ l3 rv4 ?_
              cases e4 : dt E3 S3 with
              | no => rw [e4] at hl2; cases hl2
              | ex x S' => rw [e4] at hl2; cases hl2
              | ok b S4 =>
                rw [e4] at hl2
                intro b' G4 α4 H4 st4 l4 hb
                subst hb
                have st24 := (st2.trans st3).trans st4
                cases b' with
                | false =>
                  dsimp only at hl2
                  exact iteF ⟨hlt, G4, α4, S4, st24, l4, hl2⟩
                | true =>
                  dsimp only at hl2
                  refine iteT ?_
                  refine he G4 α4 H4 S4 E3 σ4 _ l4 (rv4.mono st4.g st4.al) ?_
                  cases e5 : d E3 S4 with
                  | no => rw [e5] at hl2; cases hl2
                  | ex x S' => rw [e5] at hl2; cases hl2
                  | ok y S5 =>
                    rw [e5] at hl2
                    dsimp only at hl2
                    intro v G5 α5 H5 st5 l5 r5
                    cases e6 : putL S5 S1.length y with
                    | none => rw [e6] at hl2; cases hl2
                    | some S6 =>
                      rw [e6] at hl2
                      dsimp only at hl2
                      obtain ⟨acc5, h51, h52, rfl⟩ := getL_len e6
                      have st25 := st24.trans st5
                      have hD5 := pre_get st25.al hn
                      obtain ⟨b, us, e7, e8, e9, e10⟩ := own_at (v := .ref Da) l5 h51 ⟨Da, rfl, hD5⟩
                      cases e7
                      refine ⟨us, e9, by rw [REs.length e10, sizeLine_eq]; omega, hlt, G5, α5, _, st25.trans (Stp.write hD5), l5.write (o' := .lst (acc5 ++ [y])) h51 hD5 ⟨_, upd_same, e10.append (.one r5)⟩, hl2⟩
          · have e : i = es.length := by omega
            subst e
            rw [List.drop_length] at hl2
            cases hl2
            exact .inl ⟨w2, p (.ref Da) G2 α2 H' ((st1.trans stA).trans st2) l2 ⟨Da, rfl, pre_get st2.al hn⟩⟩
      · exact p.elim
end
end Dl

/-! methods that say super() -/
namespace Dl
open PySem PySem.Spec PyProof.Rows L2
open PySem.W (ksEnv ksFn)
/-- where such a method stands in the written part: f its function, cda its code, cc the cell of its class D -/
structure FunS (K : PySem.W.Frag) (prog : Program) (x qual : Str) (st : Stmt) (f : Addr) (fd : FuncData) (D cda cc : Addr) : Prop where
  ex : ∃ (oc : Value) (od : Option Addr) (kV doc pm : Value) (an : Option Addr) (ct : Value) (osl : Array (Option Value)),
    fd = ksFn x qual (defArgs st) (defBody st) (defScope st) .none kV doc pm an (.ref cda) ct cc ∧ K.lookup f = some ⟨oc, od, .func fd, osl⟩
  cod : PySem.W.codeIn K (.ref cda) qual = true
  cell : ∃ cl cld csl, K.lookup cc = some ⟨cl, cld, .cell (some (.ref D)), csl⟩
  file : ∃ ccl cdd vs ccs file tf, K.lookup cda = some ⟨ccl, cdd, .fields vs, ccs⟩ ∧ vs[2]? = some (.str file tf) ∧ ((prog.main.file : Str) == file) = true
  cls : (PySem.W.clsIn K D).isSome = true
  nosup : PySem.W.nsIn K mainGlobals "super" = some none
  nothird : PySem.W.nsIn K PySem.cStatics "thirdparty.any" = some none
  top : (prog.main.scope.names.lookup ("super" : Str)).isSome = false
  typ : PySem.W.typeIn K (.ref f) = some (.type "function")
/-- its names -/
structure ScS (N P : List Str) (sc : Scope) : Prop where
  kind : sc.kind = .function
  co : sc.isCoroutine = false
  gen : sc.isGenerator = false
  nd : N.Nodup
  pre : N.take P.length = P
  par : ∀ x ∈ P, sc.names.lookup x = some .local
  nocell : ∀ y ∈ sc.names, y.2 ≠ .cell
  free : ∀ y ∈ sc.names, y.2 = .free → y.1 = "__class__"
  sup : sc.names.lookup ("super" : Str) = some .globalImplicit
  cla : sc.names.lookup ("__class__" : Str) = some .free
def cxS (P : Program) (w : World) (K : PySem.W.Frag) (mg : Str → Option Value) (base : Heap) (N : List Str) (qual : Str) (scope : Scope) (f cda cc : Addr) (A : Around) (outer : List PySem.Env) (s : Shared) (H : Hp) (E : XK) : Cx where
  prog := P
  w := w
  K := K
  mg := mg
  base := base
  A := A.deeper (ksEnv qual scope s.heap.objs.size f (.ref cda) cc)
  N := N
  s_0 := s
  H_0 := H
  env := ksEnv qual scope s.heap.objs.size f (.ref cda) cc
  outer := outer
  stack := ksEnv qual scope s.heap.objs.size f (.ref cda) cc :: outer
  ex := []
  calm := true
  fn := fun _ => false
  pn := []
  xe := fun e s' => wpAny (model P w) (A.deeper (ksEnv qual scope s.heap.objs.size f (.ref cda) cc)) (leaving (ksEnv qual scope s.heap.objs.size f (.ref cda) cc) e) (fun _ s'' => L2.CX P w outer H s E e s'') (fun e' s'' => L2.CX P w outer H s E e' s'') s'
structure PSA (X : Cx) (c : Code) (st : List Stmt) (t : TS) : Prop where
  run : ∀ (pins : List (Addr × Obj)) (s : Shared) (σ : L2.St) (H : Hp) (D : Ends), Inv X pins σ H s → t D σ H → PySem.wpAt (model X.prog X.w) X.A c (execs st X.env) (SP X pins D) X.xe s
theorem psa_of {X : Cx} {c : Code} {st : List Stmt} {t : TS} (h : PSs X st t) : PSA X c st t := ⟨fun pins s σ H D I q => wpAt_of_wpAny (h.run pins s σ H D I q)⟩
structure PS1 (X : Cx) (c : Code) (st : Stmt) (t : TS) : Prop where
  run : ∀ (pins : List (Addr × Obj)) (s : Shared) (σ : L2.St) (H : Hp) (D : Ends), Inv X pins σ H s → t D σ H → PySem.wpAt (model X.prog X.w) X.A c (exec st X.env) (SP X pins D) X.xe s
theorem psa_cons1 {X : Cx} {c : Code} {st : Stmt} {rest : List Stmt} {t u : TS} (h1 : PS1 X c st t) (h2 : PSA X c rest u) : PSA X c (st :: rest) (tSeq t u) := by
  refine ⟨fun pins s σ H D I q => ks_wpAt_execs_cons (ks_wpAt_mono (h1.run pins s σ H { D with nx := u D } I q) (fun fl s' hs => ?_) fun _ _ z => z)⟩
  cases fl with
  | next =>
    obtain ⟨σ', H', I', q'⟩ := hs
    exact h2.run pins s' σ' H' D I' q'
  | brk => exact hs
  | cont => exact hs
  | ret u => exact hs
theorem psa_cons {X : Cx} {c : Code} {st : Stmt} {rest : List Stmt} {t u : TS} (h1 : PS X st t) (h2 : PSA X c rest u) : PSA X c (st :: rest) (tSeq t u) :=
  psa_cons1 ⟨fun pins s σ H D I q => wpAt_of_wpAny (h1.run pins s σ H D I q)⟩ h2
theorem lookup_zip {x : Str} {u : Value} : ∀ {P : List Str} {us : List Value} {i : Nat}, P.Nodup → P[i]? = some x → us[i]? = some u → (P.zip us).reverse.lookup x = some u := by
  intro P
  induction P with
  | nil => intro us i _ h; simp at h
  | cons p P ih =>
    intro us i nd h1 h2
    cases us with
    | nil => simp at h2
    | cons v us =>
      rw [List.zip_cons_cons, List.reverse_cons]
      rw [List.lookup_append]
      cases i with
      | zero =>
        simp at h1 h2
        subst h1 h2
        have : (P.zip us).reverse.lookup p = none := by
          rw [List.lookup_eq_none_iff]
          intro q hq
          have hq' := List.mem_reverse.mp hq
          have := (List.of_mem_zip (a := q.1) (b := q.2) hq').1
          have ne : p ≠ q.1 := fun z => (List.nodup_cons.mp nd).1 (by rw [z]; exact this)
          simpa using ne
        rw [this]
        show (none : Option Value).or (List.lookup p [(p, v)]) = some v
        rw [List.lookup_cons, beq_self_eq_true]; rfl
      | succ i =>
        rw [ih (List.nodup_cons.mp nd).2 (by simpa using h1) (by simpa using h2)]
        rfl
theorem cell_one {cc c : Addr} {x : Str} (h : ([(("__class__" : Str), cc)] : List (Str × Addr)).lookup x = some c) : x = "__class__" ∧ c = cc := by
  rw [List.lookup_cons] at h
  cases e : x == ("__class__" : Str) with
  | true => rw [e] at h; cases h; exact ⟨by simpa using e, rfl⟩
  | false => rw [e] at h; cases h
section
variable {P : Program} {w : World} {K : PySem.W.Frag} {mg : Str → Option Value} {base : Heap} {N ps : List Str} {x qual : Str} {st : Stmt} {f D cda cc : Addr} {fd : FuncData}
theorem fn_ofS {k : Nat} {sp : Sp} (F : FunS K P x qual st f fd D cda cc) (S : ScS N ps (defScope st)) (len : ∀ vs H Q E, sp vs H Q E → vs.length = ps.length)
    (hbody : ∀ (A : Around) (outer : List PySem.Env) (s : Shared) (H : Hp) (vs : List V) (Q : VK) (E : XK), Room k (A.deeper (ksEnv qual (defScope st) s.heap.objs.size f (.ref cda) cc)) → sp vs H Q E →
      ∃ t, PSA (cxS P w K mg base N qual (defScope st) f cda cc A outer s H E) (.func (defBody st) (ksEnv qual (defScope st) s.heap.objs.size f (.ref cda) cc)) (defBody st) t ∧ t { nx := fun _ H' => Q .non H', rt := Q } (L2.start N vs) H) :
    FnOk P w K mg base (L2.CX P w) (k + 1) f fd ps sp := by
  obtain ⟨oc, od, kV, doc, pm, an, ct, osl, rfl, lk⟩ := F.ex
  refine ⟨len, fun A outer s H args us vs Q E hr e0 hb r hsp => ?_⟩
  have hl := len _ _ _ _ hsp
  have KX : K.In s.heap := e0.mod.kin.keeps fun b o e => (e0.bs b o e).1
  have lim : s.heap.NoLimit := e0.mod.nolimit.keeps fun b o e => (e0.bs b o e).1
  refine ks_codeAny_call_defAt hr.depth (KX _ _ lk) rfl lim (PySem.W.codeRec_of KX F.cod) rfl hb S.nocell (fun y hy => S.par y.1 (List.of_mem_zip (a := y.1) (b := y.2) hy).1) (fun h₁ hns hk => ?_) S.co S.gen S.kind
  obtain ⟨t, ht, hq⟩ := hbody A outer s H vs Q E (hr.deeper _) hsp
  have ndP : ps.Nodup := by rw [← S.pre]; exact S.nd.sublist (List.take_sublist _ _)
  have hpl : ps.length ≤ N.length := by have := congrArg List.length S.pre; rw [List.length_take] at this; omega
  obtain ⟨cl, cld, csl, hcell⟩ := F.cell
  have hccb : base.get? cc = some ⟨cl, cld, .cell (some (.ref D)), csl⟩ := e0.mod.kin _ _ hcell
  have I : Inv (cxS P w K mg base N qual (defScope st) f cda cc A outer s H E) [] (L2.start N vs) H { s with heap := h₁, toks := s.toks + (ps.zip us).length } := by
    have noA : ∀ b : Addr, b ∉ ([] : List Addr) := fun b z => by cases z
    refine ⟨⟨e0.mod, S.kind, rfl, rfl, Nat.le_refl _, fun y z c h1 h2 => ?_, fun y hy => ?_, fun y c h _ => (by cases h), fun _ => hr.hd, Around.frames_deeper e0.frames, .inr ⟨rfl, rfl⟩, fun b z => absurd z (noA b), e0.bs, e0.bsz, fun b _ _ => noA b, fun b z => absurd z (noA b), e0.funs, e0.frf⟩,
      rfl, e0.bare, Un.kept hk, ⟨_, hns, fun i y v h1 h2 h3 => ?_⟩, fun y c h => ?_, e0.hok.fresh (Nat.le_refl _), fun y c h => ?_, fun p hp => (by cases hp), e0.hok.kept hk, ?_⟩
    · rw [(cell_one h1).1, (cell_one h2).1]
    · have hy : (defScope st).names.lookup y = some .cell ∨ (defScope st).names.lookup y = some .free := hy
      rcases hy with hy | hy
      · exact absurd rfl (S.nocell _ (PySem.mem_of_lookup hy))
      · have e1 : y = "__class__" := S.free _ (PySem.mem_of_lookup hy) rfl
        rw [e1]
        exact ⟨cc, by show List.lookup ("__class__" : Str) [(("__class__" : Str), cc)] = _; rw [List.lookup_cons, beq_self_eq_true]⟩
    · have hi : i < vs.length := by
        unfold L2.start at h2
        by_cases hi : i < vs.length
        · exact hi
        · rw [List.getElem?_append_right (by simpa using hi), List.getElem?_replicate] at h2
          split at h2 <;> cases h2
      have ha : vs[i]? = some v := by
        unfold L2.start at h2
        rw [List.getElem?_append_left (by simpa using hi), List.getElem?_map] at h2
        cases e : vs[i]? with
        | none => rw [e] at h2; cases h2
        | some a => rw [e] at h2; cases h2; rfl
      obtain ⟨u, hu, rv⟩ := r.get ha
      have hp : ps[i]? = some y := by
        rw [← S.pre, List.getElem?_take_of_lt (by omega)]; exact h1
      exact ⟨u, rv, .inl ⟨S.par y (List.mem_of_getElem? hp), lookup_zip ndP hp hu⟩⟩
    · rw [(cell_one h).2]
      exact ⟨_, _, hk _ _ (e0.bs _ _ hccb).1, rfl⟩
    · rw [(cell_one h).2]
      exact (e0.bs _ _ hccb).2
    · unfold L2.start
      show _ = N.length
      rw [List.length_append, List.length_map, List.length_replicate]
      omega
  refine ks_wpAt_mono (ht.run [] _ (L2.start N vs) H _ I hq) (fun fl s' hs => ?_) fun e s' hs => hs
  have fin : ∀ {σ' : L2.St} {H' : Hp} {v : V} {u : Value}, Inv (cxS P w K mg base N qual (defScope st) f cda cc A outer s H E) [] σ' H' s' → RelV v u → Q v H' → CE outer P w H s Q u s' :=
    fun {σ' H' v u} J rv q => ⟨v, H', J.os, J.bare, J.base, J.hok, rv, q⟩
  cases fl with
  | ret u =>
    obtain ⟨v, σ', H', J, rv, q⟩ := hs
    exact fin J rv q
  | next =>
    obtain ⟨σ', H', J, q⟩ := hs
    exact fin (v := V.non) (u := Value.none) J rfl q
  | brk =>
    obtain ⟨_, _, _, q⟩ := hs
    exact False.elim q
  | cont =>
    obtain ⟨_, _, _, q⟩ := hs
    exact False.elim q
/-! ### super().__init__(text) of an exception -/
/-- the object of slot 0 is an exception that is being made -/
def tSupX (K : PySem.W.Frag) (C : Addr) : TS := fun D σ H => ∃ a, σ[0]? = some (some (.ref a)) ∧ OexC K C ∧ H a = some (exo a C none) ∧ D.nx σ H
variable {A : Around} {outer : List PySem.Env} {s0 : Shared} {H0 : Hp} {E : XK}
theorem ps_superX {D' : Addr} {m : Str} {j : Nat} {p0 p1 p2 p3 p4 p5 : Pos} {a0 : Str} {args0 : List Arg} (F : FunS K P x qual st f fd D cda cc) (S : ScS N ps (defScope st)) (hp : ((defArgs st).posonlyargs ++ (defArgs st).args).head?.map (·.arg) = some a0) (hN : N[0]? = some a0) (hl : (defScope st).names.lookup a0 = some .local)
    (hm : PySem.W.ks_superIn K D D "__init__" = some (some (.builtin "ValueError.__init__"))) (hB : PySem.W.subIn K (.ref D) (.type "ValueError") = some true) (hmro : PySem.W.mroIn K D (.ref D) = some true) {pl : Sem Bool}
    (he : ∀ env : PySem.Env, eval (.Call (.Attribute (.Call (.Name "super" p0) [] [] p1) "__init__" p2) [.Constant (.str m) j p3] [] p4) env = (do
      let ov ← attributeBase (.Call (.Name "super" p0) [] [] p1) "__init__" env (eval (.Call (.Name "super" p0) [] [] p1) env)
      standAt p2.atName
      let (f, first) ← holding [ov] (getMethod ov "__init__" pl)
      callWith p4 f first (backTo p4 (starEach [.Constant (.str m) j p3] env)) []) := by intro env; rfl) :
    PS1 (cxS P w K mg base N qual (defScope st) f cda cc A outer s0 H0 E) (.func (defBody st) (ksEnv qual (defScope st) s0.heap.objs.size f (.ref cda) cc))
      (.Expr (.Call (.Attribute (.Call (.Name "super" p0) [] [] p1) "__init__" p2) [.Constant (.str m) j p3] [] p4) p5) (tSupX K D) := by
  refine ⟨fun pins s σ H Dn I q => ?_⟩
  obtain ⟨a, hσ, T, ha, q⟩ := q
  revert F T ha hm hB hmro
  generalize D = C
  intro F hm hB hmro T ha
  obtain ⟨oc, od, kV, doc, pm, an, ct, osl, rfl, lk⟩ := F.ex
  obtain ⟨ccl, cdd, vs, ccs, file, tf, hcode, hvs, hfile⟩ := F.file
  obtain ⟨cl, cld, csl, hcell⟩ := F.cell
  obtain ⟨cdD, hD⟩ := Option.isSome_iff_exists.mp F.cls
  obtain ⟨nm, qn, N', bs, bm, sn, sub, ab, col, dd, k0, k1, k2, k3, k5, hC, hbm⟩ := T.cls
  have KX : K.In s.heap := I.kIn
  have hkk : (ksEnv qual (defScope st) s0.heap.objs.size f (.ref cda) cc).scope.kind = .function := S.kind
  refine ks_wpAt_Expr_any (ks_wpAt_MethodCall ?_ (he _)) I.quiet
  obtain ⟨mL, hnL, hlL⟩ := I.loc
  obtain ⟨u, ru, lk0⟩ := hlL 0 a0 (.ref a) hN hσ (.inl hl)
  obtain rfl : u = Value.ref a := ru
  have lk1 : mL a0 = some (.ref a) := by
    rcases lk0 with z | ⟨z, _⟩
    · exact z.2
    · exfalso
      have z' : (defScope st).names.lookup a0 = some .cell ∨ (defScope st).names.lookup a0 = some .free := z
      rw [hl] at z'
      rcases z' with z' | z' <;> cases z'
  obtain ⟨ar, har, hara⟩ : ∃ ar, ((defArgs st).posonlyargs ++ (defArgs st).args).head? = some ar ∧ ar.arg = a0 := by
    cases e : ((defArgs st).posonlyargs ++ (defArgs st).args).head? with
    | none => rw [e] at hp; cases hp
    | some ar => rw [e] at hp; exact ⟨ar, rfl, Option.some.inj hp⟩
  subst hara
  refine ks_wpAt_super_base (env := ksEnv qual (defScope st) s0.heap.objs.size f (.ref cda) cc) S.sup S.cla rfl rfl (KX _ _ lk) rfl har rfl (KX _ _ hcode) rfl hvs hfile F.top ?_
  obtain ⟨mb, hb1, hb2⟩ := I.mod.blt
  refine PySem.W.ks_loadName_global hkk S.sup (Calls.loadGlobal_builtin (I.mod.glob.keeps I.bk) (PySem.W.mg_none_of I.mod.kin I.mod.glob F.nosup) (hb1.keeps I.bk) ((hb2 _ (by decide)).trans (by decide +kernel)) ⟨rfl, ?_⟩)
  refine wpAny_loadName_free hkk S.cla (by show List.lookup ("__class__" : Str) [(("__class__" : Str), cc)] = _; rw [List.lookup_cons, beq_self_eq_true]) ⟨_, KX _ _ hcell, rfl⟩ ?_
  refine wpAny_loadName_local hkk hl hnL lk1 ?_
  obtain ⟨oD, hD1, hD2⟩ : ∃ oD, s.heap.get? C = some oD ∧ oD.data = .cls cdD := by
    unfold PySem.W.clsIn at hD
    split at hD
    · rename_i c d cd' sl' ho
      cases hD
      exact ⟨_, KX _ _ ho, rfl⟩
    · cases hD
  obtain ⟨t1, hox⟩ := exo_at I.hok ha
  obtain ⟨hh, g, d, t, os⟩ := s
  refine ks_wpAny_isType_cls hD1 hD2 ⟨rfl, ?_⟩
  refine ks_wpAny_call_super hD1 hD2 hox rfl (fun c e => by cases e) (PySem.W.looks_mroIn KX hmro) (fun h1 hso k1' => ?_)
  have J1 : Inv (cxS P w K mg base N qual (defScope st) f cda cc A outer s0 H0 E) pins σ H ⟨h1, g, d, t, os⟩ := I.kept (t' := t) k1'
  have KX1 : K.In h1 := J1.kIn
  have InstX : PySem.W.InstAt h1 a { cls := .ref C, dict := none, data := .fields #[.ref t1, .none, .none, .none, .bool false, .none] } C none := ⟨k1' _ _ hox, rfl, rfl, trivial⟩
  have hne : a ≠ C := fun z => by
    rw [z] at hox
    rw [hD1] at hox
    cases hox
    cases hD2
  unfold PySem.W.ks_superIn at hm
  rw [hD] at hm
  refine PySem.W.kxs_getMethod PySem.W.kxs_ValueError hso (PySem.W.looks_opaque KX1 F.nothird) (l₀ := cdD.mro) (fun A' Q' E' s' k q' => wpAny_bind ((PySem.W.looks_clsIn KX1 hD) A' _ E' s' k (wpAny_pure q'))) rfl KX1 hm (InstX.type.andThen (PySem.W.looks_subIn KX1 hB)) hne rfl ?_
  have k2 : ∀ b o, h1.get? b = some o → (h1.push (PySem.W.kxs_mw "ValueError.__init__" a)).get? b = some o := fun b o e => Heap.get?_push_of_some _ e
  have J2 : Inv (cxS P w K mg base N qual (defScope st) f cda cc A outer s0 H0 E) pins σ H ⟨h1.push (PySem.W.kxs_mw "ValueError.__init__" a), g, d, t + 1, os⟩ := J1.kept (t' := t + 1) k2
  have hu : (h1.push (PySem.W.kxs_mw "ValueError.__init__" a)).get? h1.objs.size = some (PySem.W.kxs_mw "ValueError.__init__" a) := Heap.get?_push_size _ rfl
  refine PySem.W.kxs_callWith (i := "ValueError.__init__") (x := a) (by rfl) ?_
  refine Calls.evalArgs_plain ?_
  show wpAny _ _ (spliced ((false, eval (.Constant (.str m) j p3) _) :: backTo p4 (starEach [] _))) _ _ _
  refine Calls.spliced_cons (Calls.Constant_str (Calls.spliced_nil ⟨hu, ?_⟩))
  have hox2 : (h1.push (PySem.W.kxs_mw "ValueError.__init__" a)).get? a = some ({ cls := .ref C, dict := none, data := .fields #[.ref t1, .none, .none, .none, .bool false, .none] } : Obj) := k2 _ _ (k1' _ _ hox)
  have J3 : Inv (cxS P w K mg base N qual (defScope st) f cda cc A outer s0 H0 E) pins σ H ⟨h1.push (PySem.W.kxs_mw "ValueError.__init__" a), g, d, t + 1 + 1, os⟩ := J2.tok _
  have hC2 := J3.kIn _ _ hC
  refine wpAny_call (codeAny_of_tree ?_)
  show wpAny _ (A.deeper _).in1 (callAny (.ref h1.objs.size) ⟨[.str m _], []⟩) _ _ _
  simp only [callAny]
  refine wpAny_bind (wpAny_load hu ?_)
  simp only [PySem.W.kxs_mw, show (Value.type "method-wrapper" == Value.type "method" || Value.type "method-wrapper" == Value.type "builtin_function_or_method" || Value.type "method-wrapper" == Value.type "method-wrapper") = true by decide, if_true]
  refine PySem.W.KFB.if_so (by decide) ?_
  refine wpAny_bind (PySem.W.check_bound_init PySem.F.excBase_ValueError.toExcCallFacts hC2 hox2 rfl ?_)
  refine wpAny_bind (wpAny_pure (wpAny_pure ?_))
  refine ⟨plainId_quiet PySem.F.excBase_ValueError.init.plain _, codeAny_builtin PySem.F.excBase_ValueError.initEntry ?_⟩
  refine PySem.W.exc_init_tree (cls := .ref C) (t0 := t1) (dv := none) (c2 := .none) (c3 := .none) (b4 := .bool false) hox2 (by show 1 ≤ sizeLine; rw [sizeLine_eq]; omega) fun h' k3 e3 t3 => ?_
  have J4 := J3.write (t' := t + 1 + 1) (x := a) (e := a) (o := exo a C none) (by rw [ha]; exact True.intro) (.inl rfl) k3 ⟨_, e3⟩ (exo_ok e3)
  have eu : upd H a (exo a C none) = H := by
    funext b
    by_cases hb : b = a
    · rw [hb, upd_same, ha]
    · rw [upd_ne hb]
  rw [eu] at J4
  exact ⟨σ, H, J4, q⟩
end
end Dl

/-! reading and function in one: the rules that a printer uses -/
namespace Dl
open PySem PySem.Spec PyProof.Rows L2
abbrev KM (X : Cx) (K : PySem.W.Frag) (mg : MG) : Prop := X.K = K ∧ X.mg = mg.f
section
variable (K : PySem.W.Frag) (mg : MG) (X : Cx) (W : WX)
structure JE (e : Expr) (t : TE) (d : DE) : Prop where
  k : KM X K mg
  p : PE X e t
  s : SE K mg W t d
structure JT (e : Expr) (t : TT) (d : DT) : Prop where
  k : KM X K mg
  p : PT X e t
  s : STe K mg W t d
structure JW (e : Expr) (t : TT) (d : DT) : Prop where
  k : KM X K mg
  p : PW X e t
  s : STe K mg W t d
structure JA (es : List Expr) (t : TA) (d : DA) : Prop where
  k : KM X K mg
  p : PA X es t
  s : SA K mg W t d
structure JO (e : Option Expr) (t : TO) (d : DO) : Prop where
  k : KM X K mg
  p : PO X e t
  s : SPo K mg W t d
structure JG (e : Expr) (t : TG) (d : DG) : Prop where
  k : KM X K mg
  p : PG X e t
  s : SG K mg t d
structure JGs (e : List Expr) (t : TGs) (d : List DG) : Prop where
  k : KM X K mg
  p : PGs X e t
  s : SGs K mg t d
structure JI (tg e : Expr) (t : TI) (d : DI) : Prop where
  k : KM X K mg
  p : PI X tg e t
  s : SI K mg W t d
structure J1 (st : Stmt) (t : TS) (d : DS) : Prop where
  k : KM X K mg
  p : PS X st t
  s : SS K mg W t d
structure JS (st : List Stmt) (t : TS) (d : DS) : Prop where
  k : KM X K mg
  p : PSs X st t
  s : SS K mg W t d
structure JR (e : Expr) (t : L2.St → Hp → (Int → Int → Hp → Prop) → Prop) (d : En → Sto → R (Int × Int)) : Prop where
  k : KM X K mg
  p : PRg X e t
  s : SRg K mg W t d
structure JTs (es : List Expr) (t : TT) (d : DT) : Prop where
  k : KM X K mg
  p : PTs X es t
  s : STe K mg W t d
end
/-- scalars as values -/
def vD : D → V
  | .non => .non
  | .bl b => .bl b
  | .int i => .int i
  | .str s => .str (mkS s)
  | _ => .non
section
variable {K : PySem.W.Frag} {mg : MG} {X : Cx} {W : WX} {a b c e : Expr} {es : List Expr} {ta tb tc te : TE} {da db dc de : DE} {tl : TA} {dl : DA} {tt tu : TT} {dt du : DT} {pos p p' pos' : Pos} {x : Str}
/-! ### expressions -/
theorem j_var {i : Nat} (hN : X.N[i]? = some x) (hv : Vis X.env.scope x) (hd : (x == ("__debug__" : Str)) = false := by decide) (hcd : (x == ("__classdict__" : Str)) = false := by decide) (k : KM X K mg := by exact ⟨rfl, rfl⟩) : JE K mg X W (.Name x pos) (tVar i) (dVar i) := ⟨k, pe_var hN hv hd hcd, se_var⟩
theorem j_int {i : Int} {j : Nat} (k : KM X K mg := by exact ⟨rfl, rfl⟩) : JE K mg X W (.Constant (.int i) j pos) (tC (.int i)) (dC (.int i)) := ⟨k, pe_int, se_c fun _ => rfl⟩
theorem j_bl {i : Bool} {j : Nat} (k : KM X K mg := by exact ⟨rfl, rfl⟩) : JE K mg X W (.Constant (.bool i) j pos) (tC (.bl i)) (dC (.bl i)) := ⟨k, pe_bl, se_c fun _ => rfl⟩
theorem j_non {j : Nat} (k : KM X K mg := by exact ⟨rfl, rfl⟩) : JE K mg X W (.Constant .none j pos) (tC .non) (dC .non) := ⟨k, pe_non, se_c fun _ => rfl⟩
theorem j_str {i : Str} {s : Cs} {j : Nat} (h : i.cps.toList = s) (k : KM X K mg := by exact ⟨rfl, rfl⟩) : JE K mg X W (.Constant (.str i) j pos) (tC (.str i)) (dC (.str s)) := ⟨k, pe_str, se_c fun _ => by subst h; rfl⟩
theorem j_ty {n : String} (hg : Gl X x) (hm : mg.f x = none) (hv : bootBuiltins x = some (.type n)) (hn : x ≠ "__name__" := by decide) (hd : (x == ("__debug__" : Str)) = false := by decide) (k : KM X K mg := by exact ⟨rfl, rfl⟩) : JE K mg X W (.Name x pos) (tC (.ty n)) (dC (.ty n)) := ⟨k, pe_bltn hg (by rw [k.2]; exact hm) hv rfl hn hd, se_c fun _ => rfl⟩
/-- a constant of the text -/
structure CG (mg : Str → Option Value) (x : Str) (d : D) : Prop where
  u : ∃ u, mg x = some u ∧ RelV (vD d) u
  r : ∀ K G, Rep K mg G d (vD d)
theorem j_cg {d : D} (c : CG mg.f x d) (hg : Gl X x) (hd : (x == ("__debug__" : Str)) = false := by decide) (k : KM X K mg := by exact ⟨rfl, rfl⟩) : JE K mg X W (.Name x pos) (tC (vD d)) (dC d) := by
  obtain ⟨u, h1, h2⟩ := c.u
  exact ⟨k, pe_glob hg (by rw [k.2]; exact h1) h2 hd, se_c fun G => c.r _ G⟩
theorem j_op {op : Operator} {r : R2} {g : G2} (ho : OpR X (binaryOp op) r) (so : SO K mg W r g) (ha : JE K mg X W a ta da) (hb : JE K mg X W b tb db) : JE K mg X W (.BinOp a op b pos) (tOp r ta tb) (dOp g da db) := ⟨ha.k, pe_op ho ha.p hb.p, se_op so ha.s hb.s⟩
theorem j_add (ha : JE K mg X W a ta da) (hb : JE K mg X W b tb db) : JE K mg X W (.BinOp a .Add b pos) (tOp (rAddA K) ta tb) (dOp gAdd da db) := ⟨ha.k, pe_op (by rw [← ha.k.1]; exact op_addA) ha.p hb.p, se_op so_add ha.s hb.s⟩
theorem j_mul (ha : JE K mg X W a ta da) (hb : JE K mg X W b tb db) : JE K mg X W (.BinOp a .Mult b pos) (tOp rMulA ta tb) (dOp gMul da db) := ⟨ha.k, pe_op op_mulA ha.p hb.p, se_op so_mul ha.s hb.s⟩
def dUn (g : Sto → E → R E) (d : DE) : DE := fun E S => (d E S).bind fun x S1 => g S1 x
def gNeg : Sto → E → R E := fun S x => match asI x with
  | some i => .ok (.d (.int (-i))) S
  | none => .no
theorem j_neg (ha : JE K mg X W a ta da) : JE K mg X W (.UnaryOp .USub a pos) (tUn (fun x H Q => ∃ i, x = .int i ∧ Q (.int (-i)) H) ta) (dUn gNeg da) := ⟨ha.k, pe_un un_neg ha.p, fun G α H S E σ Q l rv p =>
  ha.s G α H S E σ _ l rv (pst.bind p fun v e S1 G1 α1 H1 s1 l1 r1 p1 => by
    unfold gNeg at p1
    split at p1
    · rename_i i hi
      exact ⟨i, asI_ok hi r1, p1.here l1 (rfl : V.int _ = _)⟩
    · exact p1.elim)⟩
theorem j_cmp {op : CmpOp} {r : R2} {g : G2} (ho : OpR X (compareOp op) r) (so : SO K mg W r g) (ha : JE K mg X W a ta da) (hb : JE K mg X W b tb db) (hm : behindInMarks op b = false := by first | exact nomark _ | with_unfolding_all rfl) : JE K mg X W (.Compare a [op] [b] pos) (tOp r ta tb) (dOp g da db) := ⟨ha.k, pe_cmpR ho ha.p hb.p hm, se_op so ha.s hb.s⟩
theorem jt_cmp {op : CmpOp} {r : R2} {g : G2} (ho : OpR X (compareOp op) r) (so : SO K mg W r g) (ha : JE K mg X W a ta da) (hb : JE K mg X W b tb db) (hm : behindInMarks op b = false := by first | exact nomark _ | with_unfolding_all rfl) : JT K mg X W (.Compare a [op] [b] pos) (tTest (tOp r ta tb)) (dB (dOp g da db)) := ⟨ha.k, pt_cmpR ho ha.p hb.p hm, st_test (se_op so ha.s hb.s)⟩
theorem j_eq (hu : X.A.units + 64 < cLine) (ha : JE K mg X W a ta da) (hb : JE K mg X W b tb db) : JE K mg X W (.Compare a [.Eq] [b] pos) (tOp (rEqA K) ta tb) (dOp gEq da db) := ⟨ha.k, pe_cmpR (by rw [← ha.k.1]; exact op_eqA hu) ha.p hb.p (nomark _), se_op so_eq ha.s hb.s⟩
theorem jt_eq (hu : X.A.units + 64 < cLine) (ha : JE K mg X W a ta da) (hb : JE K mg X W b tb db) : JT K mg X W (.Compare a [.Eq] [b] pos) (tTest (tOp (rEqA K) ta tb)) (dB (dOp gEq da db)) := ⟨ha.k, pt_cmpR (by rw [← ha.k.1]; exact op_eqA hu) ha.p hb.p (nomark _), st_test (se_op so_eq ha.s hb.s)⟩
theorem j_ne (hu : X.A.units + 64 < cLine) (ha : JE K mg X W a ta da) (hb : JE K mg X W b tb db) : JE K mg X W (.Compare a [.NotEq] [b] pos) (tOp (rNeA K) ta tb) (dOp gNe da db) := ⟨ha.k, pe_cmpR (by rw [← ha.k.1]; exact op_neA hu) ha.p hb.p (nomark _), se_op so_ne ha.s hb.s⟩
theorem jt_ne (hu : X.A.units + 64 < cLine) (ha : JE K mg X W a ta da) (hb : JE K mg X W b tb db) : JT K mg X W (.Compare a [.NotEq] [b] pos) (tTest (tOp (rNeA K) ta tb)) (dB (dOp gNe da db)) := ⟨ha.k, pt_cmpR (by rw [← ha.k.1]; exact op_neA hu) ha.p hb.p (nomark _), st_test (se_op so_ne ha.s hb.s)⟩
theorem j_in (ha : JE K mg X W a ta da) (hb : JE K mg X W b tb db) (hm : behindInMarks .In b = false := by with_unfolding_all rfl) : JE K mg X W (.Compare a [.In] [b] pos) (tOp (rInA K) ta tb) (dOp gIn da db) := ⟨ha.k, pe_cmpR (by rw [← ha.k.1]; exact op_inA) ha.p hb.p hm, se_op so_in ha.s hb.s⟩
theorem jt_in (ha : JE K mg X W a ta da) (hb : JE K mg X W b tb db) (hm : behindInMarks .In b = false := by with_unfolding_all rfl) : JT K mg X W (.Compare a [.In] [b] pos) (tTest (tOp (rInA K) ta tb)) (dB (dOp gIn da db)) := ⟨ha.k, pt_cmpR (by rw [← ha.k.1]; exact op_inA) ha.p hb.p hm, st_test (se_op so_in ha.s hb.s)⟩
theorem j_nin (ha : JE K mg X W a ta da) (hb : JE K mg X W b tb db) (hm : behindInMarks .NotIn b = false := by with_unfolding_all rfl) : JE K mg X W (.Compare a [.NotIn] [b] pos) (tOp (rNotInA K) ta tb) (dOp gNotIn da db) := ⟨ha.k, pe_cmpR (by rw [← ha.k.1]; exact op_notInA) ha.p hb.p hm, se_op so_notIn ha.s hb.s⟩
theorem jt_nin (ha : JE K mg X W a ta da) (hb : JE K mg X W b tb db) (hm : behindInMarks .NotIn b = false := by with_unfolding_all rfl) : JT K mg X W (.Compare a [.NotIn] [b] pos) (tTest (tOp (rNotInA K) ta tb)) (dB (dOp gNotIn da db)) := ⟨ha.k, pt_cmpR (by rw [← ha.k.1]; exact op_notInA) ha.p hb.p hm, st_test (se_op so_notIn ha.s hb.s)⟩
theorem jt_val (h : JE K mg X W e te de) (he : ∀ whole, isTrue e X.env whole = (do let v ← whole; standAt e.pos; holding [v] (truthy v)) := by intro _; rfl) : JT K mg X W e (tB te) (dB de) := ⟨h.k, pt_val h.p he, st_B h.s⟩
theorem jt_tru (h : JE K mg X W e te de) (he : ∀ whole, isTrue e X.env whole = (do let v ← whole; standAt e.pos; holding [v] (truthy v)) := by intro _; rfl) : JT K mg X W e (fun σ H Q => te σ H fun x H' => ∃ k, TruV K x H' k ∧ Q k H') (dTru de) := ⟨h.k, by rw [← h.k.1]; exact pt_truth h.p he, st_tru h.s⟩
theorem jt_not (h : JT K mg X W e tt dt) : JT K mg X W (.UnaryOp .Not e pos) (tNot tt) (dNot dt) := ⟨h.k, pt_not h.p, st_not h.s⟩
theorem jw_and1 (h : JT K mg X W e tt dt) : JW K mg X W (.BoolOp .And [e] pos) tt dt := ⟨h.k, pw_and1 h.p, h.s⟩
theorem jw_or1 (h : JT K mg X W e tt dt) : JW K mg X W (.BoolOp .Or [e] pos) tt dt := ⟨h.k, pw_or1 h.p, h.s⟩
theorem jw_and (h : JT K mg X W e tt dt) (k : JW K mg X W (.BoolOp .And (b :: es) pos) tu du) : JW K mg X W (.BoolOp .And (e :: b :: es) pos) (tAnd tt tu) (dAnd dt du) := ⟨h.k, pw_and h.p k.p, st_and h.s k.s⟩
theorem jw_or (h : JT K mg X W e tt dt) (k : JW K mg X W (.BoolOp .Or (b :: es) pos) tu du) : JW K mg X W (.BoolOp .Or (e :: b :: es) pos) (tOr tt tu) (dOr dt du) := ⟨h.k, pw_or h.p k.p, st_or h.s k.s⟩
theorem jt_w (h : JW K mg X W e tt dt) : JT K mg X W e tt dt := ⟨h.k, h.p.pt, h.s⟩
theorem j_one {op : BoolOp} (h : JE K mg X W e te de) : JE K mg X W (.BoolOp op [e] pos) te de := ⟨h.k, pe_one h.p, h.s⟩
theorem j_and (h : JE K mg X W a ta da) (k : JE K mg X W (.BoolOp .And (b :: es) pos) tb db) : JE K mg X W (.BoolOp .And (a :: b :: es) pos) (tAndV ta tb) (dAndV da db) := ⟨h.k, pe_and h.p k.p, se_andV h.s k.s⟩
theorem j_or (h : JE K mg X W a ta da) (k : JE K mg X W (.BoolOp .Or (b :: es) pos) tb db) : JE K mg X W (.BoolOp .Or (a :: b :: es) pos) (tOrV ta tb) (dOrV da db) := ⟨h.k, pe_or h.p k.p, se_orV h.s k.s⟩
theorem j_not (h : JE K mg X W a ta da) : JE K mg X W (.UnaryOp .Not a pos) (tNotV ta) (dNotV da) := ⟨h.k, pe_not h.p, se_notV h.s⟩
theorem j_if (h : JT K mg X W c tt dt) (ha : JE K mg X W a ta da) (hb : JE K mg X W b tb db) : JE K mg X W (.IfExp c a b pos) (tIf tt ta tb) (dIf dt da db) := ⟨h.k, pe_ifExp h.p ha.p hb.p, se_if h.s ha.s hb.s⟩
theorem j_ix (ha : JE K mg X W a ta da) (hb : JE K mg X W b tb db) (hs : PlainIx b := by intro _ _; rfl) : JE K mg X W (.Subscript a b pos) (tOp (rIxA K) ta tb) (dOp gIx da db) := ⟨ha.k, pe_ix (by rw [← ha.k.1]; exact ix_A) ha.p hb.p hs, se_op so_ix ha.s hb.s⟩
theorem jo_none (k : KM X K mg := by exact ⟨rfl, rfl⟩) : JO K mg X W none tNoPart dNoPart := ⟨k, po_none, sp_none⟩
theorem jo_some (h : JE K mg X W e te de) : JO K mg X W (some e) (tPart te) (dPart de) := ⟨h.k, po_some h.p, sp_some h.s⟩
theorem j_sl {lo hi : Option Expr} {t1 t2 : TO} {d1 d2 : DO} {p2 : Pos} (h : JE K mg X W e te de) (h1 : JO K mg X W lo t1 d1) (h2 : JO K mg X W hi t2 d2) : JE K mg X W (.Subscript e (.Slice lo hi none p2) pos) (tSl (rSlP K) te t1 t2) (dSl de d1 d2) := ⟨h.k, pe_slice (by rw [← h.k.1]; exact sl_P) h.p h1.p h2.p, se_sl h.s h1.s h2.s⟩
theorem ja_nil (k : KM X K mg := by exact ⟨rfl, rfl⟩) : JA K mg X W [] tNil dNil := ⟨k, pa_nil, sa_nil⟩
theorem ja_cons (h : JE K mg X W e te de) (k : JA K mg X W es tl dl) (hs : starEach (e :: es) X.env = (false, eval e X.env) :: starEach es X.env := by rfl) : JA K mg X W (e :: es) (tCons te tl) (dCons de dl) := ⟨h.k, pa_cons h.p k.p hs, sa_cons h.s k.s⟩
theorem j_lst (h : JA K mg X W es tl dl) : JE K mg X W (.List es pos) (tLst tl) (dLst dl) := ⟨h.k, pe_lst h.p, se_lst h.s⟩
theorem j_tup {x1 : Nat} (h : JA K mg X W es tl dl) : JE K mg X W (.Tuple es x1 pos) (tTup tl) (dTup dl) := ⟨h.k, pe_tup h.p, se_tup h.s⟩
/-! ### built-ins -/
theorem j_cb {id : String} {r : List V → Hp → VK → Prop} {g : GA} (hc : CallR X (.builtin id) r) (sc : SC K mg W r g) (hg : Gl X x) (hm : mg.f x = none) (hv : bootBuiltins x = some (.builtin id)) (ha : JA K mg X W (e :: es) tl dl) (hn : x ≠ "__name__") (hdb : (x == ("__debug__" : Str)) = false)
    (he : starEach (e :: es) X.env = (false, eval e X.env) :: starEach es X.env) (hpl : (backTo pos (starEach es X.env)).any (·.1) = false) : JE K mg X W (.Call (.Name x p) (e :: es) [] pos) (tCB r tl) (dCB g dl) := ⟨ha.k, pe_callB hc hg (by rw [ha.k.2]; exact hm) hv ha.p hn hdb he hpl, se_cb sc ha.s⟩
theorem j_ct {T : String} {r : List V → Hp → VK → Prop} {g : GA} (hc : CallR X (.type T) r) (sc : SC K mg W r g) (hg : Gl X x) (hm : mg.f x = none) (hv : bootBuiltins x = some (.type T)) (ha : JA K mg X W (e :: es) tl dl) (hn : x ≠ "__name__") (hdb : (x == ("__debug__" : Str)) = false)
    (he : starEach (e :: es) X.env = (false, eval e X.env) :: starEach es X.env) (hpl : (backTo pos (starEach es X.env)).any (·.1) = false) : JE K mg X W (.Call (.Name x p) (e :: es) [] pos) (tCB r tl) (dCB g dl) := ⟨ha.k, pe_callTy hc hg (by rw [ha.k.2]; exact hm) hv ha.p hn hdb he hpl, se_cb sc ha.s⟩
theorem j_len (hg : Gl X "len") (hm : mg.f "len" = none) (ha : JA K mg X W (e :: es) tl dl) (he : starEach (e :: es) X.env = (false, eval e X.env) :: starEach es X.env := by rfl) (hpl : (backTo pos (starEach es X.env)).any (·.1) = false := by rfl) :
    JE K mg X W (.Call (.Name "len" p) (e :: es) [] pos) (tCB (fun xs H Q => ∃ x n, xs = [x] ∧ LenV K x H n ∧ Q (.int n) H) tl) (dCB gLen dl) := j_cb (by rw [← ha.k.1]; exact call_len) sc_len hg hm boot_len ha (by decide) (by decide) he hpl
theorem j_min (hc : X.calm = true) (hg : Gl X "min") (hm : mg.f "min" = none) (ha : JA K mg X W (e :: es) tl dl) (he : starEach (e :: es) X.env = (false, eval e X.env) :: starEach es X.env := by rfl) (hpl : (backTo pos (starEach es X.env)).any (·.1) = false := by rfl) :
    JE K mg X W (.Call (.Name "min" p) (e :: es) [] pos) (tCB (rMinA K) tl) (dCB gMin dl) := j_cb (by rw [← ha.k.1]; exact (call_minA hc)) sc_min hg hm boot_min ha (by decide) (by decide) he hpl
theorem j_max (hc : X.calm = true) (hg : Gl X "max") (hm : mg.f "max" = none) (ha : JA K mg X W (e :: es) tl dl) (he : starEach (e :: es) X.env = (false, eval e X.env) :: starEach es X.env := by rfl) (hpl : (backTo pos (starEach es X.env)).any (·.1) = false := by rfl) :
    JE K mg X W (.Call (.Name "max" p) (e :: es) [] pos) (tCB (rMaxA K) tl) (dCB gMax dl) := j_cb (by rw [← ha.k.1]; exact (call_maxA hc)) sc_max hg hm boot_max ha (by decide) (by decide) he hpl
theorem j_sum (hc : X.calm = true) (hg : Gl X "sum") (hm : mg.f "sum" = none) (ha : JA K mg X W (e :: es) tl dl) (he : starEach (e :: es) X.env = (false, eval e X.env) :: starEach es X.env := by rfl) (hpl : (backTo pos (starEach es X.env)).any (·.1) = false := by rfl) :
    JE K mg X W (.Call (.Name "sum" p) (e :: es) [] pos) (tCB (rSum K) tl) (dCB (gLI List.sum) dl) := j_cb (by rw [← ha.k.1]; exact (cr_sum hc)) sc_sum hg hm boot_sum ha (by decide) (by decide) he hpl
theorem j_isinstance (hg : Gl X "isinstance") (hm : mg.f "isinstance" = none) (ha : JA K mg X W (e :: es) tl dl) (he : starEach (e :: es) X.env = (false, eval e X.env) :: starEach es X.env := by rfl) (hpl : (backTo pos (starEach es X.env)).any (·.1) = false := by rfl) :
    JE K mg X W (.Call (.Name "isinstance" p) (e :: es) [] pos) (tCB (rIsi K) tl) (dCB gIsi dl) := j_cb (by rw [← ha.k.1]; exact call_isi) sc_isi hg hm boot_isinstance ha (by decide) (by decide) he hpl
theorem jc_int (hg : Gl X "int") (hm : mg.f "int" = none) (ha : JA K mg X W (e :: es) tl dl) (he : starEach (e :: es) X.env = (false, eval e X.env) :: starEach es X.env := by rfl) (hpl : (backTo pos (starEach es X.env)).any (·.1) = false := by rfl) :
    JE K mg X W (.Call (.Name "int" p) (e :: es) [] pos) (tCB (fun xs H Q => (∃ i, xs = [.int i] ∧ Q (.int i) H) ∨ ∃ k, xs = [.bl k] ∧ Q (.int (if k then 1 else 0)) H) tl) (dCB gInt dl) := j_ct call_int1 sc_int hg hm boot_int ha (by decide) (by decide) he hpl
theorem jc_list (hg : Gl X "list") (hm : mg.f "list" = none) (ha : JA K mg X W (e :: es) tl dl) (he : starEach (e :: es) X.env = (false, eval e X.env) :: starEach es X.env := by rfl) (hpl : (backTo pos (starEach es X.env)).any (·.1) = false := by rfl) :
    JE K mg X W (.Call (.Name "list" p) (e :: es) [] pos) (tCB (fun xs H Q => ∃ p ys, xs = [.ref p] ∧ (SqL K H p ys ∨ SqT K H p ys) ∧ ∀ l, H l = none → Q (.ref l) (upd H l (.lst ys))) tl) (dCB gList dl) := j_ct (by rw [← ha.k.1]; exact call_list_of) sc_list hg hm boot_list ha (by decide) (by decide) he hpl
theorem jc_tuple (hg : Gl X "tuple") (hm : mg.f "tuple" = none) (ha : JA K mg X W (e :: es) tl dl) (he : starEach (e :: es) X.env = (false, eval e X.env) :: starEach es X.env := by rfl) (hpl : (backTo pos (starEach es X.env)).any (·.1) = false := by rfl) :
    JE K mg X W (.Call (.Name "tuple" p) (e :: es) [] pos) (tCB (fun xs H Q => ∃ p ys, xs = [.ref p] ∧ ((SqL K H p ys ∧ ∀ l, H l = none → Q (.ref l) (upd H l (.tup ys))) ∨ (SqT K H p ys ∧ Q (.ref p) H))) tl) (dCB gTuple dl) := j_ct (by rw [← ha.k.1]; exact call_tuple_of) sc_tuple hg hm boot_tuple ha (by decide) (by decide) he hpl
theorem jr_1 (hg : Gl X "range") (hm : mg.f "range" = none) (h : JE K mg X W a ta da) (na : starEach [a] X.env = (false, eval a X.env) :: starEach [] X.env := by rfl) : JR K mg X W (.Call (.Name "range" p) [a] [] pos) (tRg1 ta) (dRg1 da) := ⟨h.k, prg_1 hg (by rw [h.k.2]; exact hm) h.p na, sr_1 h.s⟩
theorem j_listRg {t : L2.St → Hp → (Int → Int → Hp → Prop) → Prop} {d : En → Sto → R (Int × Int)} (hc : X.calm = true) (hg : Gl X "list") (hm : mg.f "list" = none) (h : JR K mg X W e t d) (na : starEach [e] X.env = (false, eval e X.env) :: starEach [] X.env := by rfl) :
    JE K mg X W (.Call (.Name "list" p) [e] [] pos) (tLstRg t) (dLstRg d) := ⟨h.k, pe_listRg hc hg (by rw [h.k.2]; exact hm) h.p na, se_lstRg h.s⟩
theorem jm_append {o : Expr} (ho : JE K mg X W o ta da) (ha : JA K mg X W (e :: es) tl dl) (hbase : attributeBase o "append" X.env (eval o X.env) = eval o X.env := by rfl)
    (hfew : ((backTo pos (starEach (e :: es) X.env)).all (fun x => !x.1) && (backToKw pos (keywordEach [] X.env)).all (fun x => x.1.isSome)
      && decide ((e :: es).length + ([] : List Keyword).length + (if ([] : List Keyword).isEmpty then 0 else 1) < 30)) = true := by rfl)
    (hline : (p.endLine == pos.line) = true := by rfl) (hs : starEach (e :: es) X.env = (false, eval e X.env) :: starEach es X.env := by rfl) (hplain : (backTo pos (starEach es X.env)).any (·.1) = false := by rfl) :
    JE K mg X W (.Call (.Attribute o "append" p) (e :: es) [] pos) (tBM K "list" rAppend ta tl) (dBM "list" gAppend da dl) := ⟨ho.k, by rw [← ho.k.1]; exact pe_bm PySem.F.plainAttrs_list PySem.F.slot_list_append PySem.F.type_list_append mt_append ho.p ha.p hbase hfew hline hs hplain, se_bm sm_append ho.s ha.s⟩
theorem jm_extend {o : Expr} (ho : JE K mg X W o ta da) (ha : JA K mg X W (e :: es) tl dl) (hbase : attributeBase o "extend" X.env (eval o X.env) = eval o X.env := by rfl)
    (hfew : ((backTo pos (starEach (e :: es) X.env)).all (fun x => !x.1) && (backToKw pos (keywordEach [] X.env)).all (fun x => x.1.isSome)
      && decide ((e :: es).length + ([] : List Keyword).length + (if ([] : List Keyword).isEmpty then 0 else 1) < 30)) = true := by rfl)
    (hline : (p.endLine == pos.line) = true := by rfl) (hs : starEach (e :: es) X.env = (false, eval e X.env) :: starEach es X.env := by rfl) (hplain : (backTo pos (starEach es X.env)).any (·.1) = false := by rfl) :
    JE K mg X W (.Call (.Attribute o "extend" p) (e :: es) [] pos) (tBM K "list" rExtend ta tl) (dBM "list" gExtend da dl) := ⟨ho.k, by rw [← ho.k.1]; exact pe_bm PySem.F.plainAttrs_list PySem.F.slot_list_extend PySem.F.type_list_extend mt_extend ho.p ha.p hbase hfew hline hs hplain, se_bm sm_extend ho.s ha.s⟩
theorem jm_pop {o : Expr} (ho : JE K mg X W o ta da) (ha : JA K mg X W (e :: es) tl dl) (hbase : attributeBase o "pop" X.env (eval o X.env) = eval o X.env := by rfl)
    (hfew : ((backTo pos (starEach (e :: es) X.env)).all (fun x => !x.1) && (backToKw pos (keywordEach [] X.env)).all (fun x => x.1.isSome)
      && decide ((e :: es).length + ([] : List Keyword).length + (if ([] : List Keyword).isEmpty then 0 else 1) < 30)) = true := by rfl)
    (hline : (p.endLine == pos.line) = true := by rfl) (hs : starEach (e :: es) X.env = (false, eval e X.env) :: starEach es X.env := by rfl) (hplain : (backTo pos (starEach es X.env)).any (·.1) = false := by rfl) :
    JE K mg X W (.Call (.Attribute o "pop" p) (e :: es) [] pos) (tBM K "list" rPop ta tl) (dBM "list" gPop da dl) := ⟨ho.k, by rw [← ho.k.1]; exact pe_bm PySem.F.plainAttrs_list PySem.F.slot_list_pop PySem.F.type_list_pop mt_pop ho.p ha.p hbase hfew hline hs hplain, se_bm sm_pop ho.s ha.s⟩
theorem jm_join {o : Expr} (ho : JE K mg X W o ta da) (ha : JA K mg X W (e :: es) tl dl) (hbase : attributeBase o "join" X.env (eval o X.env) = eval o X.env := by rfl)
    (hfew : ((backTo pos (starEach (e :: es) X.env)).all (fun x => !x.1) && (backToKw pos (keywordEach [] X.env)).all (fun x => x.1.isSome)
      && decide ((e :: es).length + ([] : List Keyword).length + (if ([] : List Keyword).isEmpty then 0 else 1) < 30)) = true := by rfl)
    (hline : (p.endLine == pos.line) = true := by rfl) (hs : starEach (e :: es) X.env = (false, eval e X.env) :: starEach es X.env := by rfl) (hplain : (backTo pos (starEach es X.env)).any (·.1) = false := by rfl) :
    JE K mg X W (.Call (.Attribute o "join" p) (e :: es) [] pos) (tBM K "str" (fun x xs H Q => ∃ a p, ∃ ys : List Str, x = .str a ∧ xs = [.ref p] ∧ (SqL K H p (ys.map V.str) ∨ SqT K H p (ys.map V.str)) ∧ (ys.map (·.length)).sum + ys.length * a.length ≤ 16777216 ∧ Q (.str (Txt.join a ys)) H) ta tl) (dBM "str" gJoin da dl) := ⟨ho.k, by rw [← ho.k.1]; exact pe_bm PySem.F.plainAttrs_str PySem.F.slot_str_join PySem.F.type_str_join mt_join ho.p ha.p hbase hfew hline hs hplain, se_bm sm_join ho.s ha.s⟩
theorem jm_pop0 {o : Expr} (ho : JE K mg X W o ta da) (hbase : attributeBase o "pop" X.env (eval o X.env) = eval o X.env := by rfl) (hline : (p.endLine == pos.line) = true := by rfl) : JE K mg X W (.Call (.Attribute o "pop" p) [] [] pos) (tBM0 K "list" rPop ta) (dBM "list" gPop da dNil) := ⟨ho.k, by rw [← ho.k.1]; exact pe_bm0 PySem.F.plainAttrs_list PySem.F.slot_list_pop PySem.F.type_list_pop mt_pop ho.p hbase hline, se_bm0 sm_pop ho.s⟩
/-! ### calls of the program's own defs -/
structure Ok (P : Program) (w : World) (K : PySem.W.Frag) (mg : Str → Option Value) (base : Heap) (k : Nat) (x : Str) (n : Nat) (M : List D → MR) (dv : List D) : Prop where
  ex : ∃ f fd ps ds, FnOk P w K mg base (L2.CX P w) k f fd ps (spM K mg n M) ∧ mg x = some (.ref f) ∧ PySem.W.keepIn K (.ref f) = true ∧ Binds K fd ps ds ∧ Vals (dv.map vD) ds
  hd : ∀ G, Reps K mg G dv (dv.map vD)
  hn : ∀ ds, (match M ds with | .no => False | _ => True) → ds.length = n
theorem j_call {P : Program} {w : World} {base : Heap} {k j n : Nat} {M : List D → MR} {dv : List D} (c : Ok P w K mg.f base k x n M dv) (hr : Room j X.A) (hk : k ≤ j) (tk : Takes X W) (hg : Gl X x) (ha : JA K mg X W (e :: es) tl dl) (hdb : (x == ("__debug__" : Str)) = false := by decide)
    (he : starEach (e :: es) X.env = (false, eval e X.env) :: starEach es X.env := by rfl) (hpl : (backTo pos (starEach es X.env)).any (·.1) = false := by rfl) (hX : X.prog = P ∧ X.w = w ∧ X.base = base := by exact ⟨rfl, rfl, rfl⟩) :
    JE K mg X W (.Call (.Name x p) (e :: es) [] pos) (tCallSD (spM K mg.f n M) (dv.map vD) (WE W) tl) (dCall M dv dl) := by
  obtain ⟨rfl, rfl, rfl⟩ := hX
  obtain ⟨⟨rfl, em⟩, ap, as⟩ := ha
  cases mg with
  | mk mf xe =>
  have em' : X.mg = mf := em
  subst em'
  obtain ⟨f, fd, ps, ds, F, hm, hkp, hb, hv⟩ := c.ex
  exact ⟨⟨rfl, rfl⟩, pe_callSD F (hr.mono hk) hg hm hkp hb hv (fun σ => passAt tk σ) ap hdb he hpl, se_call c.hd c.hn as⟩
/-! ### statements -/
variable {t u : TS} {s s' : DS} {st : Stmt} {sts : List Stmt} {tg : Expr} {g : TG} {dg : DG} {gs : TGs} {dgs : List DG} {wi : TI} {di : DI}
theorem js_nil (k : KM X K mg := by exact ⟨rfl, rfl⟩) : JS K mg X W [] tNext sNext := ⟨k, pss_nil, ss_next⟩
theorem js_cons (h : J1 K mg X W st t s) (k : JS K mg X W sts u s') : JS K mg X W (st :: sts) (tSeq t u) (sSeq s s') := ⟨h.k, pss_cons h.p k.p, ss_seq h.s k.s⟩
theorem js_one (h : J1 K mg X W st t s) : JS K mg X W [st] t s := ⟨h.k, pss_one h.p, h.s⟩
theorem j1_pass (k : KM X K mg := by exact ⟨rfl, rfl⟩) : J1 K mg X W (.Pass pos) tNext sNext := ⟨k, ps_pass, ss_next⟩
theorem j1_brk (k : KM X K mg := by exact ⟨rfl, rfl⟩) : J1 K mg X W (.Break pos) tBreak sBreak := ⟨k, ps_break, ss_brk⟩
theorem j1_cont (k : KM X K mg := by exact ⟨rfl, rfl⟩) : J1 K mg X W (.Continue pos) tCont sCont := ⟨k, ps_continue, ss_cont⟩
theorem j1_ret (h : JE K mg X W e te de) : J1 K mg X W (.Return (some e) pos) (tRet te) (sRet de) := ⟨h.k, ps_ret h.p, ss_ret h.s⟩
theorem j1_retN (k : KM X K mg := by exact ⟨rfl, rfl⟩) : J1 K mg X W (.Return none pos) tRetN sRetN := ⟨k, ps_retN, ss_retN⟩
theorem j1_expr (h : JE K mg X W e te de) (hs : swapsWith e none pos.line X.env = pure false := by rfl) : J1 K mg X W (.Expr e pos) (tDrop te) (sDrop de) := ⟨h.k, ps_expr h.p hs, ss_drop h.s⟩
theorem j1_if {l r : List Stmt} (h : JT K mg X W c tt dt) (ha : JS K mg X W l t s) (hb : JS K mg X W r u s') : J1 K mg X W (.If c l r pos) (tIfS tt t u) (sIf dt s s') := ⟨h.k, ps_if h.p ha.p hb.p, ss_if h.s ha.s hb.s⟩
theorem jg_name {i : Nat} (hN : X.N.Nodup) (hi : X.N[i]? = some x) (hx : Loc X.env.scope x) (hf : X.fn x = true ∨ X.env.scope.names.lookup x = some .local := by first | exact .inl rfl | exact .inr rfl | assumption) (k : KM X K mg := by exact ⟨rfl, rfl⟩) : JG K mg X (.Name x pos) (gName i) (oName i) := ⟨k, pg_name hN hi hx hf, sg_name⟩
theorem jgs_nil (k : KM X K mg := by exact ⟨rfl, rfl⟩) : JGs K mg X [] gNil [] := ⟨k, pgs_nil, sgs_nil⟩
theorem jgs_cons (h : JG K mg X e g dg) (k : JGs K mg X es gs dgs) (hs : (assignEach (e :: es) X.env).map (·.2) = assign e X.env :: (assignEach es X.env).map (·.2) := by rfl) : JGs K mg X (e :: es) (gCons g gs) (dg :: dgs) := ⟨h.k, pgs_cons h.p k.p hs, sgs_cons h.s k.s⟩
theorem jg_tup {k n : Nat} (hc : X.calm = true) (h : JGs K mg X es gs dgs) (hl : dgs.length = n := by rfl) (hn : (assignEach es X.env).length = n := by rfl) (hst : (assignEach es X.env).findIdx? (·.1) = none := by rfl) : JG K mg X (.Tuple es k pos) (gTup K n gs) (oTup dgs) := ⟨h.k, by rw [← h.k.1]; exact pg_tup hc h.p hn hst, sg_tup h.s hl⟩
theorem j1_set {i : Nat} (hN : X.N.Nodup) (hi : X.N[i]? = some x) (hx : Loc X.env.scope x) (h : JE K mg X W e te de) (hs : swapsWith e (some (.Name x pos')) pos.line X.env = pure false := by rfl) (hf : X.fn x = true ∨ X.env.scope.names.lookup x = some .local := by first | exact .inl rfl | exact .inr rfl | assumption) :
    J1 K mg X W (.Assign [.Name x pos'] e pos) (tAsg te (gName i)) (sSet i de) := ⟨h.k, ps_set hN hi hx h.p hs hf, ss_set h.s⟩
theorem j1_asg (h : JE K mg X W e te de) (hg : JG K mg X tg g dg) (hs : swapsWithSole [tg] e pos.line X.env = pure false := by rfl) (hw : swappedStores [tg] e X.env = pure none := by rfl)
    (h1 : (assignEach [tg] X.env).map (·.2) = [assign tg X.env] := by rfl) : J1 K mg X W (.Assign [tg] e pos) (tAsg te g) (sAsg de dg) := ⟨h.k, ps_asg h.p hg.p hs hw h1, ss_asg h.s hg.s⟩
theorem j1_aug {i : Nat} {op : Operator} {f : Int → Int → Int} (ho : PIp X op (ipI f)) (hN : X.N.Nodup) (hi : X.N[i]? = some x) (hx : Loc X.env.scope x) (h : JE K mg X W e te de) (hf : X.fn x = true ∨ X.env.scope.names.lookup x = some .local := by first | exact .inl rfl | exact .inr rfl | assumption) :
    J1 K mg X W (.AugAssign (.Name x pos') op e pos) (tAug i te (ipI f)) (sAug f i de) := ⟨h.k, ps_aug hN hi hx h.p ho hf, ss_aug h.s⟩
theorem j1_for {iter : Expr} {body : List Stmt} (hp : PassesOwn (model X.prog X.w) X.A X.env X.xe) (hc : X.calm = true) (hi : JI K mg X W tg iter wi di) (hg : JG K mg X tg g dg) (hb : JS K mg X W body t s) (hs : ∀ x, foldedSetIterable iter X.env x = pure x := by intro _; rfl) :
    J1 K mg X W (.For tg iter body [] pos) (tFor wi g t) (sFor di dg s) := ⟨hi.k, ps_for hp hc hi.p hg.p hb.p hs, ss_for hi.s hg.s hb.s⟩
theorem j1_while {body : List Stmt} {k : En → Sto → Nat} (hp : PassesOwn (model X.prog X.w) X.A X.env X.xe) (hc : JT K mg X W c tt dt) (hb : JS K mg X W body t s) : J1 K mg X W (.While c body [] pos) (tWhile tt t) (sWhile k dt s) := ⟨hc.k, ps_while hp hc.p hb.p, ss_while hc.s hb.s⟩
/-! ### iterables -/
theorem ji_any (h : JE K mg X W e te de) : JI K mg X W tg e (iAny K te) (itA de) := ⟨h.k, by rw [← h.k.1]; exact pi_any h.p, si_any h.s⟩
theorem ji_r1 (hg : Gl X "range") (hm : mg.f "range" = none) (h : JA K mg X W [a] tl dl) (hs : starEach [a] X.env = [(false, eval a X.env)] := by rfl) : JI K mg X W tg (.Call (.Name "range" p) [a] [] pos) (iRng1 tl) (itR1 dl) := ⟨h.k, pi_range1 hg (by rw [h.k.2]; exact hm) h.p hs, si_r1 h.s⟩
theorem ji_r2 (hg : Gl X "range") (hm : mg.f "range" = none) (h : JA K mg X W [a, b] tl dl) (hs : starEach [a, b] X.env = [(false, eval a X.env), (false, eval b X.env)] := by rfl) (hs2 : starEach [b] X.env = [(false, eval b X.env)] := by rfl) : JI K mg X W tg (.Call (.Name "range" p) [a, b] [] pos) (iRng2 tl) (itR2 dl) := ⟨h.k, pi_range2 hg (by rw [h.k.2]; exact hm) h.p hs hs2, si_r2 h.s⟩
theorem ji_en {elts : List Expr} {kk : Nat} {tpos : Pos} (hg : Gl X "enumerate") (hm : mg.f "enumerate" = none) (h : JA K mg X W [e] tl dl) (hs : starEach [e] X.env = [(false, eval e X.env)] := by rfl) : JI K mg X W (.Tuple elts kk tpos) (.Call (.Name "enumerate" p) [e] [] pos) (iEnumA K tl) (itEn dl) := ⟨h.k, by rw [← h.k.1]; exact pi_enumA hg (by rw [h.k.2]; exact hm) h.p hs, si_en h.s⟩
/-! ### comprehensions -/
def dYes : DT := fun _ S => .ok true S
theorem jts_nil (k : KM X K mg := by exact ⟨rfl, rfl⟩) : JTs K mg X W [] tYes dYes := ⟨k, pts_nil, fun G α H S E σ Q l rv p => p.here l rfl⟩
theorem jts_one (h : JT K mg X W e tt dt) : JTs K mg X W [e] tt dt := ⟨h.k, pts_one h.p, h.s⟩
theorem takes_blk {s : Shared} {H : Hp} {scope : Scope} {env : PySem.Env} {fp : List Addr} : Takes (X.blk s H scope env fp) WF := fun u s' ⟨a, B, sI, pins, σ, H, cls, d, e, I, nb, up, sky, na, os, ag, w⟩ => w.elim
theorem j_lc {elt tg iter : Expr} {ifs : List Expr} {scope : Scope} {own : List (Str × Nat)} (hc : X.calm = true) (hN : X.N.Nodup) (hi : JI K mg X W tg iter wi di) (ok : BlkOk X.N X.env.scope scope own) (hkw : KeepW g (own.map (·.2)))
    (hg : ∀ (s : Shared) (H : Hp) (C : Addr) (cl : List (Str × Addr)) (fp : List Addr), JG K mg (X.blk s H scope (compEnvC scope cl C X.env) fp) tg g dg)
    (ht : ∀ (s : Shared) (H : Hp) (C : Addr) (cl : List (Str × Addr)) (fp : List Addr), JTs K mg (X.blk s H scope (compEnvC scope cl C X.env) fp) WF ifs tt dt)
    (he : ∀ (s : Shared) (H : Hp) (C : Addr) (cl : List (Str × Addr)) (fp : List Addr), JE K mg (X.blk s H scope (compEnvC scope cl C X.env) fp) WF elt te de) (hs : ∀ x, foldedSetIterable iter X.env x = pure x := by intro _; rfl) :
    JE K mg X W (.ListComp elt [⟨tg, iter, ifs, 0⟩] scope pos) (tLc wi g tt te (own.map (·.2))) (dLc di dg dt de (own.map (·.2))) :=
  ⟨hi.k, pe_lc hc hN hi.p ok (fun s H C cl fp => (hg s H C cl fp).p) (fun s H C cl fp => (ht s H C cl fp).p) (fun s H C cl fp => (he s H C cl fp).p) hs,
    se_lc hi.s (hg X.s_0 X.H_0 0 [] []).s hkw (ht X.s_0 X.H_0 0 [] []).s (he X.s_0 X.H_0 0 [] []).s⟩
/-- name = [..], the name a plain local -/
theorem j1_setLc {i : Nat} {y : Str} {py spos : Pos} {elt tg iter : Expr} {ifs : List Expr} {scope : Scope} {own : List (Str × Nat)} (hc : X.calm = true) (hN : X.N.Nodup) (hy : X.N[i]? = some y) (hyl : X.env.scope.names.lookup y = some .local)
    (hsw : swapsWith (.ListComp elt [⟨tg, iter, ifs, 0⟩] scope pos) (some (.Name y py)) spos.line X.env = pure true) (hi : JI K mg X W tg iter wi di) (ok : BlkOk X.N X.env.scope scope own) (hkw : KeepW g (own.map (·.2)))
    (hg : ∀ (s : Shared) (H : Hp) (C : Addr) (cl : List (Str × Addr)) (fp : List Addr), JG K mg (X.blk s H scope (compEnvC scope cl C X.env) fp) tg g dg)
    (ht : ∀ (s : Shared) (H : Hp) (C : Addr) (cl : List (Str × Addr)) (fp : List Addr), JTs K mg (X.blk s H scope (compEnvC scope cl C X.env) fp) WF ifs tt dt)
    (he : ∀ (s : Shared) (H : Hp) (C : Addr) (cl : List (Str × Addr)) (fp : List Addr), JE K mg (X.blk s H scope (compEnvC scope cl C X.env) fp) WF elt te de) (hs : ∀ x, foldedSetIterable iter X.env x = pure x := by intro _; rfl) :
    J1 K mg X W (.Assign [.Name y py] (.ListComp elt [⟨tg, iter, ifs, 0⟩] scope pos) spos) (tAsg (tLc wi g tt te (own.map (·.2))) (gName i)) (sSet i (dLc di dg dt de (own.map (·.2)))) :=
  ⟨hi.k, ps_setLc hc hN hy hyl hsw hi.p ok (fun s H C cl fp => (hg s H C cl fp).p) (fun s H C cl fp => (ht s H C cl fp).p) (fun s H C cl fp => (he s H C cl fp).p) hs,
    ss_set (se_lc hi.s (hg X.s_0 X.H_0 0 [] []).s hkw (ht X.s_0 X.H_0 0 [] []).s (he X.s_0 X.H_0 0 [] []).s)⟩
end
end Dl

/-! a def by its printed body -/
namespace Dl
open PySem PySem.Spec PyProof.Rows L2
def en0 (ds : List D) (m : Nat) : En := ds.map (fun x => some (E.d x)) ++ List.replicate m none
section
variable {P : Program} {w : World} {K : PySem.W.Frag} {mg : Str → Option Value} {base : Heap} {x qual : Str} {st : Stmt} {f : Addr} {fd : FuncData} {N ps : List Str} {k n m : Nat} {M : List D → MR} {s : DS}
theorem spM_len {vs : List V} {H : Hp} {Q : VK} {E : XK} (h : spM K mg n M vs H Q E) : vs.length = n := h.1
abbrev cxD (P : Program) (w : World) (K : PySem.W.Frag) (mg : Str → Option Value) (base : Heap) (N : List Str) (qual : Str) (st : Stmt) (f : Addr) (cdv : Value) (A : Around) (outer : List PySem.Env) (s : Shared) (H : Hp) (E : XK) : Cx := cxOf (L2.CX P w) P w K mg base N qual (defScope st) f cdv A outer s H E
abbrev wE (E : XK) : WX := fun cls d _ H => E cls d H
theorem fn_def (F : L2.Fun K x qual st f fd) (S : L2.FnScope N ps (L2.defScope st)) (hn : ps.length = n) (hm : N.length = n + m)
    (hM : ∀ ds, ds.length = n → MLe (M ds) (finD (s (en0 ds m) [])))
    (hbody : ∀ (cdv : Value) (A : Around) (outer : List PySem.Env) (s0 : Shared) (H : Hp) (E : XK), Room k (cxD P w K mg base N qual st f cdv A outer s0 H E).A →
      Takes (cxD P w K mg base N qual st f cdv A outer s0 H E) (wE E) → PassesOwn (model P w) (cxD P w K mg base N qual st f cdv A outer s0 H E).A (cxD P w K mg base N qual st f cdv A outer s0 H E).env (cxD P w K mg base N qual st f cdv A outer s0 H E).xe →
      ∃ t, JS K ⟨mg, none⟩ (cxD P w K mg base N qual st f cdv A outer s0 H E) (wE E) (L2.defBody st) t s) : FnOk P w K mg base (L2.CX P w) (k + 1) f fd ps (spM K mg n M) := by
  refine L2.Fun.okX F S (fun vs H Q E h => by rw [spM_len h, hn]) fun cdv A outer s0 H vs Q E hr h => ?_
  obtain ⟨t, ht⟩ := hbody cdv A outer s0 H E hr (takes_of rfl rfl rfl rfl) (passes_of rfl)
  refine ⟨t, ht.p, body_frz (N := N) (n := n) (by omega) ht.s (fun ds hd => ?_) h⟩
  have e : N.length - n = m := by omega
  rw [e]
  exact hM ds hd
theorem ok_def (F : L2.Fun K x qual st f fd) (hm : mg x = some (.ref f)) (hb : Binds K fd ps []) (hn : ps.length = n) (hF : FnOk P w K mg base (L2.CX P w) k f fd ps (spM K mg n M)) (hN : ∀ ds, (match M ds with | .no => False | _ => True) → ds.length = n) : Ok P w K mg base k x n M [] :=
  ⟨⟨f, fd, ps, [], hF, hm, F.kp, hb, .nil⟩, fun _ => rfl, hN⟩
/-- a def whose defaults are given -/
structure FunG (K : PySem.W.Frag) (x qual : Str) (st : Stmt) (f : Addr) (fd : FuncData) : Prop where
  ex : ∃ (oc : Value) (od : Option Addr) (dV kV doc pm : Value) (an : Option Addr) (cdv ct : Value) (osl : Array (Option Value)),
    fd = PySem.W.fnOf x qual (L2.defArgs st) (L2.defBody st) (L2.defScope st) dV kV doc pm an cdv ct ∧ K.lookup f = some ⟨oc, od, .func fd, osl⟩ ∧ PySem.W.codeIn K cdv qual = true
  kp : PySem.W.keepIn K (.ref f) = true
theorem fn_defG (F : FunG K x qual st f fd) (S : L2.FnScope N ps (L2.defScope st)) (hn : ps.length = n) (hm : N.length = n + m)
    (hM : ∀ ds, ds.length = n → MLe (M ds) (finD (s (en0 ds m) [])))
    (hbody : ∀ (cdv : Value) (A : Around) (outer : List PySem.Env) (s0 : Shared) (H : Hp) (E : XK), Room k (cxD P w K mg base N qual st f cdv A outer s0 H E).A →
      Takes (cxD P w K mg base N qual st f cdv A outer s0 H E) (wE E) → PassesOwn (model P w) (cxD P w K mg base N qual st f cdv A outer s0 H E).A (cxD P w K mg base N qual st f cdv A outer s0 H E).env (cxD P w K mg base N qual st f cdv A outer s0 H E).xe →
      ∃ t, JS K ⟨mg, none⟩ (cxD P w K mg base N qual st f cdv A outer s0 H E) (wE E) (L2.defBody st) t s) : FnOk P w K mg base (L2.CX P w) (k + 1) f fd ps (spM K mg n M) := by
  obtain ⟨oc, od, dV, kV, doc, pm, an, cdv, ct, osl, rfl, lk, hcd⟩ := F.ex
  refine L2.fn_of lk hcd S (fun vs H Q E h => by rw [spM_len h, hn]) fun A outer s0 H vs Q E hr h => ?_
  obtain ⟨t, ht⟩ := hbody cdv A outer s0 H E hr (takes_of rfl rfl rfl rfl) (passes_of rfl)
  refine ⟨t, ht.p, body_frz (N := N) (n := n) (by omega) ht.s (fun ds hd => ?_) h⟩
  have e : N.length - n = m := by omega
  rw [e]
  exact hM ds hd
theorem ok_defG {dv : List D} {ds : List Value} (F : FunG K x qual st f fd) (hm : mg x = some (.ref f)) (hb : Binds K fd ps ds) (hv : Vals (dv.map vD) ds) (hd : ∀ G, Reps K mg G dv (dv.map vD)) (hF : FnOk P w K mg base (L2.CX P w) k f fd ps (spM K mg n M)) (hN : ∀ ds, (match M ds with | .no => False | _ => True) → ds.length = n) : Ok P w K mg base k x n M dv :=
  ⟨⟨f, fd, ps, ds, hF, hm, F.kp, hb, hv⟩, hd, hN⟩
end
end Dl

theorem Dl.nrfl {α : Sort u} {a b : α} (h : a = b) : a = b := h
/-! the functions worked out: rewriting rules; loops by their states -/
namespace Dl
open PySem PySem.Spec L2
section
variable {E E1 : En} {S S1 : Sto} {τ υ : Type} {e e1 : Dl.E} {x y : Dl.E} {i j : Int} {s s' : DS} {d da db dc : DE} {dt du : DT} {dl : DA}
@[simp] theorem ev_bind_ok {v : τ} {f : τ → Sto → R υ} : (R.ok v S).bind f = f v S := nrfl rfl
@[simp] theorem ev_bind_ex {v : Xc} {f : τ → Sto → R υ} : (R.ex v S : R τ).bind f = .ex v S := nrfl rfl
@[simp] theorem ev_st_ok {v : τ} {f : τ → Sto → RSt} : (R.ok v S).st E f = f v S := nrfl rfl
@[simp] theorem ev_st_ex {v : Xc} {f : τ → Sto → RSt} : (R.ex v S : R τ).st E f = .ex v E S := nrfl rfl
@[simp] theorem ev_nx {f : En → Sto → RSt} : (RSt.nx E S).bind f = f E S := nrfl rfl
@[simp] theorem ev_rt {f : En → Sto → RSt} : (RSt.rt e S).bind f = .rt e S := nrfl rfl
@[simp] theorem ev_bk {f : En → Sto → RSt} : (RSt.bk E S).bind f = .bk E S := nrfl rfl
@[simp] theorem ev_ct {f : En → Sto → RSt} : (RSt.ct E S).bind f = .ct E S := nrfl rfl
@[simp] theorem ev_ex {v : Xc} {f : En → Sto → RSt} : (RSt.ex v E S).bind f = .ex v E S := nrfl rfl
theorem ev_ite_bind {c : Prop} [Decidable c] {a b : RSt} {f : En → Sto → RSt} : (if c then a else b).bind f = if c then a.bind f else b.bind f := by split <;> rfl
@[simp] theorem ev_dVarD {i : Nat} {x : D} (h : E[i]? = some (some (.d x))) : dVar i E S = .ok (.d x) S := by unfold dVar; rw [h]
@[simp] theorem ev_dVarH {i n : Nat} (h : E[i]? = some (some (.h n))) : dVar i E S = .ok (.h n) S := by unfold dVar; rw [h]
@[simp] theorem ev_dVarT {i : Nat} {es : List Dl.E} (h : E[i]? = some (some (.t es))) : dVar i E S = .ok (.t es) S := by unfold dVar; rw [h]
@[simp] theorem ev_dC {x : D} : dC x E S = .ok (.d x) S := nrfl rfl
@[simp] theorem ev_dOp {g : G2} : dOp g da db E S = (da E S).bind fun x S1 => (db E S1).bind fun y S2 => g S2 x y := nrfl rfl
@[simp] theorem ev_dUn {g : Sto → Dl.E → R Dl.E} : dUn g da E S = (da E S).bind fun x S1 => g S1 x := nrfl rfl
@[simp] theorem ev_gNeg : gNeg S (.d (.int i)) = .ok (.d (.int (-i))) S := nrfl rfl
@[simp] theorem ev_dNil : dNil E S = .ok [] S := nrfl rfl
@[simp] theorem ev_dCons : dCons da dl E S = (da E S).bind fun x S1 => (dl E S1).bind fun xs S2 => .ok (x :: xs) S2 := nrfl rfl
@[simp] theorem ev_dCB {g : GA} : dCB g dl E S = (dl E S).bind fun xs S1 => g S1 xs := nrfl rfl
@[simp] theorem ev_sSeq : sSeq s s' E S = (s E S).bind s' := nrfl rfl
@[simp] theorem ev_sNext : sNext E S = .nx E S := nrfl rfl
@[simp] theorem ev_sSet {i : Nat} : sSet i d E S = (d E S).st E fun e S1 => .nx (E.set i (some e)) S1 := nrfl rfl
@[simp] theorem ev_sRet : sRet d E S = (d E S).st E fun v S1 => .rt v S1 := nrfl rfl
@[simp] theorem ev_sRetN : sRetN E S = .rt (.d .non) S := nrfl rfl
@[simp] theorem ev_sDrop : sDrop d E S = (d E S).st E fun _ S1 => .nx E S1 := nrfl rfl
@[simp] theorem ev_sBreak : sBreak E S = .bk E S := nrfl rfl
@[simp] theorem ev_sCont : sCont E S = .ct E S := nrfl rfl
@[simp] theorem ev_sIf : sIf dt s s' E S = (dt E S).st E fun b S1 => if b then s E S1 else s' E S1 := nrfl rfl
@[simp] theorem ev_sAsg {g : DG} : sAsg d g E S = (d E S).st E fun e S1 => match g e E with
  | some E1 => .nx E1 S1
  | none => .no := nrfl rfl
@[simp] theorem ev_dB : dB d E S = (d E S).bind fun x S1 => match asB x with
  | some b => .ok b S1
  | none => .no := nrfl rfl
@[simp] theorem ev_asB {b : Bool} : asB (.d (.bl b)) = some b := nrfl rfl
@[simp] theorem ev_asI : asI (.d (.int i)) = some i := nrfl rfl
@[simp] theorem ev_asS {t : Cs} : asS (.d (.str t)) = some t := nrfl rfl
@[simp] theorem ev_dAnd : dAnd dt du E S = (dt E S).bind fun b S1 => if b then du E S1 else .ok false S1 := nrfl rfl
@[simp] theorem ev_dOr : dOr dt du E S = (dt E S).bind fun b S1 => if b then .ok true S1 else du E S1 := nrfl rfl
@[simp] theorem ev_dNot : dNot dt E S = (dt E S).bind fun b S1 => .ok (!b) S1 := nrfl rfl
@[simp] theorem ev_dIf : dIf dt da db E S = (dt E S).bind fun b S1 => if b then da E S1 else db E S1 := nrfl rfl
@[simp] theorem ev_dNotV : dNotV da E S = (da E S).bind fun x S1 => match asB x with
  | some b => .ok (.d (.bl (!b))) S1
  | none => .no := nrfl rfl
@[simp] theorem ev_dAndV : dAndV da db E S = (da E S).bind fun x S1 => match asB x with
  | some true => db E S1
  | some false => .ok (.d (.bl false)) S1
  | none => .no := nrfl rfl
@[simp] theorem ev_dOrV : dOrV da db E S = (da E S).bind fun x S1 => match asB x with
  | some true => .ok (.d (.bl true)) S1
  | some false => db E S1
  | none => .no := nrfl rfl
/-! ints -/
@[simp] theorem ev_addI : gAdd S (.d (.int i)) (.d (.int j)) = .ok (.d (.int (i + j))) S := nrfl rfl
@[simp] theorem ev_sub : gSub S (.d (.int i)) (.d (.int j)) = .ok (.d (.int (i - j))) S := nrfl rfl
@[simp] theorem ev_mulI (h : okMul i j = true) : gMul S (.d (.int i)) (.d (.int j)) = .ok (.d (.int (i * j))) S := by
  unfold gMul gOr gMulI gI; simp [h]
theorem okMul_r (h : -(2 ^ 64) < j ∧ j < 2 ^ 64) : okMul i j = true := decide_eq_true (.inr h)
theorem okMul_l (h : -(2 ^ 64) < i ∧ i < 2 ^ 64) : okMul i j = true := decide_eq_true (.inl h)
@[simp] theorem ev_div (h : 0 < j ∧ j < 1073741824) : gDiv S (.d (.int i)) (.d (.int j)) = .ok (.d (.int (i / j))) S := by
  unfold gDiv gI okDiv; simp [h]
@[simp] theorem ev_mod (h : 0 < j) : gMod S (.d (.int i)) (.d (.int j)) = .ok (.d (.int (i % j))) S := by
  unfold gMod gI okMod; simp [h]
@[simp] theorem ev_lt : gLt S (.d (.int i)) (.d (.int j)) = .ok (.d (.bl (decide (i < j)))) S := nrfl rfl
@[simp] theorem ev_le : gLe S (.d (.int i)) (.d (.int j)) = .ok (.d (.bl (decide (i ≤ j)))) S := nrfl rfl
@[simp] theorem ev_gt : gGt S (.d (.int i)) (.d (.int j)) = .ok (.d (.bl (decide (j < i)))) S := nrfl rfl
@[simp] theorem ev_ge : gGe S (.d (.int i)) (.d (.int j)) = .ok (.d (.bl (decide (j ≤ i)))) S := nrfl rfl
@[simp] theorem ev_eqI : gEq S (.d (.int i)) (.d (.int j)) = .ok (.d (.bl (decide (i = j)))) S := nrfl rfl
@[simp] theorem ev_neI : gNe S (.d (.int i)) (.d (.int j)) = .ok (.d (.bl (!decide (i = j)))) S := nrfl rfl
@[simp] theorem ev_eqS {t u : Cs} : gEq S (.d (.str t)) (.d (.str u)) = .ok (.d (.bl (decide (t = u)))) S := nrfl rfl
@[simp] theorem ev_neS {t u : Cs} : gNe S (.d (.str t)) (.d (.str u)) = .ok (.d (.bl (!decide (t = u)))) S := nrfl rfl
@[simp] theorem ev_eqB {t u : Bool} : gEq S (.d (.bl t)) (.d (.bl u)) = .ok (.d (.bl (decide (t = u)))) S := nrfl rfl
@[simp] theorem ev_neB {t u : Bool} : gNe S (.d (.bl t)) (.d (.bl u)) = .ok (.d (.bl (!decide (t = u)))) S := nrfl rfl
@[simp] theorem ev_int : gInt S [.d (.int i)] = .ok (.d (.int i)) S := nrfl rfl
@[simp] theorem ev_intB {b : Bool} : gInt S [.d (.bl b)] = .ok (.d (.int (if b then 1 else 0))) S := nrfl rfl
@[simp] theorem ev_min2 : gMin S [.d (.int i), .d (.int j)] = .ok (.d (.int (min i j))) S := by
  show R.ok (Dl.E.d (.int (minI i j))) S = _
  unfold minI; congr 3; omega
@[simp] theorem ev_min3 {k : Int} : gMin S [.d (.int i), .d (.int j), .d (.int k)] = .ok (.d (.int (min (min i j) k))) S := by
  show R.ok (Dl.E.d (.int (minI (minI i j) k))) S = _
  unfold minI; congr 3; split <;> split <;> omega
@[simp] theorem ev_max2 : gMax S [.d (.int i), .d (.int j)] = .ok (.d (.int (max i j))) S := by
  show R.ok (Dl.E.d (.int (maxI i j))) S = _
  unfold maxI; congr 3; omega
/-! texts -/
@[simp] theorem ev_addS {t u : Cs} (h : t.length + u.length ≤ 16777216) : gAdd S (.d (.str t)) (.d (.str u)) = .ok (.d (.str (t ++ u))) S := by
  have e : gAddS S (.d (.str t)) (.d (.str u)) = .ok (.d (.str (t ++ u))) S := by unfold gAddS gS0; simp [h]
  show (match (match (R.no : R Dl.E) with
    | .no => gAddS S (.d (.str t)) (.d (.str u))
    | .ok v S => .ok v S
    | .ex e S => .ex e S) with
    | .no => gOr gAddU gAddL S (.d (.str t)) (.d (.str u))
    | .ok v S => (R.ok v S : R Dl.E)
    | .ex e S => .ex e S) = _
  rw [e]
@[simp] theorem ev_mulS {t : Cs} (h : gMulS S (.d (.str t)) (.d (.int i)) = .ok e S1) : gMul S (.d (.str t)) (.d (.int i)) = .ok e S1 := by
  show (match gMulS S (.d (.str t)) (.d (.int i)) with
    | .no => gMulL S (.d (.str t)) (.d (.int i))
    | .ok v S => .ok v S
    | .ex e S => .ex e S) = _
  rw [h]
@[simp] theorem ev_lenS {t : Cs} (h : t.length ≤ 16777216) : gLen S [.d (.str t)] = .ok (.d (.int t.length)) S := by
  show (if t.length ≤ 16777216 then R.ok (Dl.E.d (.int t.length)) S else .no) = _
  rw [if_pos h]
@[simp] theorem ev_inS {c : Nat} {t : Cs} : gIn S (.d (.str [c])) (.d (.str t)) = .ok (.d (.bl (decide (c ∈ t)))) S := nrfl rfl
@[simp] theorem ev_ninS {c : Nat} {t : Cs} : gNotIn S (.d (.str [c])) (.d (.str t)) = .ok (.d (.bl (!decide (c ∈ t)))) S := nrfl rfl
theorem ev_ixS {t : Cs} {c : Nat} (h : t.length ≤ 16777216) (h2 : atI t i = some c) : gIx S (.d (.str t)) (.d (.int i)) = .ok (.d (.str [c])) S := by
  show (if t.length ≤ 16777216 then (match atI t i with
    | some c => R.ok (Dl.E.d (.str [c])) S
    | none => .no) else .no) = _
  rw [if_pos h, h2]
/-! lists -/
theorem asL_own {n : Nat} {es : List Dl.E} (h : S[n]? = some (.own (.lst es))) : asL S (.h n) = some es := by unfold asL; dsimp only; rw [h]
theorem asL_frz {n : Nat} {ds : List D} (h : S[n]? = some (.frz (.lst ds))) : asL S (.h n) = some (ds.map .d) := by unfold asL; dsimp only; rw [h]
@[simp] theorem asL_d {ds : List D} : asL S (.d (.lst ds)) = some (ds.map .d) := nrfl rfl
@[simp] theorem asQ_d {ds : List D} : asQ S (.d (.lst ds)) = some (ds.map .d) := nrfl rfl
@[simp] theorem asQ_u {ds : List D} : asQ S (.d (.tup ds)) = some (ds.map .d) := nrfl rfl
@[simp] theorem asQ_t {es : List Dl.E} : asQ S (.t es) = some es := nrfl rfl
theorem asQ_L {x : Dl.E} {es : List Dl.E} (h : asL S x = some es) : asQ S x = some es := by unfold asQ; rw [h]
theorem ev_ixQ {x : Dl.E} {es : List Dl.E} (h : asQ S x = some es) (h2 : atI es i = some e) : gIx S x (.d (.int i)) = .ok e S := by
  show (match (match asQ S x, some i with
    | some es, some i => (match atI es i with
      | some e => R.ok e S
      | none => .no)
    | _, _ => .no) with
    | .no => gIxS S x (.d (.int i))
    | .ok v S => .ok v S
    | .ex e S => .ex e S) = _
  rw [h]; dsimp only; rw [h2]
theorem ev_lenQ {x : Dl.E} {es : List Dl.E} (hs : asS x = none) (h : asQ S x = some es) : gLen S [x] = .ok (.d (.int es.length)) S := by
  unfold gLen; dsimp only; rw [hs]; dsimp only; rw [h]
theorem ev_lenL {x : Dl.E} {es : List Dl.E} (h : asL S x = some es) : gLen S [x] = .ok (.d (.int es.length)) S := ev_lenQ (by
  cases x with
  | d x => cases x <;> first | rfl | cases h
  | h n => rfl
  | t es => rfl
  | x _ _ => rfl) (asQ_L h)
@[simp] theorem ev_lenD {ds : List D} : gLen S [.d (.lst ds)] = .ok (.d (.int ds.length)) S := by rw [ev_lenL asL_d, List.length_map]
@[simp] theorem ev_lenU {ds : List D} : gLen S [.d (.tup ds)] = .ok (.d (.int ds.length)) S := by rw [ev_lenQ rfl asQ_u, List.length_map]
theorem ev_lenO {n : Nat} {es : List Dl.E} (h : S[n]? = some (.own (.lst es))) : gLen S [.h n] = .ok (.d (.int es.length)) S := ev_lenL (asL_own h)
theorem ev_append {n : Nat} {es : List Dl.E} (h : S[n]? = some (.own (.lst es))) (h2 : es.length < 10000000) : gAppend S (.h n) [y] = .ok (.d .non) (S.set n (.own (.lst (es ++ [y])))) := by
  unfold gAppend; dsimp only; rw [h]; dsimp only; rw [if_pos h2]
@[simp] theorem ev_dBM {T : String} {g : GM} : dBM T g d dl E S = (d E S).bind fun x S1 => if isTy T S1 x then (dl E S1).bind fun xs S2 => g S2 x xs else .no := nrfl rfl
theorem isTy_own {n : Nat} {es : List Dl.E} (h : S[n]? = some (.own (.lst es))) : isTy "list" S (.h n) = true := by
  show (asL S (.h n)).isSome = true
  rw [asL_own h]; rfl
@[simp] theorem isTy_str {t : Cs} : isTy "str" S (.d (.str t)) = true := nrfl rfl
@[simp] theorem ev_dLst : dLst dl E S = (dl E S).bind fun es S1 => if es.length ≤ 1000 then newL S1 es else .no := nrfl rfl
@[simp] theorem ev_dTup : dTup dl E S = (dl E S).bind fun es S1 => if es.length ≤ 1000 then newU S1 es else .no := nrfl rfl
@[simp] theorem ev_newL {es : List Dl.E} : newL S es = .ok (.h S.length) (S ++ [.own (.lst es)]) := nrfl rfl
theorem atI_pos {α : Type} {xs : List α} {k : Nat} {x : α} (h : xs[k]? = some x) : atI xs (k : Int) = some x := atI_nat h
theorem atI_int {α : Type} {xs : List α} {i : Int} {x : α} (h0 : 0 ≤ i) (h : xs[i.toNat]? = some x) : atI xs i = some x := by
  obtain ⟨k, rfl⟩ := Int.eq_ofNat_of_zero_le h0
  exact atI_pos (by simpa using h)
/-! cells -/
theorem get_app {n : Nat} {c : Cell} {T : Sto} (h : S[n]? = some c) : (S ++ T)[n]? = some c := by
  rw [List.getElem?_append_left (List.getElem?_eq_some_iff.mp h).1]; exact h
theorem get_set {n : Nat} {c c' : Cell} (h : S[n]? = some c') : (S.set n c)[n]? = some c := List.getElem?_set_self (List.getElem?_eq_some_iff.mp h).1
theorem get_ne {n m : Nat} {c c' : Cell} (hn : n ≠ m) (h : S[m]? = some c') : (S.set n c)[m]? = some c' := by rw [List.getElem?_set_ne hn]; exact h
@[simp] theorem get_new {c : Cell} : (S ++ [c])[S.length]? = some c := by simp
end
/-! ### loops -/
section
variable {σ α : Type} {g : DG} {b : DS}
theorem forN_cons {x : Dl.E} {xs : List Dl.E} {E : En} {S : Sto} : forN g b (x :: xs) E S = (match g x E with
    | none => RSt.no
    | some E1 => match b E1 S with
      | .nx E2 S2 => forN g b xs E2 S2
      | .ct E2 S2 => forN g b xs E2 S2
      | .bk E2 S2 => .nx E2 S2
      | .rt v S2 => .rt v S2
      | .ex e E2 S2 => .ex e E2 S2
      | .no => .no) := rfl
/-- a loop whose turns go from state to state -/
theorem forN_fold (f : σ → α → σ) (env : σ → En) (sto : σ → Sto) (inj : α → Dl.E) (l : List α) (I : σ → List α → Prop)
    (step : ∀ st x r, I st (x :: r) → I (f st x) r ∧ ∃ E1, g (inj x) (env st) = some E1 ∧ (b E1 (sto st) = .nx (env (f st x)) (sto (f st x)) ∨ b E1 (sto st) = .ct (env (f st x)) (sto (f st x)))) :
    ∀ st, I st l → forN g b (l.map inj) (env st) (sto st) = .nx (env (l.foldl f st)) (sto (l.foldl f st)) := by
  induction l with
  | nil => intro st _; rfl
  | cons x l ih =>
    intro st hi
    obtain ⟨h1, E1, h2, h3⟩ := step st x l hi
    rw [List.map_cons, forN_cons]
    rw [h2]
    rcases h3 with h3 | h3 <;>
    · dsimp only
      rw [h3]
      exact ih _ h1
/-- .. or that ends within -/
inductive Stp1 (σ : Type) where
  | go (s : σ) | out (r : RSt)
def foldR {σ α : Type} (f : σ → α → Stp1 σ) (fin : σ → RSt) : List α → σ → RSt
  | [], s => fin s
  | x :: l, s => match f s x with
    | .go s' => foldR f fin l s'
    | .out r => r
theorem forN_foldR (f : σ → α → Stp1 σ) (env : σ → En) (sto : σ → Sto) (inj : α → Dl.E) (l : List α) (I : σ → List α → Prop)
    (step : ∀ st x r, I st (x :: r) → ∃ E1, g (inj x) (env st) = some E1 ∧ (match f st x with
      | .go s' => I s' r ∧ (b E1 (sto st) = .nx (env s') (sto s') ∨ b E1 (sto st) = .ct (env s') (sto s'))
      | .out (.nx E2 S2) => b E1 (sto st) = .bk E2 S2
      | .out (.rt v S2) => b E1 (sto st) = .rt v S2
      | .out (.ex e E2 S2) => b E1 (sto st) = .ex e E2 S2
      | .out _ => False)) :
    ∀ st, I st l → forN g b (l.map inj) (env st) (sto st) = foldR f (fun s => .nx (env s) (sto s)) l st := by
  induction l with
  | nil => intro st _; rfl
  | cons x l ih =>
    intro st hi
    obtain ⟨E1, h2, h3⟩ := step st x l hi
    rw [List.map_cons, forN_cons]
    rw [h2]
    unfold foldR
    revert h3
    cases f st x with
    | go s' =>
      rintro ⟨h1, h3⟩
      rcases h3 with h3 | h3 <;>
      · dsimp only
        rw [h3]
        exact ih _ h1
    | out r =>
      cases r with
      | nx E2 S2 => intro h3; dsimp only at h3 ⊢; rw [h3]
      | rt v S2 => intro h3; dsimp only at h3 ⊢; rw [h3]
      | ex e E2 S2 => intro h3; dsimp only at h3 ⊢; rw [h3]
      | bk _ _ => intro h3; exact h3.elim
      | ct _ _ => intro h3; exact h3.elim
      | no => intro h3; exact h3.elim
/-- a loop that keeps a fact -/
theorem forN_inv (P : List Dl.E → En → Sto → Prop) :
    ∀ (l : List Dl.E) (E : En) (S : Sto), P l E S →
    (∀ x r E S, P (x :: r) E S → ∃ E1, g x E = some E1 ∧ ∃ E2 S2, (b E1 S = .nx E2 S2 ∨ b E1 S = .ct E2 S2) ∧ P r E2 S2) →
    ∃ E2 S2, forN g b l E S = .nx E2 S2 ∧ P [] E2 S2
  | [], E, S, h, _ => ⟨E, S, rfl, h⟩
  | x :: l, E, S, h, step => by
    obtain ⟨E1, h1, E2, S2, h2, h3⟩ := step x l E S h
    obtain ⟨E3, S3, h4, h5⟩ := forN_inv P l E2 S2 h3 step
    refine ⟨E3, S3, ?_, h5⟩
    rw [forN_cons]
    rw [h1]
    rcases h2 with h2 | h2 <;>
    · dsimp only
      rw [h2]
      exact h4
variable {E : En} {S : Sto}
theorem ev_forR1 {da : DA} {g : DG} {b : DS} {n : Int} {S1 : Sto} (h : da E S = .ok [.d (.int n)] S1) (hn : 0 ≤ n ∧ n ≤ 100000000) : sFor (itR1 da) g b E S = forN g b ((List.range n.toNat).map fun k => .d (.int (k : Nat))) E S1 := by
  unfold sFor itR1
  rw [h]
  show ((match rg1 [.d (.int n)] with
    | some q => R.ok (rgL q.1 q.2, none) S1
    | none => .no).st E _) = _
  have e : rg1 [.d (.int n)] = some (0, n.toNat) := by
    show (if -1000000 ≤ n ∧ n ≤ 100000000 then some ((0 : Int), n.toNat) else none) = _
    rw [if_pos ⟨by omega, hn.2⟩]
  rw [e]
  show forN g b (rgL 0 n.toNat) E S1 = _
  unfold rgL
  simp
end
end Dl

/-! defs as functions of what their arguments stand for -/
namespace Dl
open PySem PySem.Spec L2
open Classical in
/-- the function f at the arguments that dec lays out -/
noncomputable def mkM {τ : Type} (dec : τ → List D) (ok : τ → Prop) (f : τ → MR) : List D → MR := fun ds => if h : ∃ x, ds = dec x ∧ ok x then f (Classical.choose h) else .no
section
variable {τ : Type} {dec : τ → List D} {ok : τ → Prop} {f : τ → MR} {s : DS} {n m : Nat}
theorem mkM_eq (inj : ∀ x y, dec x = dec y → x = y) {x : τ} (h : ok x) : mkM dec ok f (dec x) = f x := by
  have hx : ∃ y, dec x = dec y ∧ ok y := ⟨x, rfl, h⟩
  unfold mkM
  rw [dif_pos hx, ← inj _ _ (Classical.choose_spec hx).1]
theorem mkM_le (h : ∀ x, ok x → f x = finD (s (en0 (dec x) m) [])) : ∀ ds : List D, ds.length = n → MLe (mkM dec ok f ds) (finD (s (en0 ds m) [])) := fun ds _ => by
  unfold mkM
  by_cases hx : ∃ y, ds = dec y ∧ ok y
  · rw [dif_pos hx]
    have hc := Classical.choose_spec hx
    have e := h _ hc.2
    rw [← hc.1] at e
    rw [e]
    generalize finD (s (en0 ds m) []) = r
    cases r <;> first | trivial | exact rfl
  · rw [dif_neg hx]; trivial
theorem mkM_len (h : ∀ x, (dec x).length = n) : ∀ ds : List D, (match mkM dec ok f ds with | .no => False | _ => True) → ds.length = n := fun ds hd => by
  by_cases hx : ∃ y, ds = dec y ∧ ok y
  · rw [(Classical.choose_spec hx).1, h]
  · unfold mkM at hd
    rw [dif_neg hx] at hd
    exact hd.elim
end
/-- a value alone -/
abbrev okD (x : D) : MR := .ok (.d x) []
theorem resL_ints (S : Sto) : ∀ l : List D, resO S (.lst (l.map .d)) = some (.lst l) := fun l => by
  show (res.ress S (l.map .d)).map D.lst = _
  rw [ress_d]; rfl
theorem finR_own {S : Sto} {n : Nat} {l : List D} (h : S[n]? = some (.own (.lst (l.map .d)))) (hl : l.length < 9000) : finR S (.h n) = okD (.lst l) := by
  have e1 : fz 9999 S (l.map .d) = some S := fz_d 9999 S l (by omega)
  have e2 : fz 10000 S [.h n] = some (S.set n (.frz (.lst l))) := by
    show (match S[n]? with
      | some (.frz _) => fz 9999 S []
      | some (.own o) => (fz 9999 S (obE o)).bind fun S1 => match S1[n]? with
        | some (.own o') => (resO S1 o').bind fun x => fz 9999 (S1.set n (.frz x)) []
        | some (.frz _) => fz 9999 S1 []
        | _ => none
      | _ => none) = _
    rw [h]
    show (fz 9999 S (l.map .d)).bind _ = _
    rw [e1, Option.bind_some, h]
    show (resO S (.lst (l.map .d))).bind _ = _
    rw [resL_ints, Option.bind_some]
    rfl
  have e3 : res.ress (S.set n (.frz (.lst l))) [.h n] = some [.lst l] := by
    show (match res (S.set n (.frz (.lst l))) (.h n), res.ress (S.set n (.frz (.lst l))) [] with
      | some x, some xs => some (x :: xs)
      | _, _ => none) = _
    have : res (S.set n (.frz (.lst l))) (.h n) = some (.lst l) := by
      show (match (S.set n (.frz (.lst l)))[n]? with
        | some (.frz x) => some x
        | _ => none) = _
      rw [get_set h]
    rw [this]
    rfl
  unfold finR argsD
  rw [e2, Option.bind_some, e3]
  rfl
@[simp] theorem finR_d {S : Sto} {x : D} : finR S (.d x) = okD x := nrfl rfl
@[simp] theorem finD_rt {S : Sto} {e : E} : finD (.rt e S) = finR S e := nrfl rfl
@[simp] theorem finD_nx {S : Sto} {e : En} : finD (.nx e S) = okD .non := nrfl rfl
@[simp] theorem finD_ex {S : Sto} {e : En} {x : Xc} : finD (.ex x e S) = .ex x := nrfl rfl
/-- a call whose arguments are plain -/
theorem argsD_d (S : Sto) (ds : List D) (h : ds.length < 10000) : argsD S (ds.map .d) = some (ds, S) := by
  unfold argsD
  rw [fz_d 10000 S ds h, Option.bind_some, ress_d]; rfl
theorem ev_call1 {M : List D → MR} {da : DE} {E : En} {S S1 : Sto} {x : D} (h : da E S = .ok (.d x) S1) {y : D} (hM : M [x] = okD y) : dCall M [] (dCons da dNil) E S = .ok (.d y) S1 := by
  unfold dCall
  simp [h]
  have := argsD_d S1 [x] (by simp)
  simp at this
  rw [this]
  simp [hM, shE]
end Dl

/-! exceptions: making, raising, catching -/
namespace Dl
open PySem PySem.Spec PyProof.Rows L2
/-! ### __init__ of an own exception -/
/-- what it keeps: the fields fl of its arguments -/
def spI (K : PySem.W.Frag) (C : Addr) (n : Nat) (fl : List V → List (Str × V)) : Sp := fun vs H Q _ => ∃ (a : Addr) (ws : List V), vs = .ref a :: ws ∧ ws.length = n ∧ H a = some (exo a C none) ∧ ∀ dx, H dx = none → dx ≠ a → Q .non (upd (upd H dx (exd dx (fl ws))) a (exo a C (some dx)))
section
variable {P : Program} {w : World} {K : PySem.W.Frag} {mg : Str → Option Value} {base : Heap} {x qual : Str} {st : Stmt} {f D cda cc : Addr} {fd : FuncData}
theorem upd_upd {H : Hp} {a : Addr} {o o' : HO} : upd (upd H a o) a o' = upd H a o' := by
  funext b
  by_cases hb : b = a
  · rw [hb, upd_same, upd_same]
  · rw [upd_ne hb, upd_ne hb, upd_ne hb]
theorem upd_comm {H : Hp} {a b : Addr} {o o' : HO} (h : a ≠ b) : upd (upd H a o) b o' = upd (upd H b o') a o := by
  funext c
  by_cases h1 : c = a
  · subst h1
    rw [upd_ne h, upd_same, upd_same]
  · rw [upd_ne h1]
    by_cases h2 : c = b
    · subst h2; rw [upd_same, upd_same]
    · rw [upd_ne h2, upd_ne h2, upd_ne h1]
/-- super().__init__('..'); self.g = y -/
theorem ok_init1 {y g m : Str} {j : Nat} {q1 q2 q3 q4 q5 q6 q7 q8 q9 : Pos} {k : Nat} (F : FunS K P x qual st f fd D cda cc) (S : ScS ["self", y] ["self", y] (defScope st)) (T : OexC K D) (hno : PySem.W.findIn K (.ref D) g = some none)
    (hm : PySem.W.ks_superIn K D D "__init__" = some (some (.builtin "ValueError.__init__"))) (hB : PySem.W.subIn K (.ref D) (.type "ValueError") = some true) (hmro : PySem.W.mroIn K D (.ref D) = some true)
    (hbody : defBody st = [.Expr (.Call (.Attribute (.Call (.Name "super" q1) [] [] q2) "__init__" q3) [.Constant (.str m) j q4] [] q5) q5, .Assign [.Attribute (.Name "self" q6) g q7] (.Name y q8) q9])
    (he : ∃ pl : Sem Bool, ∀ env : PySem.Env, eval (.Call (.Attribute (.Call (.Name "super" q1) [] [] q2) "__init__" q3) [.Constant (.str m) j q4] [] q5) env = (do
      let ov ← attributeBase (.Call (.Name "super" q1) [] [] q2) "__init__" env (eval (.Call (.Name "super" q1) [] [] q2) env)
      standAt q3.atName
      let (f, first) ← holding [ov] (getMethod ov "__init__" pl)
      callWith q5 f first (backTo q5 (starEach [.Constant (.str m) j q4] env)) []))
    (hp : ((defArgs st).posonlyargs ++ (defArgs st).args).head?.map (·.arg) = some "self") (hl : (defScope st).names.lookup ("self" : Str) = some NameKind.local) (hy : (defScope st).names.lookup y = some NameKind.local) (hny : (y == ("__debug__" : Str)) = false := by decide) (hny2 : (y == ("__classdict__" : Str)) = false := by decide) :
    FnOk P w K mg base (L2.CX P w) (k + 1) f fd ["self", y] (spI K D 1 fun ws => [(g, ws.headD .non)]) := by
  refine fn_ofS (N := ["self", y]) F S (fun vs H Q E h => ?_) fun A outer s H vs Q E hr h => ?_
  · obtain ⟨a, ws, rfl, hl, _⟩ := h
    simp [hl]
  · obtain ⟨a, ws, rfl, hlen, ha, q⟩ := h
    obtain ⟨v, rfl⟩ : ∃ v, ws = [v] := by
      match ws, hlen with
      | [v], _ => exact ⟨v, rfl⟩
    rw [hbody]
    obtain ⟨pl, he⟩ := he
    have hs := ps_superX (P := P) (w := w) (mg := mg) (base := base) (N := ["self", y]) (ps := ["self", y]) (A := A) (outer := outer) (s0 := s) (H0 := H) (E := E) (D' := D) (m := m) (j := j) (p0 := q1) (p1 := q2) (p2 := q3) (p3 := q4) (p4 := q5) (p5 := q5) (args0 := []) F S hp rfl hl hm hB hmro he
    rw [hbody] at hs
    have h1 : PE (cxS P w K mg base ["self", y] qual (defScope st) f cda cc A outer s H E) (.Name "self" q6) (tVar 0) := pe_var rfl (.inl hl)
    have h2 : PE (cxS P w K mg base ["self", y] qual (defScope st) f cda cc A outer s H E) (.Name y q8) (tVar 1) := pe_var rfl (.inl hy) hny hny2
    refine ⟨_, psa_cons1 hs (psa_of (pss_one (ps_ost (f := g) h1 h2 (by rfl)))), ?_⟩
    refine ⟨a, rfl, T, ha, v, rfl, .ref a, rfl, a, D, rfl, T, hno, .inl ⟨ha, fun dx hn ne => q dx hn ne⟩⟩
/-- super().__init__('..'); self.g = y; self.g2 = y2 -/
theorem ok_init2 {y g y2 g2 m : Str} {j : Nat} {q1 q2 q3 q4 q5 q6 q7 q8 q9 r6 r7 r8 r9 : Pos} {k : Nat} (F : FunS K P x qual st f fd D cda cc) (S : ScS ["self", y, y2] ["self", y, y2] (defScope st)) (T : OexC K D) (hno : PySem.W.findIn K (.ref D) g = some none) (hno2 : PySem.W.findIn K (.ref D) g2 = some none)
    (hm : PySem.W.ks_superIn K D D "__init__" = some (some (.builtin "ValueError.__init__"))) (hB : PySem.W.subIn K (.ref D) (.type "ValueError") = some true) (hmro : PySem.W.mroIn K D (.ref D) = some true)
    (hbody : defBody st = [.Expr (.Call (.Attribute (.Call (.Name "super" q1) [] [] q2) "__init__" q3) [.Constant (.str m) j q4] [] q5) q5, .Assign [.Attribute (.Name "self" q6) g q7] (.Name y q8) q9, .Assign [.Attribute (.Name "self" r6) g2 r7] (.Name y2 r8) r9])
    (he : ∃ pl : Sem Bool, ∀ env : PySem.Env, eval (.Call (.Attribute (.Call (.Name "super" q1) [] [] q2) "__init__" q3) [.Constant (.str m) j q4] [] q5) env = (do
      let ov ← attributeBase (.Call (.Name "super" q1) [] [] q2) "__init__" env (eval (.Call (.Name "super" q1) [] [] q2) env)
      standAt q3.atName
      let (f, first) ← holding [ov] (getMethod ov "__init__" pl)
      callWith q5 f first (backTo q5 (starEach [.Constant (.str m) j q4] env)) []))
    (hp : ((defArgs st).posonlyargs ++ (defArgs st).args).head?.map (·.arg) = some "self") (hl : (defScope st).names.lookup ("self" : Str) = some NameKind.local) (hy : (defScope st).names.lookup y = some NameKind.local) (hy2 : (defScope st).names.lookup y2 = some NameKind.local) (hny : (y == ("__debug__" : Str)) = false := by decide) (hny2 : (y == ("__classdict__" : Str)) = false := by decide)
    (hnz : (y2 == ("__debug__" : Str)) = false := by decide) (hnz2 : (y2 == ("__classdict__" : Str)) = false := by decide) :
    FnOk P w K mg base (L2.CX P w) (k + 1) f fd ["self", y, y2] (spI K D 2 fun ws => [(g2, (ws.drop 1).headD .non), (g, ws.headD .non)]) := by
  refine fn_ofS (N := ["self", y, y2]) F S (fun vs H Q E h => ?_) fun A outer s H vs Q E hr h => ?_
  · obtain ⟨a, ws, rfl, hl, _⟩ := h
    simp [hl]
  · obtain ⟨a, ws, rfl, hlen, ha, q⟩ := h
    obtain ⟨v, u, rfl⟩ : ∃ v u, ws = [v, u] := by
      match ws, hlen with
      | [v, u], _ => exact ⟨v, u, rfl⟩
    rw [hbody]
    obtain ⟨pl, he⟩ := he
    have hs := ps_superX (P := P) (w := w) (mg := mg) (base := base) (N := ["self", y, y2]) (ps := ["self", y, y2]) (A := A) (outer := outer) (s0 := s) (H0 := H) (E := E) (D' := D) (m := m) (j := j) (p0 := q1) (p1 := q2) (p2 := q3) (p3 := q4) (p4 := q5) (p5 := q5) (args0 := []) F S hp rfl hl hm hB hmro he
    rw [hbody] at hs
    have h1 : ∀ p, PE (cxS P w K mg base ["self", y, y2] qual (defScope st) f cda cc A outer s H E) (.Name "self" p) (tVar 0) := fun p => pe_var rfl (.inl hl)
    have h2 : PE (cxS P w K mg base ["self", y, y2] qual (defScope st) f cda cc A outer s H E) (.Name y q8) (tVar 1) := pe_var rfl (.inl hy) hny hny2
    have h3 : PE (cxS P w K mg base ["self", y, y2] qual (defScope st) f cda cc A outer s H E) (.Name y2 r8) (tVar 2) := pe_var rfl (.inl hy2) hnz hnz2
    refine ⟨_, psa_cons1 hs (psa_of (pss_cons (ps_ost (f := g) (h1 _) h2 (by rfl)) (pss_one (ps_ost (f := g2) (h1 _) h3 (by rfl))))), ?_⟩
    refine ⟨a, rfl, T, ha, v, rfl, .ref a, rfl, a, D, rfl, T, hno, .inl ⟨ha, fun dx hn ne => ?_⟩⟩
    refine ⟨u, rfl, .ref a, rfl, a, D, rfl, T, hno2, .inr ⟨dx, [(g, v)], upd_same, ?_, by simp, ?_⟩⟩
    · rw [upd_ne ne, upd_same]
    · have e : upd (upd (upd H dx (exd dx [(g, v)])) a (exo a D (some dx))) dx (exd dx [(g2, u), (g, v)]) = upd (upd H dx (exd dx [(g2, u), (g, v)])) a (exo a D (some dx)) := by
        rw [upd_comm (a := a) (b := dx) (Ne.symm ne), upd_upd]
      show Q .non _
      rw [e]
      exact q dx hn ne
end
end Dl

/-! raise, try, the suite's exception -/
namespace Dl
open PySem PySem.Spec PyProof.Rows L2
section
variable {K : PySem.W.Frag} {mg : MG} {W : WX} {G : Hp} {α : List Addr} {H : Hp} {S : Sto} {X : Cx} {a b c e : Expr} {es : List Expr} {ta te : TE} {da de : DE} {tl : TA} {dl : DA} {pos p p' p1 p2 pos' : Pos} {x : Str}
theorem RL.more {d : Addr} {o : HO} (l : RL K mg G α H S) (hd : H d = none) : RL K mg G α (upd H d o) S where
  sub := fun a u e => by rw [upd_ne (ne_of_none (l.sub a u e) hd)]; exact l.sub a u e
  len := l.len
  own := fun n o1 e => by
    obtain ⟨a, h1, h2, h3⟩ := l.own n o1 e
    exact ⟨a, h1, h2, RO.mono (Sub.refl G) List.prefix_rfl (fun u q => by rw [upd_ne (ne_of_none q hd)]; exact q) h3⟩
  inj := l.inj
  frz := l.frz
  al := fun b m => by
    obtain ⟨u, e⟩ := l.al b m
    exact ⟨u, by rw [upd_ne (ne_of_none e hd)]; exact e⟩
theorem Stp.more {d : Addr} {o : HO} (hd : H d = none) : Stp G α H G α (upd H d o) where
  g := Sub.refl G
  al := List.prefix_rfl
  h := fun a u e _ => by rw [upd_ne (ne_of_none e hd)]; exact e
  gn := fun a u e n => by rw [n] at e; cases e
  an := fun a m => .inl m
/-- raise C(e, ..) -/
def sRaise (c : Str) (n : Nat) (fd : List D → List (Str × D)) (da : DA) : DS := fun E S => (da E S).st E fun es S1 => match argsD S1 es with
  | some (ds, S2) => if ds.length = n ∧ n ≤ 1000 then .ex ⟨c, fd ds⟩ E S2 else .no
  | none => .no
theorem ss_raise {C : Addr} {c : Str} {n : Nat} {fl : List V → List (Str × V)} {fd : List D → List (Str × D)} (hfl : ∀ G ds ws, ds.length = n → Reps K mg G ds ws → RepF K mg G (fd ds) (fl ws)) (gC : mg.f c = some (.ref C)) (h : SA K mg W tl dl) :
    SS K mg W (fun _ σ H => tMkO C (spI K C n fl) [] tl σ H fun cls d H' => W cls d σ H') (sRaise c n fd dl) := fun G α H S E σ Dn l rv p =>
  h G α H S E σ _ l rv (pst.st rv p fun vs es S1 G1 α1 H1 s1 l1 r1 p1 => by
    split at p1
    · rename_i ds S2 hA
      split at p1
      · rename_i hn
        obtain ⟨G2, s2, l2, r2⟩ := argsD_ok l1 r1 hA
        have hlen : vs.length = n := by rw [Reps.length r2]; exact hn.1
        refine ⟨by omega, fun a na => ⟨a, vs, by simp, hlen, upd_same, fun dx hd ne => ⟨rfl, dx, fl vs, upd_same, ?_, ?_, ?_⟩⟩⟩
        · rw [upd_ne ne, upd_same]
        · rw [upd_ne ne] at hd; exact hd
        · have hd' : H1 dx = none := by rw [upd_ne ne] at hd; exact hd
          have hh : upd (del (upd (upd (upd H1 a (exo a C none)) dx (exd dx (fl vs))) a (exo a C (some dx))) a) dx (.xd (fl vs)) = upd H1 dx (.xd (fl vs)) := by
            funext b
            by_cases hb : b = dx
            · rw [hb, upd_same, upd_same]
            · rw [upd_ne hb, upd_ne hb]
              by_cases hba : b = a
              · rw [hba, del_same, na]
              · rw [del_ne hba, upd_ne hba, upd_ne hb, upd_ne hba]
          rw [hh]
          exact p1 (.ref C) (some dx) σ G2 α1 _ (s2.trans (Stp.more hd')) (l2.more hd') ((rv.mono s1.g s1.al).mono s2.g s2.al)
            ⟨C, gC, rfl, .inr ⟨dx, fl vs, rfl, upd_same, hfl G2 ds vs hn.1 r2⟩⟩
      · exact p1.elim
    · exact p1.elim)
/-- an own exception class with an __init__ of its own, as the printer wants it -/
structure XI (P : Program) (w : World) (K : PySem.W.Frag) (mg : Str → Option Value) (base : Heap) (k : Nat) (c : Str) (n : Nat) (fl : List V → List (Str × V)) (fd : List D → List (Str × D)) (C : Addr) : Prop where
  gC : mg c = some (.ref C)
  o : OexC K C
  i : ∃ fI fdI ps, PySem.W.findIn K (.ref C) "__init__" = some (some (.ref fI)) ∧ PySem.W.typeIn K (.ref fI) = some (.type "function") ∧ FnOk P w K mg base (L2.CX P w) k fI fdI ps (spI K C n fl) ∧ Binds K fdI ps []
  hfl : ∀ G ds ws, ds.length = n → Reps K mg G ds ws → RepF K mg G (fd ds) (fl ws)
theorem j1_raise {P : Program} {w : World} {base : Heap} {k j n : Nat} {C : Addr} {c : Str} {fl : List V → List (Str × V)} {fd : List D → List (Str × D)} (xi : XI P w K mg.f base k c n fl fd C) (hr : Room j X.A) (hk : k + 1 ≤ j) (hc : X.calm = true) (tk : Takes X W) (hg : Gl X c) (ha : JA K mg X W (e :: es) tl dl)
    (hdb : (c == ("__debug__" : Str)) = false := by decide) (he : starEach (e :: es) X.env = (false, eval e X.env) :: starEach es X.env := by rfl) (hpl : (backTo pos (starEach es X.env)).any (·.1) = false := by rfl) (hX : X.prog = P ∧ X.w = w ∧ X.base = base := by exact ⟨rfl, rfl, rfl⟩) :
    J1 K mg X W (.Raise (some (.Call (.Name c p) (e :: es) [] pos)) none pos') (fun _ σ H => tMkO C (spI K C n fl) [] tl σ H fun cls d H' => W cls d σ H') (sRaise c n fd dl) := by
  obtain ⟨rfl, rfl, rfl⟩ := hX
  obtain ⟨⟨rfl, em⟩, ap, as⟩ := ha
  cases mg with
  | mk mf xe =>
  have em' : X.mg = mf := em
  subst em'
  obtain ⟨fI, fdI, ps, h1, h2, F, hb⟩ := xi.i
  exact ⟨⟨rfl, rfl⟩, ps_raise hc tk (pmk_oex (dvs := []) (ds := []) xi.o h1 h2 F (hr.mono hk) hb .nil (passes_call (E := fun _ _ _ => False) tk fun _ _ _ _ z => z.elim) hg xi.gC ap hdb he hpl), ss_raise xi.hfl xi.gC as⟩
theorem hfl1 {mg : Str → Option Value} {g : Str} : ∀ (G : Hp) (ds : List D) (ws : List V), ds.length = 1 → Reps K mg G ds ws → RepF K mg G [(g, ds.headD .non)] [(g, ws.headD .non)] := fun G ds ws hl r => by
  match ds, hl with
  | [d], _ =>
    obtain ⟨v, t, rfl, h1, h2⟩ := r
    exact ⟨v, [], rfl, h1, rfl⟩
theorem hfl2 {mg : Str → Option Value} {g g2 : Str} : ∀ (G : Hp) (ds : List D) (ws : List V), ds.length = 2 → Reps K mg G ds ws → RepF K mg G [(g2, (ds.drop 1).headD .non), (g, ds.headD .non)] [(g2, (ws.drop 1).headD .non), (g, ws.headD .non)] := fun G ds ws hl r => by
  match ds, hl with
  | [d, d2], _ =>
    obtain ⟨v, t, rfl, h1, u, t2, rfl, h2, h3⟩ := r
    rw [show t2 = [] from h3]
    exact ⟨u, [(g, v)], rfl, h2, v, [], rfl, h1, rfl⟩
/-! ### catching -/
theorem RL.xe' {mf : Str → Option Value} {x0 x1 : Option (Addr × Value × Option Addr)} (l : RL K ⟨mf, x0⟩ G α H S) : RL K ⟨mf, x1⟩ G α H S := RL.up0 (mg := ⟨mf, none⟩) l
/-- the dict of a caught exception goes into the ground -/
theorem RL.addX {d : Addr} {vs : List (Str × V)} (l : RL K mg G α H S) (h : H d = some (.xd vs)) : RL K mg (upd G d (.xd vs)) α H S ∧ Stp G α H (upd G d (.xd vs)) α H := by
  have g : Sub G (upd G d (.xd vs)) := fun a o e => by
    by_cases z : a = d
    · rw [z] at e ⊢
      have := l.sub d o e
      rw [h] at this
      rw [upd_same]; exact this
    · rw [upd_ne z]; exact e
  refine ⟨⟨fun a o e => ?_, l.len, fun n o e => ?_, l.inj, fun n x e => ?_, l.al⟩, ⟨g, List.prefix_rfl, fun a o e _ => e, fun a o e n => ?_, fun a m => .inl m⟩⟩
  · by_cases z : a = d
    · rw [z, upd_same] at e; cases e; rw [z]; exact h
    · rw [upd_ne z] at e; exact l.sub a o e
  · obtain ⟨a, h1, h2, h3⟩ := l.own n o e
    have ne : a ≠ d := fun z => by rw [z] at h3; exact RO.nxd h3 vs h
    exact ⟨a, h1, by rw [upd_ne ne]; exact h2, RO.mono g List.prefix_rfl (fun u q => q) h3⟩
  · obtain ⟨a, h1, h2⟩ := l.frz n x e
    exact ⟨a, h1, Rep.mono g h2⟩
  · by_cases z : a = d
    · rw [z]; exact .inr (.inr ⟨vs, h⟩)
    · rw [upd_ne z, n] at e; cases e
def unX : Option Dl.E → Option Dl.E
  | some (.x _ _) => none
  | o => o
def closeX (i : Nat) (E : En) : En := (E.map unX).set i none
def closeR (i : Nat) : RSt → RSt
  | .nx E S => .nx (closeX i E) S
  | .bk E S => .bk (closeX i E) S
  | .ct E S => .ct (closeX i E) S
  | .rt v S => .rt v S
  | _ => .no
/-- try: body, except .. as slot i: suite; ma: does the clause name the class -/
def sTry (ma : Str → Option Bool) (i : Nat) (body suite : DS) : DS := fun E S => match body E S with
  | .ex x E1 S1 => match ma x.cls with
    | some true => closeR i (suite (E1.set i (some (.x x.cls x.fs))) S1)
    | some false => .ex x E1 S1
    | none => .no
  | r => r
theorem RV.close {mf : Str → Option Value} {x0 x1 : Option (Addr × Value × Option Addr)} {E : En} {σ : L2.St} {i : Nat} (r : RV K ⟨mf, x0⟩ G α E σ) : RV K ⟨mf, x1⟩ G α (closeX i E) (σ.set i none) := by
  have r1 : RV K ⟨mf, x1⟩ G α (E.map unX) σ := by
    refine ⟨by rw [List.length_map]; exact r.1, fun j e he => ?_⟩
    rw [List.getElem?_map] at he
    cases h : E[j]? with
    | none => rw [h] at he; cases he
    | some o =>
      rw [h] at he
      have he' : unX o = some e := Option.some.inj he
      cases o with
      | none => cases he'
      | some f =>
        have hf : f = e ∧ ∀ c fs, f ≠ .x c fs := by
          cases f with
          | x c fs => cases he'
          | d y => cases he'; exact ⟨rfl, fun _ _ z => by cases z⟩
          | h n => cases he'; exact ⟨rfl, fun _ _ z => by cases z⟩
          | t l => cases he'; exact ⟨rfl, fun _ _ z => by cases z⟩
        obtain ⟨v, h1, h2⟩ := r.2 j f h
        rcases h2 with h2 | ⟨c, fs, a, C, dx, z, _⟩
        · rw [← hf.1]
          exact ⟨v, h1, .inl (RE.up0 (mg := ⟨mf, none⟩) h2)⟩
        · exact absurd z (hf.2 c fs)
  exact r1.setN i
theorem RV.xe' {mf : Str → Option Value} {x1 : Option (Addr × Value × Option Addr)} {E : En} {σ : L2.St} (r : RV K ⟨mf, none⟩ G α E σ) : RV K ⟨mf, x1⟩ G α E σ := ⟨r.1, fun i e h => by
  obtain ⟨v, h1, h2⟩ := r.2 i e h
  rcases h2 with h2 | ⟨c, fs, a, C, dx, _, _, z, _⟩
  · exact ⟨v, h1, .inl (RE.up0 (mg := ⟨mf, none⟩) h2)⟩
  · cases z⟩
theorem ss_try {mf : Str → Option Value} {c : Value} {i : Nat} {ma : Str → Option Bool} {tb : WX → TS} {ts : Addr → Value → Option Addr → TS} {body suite : DS} (hma : ∀ x b C, ma x = some b → mf x = some (.ref C) → PySem.W.exmOne K (.ref C) c = some b)
    (hb : ∀ W', SS K ⟨mf, none⟩ W' (tb W') body) (hs : ∀ a cls d, SS K ⟨mf, some (a, cls, d)⟩ WF (ts a cls d) suite) :
    SS K ⟨mf, none⟩ W (fun D σ H => tb (wAs K c i ts W D) D σ H) (sTry ma i body suite) := fun G α H S E σ Dn l rv p => by
  refine hb _ G α H S E σ Dn l rv ?_
  unfold sTry at p
  revert p
  cases body E S with
  | nx E' S' => exact fun q => q
  | rt v S' => exact fun q => q
  | bk E' S' => exact fun q => q
  | ct E' S' => exact fun q => q
  | no => exact fun q => q
  | ex x E1 S1 =>
    intro p cls dx σ' G' α' H' st l' rv' rx
    obtain ⟨C, gC, rfl, hf⟩ := rx
    dsimp only at p
    cases hm : ma x.cls with
    | none => rw [hm] at p; exact p.elim
    | some b =>
      rw [hm] at p
      refine ⟨b, hma _ _ _ hm gC, fun hbt a na => ?_, fun hbf => ?_⟩
      · subst hbt
        dsimp only at p
        obtain ⟨G2, l2, st2, hx⟩ : ∃ G2, RL K ⟨mf, none⟩ G2 α' H' S1 ∧ Stp G' α' H' G2 α' H' ∧ ((x.fs = [] ∧ dx = none) ∨ ∃ d vs, dx = some d ∧ G2 d = some (.xd vs) ∧ RepF K mf G2 x.fs vs) := by
          rcases hf with hf | ⟨d, vs, h1, h2, h3⟩
          · exact ⟨G', l', Stp.refl .., .inl hf⟩
          · obtain ⟨q1, q2⟩ := l'.addX h2
            exact ⟨_, q1, q2, .inr ⟨d, vs, h1, upd_same, RepF.mono q2.g h3⟩⟩
        have rv2 : RV K ⟨mf, some (a, .ref C, dx)⟩ G2 α' (E1.set i (some (.x x.cls x.fs))) (σ'.set i (some (.ref a))) := by
          have r0 := RV.xe' (x1 := some (a, .ref C, dx)) (rv'.mono st2.g st2.al)
          refine ⟨by rw [List.length_set, List.length_set]; exact r0.1, fun j e he => ?_⟩
          by_cases hj : i = j
          · subst hj
            have hi : i < E1.length := by
              have := (List.getElem?_eq_some_iff.mp he).1
              simpa using this
            rw [List.getElem?_set_self hi] at he
            cases he
            exact ⟨.ref a, by rw [List.getElem?_set_self (by rw [← r0.1]; exact hi)], .inr ⟨x.cls, x.fs, a, C, dx, rfl, rfl, rfl, gC, hx⟩⟩
          · rw [List.getElem?_set_ne hj] at he
            rw [List.getElem?_set_ne hj]
            exact r0.2 j e he
        refine hs a (.ref C) dx G2 α' H' S1 _ _ _ l2.xe' rv2 ?_
        have p2 := pstS.fwd (st.trans st2) p
        revert p2
        cases suite (E1.set i (some (.x x.cls x.fs))) S1 with
        | nx E2 S2 => exact fun q σ3 G3 α3 H3 s3 l3 r3 => q _ G3 α3 H3 s3 l3.xe' r3.close
        | bk E2 S2 => exact fun q σ3 G3 α3 H3 s3 l3 r3 => q _ G3 α3 H3 s3 l3.xe' r3.close
        | ct E2 S2 => exact fun q σ3 G3 α3 H3 s3 l3 r3 => q _ G3 α3 H3 s3 l3.xe' r3.close
        | rt v S2 => exact fun q w G3 α3 H3 s3 l3 r3 => q w G3 α3 H3 s3 l3.xe' (RE.up0 (mg := ⟨mf, none⟩) r3)
        | ex y E2 S2 => exact fun q => q.elim
        | no => exact fun q => q.elim
      · subst hbf
        exact p (.ref C) dx σ' G' α' H' st l' rv' ⟨C, gC, rfl, hf⟩
end
end Dl

/-! try as a rule; the caught exception's fields and class -/
namespace Dl
open PySem PySem.Spec PyProof.Rows L2
section
variable {K : PySem.W.Frag} {mf : Str → Option Value} {W : WX} {X : Cx} {a b c e : Expr} {es : List Expr} {pos p p' p1 p2 pos' : Pos} {x : Str}
/-- raise C('..'), C without an __init__ of its own -/
structure XO (K : PySem.W.Frag) (mg : Str → Option Value) (c : Str) (C : Addr) : Prop where
  gC : mg c = some (.ref C)
  q : ∃ bmB B newId initId, ExcBaseFacts B newId initId bmB ∧ PySem.W.excIn K C bmB newId = true
  kC : PySem.W.keepIn K (.ref C) = true
  s : PySem.W.subIn K (.ref C) (.type "BaseException") = some true
  t : PySem.W.typeIn K (.ref C) = some (.type "type")
def sRaise0 (c : Str) : DS := fun E S => .ex ⟨c, []⟩ E S
theorem j1_raise0 {C : Addr} {c m : Str} {j : Nat} (xo : XO K mf c C) (hc : X.calm = true) (tk : Takes X W) (hg : Gl X c) (hdb : (c == ("__debug__" : Str)) = false := by decide) (k : KM X K ⟨mf, none⟩ := by exact ⟨rfl, rfl⟩) :
    J1 K ⟨mf, none⟩ X W (.Raise (some (.Call (.Name c p) [.Constant (.str m) j p2] [] pos)) none pos') (fun _ σ H => W (.ref C) none σ H) (sRaise0 c) := by
  obtain ⟨rfl, em⟩ := k
  have em' : X.mg = mf := em
  subst em'
  obtain ⟨bmB, B, newId, initId, F, q⟩ := xo.q
  exact ⟨⟨rfl, rfl⟩, ps_raise hc tk (pmk_own F q xo.gC xo.kC (raises_own xo.s xo.t) hg hdb), fun G α H S E σ Dn l rv p => p (.ref C) none σ G α H (Stp.refl ..) l rv ⟨C, xo.gC, rfl, .inl ⟨rfl, rfl⟩⟩⟩
/-- try: body, except N as n: suite -/
theorem j1_try {N n : Str} {c : Value} {i : Nat} {ma : Str → Option Bool} {tb : WX → TS} {ts : Addr → Value → Option Addr → TS} {body : List Stmt} {b₀ : Stmt} {suite : List Stmt} {np : Pos} {db ds : DS} (hN : X.N.Nodup) (hi : X.N[i]? = some n) (hln : X.env.kindOf n = some .local) (hc : Names X N c) (tk : Takes X W)
    (hma : ∀ x b C, ma x = some b → mf x = some (.ref C) → PySem.W.exmOne K (.ref C) c = some b)
    (hb : ∀ (W' : WX) (pn : List (Addr × Obj)) (xe : Value → Shared → Prop), Takes (X.tr pn xe) W' → PassesOwn (model X.prog X.w) X.A X.env xe → JS K ⟨mf, none⟩ (X.tr pn xe) W' body (tb W') db)
    (hsu : ∀ (a : Addr) (oe : Obj) (cls : Value) (d : Option Addr) (pn : List (Addr × Obj)), Zc cls d oe → (∃ vs, oe.data = .fields vs) → JS K ⟨mf, some (a, cls, d)⟩ (X.suite a ((a, oe) :: pn)) WF (b₀ :: suite) (ts a cls d) ds)
    (hs : X.stack = X.env :: X.outer := by rfl) (hf : X.env.frame = some X.env.locals := by rfl) (hex : X.ex = [] := by rfl) (k : KM X K ⟨mf, none⟩ := by exact ⟨rfl, rfl⟩) :
    J1 K ⟨mf, none⟩ X W (.Try body [.ExceptHandler (some (.Name N np)) (some n) (b₀ :: suite) pos'] [] [] pos) (fun D σ H => tb (wAs K c i ts W D) D σ H) (sTry ma i db ds) := by
  obtain ⟨rfl, em⟩ := k
  have hbs : ∀ W', SS X.K ⟨mf, none⟩ W' (tb W') db := fun W' => by
    have t1 : Takes (X.tr [] fun e s' => wpAny (model X.prog X.w) X.A (leaving X.env e) (fun _ s'' => L2.CX X.prog X.w X.outer X.H_0 X.s_0 (fun _ _ _ => True) e s'') (fun _ _ => True) s') (fun cls d _ H => True) := takes_of hs hf hex rfl
    exact (hb W' [] _ (t1.imp fun _ _ _ _ _ => trivial) (passes_of (X := X.tr [] fun e s' => wpAny (model X.prog X.w) X.A (leaving X.env e) (fun _ s'' => L2.CX X.prog X.w X.outer X.H_0 X.s_0 (fun _ _ _ => True) e s'') (fun _ _ => True) s') rfl)).s
  refine ⟨⟨rfl, em⟩, ps_try_as hs hf hN hi hln hc tk (fun W' pn xe t po => (hb W' pn xe t po).p) (fun a oe cls d pn hz hf => (hsu a oe cls d pn hz hf).p), ss_try hma hbs fun a cls d => ?_⟩
  exact (hsu a ⟨cls, d, .fields #[], #[]⟩ cls d [] ⟨rfl, rfl⟩ ⟨_, rfl⟩).s
/-! ### what the suite asks of the exception in slot i -/
/-- e.g -/
def dXf (cs : List Str) (i : Nat) (g : Str) : DE := fun E S => match E[i]? with
  | some (some (.x c fs)) => if c ∈ cs then (match fs.lookup g with
    | some y => .ok (.d y) S
    | none => .no) else .no
  | _ => .no
def tXf' (K : PySem.W.Frag) (a : Addr) (cls : Value) (d : Option Addr) (i : Nat) (g : Str) : TE := fun σ H Q => σ[i]? = some (some (.ref a)) ∧ ∃ (C dd : Addr) (fs : List (Str × V)) (v : V), cls = .ref C ∧ XfC K C ∧ PySem.W.findIn K (.ref C) g = some none ∧ d = some dd ∧ H dd = some (.xd fs) ∧ fs.lookup g = some v ∧ Q v H
theorem lookF {G : Hp} {g : Str} : ∀ {fs : List (Str × D)} {vs : List (Str × V)} {y : D}, RepF K mf G fs vs → fs.lookup g = some y → ∃ v, vs.lookup g = some v ∧ Rep K mf G y v
  | [], _, _, _, h => by cases h
  | (k, d) :: fs, vs, y, r, h => by
    obtain ⟨v, t, rfl, r1, r2⟩ := r
    rw [List.lookup_cons] at h ⊢
    cases e : g == k with
    | true => rw [e] at h; cases h; exact ⟨v, rfl, r1⟩
    | false => rw [e] at h; exact lookF r2 h
theorem j_xf {a : Addr} {oe : Obj} {cls : Value} {d : Option Addr} {pn : List (Addr × Obj)} {i : Nat} {n g : Str} {cs : List Str} (hz : Zc cls d oe) (hf : ∃ vs, oe.data = .fields vs) (hN : X.N[i]? = some n) (hv : Vis X.env.scope n)
    (hx : ∀ c ∈ cs, ∀ C, mf c = some (.ref C) → XfC K C ∧ PySem.W.findIn K (.ref C) g = some none)
    (hb : attributeBase (.Name n p) g X.env (eval (.Name n p) X.env) = eval (.Name n p) X.env := by rfl) (hd : (n == ("__debug__" : Str)) = false := by decide) (hcd : (n == ("__classdict__" : Str)) = false := by decide) (k : KM X K ⟨mf, some (a, cls, d)⟩ := by exact ⟨rfl, rfl⟩) :
    JE K ⟨mf, some (a, cls, d)⟩ (X.suite a ((a, oe) :: pn)) W (.Attribute (.Name n p) g pos) (tXf' K a cls d i g) (dXf cs i g) := by
  obtain ⟨rfl, em⟩ := k
  refine ⟨⟨rfl, em⟩, ⟨fun pins s σ H Q I h => ?_⟩, fun G α H S E σ Q l rv p => ?_⟩
  · obtain ⟨h1, C, dd, fs, v, ec, T, hno, ed, eH, el, q⟩ := h
    have pv : PE (X.suite a ((a, oe) :: pn)) (.Name n p) (tVar i) := pe_var hN hv hd hcd
    exact (pe_xf (C := C) T hno hz hf pv hb).run pins s σ H Q I ⟨.ref a, h1, rfl, ec, dd, fs, v, ed, eH, el, q⟩
  · unfold dXf at p
    split at p
    · rename_i c fs he
      split at p
      · rename_i hcs
        split at p
        · rename_i y hy
          obtain ⟨v, h1, h2⟩ := rv.2 i _ he
          rcases h2 with h2 | ⟨c', fs', a', C, dx, e1, rfl, e2, gC, e3⟩
          · exact h2.elim
          · cases e1
            cases e2
            rcases e3 with ⟨e3, _⟩ | ⟨dd, vs, rfl, e4, e5⟩
            · rw [e3] at hy; cases hy
            · obtain ⟨w, hw, rw'⟩ := lookF e5 hy
              obtain ⟨T, hno⟩ := hx c hcs C gC
              exact ⟨h1, C, dd, vs, w, rfl, T, hno, rfl, l.sub _ _ e4, hw, p.here l rw'⟩
        · exact p.elim
      · exact p.elim
    · exact p.elim
/-- isinstance(e, c) -/
def dXi (su : Str → Option Bool) (i : Nat) : DE := fun E S => match E[i]? with
  | some (some (.x c _)) => match su c with
    | some b => .ok (.d (.bl b)) S
    | none => .no
  | _ => .no
def tXi (K : PySem.W.Frag) (a : Addr) (cls : Value) (d : Option Addr) (i : Nat) (cv : Value) : TE := fun σ H Q => σ[i]? = some (some (.ref a)) ∧ ∃ (C : Addr) (b : Bool), cls = .ref C ∧ ExcC K C ∧ PySem.W.kitOne K (.ref C) cv = some b ∧ (d = none ∨ ∃ dd fs, d = some dd ∧ H dd = some (.xd fs)) ∧ Q (.bl b) H
theorem call_isX {Y : Cx} {a C : Addr} {cv : Value} {c : V} {d : Option Addr} {oe : Obj} {pn : List (Addr × Obj)} {b : Bool} (T : ExcC Y.K C) (hz : Zc (.ref C) d oe) (hf : ∃ vs, oe.data = .fields vs) (hcv : ∀ u, RelV c u → u = cv) (hk : PySem.W.kitOne Y.K (.ref C) cv = some b) :
    CallR (Y.suite a ((a, oe) :: pn)) (.builtin "isinstance") (fun xs H Q => xs = [.ref a, c] ∧ (d = none ∨ ∃ dd fs, d = some dd ∧ H dd = some (.xd fs)) ∧ Q (.bl b) H) := by
  intro pins s σ H xs us Q I r h
  obtain ⟨rfl, hd, q⟩ := h
  cases r with
  | cons rx rr =>
    cases rr with
    | cons rt rr =>
      cases rr
      cases rx
      have ec := hcv _ rt
      subst ec
      obtain ⟨hget, _⟩ := I.pin (a, oe) (List.mem_append.mpr (.inl List.mem_cons_self))
      obtain ⟨vs, hv⟩ := hf
      have cl : (PySem.W.clsIn Y.K C).isSome = true := by
        obtain ⟨cd, h, _⟩ := PySem.W.any_some T.hd
        rw [h]; rfl
      have J : ∃ od, PySem.W.InstAt s.heap a oe C od := by
        rcases hd with rfl | ⟨dd, fs, rfl, hD⟩
        · exact ⟨none, hget, hz.1, by unfold PySem.W.notCls; rw [hv] <;> rfl, by rw [hz.2]; trivial⟩
        · have hx : ObjOk Y.prog Y.w H s.heap dd (.xd fs) := I.hok dd _ hD
          obtain ⟨mA, hns, hr⟩ := hx
          obtain ⟨od, ho, hl⟩ := lookIn_ns hns
          exact ⟨some od, hget, hz.1, by unfold PySem.W.notCls; rw [hv] <;> rfl, by rw [hz.2]; exact ho⟩
      obtain ⟨od, J⟩ := J
      exact PySem.W.kia_one (PySem.W.kitx_exc cl T.hg T.hk T.hs T.ha T.hn T.ht T.hm) I.kIn J hk (fun z => nomatch z) fun tk => ⟨.bl b, H, I.kept (t' := tk) fun _ _ z => z, rfl, q⟩
theorem j_xi {a : Addr} {oe : Obj} {cls cv : Value} {c : V} {d : Option Addr} {pn : List (Addr × Obj)} {i : Nat} {n : Str} {ce : Expr} {su : Str → Option Bool} (hz : Zc cls d oe) (hf : ∃ vs, oe.data = .fields vs) (hN : X.N[i]? = some n) (hv : Vis X.env.scope n) (hg : Gl X "isinstance") (hm : mf "isinstance" = none)
    (hc : PE (X.suite a ((a, oe) :: pn)) ce (tC c)) (hcv : ∀ u, RelV c u → u = cv) (hx : ∀ c b, su c = some b → ∀ C, mf c = some (.ref C) → ExcC K C ∧ PySem.W.kitOne K (.ref C) cv = some b)
    (hd : (n == ("__debug__" : Str)) = false := by decide) (hcd : (n == ("__classdict__" : Str)) = false := by decide) (k : KM X K ⟨mf, some (a, cls, d)⟩ := by exact ⟨rfl, rfl⟩)
    (he : starEach (.Name n p1 :: [ce]) X.env = (false, eval (.Name n p1) X.env) :: starEach [ce] X.env := by rfl) (he2 : starEach (ce :: []) X.env = (false, eval ce X.env) :: starEach [] X.env := by rfl) (hpl : (backTo pos (starEach [ce] X.env)).any (·.1) = false := by rfl) :
    JE K ⟨mf, some (a, cls, d)⟩ (X.suite a ((a, oe) :: pn)) W (.Call (.Name "isinstance" p) [.Name n p1, ce] [] pos) (tXi K a cls d i cv) (dXi su i) := by
  obtain ⟨rfl, em⟩ := k
  refine ⟨⟨rfl, em⟩, ⟨fun pins s σ H Q I h => ?_⟩, fun G α H S E σ Q l rv p => ?_⟩
  · obtain ⟨h1, C, b, ec, T, hk, hd', q⟩ := h
    subst ec
    have pv : PE (X.suite a ((a, oe) :: pn)) (.Name n p1) (tVar i) := pe_var hN hv hd hcd
    have pa : PA (X.suite a ((a, oe) :: pn)) [.Name n p1, ce] (tCons (tVar i) (tCons (tC c) tNil)) := pa_cons pv (pa_cons hc pa_nil he2) he
    exact (pe_callB (call_isX (d := d) T hz hf hcv hk) hg (by rw [show X.mg = mf from em]; exact hm) boot_isinstance pa (by decide) (by decide) he hpl).run pins s σ H Q I ⟨.ref a, h1, rfl, hd', q⟩
  · unfold dXi at p
    split at p
    · rename_i c0 fs he
      split at p
      · rename_i b hy
        obtain ⟨v, h1, h2⟩ := rv.2 i _ he
        rcases h2 with h2 | ⟨c', fs', a', C, dx, e1, rfl, e2, gC, e3⟩
        · exact h2.elim
        · cases e1
          cases e2
          obtain ⟨T, hk⟩ := hx _ _ hy C gC
          refine ⟨h1, C, b, rfl, T, hk, ?_, p.here l rfl⟩
          rcases e3 with ⟨_, e3⟩ | ⟨dd, vs, rfl, e4, e5⟩
          · exact .inl e3
          · exact .inr ⟨dd, vs, rfl, l.sub _ _ e4⟩
      · exact p.elim
    · exact p.elim
end
end Dl

/-! small things for the assembly -/
namespace Dl
open PySem PySem.Spec L2
theorem forall_nil {α : Type} {P : α → Prop} : ∀ c ∈ ([] : List α), P c := fun c h => by cases h
theorem forall_cons {α : Type} {P : α → Prop} {x : α} {l : List α} (h : P x) (k : ∀ c ∈ l, P c) : ∀ c ∈ x :: l, P c := fun c hc => by
  rcases List.mem_cons.mp hc with z | z
  · rw [z]; exact h
  · exact k c z
theorem tab_ok {P : Str → Bool → Prop} {tb : List (Str × Bool)} (h : ∀ p ∈ tb, P p.1 p.2) : ∀ c b, tb.lookup c = some b → P c b := fun c b hl => h (c, b) (mem_of_lookup hl)
theorem reps_ints {K : PySem.W.Frag} {mg : Str → Option Value} {G : Hp} : ∀ ns : List Int, Reps K mg G (ns.map D.int) (ns.map V.int)
  | [] => rfl
  | n :: ns => ⟨.int n, ns.map V.int, rfl, rfl, reps_ints ns⟩
end Dl

/-! lists of ints, enumerated texts -/
namespace Dl
open PySem PySem.Spec L2
abbrev iE (l : List Int) : List E := l.map fun i => E.d (.int i)
abbrev iL (l : List Int) : List D := l.map D.int
section
variable {S : Sto} {n : Nat} {l : List Int} {E : En}
theorem atI_ints {l : List Int} {i : Int} (h0 : 0 ≤ i) (h1 : i.toNat < l.length) : atI ((iL l).map Dl.E.d) i = some (.d (.int (l.getD i.toNat 0))) :=
  atI_int h0 (by simp [List.getElem?_eq_getElem h1, List.getD_eq_getElem?_getD])
theorem ev_appI {y : Int} (h : S[n]? = some (.own (.lst (iE l)))) (h2 : l.length < 10000000) : gAppend S (.h n) [.d (.int y)] = .ok (.d .non) (S.set n (.own (.lst (iE (l ++ [y]))))) := by
  rw [ev_append h (by simpa using h2)]; unfold iE; rw [List.map_append]; rfl
theorem ixO {k : Nat} {v : Int} (h : S[n]? = some (.own (.lst (iE l)))) (h2 : l[k]? = some v) : gIx S (.h n) (.d (.int (k : Nat))) = .ok (.d (.int v)) S :=
  ev_ixQ (asQ_L (asL_own h)) (atI_pos (by rw [List.getElem?_map, h2]; rfl))
theorem ixO' {i : Int} {k : Nat} {v : Int} (h : S[n]? = some (.own (.lst (iE l)))) (h2 : l[k]? = some v) (hi : i = (k : Nat)) : gIx S (.h n) (.d (.int i)) = .ok (.d (.int v)) S := by subst hi; exact ixO h h2
/-- l[-1] -/
theorem atI_neg1 {α : Type} {xs : List α} {x : α} (h : xs[xs.length - 1]? = some x) : atI xs (-1) = some x := by
  have hl : 0 < xs.length := by
    cases xs with
    | nil => simp at h
    | cons _ _ => simp
  unfold atI ixN
  rw [if_neg (by omega)]
  have : (-1 + (xs.length : Int)).toNat = xs.length - 1 := by omega
  first
    | (rw [if_pos (by omega)]; simp [this, h])
    | (simp [this, h]; omega)
theorem ixO_last {v : Int} (h : S[n]? = some (.own (.lst (iE l)))) (h2 : l[l.length - 1]? = some v) : gIx S (.h n) (.d (.int (-1))) = .ok (.d (.int v)) S :=
  ev_ixQ (asQ_L (asL_own h)) (atI_neg1 (by unfold iE; rw [List.length_map, List.getElem?_map, h2]; rfl))
theorem ixD {ns : List Int} {k : Nat} {v : Int} (h2 : ns[k]? = some v) {i : Int} (hi : i = (k : Nat)) : gIx S (.d (.lst (iL ns))) (.d (.int i)) = .ok (.d (.int v)) S := by
  subst hi
  exact ev_ixQ asQ_d (atI_pos (by rw [List.getElem?_map, List.getElem?_map, h2]; rfl))
theorem ixS {t : Cs} {k : Nat} {c : Nat} (hl : t.length ≤ 16777216) (h2 : t[k]? = some c) {i : Int} (hi : i = (k : Nat)) : gIx S (.d (.str t)) (.d (.int i)) = .ok (.d (.str [c])) S := by
  subst hi
  exact ev_ixS hl (atI_pos h2)
theorem enL_str (b : Cs) : ∀ k : Nat, enL k (b.map fun c => Dl.E.d (.str [c])) = (List.range b.length).map fun p => Dl.E.d (.tup [.int ((k + p : Nat) : Int), .str [b.getD p 0]]) := by
  induction b with
  | nil => intro k; rfl
  | cons c b ih =>
    intro k
    show mkU [.d (.int k), .d (.str [c])] :: enL (k + 1) _ = _
    rw [ih (k + 1), List.length_cons, List.range_succ_eq_map, List.map_cons, List.map_map]
    congr 1
    refine List.map_congr_left fun p _ => ?_
    show _ = Dl.E.d (.tup [.int ((k + (p + 1) : Nat) : Int), .str [(c :: b).getD (p + 1) 0]])
    rw [List.getD_cons_succ, show k + 1 + p = k + (p + 1) by omega]
theorem ev_forEnS {da : DA} {g : DG} {bd : DS} {b : Cs} {S1 : Sto} (h : da E S = .ok [.d (.str b)] S1) : sFor (itEn da) g bd E S = forN g bd ((List.range b.length).map fun p => Dl.E.d (.tup [.int ((p : Nat) : Int), .str [b.getD p 0]])) E S1 := by
  unfold sFor itEn
  rw [h]
  show forN g bd (enL 0 (b.map fun c => Dl.E.d (.str [c]))) E S1 = _
  rw [enL_str]
  simp
theorem ev_forS {d : DE} {g : DG} {bd : DS} {b : Cs} {S1 : Sto} (h : d E S = .ok (.d (.str b)) S1) : sFor (itA d) g bd E S = forN g bd (b.map fun c => Dl.E.d (.str [c])) E S1 := by
  unfold sFor itA
  rw [h]
  rfl
theorem ev_forL {d : DE} {g : DG} {bd : DS} {ds : List D} {S1 : Sto} (h : d E S = .ok (.d (.lst ds)) S1) : sFor (itA d) g bd E S = forN g bd (ds.map .d) E S1 := by
  unfold sFor itA
  rw [h]
  rfl
theorem ev_listRg {da : DE} {n : Int} {S1 : Sto} (h : da E S = .ok (.d (.int n)) S1) (hn : 0 ≤ n ∧ n ≤ 1000000) : dLstRg (dRg1 da) E S = .ok (.h S1.length) (S1 ++ [.own (.lst (iE ((List.range n.toNat).map fun k => ((k : Nat) : Int))))]) := by
  unfold dLstRg dRg1
  rw [h]
  show (if -1000000 ≤ (0 : Int) ∧ (0 : Int) ≤ 1000000 ∧ -1000000 ≤ n ∧ n ≤ 1000000 then newL S1 (rgE 0 n) else .no) = _
  rw [if_pos ⟨by omega, by omega, by omega, hn.2⟩, ev_newL]
  unfold rgE iE
  rw [List.map_map]
  simp
theorem set_some {σ : Type} {l : List σ} {n : Nat} {a b : σ} (h : l[n]? = some a) : (l.set n b)[n]? = some b := List.getElem?_set_self (List.getElem?_eq_some_iff.mp h).1
theorem ev_itR1 {da : DA} {n : Int} {S1 : Sto} (h : da E S = .ok [.d (.int n)] S1) (hn : 0 ≤ n ∧ n ≤ 100000000) : itR1 da E S = .ok ((List.range n.toNat).map fun k => .d (.int (k : Nat)), none) S1 := by
  unfold itR1
  rw [h]
  show (match rg1 [.d (.int n)] with
    | some q => R.ok (rgL q.1 q.2, none) S1
    | none => .no) = _
  have e : rg1 [.d (.int n)] = some (0, n.toNat) := by
    show (if -1000000 ≤ n ∧ n ≤ 100000000 then some ((0 : Int), n.toNat) else none) = _
    rw [if_pos ⟨by omega, hn.2⟩]
  rw [e]
  unfold rgL
  simp
theorem lcN_eq {α : Type} {inj out : α → Dl.E} {j : Nat} {d : DE} {E0 : En} {S1 : Sto} : ∀ (l : List α) (acc : List Dl.E), acc.length + l.length ≤ 1000000 → (∀ x ∈ l, ∀ acc, d (E0.set j (some (inj x))) (S1 ++ [.own (.lst acc)]) = .ok (out x) (S1 ++ [.own (.lst acc)])) →
    lcN (oName j) dYes d E0 S1.length (l.map inj) (S1 ++ [.own (.lst acc)]) = some (S1 ++ [.own (.lst (acc ++ l.map out))])
  | [], acc, _, _ => by simp [lcN]
  | x :: l, acc, hl, h => by
    have h1 := h x List.mem_cons_self acc
    have hp : putL (S1 ++ [.own (.lst acc)]) S1.length (out x) = some (S1 ++ [.own (.lst (acc ++ [out x]))]) := by
      unfold putL getL
      rw [get_new (S := S1)]
      simp at hl
      simp [show acc.length < 10000000 by omega]
    have ih := lcN_eq (inj := inj) (out := out) (j := j) (d := d) (E0 := E0) (S1 := S1) l (acc ++ [out x]) (by simp at hl ⊢; omega) (fun y hy => h y (List.mem_cons_of_mem _ hy))
    rw [List.map_cons]
    unfold lcN
    simp only [oName, dYes]
    rw [h1]
    dsimp only
    rw [hp]
    dsimp only
    rw [ih]
    simp
theorem ev_lc {α : Type} {inj out : α → Dl.E} {l : List α} {di : DI} {j : Nat} {d : DE} {vs : List Nat} {S1 : Sto} (hi : di E S = .ok (l.map inj, none) S1) (hl : l.length ≤ 1000000)
    (h : ∀ x ∈ l, ∀ acc, d ((wipeE E vs).set j (some (inj x))) (S1 ++ [.own (.lst acc)]) = .ok (out x) (S1 ++ [.own (.lst acc)])) :
    dLc di (oName j) dYes d vs E S = .ok (.h S1.length) (S1 ++ [.own (.lst (l.map out))]) := by
  unfold dLc
  rw [hi, ev_bind_ok]
  dsimp only
  rw [if_pos (by simpa using hl), lcN_eq l [] (by simpa using hl) h]
  simp
end
end Dl

/-! calls, raising, own lists walked -/
namespace Dl
open PySem PySem.Spec L2
section
variable {E : En} {S S1 : Sto} {M : List D → MR} {dv : List D} {da : DA}
theorem ev_call {xs : List D} {y : D} (h : da E S = .ok (xs.map .d) S1) (hl : xs.length < 10000) (hM : M (xs ++ dv) = okD y) : dCall M dv da E S = .ok (.d y) S1 := by
  unfold dCall
  rw [h, ev_bind_ok, argsD_d S1 xs hl]
  dsimp only
  rw [hM]
  simp [shE]
theorem ev_callX {xs : List D} {x : Xc} (h : da E S = .ok (xs.map .d) S1) (hl : xs.length < 10000) (hM : M (xs ++ dv) = .ex x) : dCall M dv da E S = .ex x S1 := by
  unfold dCall
  rw [h, ev_bind_ok, argsD_d S1 xs hl]
  dsimp only
  rw [hM]
theorem ev_raise {c : Str} {n : Nat} {fd : List D → List (Str × D)} {xs : List D} (h : da E S = .ok (xs.map .d) S1) (hl : xs.length = n) (hn : n ≤ 1000) : sRaise c n fd da E S = .ex ⟨c, fd xs⟩ E S1 := by
  unfold sRaise
  rw [h, ev_st_ok, argsD_d S1 xs (by omega)]
  dsimp only
  rw [if_pos ⟨hl, hn⟩]
theorem ev_forEnS0 {g : DG} {bd : DS} {b : Cs} (h : da E S = .ok [.d (.str b)] S1) : sFor (itEn da) g bd E S = forN g bd (enL 0 (b.map fun c => Dl.E.d (.str [c]))) E S1 := by
  unfold sFor itEn
  rw [h]
  rfl
theorem enL_cons (k : Nat) (e : Dl.E) (l : List Dl.E) : enL k (e :: l) = mkU [.d (.int k), e] :: enL (k + 1) l := rfl
theorem mkU2 (x y : D) : mkU [.d x, .d y] = .d (.tup [x, y]) := rfl
theorem ev_forOwn {d : DE} {g : DG} {bd : DS} {n : Nat} {es : List Dl.E} (h : d E S = .ok (.h n) S1) (h2 : S1[n]? = some (.own (.lst es))) : sFor (itA d) g bd E S = forG g bd n es es E S1 := by
  unfold sFor itA
  rw [h, ev_bind_ok]
  have e : itE S1 (.h n) = some (es, some n) := by
    show (match S1[n]? with
      | some (.own (.lst es)) => some (es, some n)
      | some (.frz (.lst ds)) => some (ds.map .d, none)
      | _ => none) = _
    rw [h2]
  rw [e]
  rfl
theorem forG_nil {g : DG} {bd : DS} {n : Nat} {es : List Dl.E} (h2 : S[n]? = some (.own (.lst es))) : forG g bd n es [] E S = .nx E S := by
  unfold forG; rw [if_pos h2]
theorem forG_cons {g : DG} {bd : DS} {n : Nat} {es xs : List Dl.E} {x : Dl.E} (h2 : S[n]? = some (.own (.lst es))) : forG g bd n es (x :: xs) E S = (match g x E with
    | none => RSt.no
    | some E1 => match bd E1 S with
      | .nx E2 S2 => forG g bd n es xs E2 S2
      | .ct E2 S2 => forG g bd n es xs E2 S2
      | .bk E2 S2 => .nx E2 S2
      | .rt v S2 => .rt v S2
      | .ex e E2 S2 => .ex e E2 S2
      | .no => .no) := by
  (rw [forG]; rw [if_pos h2]) <;> rfl
variable {g : DG} {bd : DS} {x : Dl.E} {xs es : List Dl.E} {E1 E2 : En} {S2 : Sto} {v : Dl.E} {n : Nat}
theorem forN_nx (h1 : g x E = some E1) (h2 : bd E1 S = .nx E2 S2) : forN g bd (x :: xs) E S = forN g bd xs E2 S2 := by rw [forN_cons, h1]; dsimp only; rw [h2]
theorem forN_ct (h1 : g x E = some E1) (h2 : bd E1 S = .ct E2 S2) : forN g bd (x :: xs) E S = forN g bd xs E2 S2 := by rw [forN_cons, h1]; dsimp only; rw [h2]
theorem forN_bk (h1 : g x E = some E1) (h2 : bd E1 S = .bk E2 S2) : forN g bd (x :: xs) E S = .nx E2 S2 := by rw [forN_cons, h1]; dsimp only; rw [h2]
theorem forN_rt (h1 : g x E = some E1) (h2 : bd E1 S = .rt v S2) : forN g bd (x :: xs) E S = .rt v S2 := by rw [forN_cons, h1]; dsimp only; rw [h2]
theorem forN_ex {e : Xc} (h1 : g x E = some E1) (h2 : bd E1 S = .ex e E2 S2) : forN g bd (x :: xs) E S = .ex e E2 S2 := by rw [forN_cons, h1]; dsimp only; rw [h2]
theorem forN_nil : forN g bd [] E S = .nx E S := rfl
theorem forG_nx (h : S[n]? = some (.own (.lst es))) (h1 : g x E = some E1) (h2 : bd E1 S = .nx E2 S2) : forG g bd n es (x :: xs) E S = forG g bd n es xs E2 S2 := by rw [forG_cons h, h1]; dsimp only; rw [h2]
theorem forG_rt (h : S[n]? = some (.own (.lst es))) (h1 : g x E = some E1) (h2 : bd E1 S = .rt v S2) : forG g bd n es (x :: xs) E S = .rt v S2 := by rw [forG_cons h, h1]; dsimp only; rw [h2]
end
end Dl
namespace Dl
open PySem PySem.Spec L2
section
variable {E E1 : En} {S S1 : Sto}
theorem ev_xi {su : Str → Option Bool} {i : Nat} {c : Str} {fs : List (Str × D)} {b : Bool} (h : E[i]? = some (some (.x c fs))) (h2 : su c = some b) : dXi su i E S = .ok (.d (.bl b)) S := by
  unfold dXi; rw [h]; dsimp only; rw [h2]
theorem ev_xf {cs : List Str} {i : Nat} {g c : Str} {fs : List (Str × D)} {y : D} (h : E[i]? = some (some (.x c fs))) (hc : c ∈ cs) (h2 : fs.lookup g = some y) : dXf cs i g E S = .ok (.d y) S := by
  unfold dXf; rw [h]; dsimp only; rw [if_pos hc, h2]
theorem ev_tryX {ma : Str → Option Bool} {i : Nat} {body suite : DS} {x : Xc} (h : body E S = .ex x E1 S1) (h2 : ma x.cls = some true) : sTry ma i body suite E S = closeR i (suite (E1.set i (some (.x x.cls x.fs))) S1) := by
  unfold sTry; rw [h]; dsimp only; rw [h2]
theorem ev_tryR {ma : Str → Option Bool} {i : Nat} {body suite : DS} {v : Dl.E} (h : body E S = .rt v S1) : sTry ma i body suite E S = .rt v S1 := by
  unfold sTry; rw [h]
theorem ev_tryN {ma : Str → Option Bool} {i : Nat} {body suite : DS} (h : body E S = .nx E1 S1) : sTry ma i body suite E S = .nx E1 S1 := by
  unfold sTry; rw [h]
end
end Dl

/-! isinstance at plain values -/
namespace Dl
open PySem PySem.Spec L2
section
variable {S : Sto} {b : Bool} {i : Int} {s : Cs} {l : List D}
@[simp] theorem isi_non_bool : gIsi S [.d (.non), .d (.ty "bool")] = .ok (.d (.bl false)) S := by
  have e : kitB "NoneType" "bool" = some false := by decide +kernel
  show (match kitB "NoneType" "bool" with
    | some b => R.ok (Dl.E.d (.bl b)) S
    | none => .no) = _
  rw [e]
@[simp] theorem isi_non_int : gIsi S [.d (.non), .d (.ty "int")] = .ok (.d (.bl false)) S := by
  have e : kitB "NoneType" "int" = some false := by decide +kernel
  show (match kitB "NoneType" "int" with
    | some b => R.ok (Dl.E.d (.bl b)) S
    | none => .no) = _
  rw [e]
@[simp] theorem isi_non_str : gIsi S [.d (.non), .d (.ty "str")] = .ok (.d (.bl false)) S := by
  have e : kitB "NoneType" "str" = some false := by decide +kernel
  show (match kitB "NoneType" "str" with
    | some b => R.ok (Dl.E.d (.bl b)) S
    | none => .no) = _
  rw [e]
@[simp] theorem isi_non_list : gIsi S [.d (.non), .d (.ty "list")] = .ok (.d (.bl false)) S := by
  have e : kitB "NoneType" "list" = some false := by decide +kernel
  show (match kitB "NoneType" "list" with
    | some b => R.ok (Dl.E.d (.bl b)) S
    | none => .no) = _
  rw [e]
@[simp] theorem isi_non_tuple : gIsi S [.d (.non), .d (.ty "tuple")] = .ok (.d (.bl false)) S := by
  have e : kitB "NoneType" "tuple" = some false := by decide +kernel
  show (match kitB "NoneType" "tuple" with
    | some b => R.ok (Dl.E.d (.bl b)) S
    | none => .no) = _
  rw [e]
@[simp] theorem isi_non_dict : gIsi S [.d (.non), .d (.ty "dict")] = .ok (.d (.bl false)) S := by
  have e : kitB "NoneType" "dict" = some false := by decide +kernel
  show (match kitB "NoneType" "dict" with
    | some b => R.ok (Dl.E.d (.bl b)) S
    | none => .no) = _
  rw [e]
@[simp] theorem isi_bl_bool : gIsi S [.d (.bl b), .d (.ty "bool")] = .ok (.d (.bl true)) S := by
  have e : kitB "bool" "bool" = some true := by decide +kernel
  show (match kitB "bool" "bool" with
    | some b => R.ok (Dl.E.d (.bl b)) S
    | none => .no) = _
  rw [e]
@[simp] theorem isi_bl_int : gIsi S [.d (.bl b), .d (.ty "int")] = .ok (.d (.bl true)) S := by
  have e : kitB "bool" "int" = some true := by decide +kernel
  show (match kitB "bool" "int" with
    | some b => R.ok (Dl.E.d (.bl b)) S
    | none => .no) = _
  rw [e]
@[simp] theorem isi_bl_str : gIsi S [.d (.bl b), .d (.ty "str")] = .ok (.d (.bl false)) S := by
  have e : kitB "bool" "str" = some false := by decide +kernel
  show (match kitB "bool" "str" with
    | some b => R.ok (Dl.E.d (.bl b)) S
    | none => .no) = _
  rw [e]
@[simp] theorem isi_bl_list : gIsi S [.d (.bl b), .d (.ty "list")] = .ok (.d (.bl false)) S := by
  have e : kitB "bool" "list" = some false := by decide +kernel
  show (match kitB "bool" "list" with
    | some b => R.ok (Dl.E.d (.bl b)) S
    | none => .no) = _
  rw [e]
@[simp] theorem isi_bl_tuple : gIsi S [.d (.bl b), .d (.ty "tuple")] = .ok (.d (.bl false)) S := by
  have e : kitB "bool" "tuple" = some false := by decide +kernel
  show (match kitB "bool" "tuple" with
    | some b => R.ok (Dl.E.d (.bl b)) S
    | none => .no) = _
  rw [e]
@[simp] theorem isi_bl_dict : gIsi S [.d (.bl b), .d (.ty "dict")] = .ok (.d (.bl false)) S := by
  have e : kitB "bool" "dict" = some false := by decide +kernel
  show (match kitB "bool" "dict" with
    | some b => R.ok (Dl.E.d (.bl b)) S
    | none => .no) = _
  rw [e]
@[simp] theorem isi_int_bool : gIsi S [.d (.int i), .d (.ty "bool")] = .ok (.d (.bl false)) S := by
  have e : kitB "int" "bool" = some false := by decide +kernel
  show (match kitB "int" "bool" with
    | some b => R.ok (Dl.E.d (.bl b)) S
    | none => .no) = _
  rw [e]
@[simp] theorem isi_int_int : gIsi S [.d (.int i), .d (.ty "int")] = .ok (.d (.bl true)) S := by
  have e : kitB "int" "int" = some true := by decide +kernel
  show (match kitB "int" "int" with
    | some b => R.ok (Dl.E.d (.bl b)) S
    | none => .no) = _
  rw [e]
@[simp] theorem isi_int_str : gIsi S [.d (.int i), .d (.ty "str")] = .ok (.d (.bl false)) S := by
  have e : kitB "int" "str" = some false := by decide +kernel
  show (match kitB "int" "str" with
    | some b => R.ok (Dl.E.d (.bl b)) S
    | none => .no) = _
  rw [e]
@[simp] theorem isi_int_list : gIsi S [.d (.int i), .d (.ty "list")] = .ok (.d (.bl false)) S := by
  have e : kitB "int" "list" = some false := by decide +kernel
  show (match kitB "int" "list" with
    | some b => R.ok (Dl.E.d (.bl b)) S
    | none => .no) = _
  rw [e]
@[simp] theorem isi_int_tuple : gIsi S [.d (.int i), .d (.ty "tuple")] = .ok (.d (.bl false)) S := by
  have e : kitB "int" "tuple" = some false := by decide +kernel
  show (match kitB "int" "tuple" with
    | some b => R.ok (Dl.E.d (.bl b)) S
    | none => .no) = _
  rw [e]
@[simp] theorem isi_int_dict : gIsi S [.d (.int i), .d (.ty "dict")] = .ok (.d (.bl false)) S := by
  have e : kitB "int" "dict" = some false := by decide +kernel
  show (match kitB "int" "dict" with
    | some b => R.ok (Dl.E.d (.bl b)) S
    | none => .no) = _
  rw [e]
@[simp] theorem isi_str_bool : gIsi S [.d (.str s), .d (.ty "bool")] = .ok (.d (.bl false)) S := by
  have e : kitB "str" "bool" = some false := by decide +kernel
  show (match kitB "str" "bool" with
    | some b => R.ok (Dl.E.d (.bl b)) S
    | none => .no) = _
  rw [e]
@[simp] theorem isi_str_int : gIsi S [.d (.str s), .d (.ty "int")] = .ok (.d (.bl false)) S := by
  have e : kitB "str" "int" = some false := by decide +kernel
  show (match kitB "str" "int" with
    | some b => R.ok (Dl.E.d (.bl b)) S
    | none => .no) = _
  rw [e]
@[simp] theorem isi_str_str : gIsi S [.d (.str s), .d (.ty "str")] = .ok (.d (.bl true)) S := by
  have e : kitB "str" "str" = some true := by decide +kernel
  show (match kitB "str" "str" with
    | some b => R.ok (Dl.E.d (.bl b)) S
    | none => .no) = _
  rw [e]
@[simp] theorem isi_str_list : gIsi S [.d (.str s), .d (.ty "list")] = .ok (.d (.bl false)) S := by
  have e : kitB "str" "list" = some false := by decide +kernel
  show (match kitB "str" "list" with
    | some b => R.ok (Dl.E.d (.bl b)) S
    | none => .no) = _
  rw [e]
@[simp] theorem isi_str_tuple : gIsi S [.d (.str s), .d (.ty "tuple")] = .ok (.d (.bl false)) S := by
  have e : kitB "str" "tuple" = some false := by decide +kernel
  show (match kitB "str" "tuple" with
    | some b => R.ok (Dl.E.d (.bl b)) S
    | none => .no) = _
  rw [e]
@[simp] theorem isi_str_dict : gIsi S [.d (.str s), .d (.ty "dict")] = .ok (.d (.bl false)) S := by
  have e : kitB "str" "dict" = some false := by decide +kernel
  show (match kitB "str" "dict" with
    | some b => R.ok (Dl.E.d (.bl b)) S
    | none => .no) = _
  rw [e]
@[simp] theorem isi_lst_bool : gIsi S [.d (.lst l), .d (.ty "bool")] = .ok (.d (.bl false)) S := by
  have e : kitB "list" "bool" = some false := by decide +kernel
  show (match kitB "list" "bool" with
    | some b => R.ok (Dl.E.d (.bl b)) S
    | none => .no) = _
  rw [e]
@[simp] theorem isi_lst_int : gIsi S [.d (.lst l), .d (.ty "int")] = .ok (.d (.bl false)) S := by
  have e : kitB "list" "int" = some false := by decide +kernel
  show (match kitB "list" "int" with
    | some b => R.ok (Dl.E.d (.bl b)) S
    | none => .no) = _
  rw [e]
@[simp] theorem isi_lst_str : gIsi S [.d (.lst l), .d (.ty "str")] = .ok (.d (.bl false)) S := by
  have e : kitB "list" "str" = some false := by decide +kernel
  show (match kitB "list" "str" with
    | some b => R.ok (Dl.E.d (.bl b)) S
    | none => .no) = _
  rw [e]
@[simp] theorem isi_lst_list : gIsi S [.d (.lst l), .d (.ty "list")] = .ok (.d (.bl true)) S := by
  have e : kitB "list" "list" = some true := by decide +kernel
  show (match kitB "list" "list" with
    | some b => R.ok (Dl.E.d (.bl b)) S
    | none => .no) = _
  rw [e]
@[simp] theorem isi_lst_tuple : gIsi S [.d (.lst l), .d (.ty "tuple")] = .ok (.d (.bl false)) S := by
  have e : kitB "list" "tuple" = some false := by decide +kernel
  show (match kitB "list" "tuple" with
    | some b => R.ok (Dl.E.d (.bl b)) S
    | none => .no) = _
  rw [e]
@[simp] theorem isi_lst_dict : gIsi S [.d (.lst l), .d (.ty "dict")] = .ok (.d (.bl false)) S := by
  have e : kitB "list" "dict" = some false := by decide +kernel
  show (match kitB "list" "dict" with
    | some b => R.ok (Dl.E.d (.bl b)) S
    | none => .no) = _
  rw [e]
@[simp] theorem isi_tup_bool : gIsi S [.d (.tup l), .d (.ty "bool")] = .ok (.d (.bl false)) S := by
  have e : kitB "tuple" "bool" = some false := by decide +kernel
  show (match kitB "tuple" "bool" with
    | some b => R.ok (Dl.E.d (.bl b)) S
    | none => .no) = _
  rw [e]
@[simp] theorem isi_tup_int : gIsi S [.d (.tup l), .d (.ty "int")] = .ok (.d (.bl false)) S := by
  have e : kitB "tuple" "int" = some false := by decide +kernel
  show (match kitB "tuple" "int" with
    | some b => R.ok (Dl.E.d (.bl b)) S
    | none => .no) = _
  rw [e]
@[simp] theorem isi_tup_str : gIsi S [.d (.tup l), .d (.ty "str")] = .ok (.d (.bl false)) S := by
  have e : kitB "tuple" "str" = some false := by decide +kernel
  show (match kitB "tuple" "str" with
    | some b => R.ok (Dl.E.d (.bl b)) S
    | none => .no) = _
  rw [e]
@[simp] theorem isi_tup_list : gIsi S [.d (.tup l), .d (.ty "list")] = .ok (.d (.bl false)) S := by
  have e : kitB "tuple" "list" = some false := by decide +kernel
  show (match kitB "tuple" "list" with
    | some b => R.ok (Dl.E.d (.bl b)) S
    | none => .no) = _
  rw [e]
@[simp] theorem isi_tup_tuple : gIsi S [.d (.tup l), .d (.ty "tuple")] = .ok (.d (.bl true)) S := by
  have e : kitB "tuple" "tuple" = some true := by decide +kernel
  show (match kitB "tuple" "tuple" with
    | some b => R.ok (Dl.E.d (.bl b)) S
    | none => .no) = _
  rw [e]
@[simp] theorem isi_tup_dict : gIsi S [.d (.tup l), .d (.ty "dict")] = .ok (.d (.bl false)) S := by
  have e : kitB "tuple" "dict" = some false := by decide +kernel
  show (match kitB "tuple" "dict" with
    | some b => R.ok (Dl.E.d (.bl b)) S
    | none => .no) = _
  rw [e]
@[simp] theorem isN_non {x : E} : gIsN false S x (.d .non) = .ok (.d (.bl (isNo x))) S := nrfl rfl
@[simp] theorem notN_non {x : E} : gIsN true S x (.d .non) = .ok (.d (.bl (!isNo x))) S := nrfl rfl
@[simp] theorem isN_lst : gIsN false S (.d (.lst l)) (.d .non) = .ok (.d (.bl false)) S := nrfl rfl
theorem gIsN_no {x y : E} {neg : Bool} (h : isNo y = true) : gIsN neg S x y = .ok (.d (.bl (if neg then !isNo x else isNo x))) S := by unfold gIsN; rw [if_pos h]
end
end Dl

/-! joining letters -/
namespace Dl
open PySem PySem.Spec L2
theorem joinL_letters {α : Type} (f : α → Nat) : ∀ l : List α, TL.joinL [] (l.map fun x => [f x]) = l.map f
  | [] => rfl
  | [x] => rfl
  | x :: y :: l => by
    have ih := joinL_letters f (y :: l)
    show [f x] ++ [] ++ TL.joinL [] ((y :: l).map fun x => [f x]) = _
    rw [ih]; rfl
theorem sum_ones {α : Type} (f : α → Nat) : ∀ l : List α, ((l.map fun x => [f x]).map (·.length)).sum = l.length
  | [] => rfl
  | x :: l => by
    have ih := sum_ones f l
    simp only [List.map_cons, List.sum_cons, List.length_cons, List.length_nil] at ih ⊢
    omega
theorem ev_joinE {α : Type} {S : Sto} {n : Nat} {f : α → Nat} {l : List α} (h : S[n]? = some (.own (.lst (l.map fun x => E.d (.str [f x]))))) (hl : l.length ≤ 16777216) : gJoin S (.d (.str [])) [.h n] = .ok (.d (.str (l.map f))) S := by
  have e1 : asQ S (.h n) = some (l.map fun x => E.d (.str [f x])) := asQ_L (asL_own h)
  have e2 : allS (l.map fun x => E.d (.str [f x])) = some (l.map fun x => [f x]) := by
    have := allS_map (l.map fun x => [f x])
    rw [List.map_map] at this
    exact this
  unfold gJoin
  dsimp only
  rw [ev_asS, e1]
  dsimp only
  rw [e2]
  dsimp only
  rw [sum_ones, joinL_letters, if_pos (by simp; omega)]
end Dl

namespace Dl
open PySem PySem.Spec PyProof.Rows L2
def topS (i : Nat) : Stmt := PySem.Challenge.pw_pathsandchances_k44_distances_of_texts.main.body.getD i (.Pass ⟨0, 0, 0, 0⟩)
def lettersD : List Nat := (List.range 26).map (· + 97)
/-! ### bad_letter -/
abbrev t_bad_letter : Stmt := topS 7
abbrev nm_bad_letter : List Str := ["text", "most", "place", "letter"]
theorem sc_bad_letter : L2.FnScope ["text", "most", "place", "letter"] ["text", "most"] (L2.defScope t_bad_letter) := ⟨rfl, rfl, rfl, by decide +kernel, rfl, by decide +kernel, by decide +kernel⟩
noncomputable def d_bad_letter_1 : DS := (sIf (dOr (dB (dOp gGe (dVar 2) (dVar 1))) (dB (dOp gNotIn (dVar 3) (dC (.str lettersD))))) (sRet (dVar 2)) sNext)
noncomputable def d_bad_letter : DS := (sSeq (sFor (itEn (dCons (dVar 0) dNil)) (oTup [(oName 2), (oName 3)]) (d_bad_letter_1)) (sRet (dUn gNeg (dC (.int 1)))))
theorem k_bad_letter {P : Program} {w : World} {K : PySem.W.Frag} {mg : Str → Option Value} {base : Heap} {f : Addr} {fd : FuncData} {M : List D → MR} (F : L2.Fun K "bad_letter" "bad_letter" t_bad_letter f fd) (c_LETTERS : CG mg "LETTERS" (.str lettersD)) (z_enumerate : mg "enumerate" = none)
    (hM : ∀ ds, ds.length = 2 → MLe (M ds) (finD (d_bad_letter (en0 ds 2) []))) : FnOk P w K mg base (L2.CX P w) 1 f fd ["text", "most"] (spM K mg 2 M) :=
  fn_def F sc_bad_letter rfl rfl hM fun cdv A outer s0 H E hr tk po => ⟨_, (js_cons (j1_for po rfl (ji_en rfl z_enumerate (ja_cons (j_var (i := 0) rfl (.inl rfl)) ja_nil)) (jg_tup rfl (jgs_cons (jg_name (i := 2) sc_bad_letter.nd rfl (.inl rfl)) (jgs_cons (jg_name (i := 3) sc_bad_letter.nd rfl (.inl rfl)) jgs_nil))) (js_one (j1_if (jt_w (jw_or (jt_cmp op_ge so_ge (j_var (i := 2) rfl (.inl rfl)) (j_var (i := 1) rfl (.inl rfl))) (jw_or1 (jt_nin (j_var (i := 3) rfl (.inl rfl)) (j_cg c_LETTERS rfl))))) (js_one (j1_ret (j_var (i := 2) rfl (.inl rfl)))) js_nil))) (js_one (j1_ret (j_neg j_int))))⟩
/-! ### check_text -/
abbrev t_check_text : Stmt := topS 8
abbrev nm_check_text : List Str := ["text", "most", "place"]
theorem sc_check_text : L2.FnScope ["text", "most", "place"] ["text", "most"] (L2.defScope t_check_text) := ⟨rfl, rfl, rfl, by decide +kernel, rfl, by decide +kernel, by decide +kernel⟩
noncomputable def d_check_text (M_bad_letter : List D → MR) : DS := (sSeq (sSet 2 (dCall M_bad_letter [] (dCons (dVar 0) (dCons (dVar 1) dNil)))) (sIf (dB (dOp gGe (dVar 2) (dC (.int 0)))) (sRaise "BadText" 1 (fun ds => [("place", ds.headD .non)]) (dCons (dVar 2) dNil)) sNext))
theorem k_check_text {P : Program} {w : World} {K : PySem.W.Frag} {mg : Str → Option Value} {base : Heap} {f : Addr} {fd : FuncData} {M : List D → MR} {M_bad_letter : List D → MR} (F : FunG K "check_text" "check_text" t_check_text f fd) (c_bad_letter : Ok P w K mg base 1 "bad_letter" 2 M_bad_letter []) {A_BadText : Addr} (xi_BadText : XI P w K mg base 1 "BadText" 1 (fun ws => [("place", ws.headD .non)]) (fun ds => [("place", ds.headD .non)]) A_BadText)
    (hM : ∀ ds, ds.length = 2 → MLe (M ds) (finD (d_check_text M_bad_letter (en0 ds 1) []))) : FnOk P w K mg base (L2.CX P w) 3 f fd ["text", "most"] (spM K mg 2 M) :=
  fn_defG F sc_check_text rfl rfl hM fun cdv A outer s0 H E hr tk po => ⟨_, (js_cons (j1_set (i := 2) sc_check_text.nd rfl (.inl rfl) (j_call c_bad_letter hr (by decide) tk rfl (ja_cons (j_var (i := 0) rfl (.inl rfl)) (ja_cons (j_var (i := 1) rfl (.inl rfl)) ja_nil)))) (js_one (j1_if (jt_cmp op_ge so_ge (j_var (i := 2) rfl (.inl rfl)) j_int) (js_one (j1_raise xi_BadText hr (by decide) rfl tk rfl (ja_cons (j_var (i := 2) rfl (.inl rfl)) ja_nil))) js_nil)))⟩
/-! ### letter_changes -/
abbrev t_letter_changes : Stmt := topS 10
abbrev nm_letter_changes : List Str := ["first", "second", "row", "letter", "above", "place", "other", "cost"]
theorem sc_letter_changes : L2.FnScope ["first", "second", "row", "letter", "above", "place", "other", "cost"] ["first", "second"] (L2.defScope t_letter_changes) := ⟨rfl, rfl, rfl, by decide +kernel, rfl, by decide +kernel, by decide +kernel⟩
noncomputable def d_letter_changes_1 : DS := (sSeq (sSet 7 (dOp gAdd (dOp gIx (dVar 4) (dVar 5)) (dCB gInt (dCons (dOp gNe (dVar 3) (dVar 6)) dNil)))) (sDrop (dBM "list" gAppend (dVar 2) (dCons (dCB gMin (dCons (dVar 7) (dCons (dOp gAdd (dOp gIx (dVar 4) (dOp gAdd (dVar 5) (dC (.int 1)))) (dC (.int 1))) (dCons (dOp gAdd (dOp gIx (dVar 2) (dVar 5)) (dC (.int 1))) dNil)))) dNil))))
noncomputable def d_letter_changes_2 : DS := (sSeq (sSet 4 (dVar 2)) (sSeq (sSet 2 (dLst (dCons (dOp gAdd (dOp gIx (dVar 4) (dC (.int 0))) (dC (.int 1))) dNil))) (sFor (itEn (dCons (dVar 1) dNil)) (oTup [(oName 5), (oName 6)]) (d_letter_changes_1))))
noncomputable def d_letter_changes : DS := (sSeq (sSet 2 (dLstRg (dRg1 (dOp gAdd (dCB gLen (dCons (dVar 1) dNil)) (dC (.int 1)))))) (sSeq (sFor (itA (dVar 0)) (oName 3) (d_letter_changes_2)) (sRet (dOp gIx (dVar 2) (dUn gNeg (dC (.int 1)))))))
theorem k_letter_changes {P : Program} {w : World} {K : PySem.W.Frag} {mg : Str → Option Value} {base : Heap} {f : Addr} {fd : FuncData} {M : List D → MR} (F : L2.Fun K "letter_changes" "letter_changes" t_letter_changes f fd) (z_enumerate : mg "enumerate" = none) (z_int : mg "int" = none) (z_len : mg "len" = none) (z_list : mg "list" = none) (z_min : mg "min" = none) (z_range : mg "range" = none)
    (hM : ∀ ds, ds.length = 2 → MLe (M ds) (finD (d_letter_changes (en0 ds 6) []))) : FnOk P w K mg base (L2.CX P w) 1 f fd ["first", "second"] (spM K mg 2 M) :=
  fn_def F sc_letter_changes rfl rfl hM fun cdv A outer s0 H E hr tk po => ⟨_, (js_cons (j1_set (i := 2) sc_letter_changes.nd rfl (.inl rfl) (j_listRg rfl rfl z_list (jr_1 rfl z_range (j_add (j_len rfl z_len (ja_cons (j_var (i := 1) rfl (.inl rfl)) ja_nil)) j_int)))) (js_cons (j1_for po rfl (ji_any (j_var (i := 0) rfl (.inl rfl))) (jg_name (i := 3) sc_letter_changes.nd rfl (.inl rfl)) (js_cons (j1_set (i := 4) sc_letter_changes.nd rfl (.inl rfl) (j_var (i := 2) rfl (.inl rfl))) (js_cons (j1_set (i := 2) sc_letter_changes.nd rfl (.inl rfl) (j_lst (ja_cons (j_add (j_ix (j_var (i := 4) rfl (.inl rfl)) j_int) j_int) ja_nil))) (js_one (j1_for po rfl (ji_en rfl z_enumerate (ja_cons (j_var (i := 1) rfl (.inl rfl)) ja_nil)) (jg_tup rfl (jgs_cons (jg_name (i := 5) sc_letter_changes.nd rfl (.inl rfl)) (jgs_cons (jg_name (i := 6) sc_letter_changes.nd rfl (.inl rfl)) jgs_nil))) (js_cons (j1_set (i := 7) sc_letter_changes.nd rfl (.inl rfl) (j_add (j_ix (j_var (i := 4) rfl (.inl rfl)) (j_var (i := 5) rfl (.inl rfl))) (jc_int rfl z_int (ja_cons (j_ne hr.units (j_var (i := 3) rfl (.inl rfl)) (j_var (i := 6) rfl (.inl rfl))) ja_nil)))) (js_one (j1_expr (jm_append (j_var (i := 2) rfl (.inl rfl)) (ja_cons (j_min rfl rfl z_min (ja_cons (j_var (i := 7) rfl (.inl rfl)) (ja_cons (j_add (j_ix (j_var (i := 4) rfl (.inl rfl)) (j_add (j_var (i := 5) rfl (.inl rfl)) j_int)) j_int) (ja_cons (j_add (j_ix (j_var (i := 2) rfl (.inl rfl)) (j_var (i := 5) rfl (.inl rfl))) j_int) ja_nil)))) ja_nil)))))))))) (js_one (j1_ret (j_ix (j_var (i := 2) rfl (.inl rfl)) (j_neg j_int))))))⟩
/-! ### text_distance -/
abbrev t_text_distance : Stmt := topS 11
abbrev nm_text_distance : List Str := ["first", "second"]
theorem sc_text_distance : L2.FnScope ["first", "second"] ["first", "second"] (L2.defScope t_text_distance) := ⟨rfl, rfl, rfl, by decide +kernel, rfl, by decide +kernel, by decide +kernel⟩
noncomputable def d_text_distance (M_check_text : List D → MR) (M_letter_changes : List D → MR) : DS := (sSeq (sDrop (dCall M_check_text [.int 60] (dCons (dVar 0) dNil))) (sSeq (sDrop (dCall M_check_text [.int 60] (dCons (dVar 1) dNil))) (sRet (dCall M_letter_changes [] (dCons (dVar 0) (dCons (dVar 1) dNil))))))
theorem k_text_distance {P : Program} {w : World} {K : PySem.W.Frag} {mg : Str → Option Value} {base : Heap} {f : Addr} {fd : FuncData} {M : List D → MR} {M_check_text : List D → MR} {M_letter_changes : List D → MR} (F : L2.Fun K "text_distance" "text_distance" t_text_distance f fd) (c_check_text_d : Ok P w K mg base 3 "check_text" 2 M_check_text [.int 60]) (c_letter_changes : Ok P w K mg base 1 "letter_changes" 2 M_letter_changes [])
    (hM : ∀ ds, ds.length = 2 → MLe (M ds) (finD (d_text_distance M_check_text M_letter_changes (en0 ds 0) []))) : FnOk P w K mg base (L2.CX P w) 4 f fd ["first", "second"] (spM K mg 2 M) :=
  fn_def F sc_text_distance rfl rfl hM fun cdv A outer s0 H E hr tk po => ⟨_, (js_cons (j1_expr (j_call c_check_text_d hr (by decide) tk rfl (ja_cons (j_var (i := 0) rfl (.inl rfl)) ja_nil))) (js_cons (j1_expr (j_call c_check_text_d hr (by decide) tk rfl (ja_cons (j_var (i := 1) rfl (.inl rfl)) ja_nil))) (js_one (j1_ret (j_call c_letter_changes hr (by decide) tk rfl (ja_cons (j_var (i := 0) rfl (.inl rfl)) (ja_cons (j_var (i := 1) rfl (.inl rfl)) ja_nil)))))))⟩
/-! ### _law_row -/
abbrev t__law_row : Stmt := topS 13
abbrev nm__law_row : List Str := ["script", "many", "rest", "row", "mixed", "k", "cell"]
theorem sc__law_row : L2.FnScope ["script", "many", "rest", "row", "mixed", "k", "cell"] ["script", "many"] (L2.defScope t__law_row) := ⟨rfl, rfl, rfl, by decide +kernel, rfl, by decide +kernel, by decide +kernel⟩
noncomputable def d__law_row_1 : DS := (sSeq (sSet 6 (dVar 5)) (sSeq (sIf (dB (dOp gGt (dCB gLen (dCons (dVar 0) dNil)) (dC (.int 0)))) (sSet 6 (dOp gIx (dVar 0) (dOp gMod (dCB gInt (dCons (dVar 5) dNil)) (dCB gMin (dCons (dCB gLen (dCons (dVar 0) dNil)) (dCons (dC (.int 63)) dNil)))))) sNext) (sSeq (sSet 4 (dOp gMod (dCB gInt (dCons (dOp gAdd (dOp gAdd (dOp gMul (dVar 4) (dC (.int 48271))) (dOp gMul (dOp gMod (dCB gInt (dCons (dVar 6) dNil)) (dC (.int 1000003))) (dC (.int 69621)))) (dOp gMul (dVar 5) (dC (.int 7907)))) dNil)) (dC (.int 2147483647)))) (sIf (dB (dOp gGt (dVar 2) (dC (.int 0)))) (sSeq (sDrop (dBM "list" gAppend (dVar 3) (dCons (dOp gMod (dCB gInt (dCons (dVar 2) dNil)) (dC (.int 997))) dNil))) (sSet 2 (dOp gDiv (dVar 2) (dC (.int 997))))) (sDrop (dBM "list" gAppend (dVar 3) (dCons (dOp gMod (dCB gInt (dCons (dOp gDiv (dVar 4) (dC (.int 11))) dNil)) (dC (.int 997))) dNil)))))))
noncomputable def d__law_row : DS := (sSeq (sSet 2 (dC (.int 0))) (sSeq (sIf (dAnd (dB (dOp gGt (dCB gLen (dCons (dVar 0) dNil)) (dC (.int 0)))) (dB (dOp gGe (dOp gIx (dVar 0) (dC (.int 0))) (dOp gPow (dC (.int 10)) (dC (.int 18)))))) (sSet 2 (dOp gIx (dVar 0) (dC (.int 0)))) sNext) (sSeq (sSet 3 (dLst dNil)) (sSeq (sSet 4 (dC (.int 12345))) (sSeq (sFor (itR1 (dCons (dVar 1) dNil)) (oName 5) (d__law_row_1)) (sRet (dVar 3)))))))
theorem k__law_row {P : Program} {w : World} {K : PySem.W.Frag} {mg : Str → Option Value} {base : Heap} {f : Addr} {fd : FuncData} {M : List D → MR} (F : L2.Fun K "_law_row" "_law_row" t__law_row f fd) (z_int : mg "int" = none) (z_len : mg "len" = none) (z_min : mg "min" = none) (z_range : mg "range" = none)
    (hM : ∀ ds, ds.length = 2 → MLe (M ds) (finD (d__law_row (en0 ds 5) []))) : FnOk P w K mg base (L2.CX P w) 1 f fd ["script", "many"] (spM K mg 2 M) :=
  fn_def F sc__law_row rfl rfl hM fun cdv A outer s0 H E hr tk po => ⟨_, (js_cons (j1_set (i := 2) sc__law_row.nd rfl (.inl rfl) j_int) (js_cons (j1_if (jt_w (jw_and (jt_cmp op_gt so_gt (j_len rfl z_len (ja_cons (j_var (i := 0) rfl (.inl rfl)) ja_nil)) j_int) (jw_and1 (jt_cmp op_ge so_ge (j_ix (j_var (i := 0) rfl (.inl rfl)) j_int) (j_op op_pow so_pow j_int j_int))))) (js_one (j1_set (i := 2) sc__law_row.nd rfl (.inl rfl) (j_ix (j_var (i := 0) rfl (.inl rfl)) j_int))) js_nil) (js_cons (j1_set (i := 3) sc__law_row.nd rfl (.inl rfl) (j_lst ja_nil)) (js_cons (j1_set (i := 4) sc__law_row.nd rfl (.inl rfl) j_int) (js_cons (j1_for po rfl (ji_r1 rfl z_range (ja_cons (j_var (i := 1) rfl (.inl rfl)) ja_nil)) (jg_name (i := 5) sc__law_row.nd rfl (.inl rfl)) (js_cons (j1_set (i := 6) sc__law_row.nd rfl (.inl rfl) (j_var (i := 5) rfl (.inl rfl))) (js_cons (j1_if (jt_cmp op_gt so_gt (j_len rfl z_len (ja_cons (j_var (i := 0) rfl (.inl rfl)) ja_nil)) j_int) (js_one (j1_set (i := 6) sc__law_row.nd rfl (.inl rfl) (j_ix (j_var (i := 0) rfl (.inl rfl)) (j_op op_mod so_mod (jc_int rfl z_int (ja_cons (j_var (i := 5) rfl (.inl rfl)) ja_nil)) (j_min rfl rfl z_min (ja_cons (j_len rfl z_len (ja_cons (j_var (i := 0) rfl (.inl rfl)) ja_nil)) (ja_cons j_int ja_nil))))))) js_nil) (js_cons (j1_set (i := 4) sc__law_row.nd rfl (.inl rfl) (j_op op_mod so_mod (jc_int rfl z_int (ja_cons (j_add (j_add (j_mul (j_var (i := 4) rfl (.inl rfl)) j_int) (j_mul (j_op op_mod so_mod (jc_int rfl z_int (ja_cons (j_var (i := 6) rfl (.inl rfl)) ja_nil)) j_int) j_int)) (j_mul (j_var (i := 5) rfl (.inl rfl)) j_int)) ja_nil)) j_int)) (js_one (j1_if (jt_cmp op_gt so_gt (j_var (i := 2) rfl (.inl rfl)) j_int) (js_cons (j1_expr (jm_append (j_var (i := 3) rfl (.inl rfl)) (ja_cons (j_op op_mod so_mod (jc_int rfl z_int (ja_cons (j_var (i := 2) rfl (.inl rfl)) ja_nil)) j_int) ja_nil))) (js_one (j1_set (i := 2) sc__law_row.nd rfl (.inl rfl) (j_op op_fdiv so_div (j_var (i := 2) rfl (.inl rfl)) j_int)))) (js_one (j1_expr (jm_append (j_var (i := 3) rfl (.inl rfl)) (ja_cons (j_op op_mod so_mod (jc_int rfl z_int (ja_cons (j_op op_fdiv so_div (j_var (i := 4) rfl (.inl rfl)) j_int) ja_nil)) j_int) ja_nil)))))))))) (js_one (j1_ret (j_var (i := 3) rfl (.inl rfl)))))))))⟩
/-! ### _law_same -/
abbrev t__law_same : Stmt := topS 14
abbrev nm__law_same : List Str := ["told", "due", "waiting", "k", "one", "two", "at"]
theorem sc__law_same : L2.FnScope ["told", "due", "waiting", "k", "one", "two", "at"] ["told", "due"] (L2.defScope t__law_same) := ⟨rfl, rfl, rfl, by decide +kernel, rfl, by decide +kernel, by decide +kernel⟩
noncomputable def d__law_same_1 : DS := (sDrop (dBM "list" gAppend (dVar 2) (dCons (dTup (dCons (dOp gIx (dVar 4) (dVar 6)) (dCons (dOp gIx (dVar 5) (dVar 6)) dNil))) dNil)))
noncomputable def d__law_same_2 : DS := (sSeq (sIf (dB (dOp gEq (dVar 2) (dLst dNil))) (sRet (dC (.bl true))) sNext) (sSeq (sAsg (dBM "list" gPop (dVar 2) dNil) (oTup [(oName 4), (oName 5)])) (sIf (dB (dOp (gIsN false) (dVar 5) (dC .non))) (sIf (dB (dOp (gIsN true) (dVar 4) (dC .non))) (sRet (dC (.bl false))) sNext) (sIf (dB (dCB gIsi (dCons (dVar 5) (dCons (dC (.ty "bool")) dNil)))) (sIf (dOr (dNot (dB (dCB gIsi (dCons (dVar 4) (dCons (dC (.ty "bool")) dNil))))) (dB (dOp gNe (dVar 4) (dVar 5)))) (sRet (dC (.bl false))) sNext) (sIf (dB (dCB gIsi (dCons (dVar 5) (dCons (dC (.ty "int")) dNil)))) (sIf (dOr (dNot (dB (dCB gIsi (dCons (dVar 4) (dCons (dC (.ty "int")) dNil))))) (dOr (dB (dCB gIsi (dCons (dVar 4) (dCons (dC (.ty "bool")) dNil)))) (dB (dOp gNe (dVar 4) (dVar 5))))) (sRet (dC (.bl false))) sNext) (sIf (dB (dCB gIsi (dCons (dVar 5) (dCons (dC (.ty "str")) dNil)))) (sIf (dOr (dNot (dB (dCB gIsi (dCons (dVar 4) (dCons (dC (.ty "str")) dNil))))) (dB (dOp gNe (dVar 4) (dVar 5)))) (sRet (dC (.bl false))) sNext) (sSeq (sIf (dOr (dB (dOp gNe (dCB gIsi (dCons (dVar 4) (dCons (dC (.ty "list")) dNil))) (dCB gIsi (dCons (dVar 5) (dCons (dC (.ty "list")) dNil))))) (dB (dOp gNe (dCB gIsi (dCons (dVar 4) (dCons (dC (.ty "tuple")) dNil))) (dCB gIsi (dCons (dVar 5) (dCons (dC (.ty "tuple")) dNil)))))) (sRet (dC (.bl false))) sNext) (sSeq (sIf (dB (dOp gNe (dCB gLen (dCons (dVar 4) dNil)) (dCB gLen (dCons (dVar 5) dNil)))) (sRet (dC (.bl false))) sNext) (sFor (itR1 (dCons (dCB gLen (dCons (dVar 5) dNil)) dNil)) (oName 6) (d__law_same_1))))))))))
noncomputable def d__law_same : DS := (sSeq (sSet 2 (dLst (dCons (dTup (dCons (dVar 0) (dCons (dVar 1) dNil))) dNil))) (sSeq (sFor (itR1 (dCons (dC (.int 200000)) dNil)) (oName 3) (d__law_same_2)) (sRet (dC (.bl false)))))
theorem k__law_same {P : Program} {w : World} {K : PySem.W.Frag} {mg : Str → Option Value} {base : Heap} {f : Addr} {fd : FuncData} {M : List D → MR} (F : L2.Fun K "_law_same" "_law_same" t__law_same f fd) (z_bool : mg "bool" = none) (z_int : mg "int" = none) (z_isinstance : mg "isinstance" = none) (z_len : mg "len" = none) (z_list : mg "list" = none) (z_range : mg "range" = none) (z_str : mg "str" = none) (z_tuple : mg "tuple" = none)
    (hM : ∀ ds, ds.length = 2 → MLe (M ds) (finD (d__law_same (en0 ds 5) []))) : FnOk P w K mg base (L2.CX P w) 1 f fd ["told", "due"] (spM K mg 2 M) :=
  fn_def F sc__law_same rfl rfl hM fun cdv A outer s0 H E hr tk po => ⟨_, (js_cons (j1_set (i := 2) sc__law_same.nd rfl (.inl rfl) (j_lst (ja_cons (j_tup (ja_cons (j_var (i := 0) rfl (.inl rfl)) (ja_cons (j_var (i := 1) rfl (.inl rfl)) ja_nil))) ja_nil))) (js_cons (j1_for po rfl (ji_r1 rfl z_range (ja_cons j_int ja_nil)) (jg_name (i := 3) sc__law_same.nd rfl (.inl rfl)) (js_cons (j1_if (jt_eq hr.units (j_var (i := 2) rfl (.inl rfl)) (j_lst ja_nil)) (js_one (j1_ret j_bl)) js_nil) (js_cons (j1_asg (jm_pop0 (j_var (i := 2) rfl (.inl rfl))) (jg_tup rfl (jgs_cons (jg_name (i := 4) sc__law_same.nd rfl (.inl rfl)) (jgs_cons (jg_name (i := 5) sc__law_same.nd rfl (.inl rfl)) jgs_nil)))) (js_one (j1_if (jt_cmp op_isN so_isN (j_var (i := 5) rfl (.inl rfl)) j_non) (js_one (j1_if (jt_cmp op_notN so_notN (j_var (i := 4) rfl (.inl rfl)) j_non) (js_one (j1_ret j_bl)) js_nil)) (js_one (j1_if (jt_val (j_isinstance rfl z_isinstance (ja_cons (j_var (i := 5) rfl (.inl rfl)) (ja_cons (j_ty rfl z_bool boot_bool) ja_nil)))) (js_one (j1_if (jt_w (jw_or (jt_not (jt_val (j_isinstance rfl z_isinstance (ja_cons (j_var (i := 4) rfl (.inl rfl)) (ja_cons (j_ty rfl z_bool boot_bool) ja_nil))))) (jw_or1 (jt_ne hr.units (j_var (i := 4) rfl (.inl rfl)) (j_var (i := 5) rfl (.inl rfl)))))) (js_one (j1_ret j_bl)) js_nil)) (js_one (j1_if (jt_val (j_isinstance rfl z_isinstance (ja_cons (j_var (i := 5) rfl (.inl rfl)) (ja_cons (j_ty rfl z_int boot_int) ja_nil)))) (js_one (j1_if (jt_w (jw_or (jt_not (jt_val (j_isinstance rfl z_isinstance (ja_cons (j_var (i := 4) rfl (.inl rfl)) (ja_cons (j_ty rfl z_int boot_int) ja_nil))))) (jw_or (jt_val (j_isinstance rfl z_isinstance (ja_cons (j_var (i := 4) rfl (.inl rfl)) (ja_cons (j_ty rfl z_bool boot_bool) ja_nil)))) (jw_or1 (jt_ne hr.units (j_var (i := 4) rfl (.inl rfl)) (j_var (i := 5) rfl (.inl rfl))))))) (js_one (j1_ret j_bl)) js_nil)) (js_one (j1_if (jt_val (j_isinstance rfl z_isinstance (ja_cons (j_var (i := 5) rfl (.inl rfl)) (ja_cons (j_ty rfl z_str boot_str) ja_nil)))) (js_one (j1_if (jt_w (jw_or (jt_not (jt_val (j_isinstance rfl z_isinstance (ja_cons (j_var (i := 4) rfl (.inl rfl)) (ja_cons (j_ty rfl z_str boot_str) ja_nil))))) (jw_or1 (jt_ne hr.units (j_var (i := 4) rfl (.inl rfl)) (j_var (i := 5) rfl (.inl rfl)))))) (js_one (j1_ret j_bl)) js_nil)) (js_cons (j1_if (jt_w (jw_or (jt_ne hr.units (j_isinstance rfl z_isinstance (ja_cons (j_var (i := 4) rfl (.inl rfl)) (ja_cons (j_ty rfl z_list boot_list) ja_nil))) (j_isinstance rfl z_isinstance (ja_cons (j_var (i := 5) rfl (.inl rfl)) (ja_cons (j_ty rfl z_list boot_list) ja_nil)))) (jw_or1 (jt_ne hr.units (j_isinstance rfl z_isinstance (ja_cons (j_var (i := 4) rfl (.inl rfl)) (ja_cons (j_ty rfl z_tuple boot_tuple) ja_nil))) (j_isinstance rfl z_isinstance (ja_cons (j_var (i := 5) rfl (.inl rfl)) (ja_cons (j_ty rfl z_tuple boot_tuple) ja_nil))))))) (js_one (j1_ret j_bl)) js_nil) (js_cons (j1_if (jt_ne hr.units (j_len rfl z_len (ja_cons (j_var (i := 4) rfl (.inl rfl)) ja_nil)) (j_len rfl z_len (ja_cons (j_var (i := 5) rfl (.inl rfl)) ja_nil))) (js_one (j1_ret j_bl)) js_nil) (js_one (j1_for po rfl (ji_r1 rfl z_range (ja_cons (j_len rfl z_len (ja_cons (j_var (i := 5) rfl (.inl rfl)) ja_nil)) ja_nil)) (jg_name (i := 6) sc__law_same.nd rfl (.inl rfl)) (js_one (j1_expr (jm_append (j_var (i := 2) rfl (.inl rfl)) (ja_cons (j_tup (ja_cons (j_ix (j_var (i := 4) rfl (.inl rfl)) (j_var (i := 6) rfl (.inl rfl))) (ja_cons (j_ix (j_var (i := 5) rfl (.inl rfl)) (j_var (i := 6) rfl (.inl rfl))) ja_nil))) ja_nil))))))))))))))))))) (js_one (j1_ret j_bl))))⟩
/-! ### _law_word -/
abbrev t__law_word : Stmt := topS 15
abbrev nm__law_word : List Str := ["row", "at", "pool", "size", "run", "k"]
theorem sc__law_word : L2.FnScope ["row", "at", "pool", "size", "run", "k"] ["row", "at", "pool"] (L2.defScope t__law_word) := ⟨rfl, rfl, rfl, by decide +kernel, rfl, by decide +kernel, by decide +kernel⟩
noncomputable def d__law_word : DS := (sSeq (sSet 3 (dOp gIx (dLst (dCons (dC (.int 0)) (dCons (dC (.int 1)) (dCons (dC (.int 59)) (dCons (dC (.int 60)) (dCons (dOp gMod (dCB gInt (dCons (dOp gIx (dVar 0) (dVar 1)) dNil)) (dC (.int 61))) (dCons (dOp gMod (dCB gInt (dCons (dOp gIx (dVar 0) (dVar 1)) dNil)) (dC (.int 12))) (dCons (dOp gMod (dCB gInt (dCons (dOp gIx (dVar 0) (dVar 1)) dNil)) (dC (.int 30))) (dCons (dOp gMod (dCB gInt (dCons (dOp gIx (dVar 0) (dVar 1)) dNil)) (dC (.int 61))) dNil))))))))) (dOp gMod (dCB gInt (dCons (dOp gIx (dVar 0) (dOp gAdd (dVar 1) (dC (.int 1)))) dNil)) (dC (.int 8))))) (sSeq (sSet 4 (dOp gAdd (dC (.int 1)) (dOp gMod (dCB gInt (dCons (dOp gIx (dVar 0) (dOp gAdd (dVar 1) (dC (.int 2)))) dNil)) (dC (.int 4))))) (sRet (dBM "str" gJoin (dC (.str [])) (dCons (dLc (itR1 (dCons (dVar 3) dNil)) (oName 5) dYes (dOp gIx (dVar 2) (dOp gMod (dCB gInt (dCons (dOp gIx (dVar 0) (dOp gAdd (dOp gAdd (dVar 1) (dC (.int 3))) (dOp gDiv (dVar 5) (dVar 4)))) dNil)) (dCB gLen (dCons (dVar 2) dNil)))) [5]) dNil)))))
theorem k__law_word {P : Program} {w : World} {K : PySem.W.Frag} {mg : Str → Option Value} {base : Heap} {f : Addr} {fd : FuncData} {M : List D → MR} (F : L2.Fun K "_law_word" "_law_word" t__law_word f fd) (z_int : mg "int" = none) (z_len : mg "len" = none) (z_range : mg "range" = none)
    (hM : ∀ ds, ds.length = 3 → MLe (M ds) (finD (d__law_word (en0 ds 3) []))) : FnOk P w K mg base (L2.CX P w) 1 f fd ["row", "at", "pool"] (spM K mg 3 M) :=
  fn_def F sc__law_word rfl rfl hM fun cdv A outer s0 H E hr tk po => ⟨_, (js_cons (j1_set (i := 3) sc__law_word.nd rfl (.inl rfl) (j_ix (j_lst (ja_cons j_int (ja_cons j_int (ja_cons j_int (ja_cons j_int (ja_cons (j_op op_mod so_mod (jc_int rfl z_int (ja_cons (j_ix (j_var (i := 0) rfl (.inr (.inl rfl))) (j_var (i := 1) rfl (.inr (.inl rfl)))) ja_nil)) j_int) (ja_cons (j_op op_mod so_mod (jc_int rfl z_int (ja_cons (j_ix (j_var (i := 0) rfl (.inr (.inl rfl))) (j_var (i := 1) rfl (.inr (.inl rfl)))) ja_nil)) j_int) (ja_cons (j_op op_mod so_mod (jc_int rfl z_int (ja_cons (j_ix (j_var (i := 0) rfl (.inr (.inl rfl))) (j_var (i := 1) rfl (.inr (.inl rfl)))) ja_nil)) j_int) (ja_cons (j_op op_mod so_mod (jc_int rfl z_int (ja_cons (j_ix (j_var (i := 0) rfl (.inr (.inl rfl))) (j_var (i := 1) rfl (.inr (.inl rfl)))) ja_nil)) j_int) ja_nil))))))))) (j_op op_mod so_mod (jc_int rfl z_int (ja_cons (j_ix (j_var (i := 0) rfl (.inr (.inl rfl))) (j_add (j_var (i := 1) rfl (.inr (.inl rfl))) j_int)) ja_nil)) j_int))) (js_cons (j1_set (i := 4) sc__law_word.nd rfl (.inr rfl) (j_add j_int (j_op op_mod so_mod (jc_int rfl z_int (ja_cons (j_ix (j_var (i := 0) rfl (.inr (.inl rfl))) (j_add (j_var (i := 1) rfl (.inr (.inl rfl))) j_int)) ja_nil)) j_int))) (js_one (j1_ret (jm_join (j_str rfl) (ja_cons (j_lc (own := [("k", 5)]) rfl sc__law_word.nd (ji_r1 rfl z_range (ja_cons (j_var (i := 3) rfl (.inl rfl)) ja_nil)) (blkOk_by (N := nm__law_word) (sc := L2.defScope t__law_word) (by decide +kernel)) (kw_name (by decide)) (fun s H C cl fp => (jg_name (i := 5) sc__law_word.nd rfl (.inl rfl))) (fun s H C cl fp => jts_nil) (fun s H C cl fp => (j_ix (j_var (i := 2) rfl (.inr (.inl rfl))) (j_op op_mod so_mod (jc_int rfl z_int (ja_cons (j_ix (j_var (i := 0) rfl (.inr (.inl rfl))) (j_add (j_add (j_var (i := 1) rfl (.inr (.inl rfl))) j_int) (j_op op_fdiv so_div (j_var (i := 5) rfl (.inl rfl)) (j_var (i := 4) rfl (.inr (.inl rfl)))))) ja_nil)) (j_len rfl z_len (ja_cons (j_var (i := 2) rfl (.inr (.inl rfl))) ja_nil)))))) ja_nil))))))⟩
/-! ### _law_edited -/
abbrev t__law_edited : Stmt := topS 16
abbrev nm__law_edited : List Str := ["text", "row", "at", "pool", "k", "way", "place", "letter"]
theorem sc__law_edited : L2.FnScope ["text", "row", "at", "pool", "k", "way", "place", "letter"] ["text", "row", "at", "pool"] (L2.defScope t__law_edited) := ⟨rfl, rfl, rfl, by decide +kernel, rfl, by decide +kernel, by decide +kernel⟩
noncomputable def d__law_edited_1 : DS := (sSeq (sSet 5 (dOp gMod (dCB gInt (dCons (dOp gIx (dVar 1) (dOp gAdd (dOp gAdd (dVar 2) (dC (.int 1))) (dOp gMul (dC (.int 3)) (dVar 4)))) dNil)) (dC (.int 3)))) (sSeq (sSet 6 (dOp gMod (dCB gInt (dCons (dOp gIx (dVar 1) (dOp gAdd (dOp gAdd (dVar 2) (dC (.int 2))) (dOp gMul (dC (.int 3)) (dVar 4)))) dNil)) (dOp gAdd (dCB gLen (dCons (dVar 0) dNil)) (dC (.int 1))))) (sSeq (sSet 7 (dOp gIx (dVar 3) (dOp gMod (dCB gInt (dCons (dOp gIx (dVar 1) (dOp gAdd (dOp gAdd (dVar 2) (dC (.int 3))) (dOp gMul (dC (.int 3)) (dVar 4)))) dNil)) (dCB gLen (dCons (dVar 3) dNil))))) (sSeq (sIf (dB (dOp gEq (dVar 5) (dC (.int 0)))) (sSet 0 (dOp gAdd (dOp gAdd (dSl (dVar 0) dNoPart (dPart (dVar 6))) (dVar 7)) (dSl (dVar 0) (dPart (dVar 6)) dNoPart))) sNext) (sSeq (sIf (dB (dOp gEq (dVar 5) (dC (.int 1)))) (sSet 0 (dOp gAdd (dSl (dVar 0) dNoPart (dPart (dVar 6))) (dSl (dVar 0) (dPart (dOp gAdd (dVar 6) (dC (.int 1)))) dNoPart))) sNext) (sIf (dB (dOp gEq (dVar 5) (dC (.int 2)))) (sSet 0 (dOp gAdd (dOp gAdd (dSl (dVar 0) dNoPart (dPart (dVar 6))) (dVar 7)) (dSl (dVar 0) (dPart (dOp gAdd (dVar 6) (dC (.int 1)))) dNoPart))) sNext))))))
noncomputable def d__law_edited : DS := (sSeq (sFor (itR1 (dCons (dOp gMod (dCB gInt (dCons (dOp gIx (dVar 1) (dVar 2)) dNil)) (dC (.int 8))) dNil)) (oName 4) (d__law_edited_1)) (sRet (dSl (dVar 0) dNoPart (dPart (dC (.int 60))))))
theorem k__law_edited {P : Program} {w : World} {K : PySem.W.Frag} {mg : Str → Option Value} {base : Heap} {f : Addr} {fd : FuncData} {M : List D → MR} (F : L2.Fun K "_law_edited" "_law_edited" t__law_edited f fd) (z_int : mg "int" = none) (z_len : mg "len" = none) (z_range : mg "range" = none)
    (hM : ∀ ds, ds.length = 4 → MLe (M ds) (finD (d__law_edited (en0 ds 4) []))) : FnOk P w K mg base (L2.CX P w) 1 f fd ["text", "row", "at", "pool"] (spM K mg 4 M) :=
  fn_def F sc__law_edited rfl rfl hM fun cdv A outer s0 H E hr tk po => ⟨_, (js_cons (j1_for po rfl (ji_r1 rfl z_range (ja_cons (j_op op_mod so_mod (jc_int rfl z_int (ja_cons (j_ix (j_var (i := 1) rfl (.inl rfl)) (j_var (i := 2) rfl (.inl rfl))) ja_nil)) j_int) ja_nil)) (jg_name (i := 4) sc__law_edited.nd rfl (.inl rfl)) (js_cons (j1_set (i := 5) sc__law_edited.nd rfl (.inl rfl) (j_op op_mod so_mod (jc_int rfl z_int (ja_cons (j_ix (j_var (i := 1) rfl (.inl rfl)) (j_add (j_add (j_var (i := 2) rfl (.inl rfl)) j_int) (j_mul j_int (j_var (i := 4) rfl (.inl rfl))))) ja_nil)) j_int)) (js_cons (j1_set (i := 6) sc__law_edited.nd rfl (.inl rfl) (j_op op_mod so_mod (jc_int rfl z_int (ja_cons (j_ix (j_var (i := 1) rfl (.inl rfl)) (j_add (j_add (j_var (i := 2) rfl (.inl rfl)) j_int) (j_mul j_int (j_var (i := 4) rfl (.inl rfl))))) ja_nil)) (j_add (j_len rfl z_len (ja_cons (j_var (i := 0) rfl (.inl rfl)) ja_nil)) j_int))) (js_cons (j1_set (i := 7) sc__law_edited.nd rfl (.inl rfl) (j_ix (j_var (i := 3) rfl (.inl rfl)) (j_op op_mod so_mod (jc_int rfl z_int (ja_cons (j_ix (j_var (i := 1) rfl (.inl rfl)) (j_add (j_add (j_var (i := 2) rfl (.inl rfl)) j_int) (j_mul j_int (j_var (i := 4) rfl (.inl rfl))))) ja_nil)) (j_len rfl z_len (ja_cons (j_var (i := 3) rfl (.inl rfl)) ja_nil))))) (js_cons (j1_if (jt_eq hr.units (j_var (i := 5) rfl (.inl rfl)) j_int) (js_one (j1_set (i := 0) sc__law_edited.nd rfl (.inl rfl) (j_add (j_add (j_sl (j_var (i := 0) rfl (.inl rfl)) jo_none (jo_some (j_var (i := 6) rfl (.inl rfl)))) (j_var (i := 7) rfl (.inl rfl))) (j_sl (j_var (i := 0) rfl (.inl rfl)) (jo_some (j_var (i := 6) rfl (.inl rfl))) jo_none)))) js_nil) (js_cons (j1_if (jt_eq hr.units (j_var (i := 5) rfl (.inl rfl)) j_int) (js_one (j1_set (i := 0) sc__law_edited.nd rfl (.inl rfl) (j_add (j_sl (j_var (i := 0) rfl (.inl rfl)) jo_none (jo_some (j_var (i := 6) rfl (.inl rfl)))) (j_sl (j_var (i := 0) rfl (.inl rfl)) (jo_some (j_add (j_var (i := 6) rfl (.inl rfl)) j_int)) jo_none)))) js_nil) (js_one (j1_if (jt_eq hr.units (j_var (i := 5) rfl (.inl rfl)) j_int) (js_one (j1_set (i := 0) sc__law_edited.nd rfl (.inl rfl) (j_add (j_add (j_sl (j_var (i := 0) rfl (.inl rfl)) jo_none (jo_some (j_var (i := 6) rfl (.inl rfl)))) (j_var (i := 7) rfl (.inl rfl))) (j_sl (j_var (i := 0) rfl (.inl rfl)) (jo_some (j_add (j_var (i := 6) rfl (.inl rfl)) j_int)) jo_none)))) js_nil)))))))) (js_one (j1_ret (j_sl (j_var (i := 0) rfl (.inl rfl)) jo_none (jo_some j_int)))))⟩
/-! ### _law_table -/
abbrev t__law_table : Stmt := topS 17
abbrev nm__law_table : List Str := ["first", "second", "above", "i", "below", "k", "cost"]
theorem sc__law_table : L2.FnScope ["first", "second", "above", "i", "below", "k", "cost"] ["first", "second"] (L2.defScope t__law_table) := ⟨rfl, rfl, rfl, by decide +kernel, rfl, by decide +kernel, by decide +kernel⟩
noncomputable def d__law_table_1 : DS := (sSeq (sSet 6 (dOp gIx (dVar 2) (dVar 5))) (sSeq (sIf (dB (dOp gNe (dOp gIx (dVar 0) (dVar 3)) (dOp gIx (dVar 1) (dVar 5)))) (sSet 6 (dOp gAdd (dVar 6) (dC (.int 1)))) sNext) (sDrop (dBM "list" gAppend (dVar 4) (dCons (dCB gMin (dCons (dLst (dCons (dVar 6) (dCons (dOp gAdd (dOp gIx (dVar 2) (dOp gAdd (dVar 5) (dC (.int 1)))) (dC (.int 1))) (dCons (dOp gAdd (dOp gIx (dVar 4) (dVar 5)) (dC (.int 1))) dNil)))) dNil)) dNil)))))
noncomputable def d__law_table_2 : DS := (sSeq (sSet 4 (dLst (dCons (dOp gAdd (dVar 3) (dC (.int 1))) dNil))) (sSeq (sFor (itR1 (dCons (dCB gLen (dCons (dVar 1) dNil)) dNil)) (oName 5) (d__law_table_1)) (sSet 2 (dVar 4))))
noncomputable def d__law_table : DS := (sSeq (sSet 2 (dLc (itR1 (dCons (dOp gAdd (dCB gLen (dCons (dVar 1) dNil)) (dC (.int 1))) dNil)) (oName 5) dYes (dVar 5) [5])) (sSeq (sFor (itR1 (dCons (dCB gLen (dCons (dVar 0) dNil)) dNil)) (oName 3) (d__law_table_2)) (sRet (dOp gIx (dVar 2) (dCB gLen (dCons (dVar 1) dNil))))))
theorem k__law_table {P : Program} {w : World} {K : PySem.W.Frag} {mg : Str → Option Value} {base : Heap} {f : Addr} {fd : FuncData} {M : List D → MR} (F : L2.Fun K "_law_table" "_law_table" t__law_table f fd) (z_len : mg "len" = none) (z_min : mg "min" = none) (z_range : mg "range" = none)
    (hM : ∀ ds, ds.length = 2 → MLe (M ds) (finD (d__law_table (en0 ds 5) []))) : FnOk P w K mg base (L2.CX P w) 1 f fd ["first", "second"] (spM K mg 2 M) :=
  fn_def F sc__law_table rfl rfl hM fun cdv A outer s0 H E hr tk po => ⟨_, (js_cons (j1_setLc (i := 2) (own := [("k", 5)]) rfl sc__law_table.nd rfl rfl rfl (ji_r1 rfl z_range (ja_cons (j_add (j_len rfl z_len (ja_cons (j_var (i := 1) rfl (.inl rfl)) ja_nil)) j_int) ja_nil)) (blkOk_by (N := nm__law_table) (sc := L2.defScope t__law_table) (by decide +kernel)) (kw_name (by decide)) (fun s H C cl fp => (jg_name (i := 5) sc__law_table.nd rfl (.inl rfl))) (fun s H C cl fp => jts_nil) (fun s H C cl fp => (j_var (i := 5) rfl (.inl rfl)))) (js_cons (j1_for po rfl (ji_r1 rfl z_range (ja_cons (j_len rfl z_len (ja_cons (j_var (i := 0) rfl (.inl rfl)) ja_nil)) ja_nil)) (jg_name (i := 3) sc__law_table.nd rfl (.inl rfl)) (js_cons (j1_set (i := 4) sc__law_table.nd rfl (.inl rfl) (j_lst (ja_cons (j_add (j_var (i := 3) rfl (.inl rfl)) j_int) ja_nil))) (js_cons (j1_for po rfl (ji_r1 rfl z_range (ja_cons (j_len rfl z_len (ja_cons (j_var (i := 1) rfl (.inl rfl)) ja_nil)) ja_nil)) (jg_name (i := 5) sc__law_table.nd rfl (.inl rfl)) (js_cons (j1_set (i := 6) sc__law_table.nd rfl (.inl rfl) (j_ix (j_var (i := 2) rfl (.inl rfl)) (j_var (i := 5) rfl (.inl rfl)))) (js_cons (j1_if (jt_ne hr.units (j_ix (j_var (i := 0) rfl (.inl rfl)) (j_var (i := 3) rfl (.inl rfl))) (j_ix (j_var (i := 1) rfl (.inl rfl)) (j_var (i := 5) rfl (.inl rfl)))) (js_one (j1_set (i := 6) sc__law_table.nd rfl (.inl rfl) (j_add (j_var (i := 6) rfl (.inl rfl)) j_int))) js_nil) (js_one (j1_expr (jm_append (j_var (i := 4) rfl (.inl rfl)) (ja_cons (j_min rfl rfl z_min (ja_cons (j_lst (ja_cons (j_var (i := 6) rfl (.inl rfl)) (ja_cons (j_add (j_ix (j_var (i := 2) rfl (.inl rfl)) (j_add (j_var (i := 5) rfl (.inl rfl)) j_int)) j_int) (ja_cons (j_add (j_ix (j_var (i := 4) rfl (.inl rfl)) (j_var (i := 5) rfl (.inl rfl))) j_int) ja_nil)))) ja_nil)) ja_nil))))))) (js_one (j1_set (i := 2) sc__law_table.nd rfl (.inl rfl) (j_var (i := 4) rfl (.inl rfl))))))) (js_one (j1_ret (j_ix (j_var (i := 2) rfl (.inl rfl)) (j_len rfl z_len (ja_cons (j_var (i := 1) rfl (.inl rfl)) ja_nil)))))))⟩
/-! ### _law_asked -/
abbrev t__law_asked : Stmt := topS 18
abbrev nm__law_asked : List Str := ["first", "second", "e"]
theorem sc__law_asked : L2.FnScope ["first", "second", "e"] ["first", "second"] (L2.defScope t__law_asked) := ⟨rfl, rfl, rfl, by decide +kernel, rfl, by decide +kernel, by decide +kernel⟩
noncomputable def d__law_asked_1 (M_text_distance : List D → MR) : DS := (sRet (dLst (dCons (dC (.str [116, 111, 108, 100])) (dCons (dCall M_text_distance [] (dCons (dVar 0) (dCons (dVar 1) dNil))) dNil))))
noncomputable def d__law_asked_2 (M_text_distance : List D → MR) : DS := (sIf (dAnd (dB (dXi (fun c => ([("Fault", false), ("BadText", true), ("TooMany", false)] : List (Str × Bool)).lookup c) 2)) (dAnd (dB (dXi (fun c => ([("Fault", true), ("BadText", true), ("TooMany", true)] : List (Str × Bool)).lookup c) 2)) (dNot (dB (dXi (fun c => ([("Fault", false), ("BadText", false), ("TooMany", true)] : List (Str × Bool)).lookup c) 2))))) (sRet (dLst (dCons (dC (.str [98, 97, 100])) (dCons (dXf ["BadText"] 2 "place") dNil)))) sNext)
noncomputable def d__law_asked (M_text_distance : List D → MR) : DS := (sSeq (sTry (fun c => ([("Fault", true), ("BadText", true), ("TooMany", true)] : List (Str × Bool)).lookup c) 2 (d__law_asked_1 M_text_distance) (d__law_asked_2 M_text_distance)) (sRet (dLst (dCons (dC (.str [111, 116, 104, 101, 114])) dNil))))
theorem k__law_asked {P : Program} {w : World} {K : PySem.W.Frag} {mg : Str → Option Value} {base : Heap} {f : Addr} {fd : FuncData} {M : List D → MR} {M_text_distance : List D → MR} (F : L2.Fun K "_law_asked" "_law_asked" t__law_asked f fd) (c_text_distance : Ok P w K mg base 4 "text_distance" 2 M_text_distance []) (z_ValueError : mg "ValueError" = none) (z_isinstance : mg "isinstance" = none) {A_BadText : Addr} (g_BadText : mg "BadText" = some (.ref A_BadText)) {A_Fault : Addr} (g_Fault : mg "Fault" = some (.ref A_Fault)) {A_TooMany : Addr} (g_TooMany : mg "TooMany" = some (.ref A_TooMany)) (f_place : ∀ c ∈ (["BadText"] : List Str), ∀ C, mg c = some (.ref C) → XfC K C ∧ PySem.W.findIn K (.ref C) "place" = some none) (i_BadText : ∀ c b, ([("Fault", false), ("BadText", true), ("TooMany", false)] : List (Str × Bool)).lookup c = some b → ∀ C, mg c = some (.ref C) → ExcC K C ∧ PySem.W.kitOne K (.ref C) (.ref A_BadText) = some b) (i_TooMany : ∀ c b, ([("Fault", false), ("BadText", false), ("TooMany", true)] : List (Str × Bool)).lookup c = some b → ∀ C, mg c = some (.ref C) → ExcC K C ∧ PySem.W.kitOne K (.ref C) (.ref A_TooMany) = some b) (i_ValueError : ∀ c b, ([("Fault", true), ("BadText", true), ("TooMany", true)] : List (Str × Bool)).lookup c = some b → ∀ C, mg c = some (.ref C) → ExcC K C ∧ PySem.W.kitOne K (.ref C) (.type "ValueError") = some b) (m_Fault : ∀ x b C, ([("Fault", true), ("BadText", true), ("TooMany", true)] : List (Str × Bool)).lookup x = some b → mg x = some (.ref C) → PySem.W.exmOne K (.ref C) (.ref A_Fault) = some b)
    (hM : ∀ ds, ds.length = 2 → MLe (M ds) (finD (d__law_asked M_text_distance (en0 ds 1) []))) : FnOk P w K mg base (L2.CX P w) 5 f fd ["first", "second"] (spM K mg 2 M) :=
  fn_def F sc__law_asked rfl rfl hM fun cdv A outer s0 H E hr tk po => ⟨_, (js_cons (j1_try (i := 2) sc__law_asked.nd rfl rfl ⟨rfl, by decide, .inl g_Fault⟩ tk m_Fault (fun W pn xe tk po => (js_one (j1_ret (j_lst (ja_cons (j_str rfl) (ja_cons (j_call c_text_distance hr (by decide) tk rfl (ja_cons (j_var (i := 0) rfl (.inl rfl)) (ja_cons (j_var (i := 1) rfl (.inl rfl)) ja_nil))) ja_nil)))))) (fun a oe cls d pn hz hf => (js_one (j1_if (jt_w (jw_and (jt_val (j_xi (cv := .ref A_BadText) hz hf rfl (.inl rfl) rfl z_isinstance (pe_glob (v := .ref A_BadText) rfl g_BadText rfl) (fun _ h => h) i_BadText)) (jw_and (jt_val (j_xi (cv := .type "ValueError") hz hf rfl (.inl rfl) rfl z_isinstance (pe_bltn (v := .ty "ValueError") rfl z_ValueError PyProof.Rows.Boot.«ValueError» rfl) (fun _ h => h) i_ValueError)) (jw_and1 (jt_not (jt_val (j_xi (cv := .ref A_TooMany) hz hf rfl (.inl rfl) rfl z_isinstance (pe_glob (v := .ref A_TooMany) rfl g_TooMany rfl) (fun _ h => h) i_TooMany))))))) (js_one (j1_ret (j_lst (ja_cons (j_str rfl) (ja_cons (j_xf hz hf rfl (.inl rfl) f_place) ja_nil))))) js_nil)))) (js_one (j1_ret (j_lst (ja_cons (j_str rfl) ja_nil)))))⟩
/-! ### _law_bad_place -/
abbrev t__law_bad_place : Stmt := topS 19
abbrev nm__law_bad_place : List Str := ["text", "k"]
theorem sc__law_bad_place : L2.FnScope ["text", "k"] ["text"] (L2.defScope t__law_bad_place) := ⟨rfl, rfl, rfl, by decide +kernel, rfl, by decide +kernel, by decide +kernel⟩
noncomputable def d__law_bad_place_1 : DS := (sIf (dOr (dB (dOp gGe (dVar 1) (dC (.int 60)))) (dB (dOp gNotIn (dOp gIx (dVar 0) (dVar 1)) (dC (.str [97, 98, 99, 100, 101, 102, 103, 104, 105, 106, 107, 108, 109, 110, 111, 112, 113, 114, 115, 116, 117, 118, 119, 120, 121, 122]))))) (sRet (dVar 1)) sNext)
noncomputable def d__law_bad_place : DS := (sSeq (sFor (itR1 (dCons (dCB gLen (dCons (dVar 0) dNil)) dNil)) (oName 1) (d__law_bad_place_1)) (sRet (dUn gNeg (dC (.int 1)))))
theorem k__law_bad_place {P : Program} {w : World} {K : PySem.W.Frag} {mg : Str → Option Value} {base : Heap} {f : Addr} {fd : FuncData} {M : List D → MR} (F : L2.Fun K "_law_bad_place" "_law_bad_place" t__law_bad_place f fd) (z_len : mg "len" = none) (z_range : mg "range" = none)
    (hM : ∀ ds, ds.length = 1 → MLe (M ds) (finD (d__law_bad_place (en0 ds 1) []))) : FnOk P w K mg base (L2.CX P w) 1 f fd ["text"] (spM K mg 1 M) :=
  fn_def F sc__law_bad_place rfl rfl hM fun cdv A outer s0 H E hr tk po => ⟨_, (js_cons (j1_for po rfl (ji_r1 rfl z_range (ja_cons (j_len rfl z_len (ja_cons (j_var (i := 0) rfl (.inl rfl)) ja_nil)) ja_nil)) (jg_name (i := 1) sc__law_bad_place.nd rfl (.inl rfl)) (js_one (j1_if (jt_w (jw_or (jt_cmp op_ge so_ge (j_var (i := 1) rfl (.inl rfl)) j_int) (jw_or1 (jt_nin (j_ix (j_var (i := 0) rfl (.inl rfl)) (j_var (i := 1) rfl (.inl rfl))) (j_str rfl))))) (js_one (j1_ret (j_var (i := 1) rfl (.inl rfl)))) js_nil))) (js_one (j1_ret (j_neg j_int))))⟩
/-! ### _law_due -/
abbrev t__law_due : Stmt := topS 20
abbrev nm__law_due : List Str := ["first", "second", "text"]
theorem sc__law_due : L2.FnScope ["first", "second", "text"] ["first", "second"] (L2.defScope t__law_due) := ⟨rfl, rfl, rfl, by decide +kernel, rfl, by decide +kernel, by decide +kernel⟩
noncomputable def d__law_due_1 (M__law_bad_place : List D → MR) (M__law_table : List D → MR) : DS := (sIf (dB (dOp gGe (dCall M__law_bad_place [] (dCons (dVar 2) dNil)) (dC (.int 0)))) (sRet (dLst (dCons (dC (.str [98, 97, 100])) (dCons (dCall M__law_bad_place [] (dCons (dVar 2) dNil)) dNil)))) sNext)
noncomputable def d__law_due (M__law_bad_place : List D → MR) (M__law_table : List D → MR) : DS := (sSeq (sFor (itA (dLst (dCons (dVar 0) (dCons (dVar 1) dNil)))) (oName 2) (d__law_due_1 M__law_bad_place M__law_table)) (sRet (dLst (dCons (dC (.str [116, 111, 108, 100])) (dCons (dCall M__law_table [] (dCons (dVar 0) (dCons (dVar 1) dNil))) dNil)))))
theorem k__law_due {P : Program} {w : World} {K : PySem.W.Frag} {mg : Str → Option Value} {base : Heap} {f : Addr} {fd : FuncData} {M : List D → MR} {M__law_bad_place : List D → MR} {M__law_table : List D → MR} (F : L2.Fun K "_law_due" "_law_due" t__law_due f fd) (c__law_bad_place : Ok P w K mg base 1 "_law_bad_place" 1 M__law_bad_place []) (c__law_table : Ok P w K mg base 1 "_law_table" 2 M__law_table [])
    (hM : ∀ ds, ds.length = 2 → MLe (M ds) (finD (d__law_due M__law_bad_place M__law_table (en0 ds 1) []))) : FnOk P w K mg base (L2.CX P w) 2 f fd ["first", "second"] (spM K mg 2 M) :=
  fn_def F sc__law_due rfl rfl hM fun cdv A outer s0 H E hr tk po => ⟨_, (js_cons (j1_for po rfl (ji_any (j_lst (ja_cons (j_var (i := 0) rfl (.inl rfl)) (ja_cons (j_var (i := 1) rfl (.inl rfl)) ja_nil)))) (jg_name (i := 2) sc__law_due.nd rfl (.inl rfl)) (js_one (j1_if (jt_cmp op_ge so_ge (j_call c__law_bad_place hr (by decide) tk rfl (ja_cons (j_var (i := 2) rfl (.inl rfl)) ja_nil)) j_int) (js_one (j1_ret (j_lst (ja_cons (j_str rfl) (ja_cons (j_call c__law_bad_place hr (by decide) tk rfl (ja_cons (j_var (i := 2) rfl (.inl rfl)) ja_nil)) ja_nil))))) js_nil))) (js_one (j1_ret (j_lst (ja_cons (j_str rfl) (ja_cons (j_call c__law_table hr (by decide) tk rfl (ja_cons (j_var (i := 0) rfl (.inl rfl)) (ja_cons (j_var (i := 1) rfl (.inl rfl)) ja_nil))) ja_nil))))))⟩
/-! ### _law_spoilt -/
abbrev t__law_spoilt : Stmt := topS 21
abbrev nm__law_spoilt : List Str := ["text", "row", "at", "bad", "place"]
theorem sc__law_spoilt : L2.FnScope ["text", "row", "at", "bad", "place"] ["text", "row", "at"] (L2.defScope t__law_spoilt) := ⟨rfl, rfl, rfl, by decide +kernel, rfl, by decide +kernel, by decide +kernel⟩
noncomputable def d__law_spoilt : DS := (sSeq (sIf (dB (dOp gEq (dOp gMod (dCB gInt (dCons (dOp gIx (dVar 1) (dVar 2)) dNil)) (dC (.int 4))) (dC (.int 1)))) (sRet (dSl (dOp gAdd (dVar 0) (dOp gMul (dC (.str [97, 98, 99, 100, 101, 102, 103, 104, 105, 106, 107, 108])) (dC (.int 6)))) dNoPart (dPart (dOp gAdd (dC (.int 61)) (dOp gMod (dCB gInt (dCons (dOp gIx (dVar 1) (dOp gAdd (dVar 2) (dC (.int 1)))) dNil)) (dC (.int 10))))))) sNext) (sSeq (sSet 3 (dC (.str [32, 33, 34, 35, 36, 38, 39, 40, 41, 42, 43, 44, 45, 46, 47, 48, 49, 50, 51, 52, 53, 54, 55, 56, 57, 58, 59, 60, 61, 62, 63, 64, 65, 66, 67, 68, 69, 70, 71, 72, 73, 74, 75, 76, 77, 78, 79, 80, 81, 82, 83, 84, 85, 86, 87, 88, 89, 90, 91, 92, 93, 94, 95, 123, 124, 125, 126]))) (sSeq (sSet 4 (dOp gMod (dCB gInt (dCons (dOp gIx (dVar 1) (dOp gAdd (dVar 2) (dC (.int 1)))) dNil)) (dOp gAdd (dCB gLen (dCons (dVar 0) dNil)) (dC (.int 1))))) (sRet (dOp gAdd (dOp gAdd (dSl (dVar 0) dNoPart (dPart (dVar 4))) (dOp gIx (dVar 3) (dOp gMod (dCB gInt (dCons (dOp gIx (dVar 1) (dOp gAdd (dVar 2) (dC (.int 2)))) dNil)) (dCB gLen (dCons (dVar 3) dNil))))) (dSl (dVar 0) (dPart (dVar 4)) dNoPart))))))
theorem k__law_spoilt {P : Program} {w : World} {K : PySem.W.Frag} {mg : Str → Option Value} {base : Heap} {f : Addr} {fd : FuncData} {M : List D → MR} (F : L2.Fun K "_law_spoilt" "_law_spoilt" t__law_spoilt f fd) (z_int : mg "int" = none) (z_len : mg "len" = none)
    (hM : ∀ ds, ds.length = 3 → MLe (M ds) (finD (d__law_spoilt (en0 ds 2) []))) : FnOk P w K mg base (L2.CX P w) 1 f fd ["text", "row", "at"] (spM K mg 3 M) :=
  fn_def F sc__law_spoilt rfl rfl hM fun cdv A outer s0 H E hr tk po => ⟨_, (js_cons (j1_if (jt_eq hr.units (j_op op_mod so_mod (jc_int rfl z_int (ja_cons (j_ix (j_var (i := 1) rfl (.inl rfl)) (j_var (i := 2) rfl (.inl rfl))) ja_nil)) j_int) j_int) (js_one (j1_ret (j_sl (j_add (j_var (i := 0) rfl (.inl rfl)) (j_mul (j_str rfl) j_int)) jo_none (jo_some (j_add j_int (j_op op_mod so_mod (jc_int rfl z_int (ja_cons (j_ix (j_var (i := 1) rfl (.inl rfl)) (j_add (j_var (i := 2) rfl (.inl rfl)) j_int)) ja_nil)) j_int)))))) js_nil) (js_cons (j1_set (i := 3) sc__law_spoilt.nd rfl (.inl rfl) (j_str rfl)) (js_cons (j1_set (i := 4) sc__law_spoilt.nd rfl (.inl rfl) (j_op op_mod so_mod (jc_int rfl z_int (ja_cons (j_ix (j_var (i := 1) rfl (.inl rfl)) (j_add (j_var (i := 2) rfl (.inl rfl)) j_int)) ja_nil)) (j_add (j_len rfl z_len (ja_cons (j_var (i := 0) rfl (.inl rfl)) ja_nil)) j_int))) (js_one (j1_ret (j_add (j_add (j_sl (j_var (i := 0) rfl (.inl rfl)) jo_none (jo_some (j_var (i := 4) rfl (.inl rfl)))) (j_ix (j_var (i := 3) rfl (.inl rfl)) (j_op op_mod so_mod (jc_int rfl z_int (ja_cons (j_ix (j_var (i := 1) rfl (.inl rfl)) (j_add (j_var (i := 2) rfl (.inl rfl)) j_int)) ja_nil)) (j_len rfl z_len (ja_cons (j_var (i := 3) rfl (.inl rfl)) ja_nil))))) (j_sl (j_var (i := 0) rfl (.inl rfl)) (jo_some (j_var (i := 4) rfl (.inl rfl))) jo_none)))))))⟩
/-! ### law -/
abbrev t_law : Stmt := topS 22
abbrev nm_law : List Str := ["script", "row", "letters", "pool", "first", "second", "third", "near", "text", "bad", "worse", "pair"]
theorem sc_law : L2.FnScope ["script", "row", "letters", "pool", "first", "second", "third", "near", "text", "bad", "worse", "pair"] ["script"] (L2.defScope t_law) := ⟨rfl, rfl, rfl, by decide +kernel, rfl, by decide +kernel, by decide +kernel⟩
noncomputable def d_law_1 (M__law_row : List D → MR) (M__law_word : List D → MR) (M__law_edited : List D → MR) (M__law_table : List D → MR) (M__law_same : List D → MR) (M__law_asked : List D → MR) (M__law_due : List D → MR) (M_text_distance : List D → MR) (M__law_spoilt : List D → MR) : DS := (sIf (dNot (dTru (dCall M__law_same [] (dCons (dCall M__law_asked [] (dCons (dVar 8) (dCons (dVar 6) dNil))) (dCons (dCall M__law_due [] (dCons (dVar 8) (dCons (dVar 6) dNil))) dNil))))) (sRet (dC (.bl false))) sNext)
noncomputable def d_law_2 (M__law_row : List D → MR) (M__law_word : List D → MR) (M__law_edited : List D → MR) (M__law_table : List D → MR) (M__law_same : List D → MR) (M__law_asked : List D → MR) (M__law_due : List D → MR) (M_text_distance : List D → MR) (M__law_spoilt : List D → MR) : DS := (sIf (dNot (dTru (dCall M__law_same [] (dCons (dCall M__law_asked [] (dCons (dOp gIx (dVar 11) (dC (.int 0))) (dCons (dOp gIx (dVar 11) (dC (.int 1))) dNil))) (dCons (dCall M__law_due [] (dCons (dOp gIx (dVar 11) (dC (.int 0))) (dCons (dOp gIx (dVar 11) (dC (.int 1))) dNil))) dNil))))) (sRet (dC (.bl false))) sNext)
noncomputable def d_law (M__law_row : List D → MR) (M__law_word : List D → MR) (M__law_edited : List D → MR) (M__law_table : List D → MR) (M__law_same : List D → MR) (M__law_asked : List D → MR) (M__law_due : List D → MR) (M_text_distance : List D → MR) (M__law_spoilt : List D → MR) : DS := (sSeq (sSet 1 (dCall M__law_row [] (dCons (dVar 0) (dCons (dC (.int 260)) dNil)))) (sSeq (sSet 2 (dC (.str [97, 98, 99, 100, 101, 102, 103, 104, 105, 106, 107, 108, 109, 110, 111, 112, 113, 114, 115, 116, 117, 118, 119, 120, 121, 122]))) (sSeq (sSet 3 (dOp gAdd (dOp gAdd (dOp gIx (dVar 2) (dOp gMod (dCB gInt (dCons (dOp gIx (dVar 1) (dC (.int 0))) dNil)) (dC (.int 26)))) (dOp gIx (dVar 2) (dOp gMod (dCB gInt (dCons (dOp gIx (dVar 1) (dC (.int 1))) dNil)) (dC (.int 26))))) (dOp gIx (dVar 2) (dOp gMod (dCB gInt (dCons (dOp gIx (dVar 1) (dC (.int 2))) dNil)) (dC (.int 26)))))) (sSeq (sSet 3 (dSl (dVar 3) dNoPart (dPart (dOp gAdd (dC (.int 1)) (dOp gMod (dCB gInt (dCons (dOp gIx (dVar 1) (dC (.int 3))) dNil)) (dC (.int 3))))))) (sSeq (sSet 4 (dCall M__law_word [] (dCons (dVar 1) (dCons (dC (.int 10)) (dCons (dVar 3) dNil))))) (sSeq (sSet 5 (dCall M__law_edited [] (dCons (dVar 4) (dCons (dVar 1) (dCons (dC (.int 74)) (dCons (dVar 3) dNil)))))) (sSeq (sIf (dB (dOp gEq (dOp gMod (dCB gInt (dCons (dOp gIx (dVar 1) (dC (.int 4))) dNil)) (dC (.int 4))) (dC (.int 1)))) (sSet 5 (dCall M__law_word [] (dCons (dVar 1) (dCons (dC (.int 100)) (dCons (dVar 3) dNil))))) sNext) (sSeq (sSet 6 (dCall M__law_word [] (dCons (dVar 1) (dCons (dC (.int 164)) (dCons (dVar 3) dNil))))) (sSeq (sSet 7 (dCall M__law_table [] (dCons (dVar 4) (dCons (dVar 5) dNil)))) (sSeq (sIf (dOr (dNot (dTru (dCall M__law_same [] (dCons (dCall M__law_asked [] (dCons (dVar 4) (dCons (dVar 5) dNil))) (dCons (dLst (dCons (dC (.str [116, 111, 108, 100])) (dCons (dVar 7) dNil))) dNil))))) (dNot (dTru (dCall M__law_same [] (dCons (dCall M__law_asked [] (dCons (dVar 5) (dCons (dVar 4) dNil))) (dCons (dLst (dCons (dC (.str [116, 111, 108, 100])) (dCons (dVar 7) dNil))) dNil)))))) (sRet (dC (.bl false))) sNext) (sSeq (sIf (dOr (dB (dOp gNe (dOp gEq (dVar 7) (dC (.int 0))) (dOp gEq (dVar 4) (dVar 5)))) (dNot (dTru (dCall M__law_same [] (dCons (dCall M__law_asked [] (dCons (dVar 4) (dCons (dVar 4) dNil))) (dCons (dLst (dCons (dC (.str [116, 111, 108, 100])) (dCons (dC (.int 0)) dNil))) dNil)))))) (sRet (dC (.bl false))) sNext) (sSeq (sFor (itA (dLst (dCons (dVar 4) (dCons (dVar 5) dNil)))) (oName 8) (d_law_1 M__law_row M__law_word M__law_edited M__law_table M__law_same M__law_asked M__law_due M_text_distance M__law_spoilt)) (sSeq (sIf (dB (dOp gGt (dCall M_text_distance [] (dCons (dVar 4) (dCons (dVar 6) dNil))) (dOp gAdd (dVar 7) (dCall M_text_distance [] (dCons (dVar 6) (dCons (dVar 5) dNil)))))) (sRet (dC (.bl false))) sNext) (sSeq (sSet 9 (dCall M__law_spoilt [] (dCons (dVar 4) (dCons (dVar 1) (dCons (dC (.int 240)) dNil))))) (sSeq (sSet 10 (dCall M__law_spoilt [] (dCons (dVar 6) (dCons (dVar 1) (dCons (dC (.int 244)) dNil))))) (sSeq (sFor (itA (dLst (dCons (dTup (dCons (dVar 9) (dCons (dVar 5) dNil))) (dCons (dTup (dCons (dVar 5) (dCons (dVar 9) dNil))) (dCons (dTup (dCons (dVar 9) (dCons (dVar 10) dNil))) (dCons (dTup (dCons (dVar 10) (dCons (dVar 9) dNil))) dNil)))))) (oName 11) (d_law_2 M__law_row M__law_word M__law_edited M__law_table M__law_same M__law_asked M__law_due M_text_distance M__law_spoilt)) (sRet (dC (.bl true)))))))))))))))))))
theorem k_law {P : Program} {w : World} {K : PySem.W.Frag} {mg : Str → Option Value} {base : Heap} {f : Addr} {fd : FuncData} {M : List D → MR} {M__law_row : List D → MR} {M__law_word : List D → MR} {M__law_edited : List D → MR} {M__law_table : List D → MR} {M__law_same : List D → MR} {M__law_asked : List D → MR} {M__law_due : List D → MR} {M_text_distance : List D → MR} {M__law_spoilt : List D → MR} (F : L2.Fun K "law" "law" t_law f fd) (c__law_row : Ok P w K mg base 1 "_law_row" 2 M__law_row []) (c__law_word : Ok P w K mg base 1 "_law_word" 3 M__law_word []) (c__law_edited : Ok P w K mg base 1 "_law_edited" 4 M__law_edited []) (c__law_table : Ok P w K mg base 1 "_law_table" 2 M__law_table []) (c__law_same : Ok P w K mg base 1 "_law_same" 2 M__law_same []) (c__law_asked : Ok P w K mg base 5 "_law_asked" 2 M__law_asked []) (c__law_due : Ok P w K mg base 2 "_law_due" 2 M__law_due []) (c_text_distance : Ok P w K mg base 4 "text_distance" 2 M_text_distance []) (c__law_spoilt : Ok P w K mg base 1 "_law_spoilt" 3 M__law_spoilt []) (z_int : mg "int" = none)
    (hM : ∀ ds, ds.length = 1 → MLe (M ds) (finD (d_law M__law_row M__law_word M__law_edited M__law_table M__law_same M__law_asked M__law_due M_text_distance M__law_spoilt (en0 ds 11) []))) : FnOk P w K mg base (L2.CX P w) 6 f fd ["script"] (spM K mg 1 M) :=
  fn_def F sc_law rfl rfl hM fun cdv A outer s0 H E hr tk po => ⟨_, (js_cons (j1_set (i := 1) sc_law.nd rfl (.inl rfl) (j_call c__law_row hr (by decide) tk rfl (ja_cons (j_var (i := 0) rfl (.inl rfl)) (ja_cons j_int ja_nil)))) (js_cons (j1_set (i := 2) sc_law.nd rfl (.inl rfl) (j_str rfl)) (js_cons (j1_set (i := 3) sc_law.nd rfl (.inl rfl) (j_add (j_add (j_ix (j_var (i := 2) rfl (.inl rfl)) (j_op op_mod so_mod (jc_int rfl z_int (ja_cons (j_ix (j_var (i := 1) rfl (.inl rfl)) j_int) ja_nil)) j_int)) (j_ix (j_var (i := 2) rfl (.inl rfl)) (j_op op_mod so_mod (jc_int rfl z_int (ja_cons (j_ix (j_var (i := 1) rfl (.inl rfl)) j_int) ja_nil)) j_int))) (j_ix (j_var (i := 2) rfl (.inl rfl)) (j_op op_mod so_mod (jc_int rfl z_int (ja_cons (j_ix (j_var (i := 1) rfl (.inl rfl)) j_int) ja_nil)) j_int)))) (js_cons (j1_set (i := 3) sc_law.nd rfl (.inl rfl) (j_sl (j_var (i := 3) rfl (.inl rfl)) jo_none (jo_some (j_add j_int (j_op op_mod so_mod (jc_int rfl z_int (ja_cons (j_ix (j_var (i := 1) rfl (.inl rfl)) j_int) ja_nil)) j_int))))) (js_cons (j1_set (i := 4) sc_law.nd rfl (.inl rfl) (j_call c__law_word hr (by decide) tk rfl (ja_cons (j_var (i := 1) rfl (.inl rfl)) (ja_cons j_int (ja_cons (j_var (i := 3) rfl (.inl rfl)) ja_nil))))) (js_cons (j1_set (i := 5) sc_law.nd rfl (.inl rfl) (j_call c__law_edited hr (by decide) tk rfl (ja_cons (j_var (i := 4) rfl (.inl rfl)) (ja_cons (j_var (i := 1) rfl (.inl rfl)) (ja_cons j_int (ja_cons (j_var (i := 3) rfl (.inl rfl)) ja_nil)))))) (js_cons (j1_if (jt_eq hr.units (j_op op_mod so_mod (jc_int rfl z_int (ja_cons (j_ix (j_var (i := 1) rfl (.inl rfl)) j_int) ja_nil)) j_int) j_int) (js_one (j1_set (i := 5) sc_law.nd rfl (.inl rfl) (j_call c__law_word hr (by decide) tk rfl (ja_cons (j_var (i := 1) rfl (.inl rfl)) (ja_cons j_int (ja_cons (j_var (i := 3) rfl (.inl rfl)) ja_nil)))))) js_nil) (js_cons (j1_set (i := 6) sc_law.nd rfl (.inl rfl) (j_call c__law_word hr (by decide) tk rfl (ja_cons (j_var (i := 1) rfl (.inl rfl)) (ja_cons j_int (ja_cons (j_var (i := 3) rfl (.inl rfl)) ja_nil))))) (js_cons (j1_set (i := 7) sc_law.nd rfl (.inl rfl) (j_call c__law_table hr (by decide) tk rfl (ja_cons (j_var (i := 4) rfl (.inl rfl)) (ja_cons (j_var (i := 5) rfl (.inl rfl)) ja_nil)))) (js_cons (j1_if (jt_w (jw_or (jt_not (jt_tru (j_call c__law_same hr (by decide) tk rfl (ja_cons (j_call c__law_asked hr (by decide) tk rfl (ja_cons (j_var (i := 4) rfl (.inl rfl)) (ja_cons (j_var (i := 5) rfl (.inl rfl)) ja_nil))) (ja_cons (j_lst (ja_cons (j_str rfl) (ja_cons (j_var (i := 7) rfl (.inl rfl)) ja_nil))) ja_nil))))) (jw_or1 (jt_not (jt_tru (j_call c__law_same hr (by decide) tk rfl (ja_cons (j_call c__law_asked hr (by decide) tk rfl (ja_cons (j_var (i := 5) rfl (.inl rfl)) (ja_cons (j_var (i := 4) rfl (.inl rfl)) ja_nil))) (ja_cons (j_lst (ja_cons (j_str rfl) (ja_cons (j_var (i := 7) rfl (.inl rfl)) ja_nil))) ja_nil)))))))) (js_one (j1_ret j_bl)) js_nil) (js_cons (j1_if (jt_w (jw_or (jt_ne hr.units (j_eq hr.units (j_var (i := 7) rfl (.inl rfl)) j_int) (j_eq hr.units (j_var (i := 4) rfl (.inl rfl)) (j_var (i := 5) rfl (.inl rfl)))) (jw_or1 (jt_not (jt_tru (j_call c__law_same hr (by decide) tk rfl (ja_cons (j_call c__law_asked hr (by decide) tk rfl (ja_cons (j_var (i := 4) rfl (.inl rfl)) (ja_cons (j_var (i := 4) rfl (.inl rfl)) ja_nil))) (ja_cons (j_lst (ja_cons (j_str rfl) (ja_cons j_int ja_nil))) ja_nil)))))))) (js_one (j1_ret j_bl)) js_nil) (js_cons (j1_for po rfl (ji_any (j_lst (ja_cons (j_var (i := 4) rfl (.inl rfl)) (ja_cons (j_var (i := 5) rfl (.inl rfl)) ja_nil)))) (jg_name (i := 8) sc_law.nd rfl (.inl rfl)) (js_one (j1_if (jt_not (jt_tru (j_call c__law_same hr (by decide) tk rfl (ja_cons (j_call c__law_asked hr (by decide) tk rfl (ja_cons (j_var (i := 8) rfl (.inl rfl)) (ja_cons (j_var (i := 6) rfl (.inl rfl)) ja_nil))) (ja_cons (j_call c__law_due hr (by decide) tk rfl (ja_cons (j_var (i := 8) rfl (.inl rfl)) (ja_cons (j_var (i := 6) rfl (.inl rfl)) ja_nil))) ja_nil))))) (js_one (j1_ret j_bl)) js_nil))) (js_cons (j1_if (jt_cmp op_gt so_gt (j_call c_text_distance hr (by decide) tk rfl (ja_cons (j_var (i := 4) rfl (.inl rfl)) (ja_cons (j_var (i := 6) rfl (.inl rfl)) ja_nil))) (j_add (j_var (i := 7) rfl (.inl rfl)) (j_call c_text_distance hr (by decide) tk rfl (ja_cons (j_var (i := 6) rfl (.inl rfl)) (ja_cons (j_var (i := 5) rfl (.inl rfl)) ja_nil))))) (js_one (j1_ret j_bl)) js_nil) (js_cons (j1_set (i := 9) sc_law.nd rfl (.inl rfl) (j_call c__law_spoilt hr (by decide) tk rfl (ja_cons (j_var (i := 4) rfl (.inl rfl)) (ja_cons (j_var (i := 1) rfl (.inl rfl)) (ja_cons j_int ja_nil))))) (js_cons (j1_set (i := 10) sc_law.nd rfl (.inl rfl) (j_call c__law_spoilt hr (by decide) tk rfl (ja_cons (j_var (i := 6) rfl (.inl rfl)) (ja_cons (j_var (i := 1) rfl (.inl rfl)) (ja_cons j_int ja_nil))))) (js_cons (j1_for po rfl (ji_any (j_lst (ja_cons (j_tup (ja_cons (j_var (i := 9) rfl (.inl rfl)) (ja_cons (j_var (i := 5) rfl (.inl rfl)) ja_nil))) (ja_cons (j_tup (ja_cons (j_var (i := 5) rfl (.inl rfl)) (ja_cons (j_var (i := 9) rfl (.inl rfl)) ja_nil))) (ja_cons (j_tup (ja_cons (j_var (i := 9) rfl (.inl rfl)) (ja_cons (j_var (i := 10) rfl (.inl rfl)) ja_nil))) (ja_cons (j_tup (ja_cons (j_var (i := 10) rfl (.inl rfl)) (ja_cons (j_var (i := 9) rfl (.inl rfl)) ja_nil))) ja_nil)))))) (jg_name (i := 11) sc_law.nd rfl (.inl rfl)) (js_one (j1_if (jt_not (jt_tru (j_call c__law_same hr (by decide) tk rfl (ja_cons (j_call c__law_asked hr (by decide) tk rfl (ja_cons (j_ix (j_var (i := 11) rfl (.inl rfl)) j_int) (ja_cons (j_ix (j_var (i := 11) rfl (.inl rfl)) j_int) ja_nil))) (ja_cons (j_call c__law_due hr (by decide) tk rfl (ja_cons (j_ix (j_var (i := 11) rfl (.inl rfl)) j_int) (ja_cons (j_ix (j_var (i := 11) rfl (.inl rfl)) j_int) ja_nil))) ja_nil))))) (js_one (j1_ret j_bl)) js_nil))) (js_one (j1_ret j_bl))))))))))))))))))⟩
end Dl

/-! the edit distance -/
namespace Dl
def lev : List Nat → List Nat → Nat
  | [], b => b.length
  | a, [] => a.length
  | x :: a, y :: b => min (min (lev a b + if x = y then 0 else 1) (lev a (y :: b) + 1)) (lev (x :: a) b + 1)
termination_by a b => a.length + b.length
theorem lev_nil (b : List Nat) : lev [] b = b.length := by unfold lev; rfl
theorem lev_nil2 (a : List Nat) : lev a [] = a.length := by cases a <;> (unfold lev; rfl)
theorem lev_cons (x y : Nat) (a b : List Nat) : lev (x :: a) (y :: b) = min (min (lev a b + if x = y then 0 else 1) (lev a (y :: b) + 1)) (lev (x :: a) b + 1) := by
  rw [lev]
theorem lev_symm : ∀ a b : List Nat, lev a b = lev b a
  | [], b => by rw [lev_nil, lev_nil2]
  | x :: a, [] => by rw [lev_nil, lev_nil2]
  | x :: a, y :: b => by
    rw [lev_cons, lev_cons, lev_symm a b, lev_symm a (y :: b), lev_symm (x :: a) b]
    have e : (if x = y then 0 else 1) = (if y = x then (0 : Nat) else 1) := by
      by_cases h : x = y
      · rw [if_pos h, if_pos h.symm]
      · rw [if_neg h, if_neg (Ne.symm h)]
    rw [e]
    omega
termination_by a b => a.length + b.length
theorem lev_self : ∀ a : List Nat, lev a a = 0
  | [] => by rw [lev_nil]; rfl
  | x :: a => by rw [lev_cons, lev_self a, if_pos rfl]; omega
theorem lev_zero : ∀ a b : List Nat, lev a b = 0 → a = b
  | [], b, h => by
    rw [lev_nil] at h
    exact (List.eq_nil_of_length_eq_zero h).symm
  | x :: a, [], h => by rw [lev_nil2] at h; simp at h
  | x :: a, y :: b, h => by
    rw [lev_cons] at h
    by_cases e : x = y
    · rw [if_pos e] at h
      have : lev a b = 0 := by omega
      rw [e, lev_zero a b this]
    · rw [if_neg e] at h
      omega
theorem lev_le_add : ∀ a b : List Nat, lev a b ≤ a.length + b.length
  | [], b => by rw [lev_nil]; simp
  | x :: a, [] => by rw [lev_nil2]; simp
  | x :: a, y :: b => by
    have h := lev_le_add a (y :: b)
    rw [lev_cons]
    simp only [List.length_cons] at *
    omega
theorem lev_ge_len : ∀ a b : List Nat, b.length ≤ a.length + lev a b ∧ a.length ≤ b.length + lev a b
  | [], b => by rw [lev_nil]; simp
  | x :: a, [] => by rw [lev_nil2]; simp
  | x :: a, y :: b => by
    have h1 := lev_ge_len a b
    have h2 := lev_ge_len a (y :: b)
    have h3 := lev_ge_len (x :: a) b
    rw [lev_cons]
    simp only [List.length_cons] at *
    split <;> omega
termination_by a b => a.length + b.length
theorem lev_cons_le1 (x y : Nat) (a b : List Nat) : lev (x :: a) (y :: b) ≤ lev a (y :: b) + 1 := by rw [lev_cons]; omega
theorem lev_cons_le2 (x y : Nat) (a b : List Nat) : lev (x :: a) (y :: b) ≤ lev (x :: a) b + 1 := by rw [lev_cons]; omega
theorem lev_cons_le3 (x y : Nat) (a b : List Nat) : lev (x :: a) (y :: b) ≤ lev a b + if x = y then 0 else 1 := by rw [lev_cons]; omega
theorem lev_tri : ∀ a b c : List Nat, lev a c ≤ lev a b + lev b c
  | [], b, c => by
    have := (lev_ge_len b c).1
    rw [lev_nil, lev_nil]; omega
  | x :: a, b, [] => by
    have := (lev_ge_len (x :: a) b).2
    rw [lev_nil2, lev_nil2]; omega
  | x :: a, [], z :: c => by
    have := lev_le_add (x :: a) (z :: c)
    rw [lev_nil2, lev_nil]; omega
  | x :: a, y :: b, z :: c => by
    have t1 := lev_tri a (y :: b) (z :: c)
    have t2 := lev_tri (x :: a) (y :: b) c
    have t3 := lev_tri (x :: a) b (z :: c)
    have t4 := lev_tri (x :: a) b c
    have t5 := lev_tri a b (z :: c)
    have t6 := lev_tri a b c
    have u1 := lev_cons_le1 x z a c
    have u2 := lev_cons_le2 x z a c
    have u3 := lev_cons_le3 x z a c
    have e1 := lev_cons x y a b
    have e2 := lev_cons y z b c
    by_cases h1 : x = y
    · by_cases h2 : y = z
      · rw [if_pos h1] at e1; rw [if_pos h2] at e2; rw [if_pos (h1.trans h2)] at u3; omega
      · rw [if_pos h1] at e1; rw [if_neg h2] at e2; rw [if_neg (by rw [h1]; exact h2)] at u3; omega
    · by_cases h2 : y = z
      · rw [if_neg h1] at e1; rw [if_pos h2] at e2; rw [if_neg (by rw [← h2]; exact h1)] at u3; omega
      · rw [if_neg h1] at e1; rw [if_neg h2] at e2
        have u4 : lev (x :: a) (z :: c) ≤ lev a c + 1 := by split at u3 <;> omega
        omega
termination_by a b c => a.length + b.length + c.length
/-- a row of the table -/
def Rw (ar b : List Nat) (n : Nat) : List Int := (List.range n).map fun j => ((lev ar (b.take j).reverse : Nat) : Int)
theorem Rw_len (ar b : List Nat) (n : Nat) : (Rw ar b n).length = n := by unfold Rw; simp
theorem Rw_get {ar b : List Nat} {n j : Nat} (h : j < n) : (Rw ar b n)[j]? = some ((lev ar (b.take j).reverse : Nat) : Int) := by
  unfold Rw; rw [List.getElem?_map, List.getElem?_range h]; rfl
theorem Rw_succ (ar b : List Nat) (n : Nat) : Rw ar b (n + 1) = Rw ar b n ++ [((lev ar (b.take n).reverse : Nat) : Int)] := by
  unfold Rw; rw [List.range_succ, List.map_append]; rfl
theorem take_succ_rev {b : List Nat} {p : Nat} (h : p < b.length) : (b.take (p + 1)).reverse = b[p] :: (b.take p).reverse := by
  rw [List.take_succ_eq_append_getElem h, List.reverse_append]; rfl
/-- one step along a row -/
theorem Rw_step {c : Nat} {ar b : List Nat} {p : Nat} (h : p < b.length) :
    min (min (((lev ar (b.take p).reverse : Nat) : Int) + (if c = b[p] then 0 else 1)) (((lev ar (b.take (p + 1)).reverse : Nat) : Int) + 1)) (((lev (c :: ar) (b.take p).reverse : Nat) : Int) + 1) = ((lev (c :: ar) (b.take (p + 1)).reverse : Nat) : Int) := by
  rw [take_succ_rev h, lev_cons]
  split <;> omega
theorem Rw_first {b : List Nat} : Rw [] b (b.length + 1) = (List.range (b.length + 1)).map fun j => ((j : Nat) : Int) := by
  unfold Rw
  refine List.map_congr_left fun j hj => ?_
  rw [lev_nil, List.length_reverse, List.length_take]
  have := List.mem_range.mp hj
  omega
theorem Rw_one {c : Nat} {ar b : List Nat} : Rw (c :: ar) b 1 = [((ar.length : Nat) : Int) + 1] := by
  unfold Rw
  simp [lev_nil2]
end Dl

namespace Dl
open PySem PySem.Spec L2
/-! ### letter_changes -/
structure LcS where
  p : Nat
  j5 : Option Dl.E
  j6 : Option Dl.E
  j7 : Option Dl.E
def lcEnv (a b : Cs) (m n : Nat) (c : Nat) (s : LcS) : En := [some (.d (.str a)), some (.d (.str b)), some (.h m), some (.d (.str [c])), some (.h n), s.j5, s.j6, s.j7]
def lcSto (S : Sto) (ar b : Cs) (c m : Nat) (s : LcS) : Sto := S.set m (.own (.lst (iE (Rw (c :: ar) b (s.p + 1)))))
def lcStep (ar b : Cs) (c : Nat) (s : LcS) (k : Nat) : LcS := ⟨k + 1, some (.d (.int k)), some (.d (.str [b.getD k 0])), some (.d (.int (((lev ar (b.take k).reverse : Nat) : Int) + if c = b.getD k 0 then 0 else 1)))⟩
theorem lc_body {a b ar : Cs} {m n c : Nat} {S : Sto} {s : LcS} {k : Nat} {cm : Cell} (hmn : m ≠ n) (hm : S[m]? = some cm) (hn : S[n]? = some (.own (.lst (iE (Rw ar b (b.length + 1)))))) (hk : k < b.length) (hp : s.p = k) (hb : b.length ≤ 1000) :
    d_letter_changes_1 (((lcEnv a b m n c s).set 5 (some (.d (.int k)))).set 6 (some (.d (.str [b.getD k 0])))) (lcSto S ar b c m s) = .nx (lcEnv a b m n c (lcStep ar b c s k)) (lcSto S ar b c m (lcStep ar b c s k)) := by
  have h1 : (lcSto S ar b c m s)[m]? = some (.own (.lst (iE (Rw (c :: ar) b (s.p + 1))))) := get_set hm
  have h2 : (lcSto S ar b c m s)[n]? = some (.own (.lst (iE (Rw ar b (b.length + 1))))) := get_ne hmn hn
  have hbk : b.getD k 0 = b[k] := by rw [List.getD_eq_getElem?_getD, List.getElem?_eq_getElem hk]; rfl
  have hstep := Rw_step (c := c) (ar := ar) hk
  rw [← hbk] at hstep
  have e3 : lcStep ar b c s k = ⟨k + 1, some (.d (.int k)), some (.d (.str [b.getD k 0])), some (.d (.int (((lev ar (b.take k).reverse : Nat) : Int) + if c = b.getD k 0 then 0 else 1)))⟩ := rfl
  rw [e3]
  clear e3
  revert hstep
  generalize b.getD k 0 = y
  have g1 := ixO (k := k) h2 (Rw_get (by omega))
  have g2 : gIx (lcSto S ar b c m s) (.h n) (.d (.int ((k : Int) + 1))) = .ok (.d (.int ((lev ar (b.take (k + 1)).reverse : Nat) : Int))) (lcSto S ar b c m s) := ixO' (k := k + 1) h2 (Rw_get (by omega)) (by omega)
  have g3 := ixO (k := k) h1 (Rw_get (by omega))
  have hR : Rw (c :: ar) b (k + 1 + 1) = Rw (c :: ar) b (k + 1) ++ [((lev (c :: ar) (b.take (k + 1)).reverse : Nat) : Int)] := Rw_succ _ _ _
  revert g1 g2 g3 hR
  generalize ((lev ar (b.take k).reverse : Nat) : Int) = v1
  generalize ((lev ar (b.take (k + 1)).reverse : Nat) : Int) = v2
  generalize ((lev (c :: ar) (b.take k).reverse : Nat) : Int) = v3
  generalize ((lev (c :: ar) (b.take (k + 1)).reverse : Nat) : Int) = v4
  intro g1 g2 g3 hR hstep
  have hap : gAppend (lcSto S ar b c m s) (.h m) [.d (.int (min (min (v1 + (if c = y then 0 else 1)) (v2 + 1)) (v3 + 1)))] = .ok (.d .non) ((lcSto S ar b c m s).set m (.own (.lst (iE (Rw (c :: ar) b (s.p + 1) ++ [v4]))))) := by
    rw [hstep]; exact ev_appI h1 (by rw [Rw_len]; omega)
  have ht := isTy_own h1
  have e4 : ((lcSto S ar b c m s).set m (.own (.lst (iE (Rw (c :: ar) b (s.p + 1) ++ [v4]))))) = lcSto S ar b c m ⟨k + 1, some (.d (.int k)), some (.d (.str [y])), some (.d (.int (v1 + if c = y then 0 else 1)))⟩ := by
    unfold lcSto
    rw [List.set_set, hp, ← hR]
  rw [e4] at hap
  by_cases hc : c = y
  · subst hc
    simp only [if_true] at hap ⊢
    simp at hap
    simp [d_letter_changes_1, lcEnv, g1, g2, g3, ht, hap]
  · simp only [if_neg hc] at hap ⊢
    simp at hap
    simp [d_letter_changes_1, lcEnv, g1, g2, g3, ht, hc, hap]
/-- one row -/
theorem lc_row {a b ar : Cs} {n c : Nat} {S : Sto} {j4 j5 j6 j7 : Option Dl.E} (hn : S[n]? = some (.own (.lst (iE (Rw ar b (b.length + 1)))))) (hb : b.length ≤ 1000) :
    ∃ E2 S2 m k4 k5 k6 k7, d_letter_changes_2 [some (.d (.str a)), some (.d (.str b)), some (.h n), some (.d (.str [c])), j4, j5, j6, j7] S = .nx E2 S2 ∧ E2 = [some (.d (.str a)), some (.d (.str b)), some (.h m), some (.d (.str [c])), k4, k5, k6, k7] ∧ S2[m]? = some (.own (.lst (iE (Rw (c :: ar) b (b.length + 1))))) := by
  have hlt : n < S.length := (List.getElem?_eq_some_iff.mp hn).1
  have g0 : gIx S (.h n) (.d (.int 0)) = .ok (.d (.int ((ar.length : Nat) : Int))) S := ixO' (k := 0) hn (by rw [Rw_get (by omega)]; simp [lev_nil2]) rfl
  have loop := forN_fold (g := oTup [oName 5, oName 6]) (b := d_letter_changes_1) (lcStep ar b c) (lcEnv a b S.length n c) (lcSto (S ++ [.own (.lst (iE (Rw (c :: ar) b 1)))]) ar b c S.length) (fun p : Nat => Dl.E.d (.tup [.int ((p : Nat) : Int), .str [b.getD p 0]])) (List.range b.length)
    (fun s l => l = (List.range b.length).drop s.p) (fun s k r h => by
      have hk : s.p < b.length := by
        by_cases z : s.p < b.length
        · exact z
        · rw [List.drop_eq_nil_of_le (by simp; omega)] at h; cases h
      rw [List.drop_eq_getElem_cons (by simpa using hk)] at h
      obtain ⟨h1, h2⟩ := List.cons.inj h
      have hp : s.p = k := by rw [h1]; simp
      refine ⟨by rw [h2]; show _ = List.drop (k + 1) _; rw [hp], _, rfl, .inl ?_⟩
      exact lc_body (by omega) (get_new (S := S)) (get_app hn) (by omega) hp hb) ⟨0, j5, j6, j7⟩ (by simp)
  have e0 : lcSto (S ++ [.own (.lst (iE (Rw (c :: ar) b 1)))]) ar b c S.length ⟨0, j5, j6, j7⟩ = S ++ [.own (.lst (iE (Rw (c :: ar) b 1)))] := by
    unfold lcSto
    simp
  have hfin : ∀ (l : List Nat) (s : LcS), l = (List.range b.length).drop s.p → s.p ≤ b.length → (l.foldl (lcStep ar b c) s).p = b.length := by
    intro l
    induction l with
    | nil =>
      intro s h hle
      have := congrArg List.length h
      simp at this
      simp; omega
    | cons k l ih =>
      intro s h hle
      have hk : s.p < b.length := by
        by_cases z : s.p < b.length
        · exact z
        · rw [List.drop_eq_nil_of_le (by simp; omega)] at h; cases h
      rw [List.drop_eq_getElem_cons (by simpa using hk)] at h
      obtain ⟨h1, h2⟩ := List.cons.inj h
      have hp : s.p = k := by rw [h1]; simp
      rw [List.foldl_cons]
      exact ih _ (by rw [h2]; show _ = List.drop (k + 1) _; rw [hp]) (by show k + 1 ≤ _; omega)
  have hpe := hfin (List.range b.length) ⟨0, j5, j6, j7⟩ (by simp) (by simp)
  rw [e0] at loop
  generalize hst : (List.range b.length).foldl (lcStep ar b c) ⟨0, j5, j6, j7⟩ = st at loop hpe
  refine ⟨lcEnv a b S.length n c st, lcSto (S ++ [.own (.lst (iE (Rw (c :: ar) b 1)))]) ar b c S.length st, S.length, some (.h n), st.j5, st.j6, st.j7, ?_, rfl, ?_⟩
  rotate_left
  · unfold lcSto
    rw [hpe]
    exact get_set (get_new (S := S))
  · unfold d_letter_changes_2
    simp [g0]
    rw [ev_forEnS (b := b) (S1 := S ++ [.own (.lst [.d (.int (((ar.length : Nat) : Int) + 1))])]) (by simp)]
    have e1 : iE (Rw (c :: ar) b 1) = [.d (.int (((ar.length : Nat) : Int) + 1))] := by rw [Rw_one]; rfl
    rw [e1] at loop ⊢
    exact loop
/-- the arguments: two texts -/
abbrev dec2 (p : Cs × Cs) : List D := [.str p.1, .str p.2]
theorem dec2_inj : ∀ x y : Cs × Cs, dec2 x = dec2 y → x = y := fun x y h => by
  obtain ⟨a, b⟩ := x
  obtain ⟨c, d⟩ := y
  simp at h
  rw [h.1, h.2]
def dist (a b : Cs) : Int := ((lev a.reverse b.reverse : Nat) : Int)
noncomputable def M_letter_changes : List D → MR := mkM dec2 (fun p => p.1.length ≤ 1000 ∧ p.2.length ≤ 1000) fun p => okD (.int (dist p.1 p.2))
theorem M_letter_changes_eq {a b : Cs} (h : a.length ≤ 1000 ∧ b.length ≤ 1000) : M_letter_changes [.str a, .str b] = okD (.int (dist a b)) := mkM_eq (x := (a, b)) dec2_inj h
theorem M_letter_changes_len : ∀ ds : List D, (match M_letter_changes ds with | .no => False | _ => True) → ds.length = 2 := mkM_len fun _ => rfl
theorem M_letter_changes_le : ∀ ds : List D, ds.length = 2 → MLe (M_letter_changes ds) (finD (d_letter_changes (en0 ds 6) [])) := mkM_le fun ⟨a, b⟩ hab => by
  obtain ⟨ha, hb⟩ := hab
  dsimp only at ha hb
  have e0 : ∀ E, E = [some (.d (.str a)), some (.d (.str b)), none, none, none, none, none, none] → sSet 2 (dLstRg (dRg1 (dOp gAdd (dCB gLen (dCons (dVar 1) dNil)) (dC (.int 1))))) E [] = .nx [some (.d (.str a)), some (.d (.str b)), some (.h 0), none, none, none, none, none] [.own (.lst (iE (Rw [] b (b.length + 1))))] := by
    rintro _ rfl
    rw [ev_sSet, ev_listRg (n := ((b.length : Nat) : Int) + 1) (S1 := []) (by simp [show b.length ≤ 16777216 by omega]) (by omega), Rw_first]
    rfl
  have loop := forN_inv (g := oName 3) (b := d_letter_changes_2) (fun l E S => ∃ (pre rest : Cs) (n : Nat) (j3 j4 j5 j6 j7 : Option Dl.E), a = pre ++ rest ∧ l = rest.map (fun c => Dl.E.d (.str [c])) ∧ E = [some (.d (.str a)), some (.d (.str b)), some (.h n), j3, j4, j5, j6, j7] ∧ S[n]? = some (.own (.lst (iE (Rw pre.reverse b (b.length + 1))))))
    (a.map fun c => Dl.E.d (.str [c])) [some (.d (.str a)), some (.d (.str b)), some (.h 0), none, none, none, none, none] [.own (.lst (iE (Rw [] b (b.length + 1))))] ⟨[], a, 0, _, _, _, _, _, rfl, rfl, rfl, rfl⟩ (fun x r E S h => by
      obtain ⟨pre, rest, n, j3, j4, j5, j6, j7, h1, h2, h3, h4⟩ := h
      cases rest with
      | nil => cases h2
      | cons c rest =>
        obtain ⟨h5, h6⟩ := List.cons.inj h2
        subst h3
        obtain ⟨E2, S2, m, k4, k5, k6, k7, q1, q2, q3⟩ := lc_row (a := a) (c := c) (j4 := j4) (j5 := j5) (j6 := j6) (j7 := j7) h4 hb
        refine ⟨_, rfl, E2, S2, .inl ?_, pre ++ [c], rest, m, some (.d (.str [c])), k4, k5, k6, k7, by rw [h1]; simp, h6, q2, by rw [List.reverse_append]; exact q3⟩
        rw [h5]
        exact q1)
  obtain ⟨E2, S2, q1, pre, rest, n, j3, j4, j5, j6, j7, p1, p2, p3, p4⟩ := loop
  have hr : rest = [] := by
    cases rest with
    | nil => rfl
    | cons _ _ => cases p2
  subst hr
  rw [List.append_nil] at p1
  subst p1
  unfold d_letter_changes
  rw [ev_sSeq, e0 (en0 (dec2 (a, b)) 6) rfl, ev_nx, ev_sSeq, ev_forS (b := a) (S1 := [.own (.lst (iE (Rw [] b (b.length + 1))))]) (by simp), q1, ev_nx]
  subst p3
  have hlast : gIx S2 (.h n) (.d (.int (-1))) = .ok (.d (.int (dist a b))) S2 := ixO_last p4 (by
    rw [Rw_len, Nat.add_sub_cancel, Rw_get (by omega), List.take_length]; rfl)
  simp [hlast]
end Dl

namespace Dl
open PySem PySem.Spec L2
/-! ### _law_table -/
theorem ev_min3L {S : Sto} {n : Nat} {x y z : Int} (h : S[n]? = some (.own (.lst [.d (.int x), .d (.int y), .d (.int z)]))) : gMin S [.h n] = .ok (.d (.int (min (min x y) z))) S := by
  have e : gLI1 minL S [.h n] = .ok (.d (.int (min (min x y) z))) S := by
    have h1 : asL S (.h n) = some [.d (.int x), .d (.int y), .d (.int z)] := asL_own h
    have h2 : minL [x, y, z] = min (min x y) z := by
      simp only [minL]
      first | omega | (split <;> split <;> omega) | (unfold minI; split <;> split <;> omega)
    unfold gLI1
    simp [h1, allI, h2]
  show (match g2I minI S [.h n] with
    | .no => gOrA (g3I minI) (gLI1 minL) S [.h n]
    | .ok v S => .ok v S
    | .ex e S => .ex e S) = _
  have e1 : g2I minI S [.h n] = .no := nrfl rfl
  rw [e1]
  show (match g3I minI S [.h n] with
    | .no => gLI1 minL S [.h n]
    | .ok v S => .ok v S
    | .ex e S => .ex e S) = _
  have e2 : g3I minI S [.h n] = .no := nrfl rfl
  rw [e2]
  exact e
theorem lt_body {a b ar : Cs} {m n i c : Nat} {S : Sto} {k : Nat} {j5 j6 : Option Dl.E} (hmn : m ≠ n) (hm : S[m]? = some (.own (.lst (iE (Rw (c :: ar) b (k + 1)))))) (hn : S[n]? = some (.own (.lst (iE (Rw ar b (b.length + 1)))))) (hk : k < b.length) (hc : a[i]? = some c) (ha : a.length ≤ 1000) (hb : b.length ≤ 1000) :
    ∃ j6' S2, d__law_table_1 [some (.d (.str a)), some (.d (.str b)), some (.h n), some (.d (.int i)), some (.h m), some (.d (.int k)), j6] S = .nx [some (.d (.str a)), some (.d (.str b)), some (.h n), some (.d (.int i)), some (.h m), some (.d (.int k)), j6'] S2 ∧ S2[m]? = some (.own (.lst (iE (Rw (c :: ar) b (k + 1 + 1))))) ∧ S2[n]? = some (.own (.lst (iE (Rw ar b (b.length + 1))))) := by
  obtain ⟨y, hy⟩ : ∃ y, b[k]? = some y := ⟨b[k], List.getElem?_eq_getElem hk⟩
  have hstep := Rw_step (c := c) (ar := ar) hk
  have hyk : b[k] = y := by
    have := List.getElem?_eq_getElem hk
    rw [hy] at this
    exact (Option.some.inj this).symm
  rw [hyk] at hstep
  have g1 : gIx S (.h n) (.d (.int (k : Nat))) = _ := ixO (k := k) hn (Rw_get (by omega))
  have q1 : gIx S (.d (.str a)) (.d (.int (i : Nat))) = .ok (.d (.str [c])) S := ixS (by omega) hc rfl
  have q2 : gIx S (.d (.str b)) (.d (.int (k : Nat))) = .ok (.d (.str [y])) S := ixS (by omega) hy rfl
  have g2 : gIx S (.h n) (.d (.int ((k : Int) + 1))) = .ok (.d (.int ((lev ar (b.take (k + 1)).reverse : Nat) : Int))) S := ixO' (k := k + 1) hn (Rw_get (by omega)) (by omega)
  have g3 := ixO (k := k) hm (Rw_get (by omega))
  have hR : Rw (c :: ar) b (k + 1 + 1) = Rw (c :: ar) b (k + 1) ++ [((lev (c :: ar) (b.take (k + 1)).reverse : Nat) : Int)] := Rw_succ _ _ _
  revert g1 g2 g3 hR hstep
  generalize ((lev ar (b.take k).reverse : Nat) : Int) = v1
  generalize ((lev ar (b.take (k + 1)).reverse : Nat) : Int) = v2
  generalize ((lev (c :: ar) (b.take k).reverse : Nat) : Int) = v3
  generalize ((lev (c :: ar) (b.take (k + 1)).reverse : Nat) : Int) = v4
  intro hstep g1 g2 g3 hR
  have ht := isTy_own hm
  have fin : ∀ x : Int, min (min x (v2 + 1)) (v3 + 1) = v4 → ∃ S2, sDrop (dBM "list" gAppend (dVar 4) (dCons (dCB gMin (dCons (dLst (dCons (dVar 6) (dCons (dOp gAdd (dOp gIx (dVar 2) (dOp gAdd (dVar 5) (dC (.int 1)))) (dC (.int 1))) (dCons (dOp gAdd (dOp gIx (dVar 4) (dVar 5)) (dC (.int 1))) dNil)))) dNil)) dNil)) [some (.d (.str a)), some (.d (.str b)), some (.h n), some (.d (.int i)), some (.h m), some (.d (.int k)), some (.d (.int x))] S = .nx [some (.d (.str a)), some (.d (.str b)), some (.h n), some (.d (.int i)), some (.h m), some (.d (.int k)), some (.d (.int x))] S2 ∧ S2[m]? = some (.own (.lst (iE (Rw (c :: ar) b (k + 1 + 1))))) ∧ S2[n]? = some (.own (.lst (iE (Rw ar b (b.length + 1))))) := fun x hx => by
    have gm : gMin (S ++ [.own (.lst [.d (.int x), .d (.int (v2 + 1)), .d (.int (v3 + 1))])]) [.h S.length] = .ok (.d (.int v4)) (S ++ [.own (.lst [.d (.int x), .d (.int (v2 + 1)), .d (.int (v3 + 1))])]) := by rw [ev_min3L (get_new (S := S)), hx]
    have hap : gAppend (S ++ [.own (.lst [.d (.int x), .d (.int (v2 + 1)), .d (.int (v3 + 1))])]) (.h m) [.d (.int v4)] = .ok (.d .non) ((S ++ [Cell.own (.lst [.d (.int x), .d (.int (v2 + 1)), .d (.int (v3 + 1))])]).set m (.own (.lst (iE (Rw (c :: ar) b (k + 1) ++ [v4]))))) := ev_appI (get_app hm) (by rw [Rw_len]; omega)
    refine ⟨(S ++ [Cell.own (.lst [.d (.int x), .d (.int (v2 + 1)), .d (.int (v3 + 1))])]).set m (.own (.lst (iE (Rw (c :: ar) b (k + 1) ++ [v4])))), ?_, ?_⟩
    · simp [g2, g3, ht, gm, hap]
    · rw [hR]
      exact ⟨get_set (get_app hm), get_ne hmn (get_app hn)⟩
  unfold d__law_table_1
  by_cases hcy : c = y
  · subst hcy
    rw [if_pos rfl, Int.add_zero] at hstep
    obtain ⟨S2, f1, f2, f3⟩ := fin v1 hstep
    refine ⟨some (.d (.int v1)), S2, ?_, f2, f3⟩
    simp only [ev_sSeq]
    have e1 : sSet 6 (dOp gIx (dVar 2) (dVar 5)) [some (.d (.str a)), some (.d (.str b)), some (.h n), some (.d (.int i)), some (.h m), some (.d (.int k)), j6] S = .nx [some (.d (.str a)), some (.d (.str b)), some (.h n), some (.d (.int i)), some (.h m), some (.d (.int k)), some (.d (.int v1))] S := by simp [g1]
    rw [e1, ev_nx, ev_sSeq]
    have e2 : sIf (dB (dOp gNe (dOp gIx (dVar 0) (dVar 3)) (dOp gIx (dVar 1) (dVar 5)))) (sSet 6 (dOp gAdd (dVar 6) (dC (.int 1)))) sNext [some (.d (.str a)), some (.d (.str b)), some (.h n), some (.d (.int i)), some (.h m), some (.d (.int k)), some (.d (.int v1))] S = .nx [some (.d (.str a)), some (.d (.str b)), some (.h n), some (.d (.int i)), some (.h m), some (.d (.int k)), some (.d (.int v1))] S := by simp [q1, q2]
    rw [e2, ev_nx]
    exact f1
  · rw [if_neg hcy] at hstep
    obtain ⟨S2, f1, f2, f3⟩ := fin (v1 + 1) hstep
    refine ⟨some (.d (.int (v1 + 1))), S2, ?_, f2, f3⟩
    simp only [ev_sSeq]
    have e1 : sSet 6 (dOp gIx (dVar 2) (dVar 5)) [some (.d (.str a)), some (.d (.str b)), some (.h n), some (.d (.int i)), some (.h m), some (.d (.int k)), j6] S = .nx [some (.d (.str a)), some (.d (.str b)), some (.h n), some (.d (.int i)), some (.h m), some (.d (.int k)), some (.d (.int v1))] S := by simp [g1]
    rw [e1, ev_nx, ev_sSeq]
    have e2 : sIf (dB (dOp gNe (dOp gIx (dVar 0) (dVar 3)) (dOp gIx (dVar 1) (dVar 5)))) (sSet 6 (dOp gAdd (dVar 6) (dC (.int 1)))) sNext [some (.d (.str a)), some (.d (.str b)), some (.h n), some (.d (.int i)), some (.h m), some (.d (.int k)), some (.d (.int v1))] S = .nx [some (.d (.str a)), some (.d (.str b)), some (.h n), some (.d (.int i)), some (.h m), some (.d (.int k)), some (.d (.int (v1 + 1)))] S := by simp [q1, q2, hcy]
    rw [e2, ev_nx]
    exact f1
theorem lt_row {a b ar : Cs} {n i c : Nat} {S : Sto} {j4 j5 j6 : Option Dl.E} (hi : i = ar.length) (hn : S[n]? = some (.own (.lst (iE (Rw ar b (b.length + 1)))))) (hc : a[i]? = some c) (ha : a.length ≤ 1000) (hb : b.length ≤ 1000) :
    ∃ S2 m k5 k6, d__law_table_2 [some (.d (.str a)), some (.d (.str b)), some (.h n), some (.d (.int i)), j4, j5, j6] S = .nx [some (.d (.str a)), some (.d (.str b)), some (.h m), some (.d (.int i)), some (.h m), k5, k6] S2 ∧ S2[m]? = some (.own (.lst (iE (Rw (c :: ar) b (b.length + 1))))) := by
  have hlt : n < S.length := (List.getElem?_eq_some_iff.mp hn).1
  have loop := forN_inv (g := oName 5) (b := d__law_table_1) (fun l E S2 => ∃ (p : Nat) (j5 j6 : Option Dl.E), l = ((List.range b.length).drop p).map (fun k => Dl.E.d (.int (k : Nat))) ∧ p ≤ b.length ∧ E = [some (.d (.str a)), some (.d (.str b)), some (.h n), some (.d (.int i)), some (.h S.length), j5, j6] ∧ S2[S.length]? = some (.own (.lst (iE (Rw (c :: ar) b (p + 1))))) ∧ S2[n]? = some (.own (.lst (iE (Rw ar b (b.length + 1))))))
    ((List.range b.length).map fun k => Dl.E.d (.int (k : Nat))) [some (.d (.str a)), some (.d (.str b)), some (.h n), some (.d (.int i)), some (.h S.length), j5, j6] (S ++ [.own (.lst (iE (Rw (c :: ar) b 1)))]) ⟨0, j5, j6, by simp, by omega, rfl, get_new (S := S), get_app hn⟩ (fun x r E S2 h => by
      obtain ⟨p, j5, j6, h1, hp, h2, h3, h4⟩ := h
      have hk : p < b.length := by
        by_cases z : p < b.length
        · exact z
        · rw [List.drop_eq_nil_of_le (by simp; omega)] at h1; cases h1
      rw [List.drop_eq_getElem_cons (by simpa using hk), List.map_cons] at h1
      obtain ⟨h5, h6⟩ := List.cons.inj h1
      subst h2
      obtain ⟨j6', S3, q1, q2, q3⟩ := lt_body (j5 := none) (j6 := j6) (by omega) h3 h4 hk hc ha hb
      refine ⟨_, rfl, _, S3, .inl ?_, p + 1, some (.d (.int p)), j6', h6, hk, rfl, q2, q3⟩
      rw [h5]
      simp only [List.getElem_range]
      exact q1)
  obtain ⟨E2, S2, q1, p, k5, k6, p1, p2, p3, p4, p5⟩ := loop
  have hp : p = b.length := by
    have := congrArg List.length p1
    simp at this
    omega
  subst hp
  subst p3
  refine ⟨S2, S.length, k5, k6, ?_, p4⟩
  unfold d__law_table_2
  have e1 : iE (Rw (c :: ar) b 1) = [.d (.int ((i : Int) + 1))] := by rw [Rw_one, ← hi]; rfl
  rw [e1] at q1
  simp
  rw [ev_forR1 (n := b.length) (S1 := S ++ [.own (.lst [.d (.int ((i : Int) + 1))])]) (by simp [show b.length ≤ 16777216 by omega]) (by omega), Int.toNat_natCast, q1]
  simp
noncomputable def M__law_table : List D → MR := mkM dec2 (fun p => p.1.length ≤ 1000 ∧ p.2.length ≤ 1000) fun p => okD (.int (dist p.1 p.2))
theorem M__law_table_eq {a b : Cs} (h : a.length ≤ 1000 ∧ b.length ≤ 1000) : M__law_table [.str a, .str b] = okD (.int (dist a b)) := mkM_eq (x := (a, b)) dec2_inj h
theorem M__law_table_len : ∀ ds : List D, (match M__law_table ds with | .no => False | _ => True) → ds.length = 2 := mkM_len fun _ => rfl
theorem M__law_table_le : ∀ ds : List D, ds.length = 2 → MLe (M__law_table ds) (finD (d__law_table (en0 ds 5) [])) := mkM_le fun ⟨a, b⟩ hab => by
  obtain ⟨ha, hb⟩ := hab
  dsimp only at ha hb
  have e0 : sSet 2 (dLc (itR1 (dCons (dOp gAdd (dCB gLen (dCons (dVar 1) dNil)) (dC (.int 1))) dNil)) (oName 5) dYes (dVar 5) [5]) (en0 (dec2 (a, b)) 5) [] = .nx [some (.d (.str a)), some (.d (.str b)), some (.h 0), none, none, none, none] [.own (.lst (iE (Rw [] b (b.length + 1))))] := by
    rw [ev_sSet, ev_lc (l := List.range (b.length + 1)) (inj := fun k => Dl.E.d (.int (k : Nat))) (out := fun k => Dl.E.d (.int (k : Nat))) (j := 5) (S1 := [])
      (by rw [ev_itR1 (n := ((b.length : Nat) : Int) + 1) (S1 := []) (by simp [en0, show b.length ≤ 16777216 by omega]) (by omega)]; congr 4) (by simp; omega) (fun x _ acc => by simp [en0, wipeE]), Rw_first]
    simp [en0]
  have loop := forN_inv (g := oName 3) (b := d__law_table_2) (fun l E S => ∃ (p n : Nat) (j3 j4 j5 j6 : Option Dl.E), l = ((List.range a.length).drop p).map (fun k => Dl.E.d (.int (k : Nat))) ∧ p ≤ a.length ∧ E = [some (.d (.str a)), some (.d (.str b)), some (.h n), j3, j4, j5, j6] ∧ S[n]? = some (.own (.lst (iE (Rw (a.take p).reverse b (b.length + 1))))))
    ((List.range a.length).map fun k => Dl.E.d (.int (k : Nat))) [some (.d (.str a)), some (.d (.str b)), some (.h 0), none, none, none, none] [.own (.lst (iE (Rw [] b (b.length + 1))))] ⟨0, 0, _, _, _, _, by simp, by omega, rfl, rfl⟩ (fun x r E S h => by
      obtain ⟨p, n, j3, j4, j5, j6, h1, hp, h2, h3⟩ := h
      have hk : p < a.length := by
        by_cases z : p < a.length
        · exact z
        · rw [List.drop_eq_nil_of_le (by simp; omega)] at h1; cases h1
      rw [List.drop_eq_getElem_cons (by simpa using hk), List.map_cons] at h1
      obtain ⟨h5, h6⟩ := List.cons.inj h1
      subst h2
      obtain ⟨S2, m, k5, k6, q1, q2⟩ := lt_row (a := a) (i := p) (c := a[p]) (j4 := j4) (j5 := j5) (j6 := j6) (by simp; omega) h3 (List.getElem?_eq_getElem hk) ha hb
      refine ⟨_, rfl, _, S2, .inl ?_, p + 1, m, some (.d (.int p)), some (.h m), k5, k6, h6, hk, rfl, by rw [take_succ_rev hk]; exact q2⟩
      rw [h5]
      simp only [List.getElem_range]
      exact q1)
  obtain ⟨E2, S2, q1, p, n, j3, j4, j5, j6, p1, p2, p3, p4⟩ := loop
  have hp : p = a.length := by
    have := congrArg List.length p1
    simp at this
    omega
  subst hp
  subst p3
  rw [List.take_length] at p4
  unfold d__law_table
  rw [ev_sSeq, e0, ev_nx, ev_sSeq, ev_forR1 (n := a.length) (S1 := [.own (.lst (iE (Rw [] b (b.length + 1))))]) (by simp [show a.length ≤ 16777216 by omega]) (by omega), Int.toNat_natCast, q1, ev_nx]
  have hlast : gIx S2 (.h n) (.d (.int (b.length : Nat))) = .ok (.d (.int (dist a b))) S2 := ixO p4 (by
    rw [Rw_get (by omega), List.take_length]; rfl)
  simp [show b.length ≤ 16777216 by omega, hlast]
end Dl

namespace Dl
open PySem PySem.Spec L2
/-! ### bad letters -/
def badF (most : Int) : Nat → Cs → Int
  | _, [] => -1
  | k, c :: r => if most ≤ (k : Int) ∨ c ∉ lettersD then (k : Int) else badF most (k + 1) r
theorem badF_ge (most : Int) : ∀ (r : Cs) (k : Nat), badF most k r = -1 ∨ 0 ≤ badF most k r
  | [], k => .inl rfl
  | c :: r, k => by
    unfold badF
    split
    · exact .inr (by omega)
    · exact badF_ge most r (k + 1)
theorem bad_loop (t : Cs) (most : Int) : ∀ (r : Cs) (k : Nat) (j2 j3 : Option Dl.E),
    (badF most k r = -1 → ∃ j2' j3', forN (oTup [oName 2, oName 3]) d_bad_letter_1 (enL k (r.map fun c => Dl.E.d (.str [c]))) [some (.d (.str t)), some (.d (.int most)), j2, j3] [] = .nx [some (.d (.str t)), some (.d (.int most)), j2', j3'] []) ∧
    (badF most k r ≠ -1 → forN (oTup [oName 2, oName 3]) d_bad_letter_1 (enL k (r.map fun c => Dl.E.d (.str [c]))) [some (.d (.str t)), some (.d (.int most)), j2, j3] [] = .rt (.d (.int (badF most k r))) [])
  | [], k, j2, j3 => ⟨fun _ => ⟨j2, j3, rfl⟩, fun h => absurd rfl h⟩
  | c :: r, k, j2, j3 => by
    have hb : d_bad_letter_1 [some (.d (.str t)), some (.d (.int most)), some (.d (.int k)), some (.d (.str [c]))] [] = if most ≤ (k : Int) ∨ c ∉ lettersD then .rt (.d (.int k)) [] else .nx [some (.d (.str t)), some (.d (.int most)), some (.d (.int k)), some (.d (.str [c]))] [] := by
      unfold d_bad_letter_1
      by_cases h1 : most ≤ (k : Int)
      · simp [h1]
      · by_cases h2 : c ∈ lettersD
        · simp [h1, h2]
        · simp [h1, h2]
    rw [List.map_cons, enL_cons, mkU2]
    unfold badF
    by_cases hc : most ≤ (k : Int) ∨ c ∉ lettersD
    · rw [if_pos hc] at hb
      rw [if_pos hc, forN_rt rfl hb]
      exact ⟨fun h => by omega, fun _ => rfl⟩
    · rw [if_neg hc] at hb
      rw [if_neg hc, forN_nx rfl hb]
      exact bad_loop t most r (k + 1) _ _
abbrev decB (p : Cs × Int) : List D := [.str p.1, .int p.2]
theorem decB_inj : ∀ x y : Cs × Int, decB x = decB y → x = y := fun x y h => by
  obtain ⟨a, b⟩ := x
  obtain ⟨c, d⟩ := y
  simp at h
  rw [h.1, h.2]
noncomputable def M_bad_letter : List D → MR := mkM decB (fun _ => True) fun p => okD (.int (badF p.2 0 p.1))
theorem M_bad_letter_eq {a : Cs} {m : Int} : M_bad_letter [.str a, .int m] = okD (.int (badF m 0 a)) := mkM_eq (x := (a, m)) decB_inj trivial
theorem M_bad_letter_len : ∀ ds : List D, (match M_bad_letter ds with | .no => False | _ => True) → ds.length = 2 := mkM_len fun _ => rfl
theorem M_bad_letter_le : ∀ ds : List D, ds.length = 2 → MLe (M_bad_letter ds) (finD (d_bad_letter (en0 ds 2) [])) := mkM_le fun ⟨t, m⟩ _ => by
  obtain ⟨h1, h2⟩ := bad_loop t m t 0 none none
  unfold d_bad_letter
  rw [ev_sSeq, ev_forEnS0 (b := t) (S1 := []) (by simp [en0])]
  show _ = finD (RSt.bind (forN _ _ _ [some (.d (.str t)), some (.d (.int m)), none, none] []) _)
  by_cases h : badF m 0 t = -1
  · obtain ⟨j2, j3, e⟩ := h1 h
    rw [e]
    simp [h]
  · rw [h2 h]
    simp
noncomputable def M_check_text : List D → MR := mkM decB (fun _ => True) fun p => if badF p.2 0 p.1 = -1 then okD .non else .ex ⟨"BadText", [("place", .int (badF p.2 0 p.1))]⟩
theorem M_check_text_eq {a : Cs} {m : Int} : M_check_text [.str a, .int m] = if badF m 0 a = -1 then okD .non else .ex ⟨"BadText", [("place", .int (badF m 0 a))]⟩ := mkM_eq (x := (a, m)) decB_inj trivial
theorem M_check_text_len : ∀ ds : List D, (match M_check_text ds with | .no => False | _ => True) → ds.length = 2 := mkM_len fun _ => rfl
theorem M_check_text_le : ∀ ds : List D, ds.length = 2 → MLe (M_check_text ds) (finD (d_check_text M_bad_letter (en0 ds 1) [])) := mkM_le fun ⟨t, m⟩ _ => by
  have hc : ∀ E, E = [some (Dl.E.d (.str t)), some (.d (.int m)), none] → dCall M_bad_letter [] (dCons (dVar 0) (dCons (dVar 1) dNil)) E [] = .ok (.d (.int (badF m 0 t))) [] := by
    rintro _ rfl
    exact ev_call (xs := [.str t, .int m]) (by simp) (by simp) M_bad_letter_eq
  unfold d_check_text en0
  simp [hc]
  rcases badF_ge m t 0 with h | h
  · simp [h]
  · have h' : badF m 0 t ≠ -1 := by omega
    simp [h, h']
    rw [ev_raise (n := 1) (xs := [.int (badF m 0 t)]) (S1 := []) (by simp) rfl (by omega)]
    simp
noncomputable def M_text_distance : List D → MR := mkM dec2 (fun p => p.1.length ≤ 1000 ∧ p.2.length ≤ 1000) fun p =>
  if badF 60 0 p.1 = -1 then (if badF 60 0 p.2 = -1 then okD (.int (dist p.1 p.2)) else .ex ⟨"BadText", [("place", .int (badF 60 0 p.2))]⟩) else .ex ⟨"BadText", [("place", .int (badF 60 0 p.1))]⟩
theorem M_text_distance_eq {a b : Cs} (h : a.length ≤ 1000 ∧ b.length ≤ 1000) : M_text_distance [.str a, .str b] = if badF 60 0 a = -1 then (if badF 60 0 b = -1 then okD (.int (dist a b)) else .ex ⟨"BadText", [("place", .int (badF 60 0 b))]⟩) else .ex ⟨"BadText", [("place", .int (badF 60 0 a))]⟩ := mkM_eq (x := (a, b)) dec2_inj h
theorem M_text_distance_len : ∀ ds : List D, (match M_text_distance ds with | .no => False | _ => True) → ds.length = 2 := mkM_len fun _ => rfl
theorem M_text_distance_le : ∀ ds : List D, ds.length = 2 → MLe (M_text_distance ds) (finD (d_text_distance M_check_text M_letter_changes (en0 ds 0) [])) := mkM_le fun ⟨a, b⟩ hab => by
  obtain ⟨ha, hb⟩ := hab
  dsimp only at ha hb
  have e0 : en0 (dec2 (a, b)) 0 = [some (.d (.str a)), some (.d (.str b))] := rfl
  unfold d_text_distance
  rw [e0]
  dsimp only
  by_cases h1 : badF 60 0 a = -1
  · have c1 : dCall M_check_text [.int 60] (dCons (dVar 0) dNil) [some (.d (.str a)), some (.d (.str b))] [] = .ok (.d .non) [] := ev_call (xs := [.str a]) (by simp) (by simp) (by show M_check_text [.str a, .int 60] = _; rw [M_check_text_eq, if_pos h1])
    by_cases h2 : badF 60 0 b = -1
    · have c2 : dCall M_check_text [.int 60] (dCons (dVar 1) dNil) [some (.d (.str a)), some (.d (.str b))] [] = .ok (.d .non) [] := ev_call (xs := [.str b]) (by simp) (by simp) (by show M_check_text [.str b, .int 60] = _; rw [M_check_text_eq, if_pos h2])
      have c3 : dCall M_letter_changes [] (dCons (dVar 0) (dCons (dVar 1) dNil)) [some (.d (.str a)), some (.d (.str b))] [] = .ok (.d (.int (dist a b))) [] := ev_call (xs := [.str a, .str b]) (by simp) (by simp) (M_letter_changes_eq ⟨ha, hb⟩)
      simp [h1, h2, c1, c2, c3]
    · have c2 : dCall M_check_text [.int 60] (dCons (dVar 1) dNil) [some (.d (.str a)), some (.d (.str b))] [] = .ex ⟨"BadText", [("place", .int (badF 60 0 b))]⟩ [] := ev_callX (xs := [.str b]) (by simp) (by simp) (by show M_check_text [.str b, .int 60] = _; rw [M_check_text_eq, if_neg h2])
      simp [h1, h2, c1, c2]
  · have c1 : dCall M_check_text [.int 60] (dCons (dVar 0) dNil) [some (.d (.str a)), some (.d (.str b))] [] = .ex ⟨"BadText", [("place", .int (badF 60 0 a))]⟩ [] := ev_callX (xs := [.str a]) (by simp) (by simp) (by show M_check_text [.str a, .int 60] = _; rw [M_check_text_eq, if_neg h1])
    simp [h1, c1]
end Dl

namespace Dl
open PySem PySem.Spec L2
def bad (t : Cs) : Int := badF 60 0 t
def told : Cs := [116, 111, 108, 100]
def badW : Cs := [98, 97, 100]
def ans (a b : Cs) : Cs × Int := if bad a = -1 then (if bad b = -1 then (told, dist a b) else (badW, bad b)) else (badW, bad a)
abbrev pairD (p : Cs × Int) : D := .lst [.str p.1, .int p.2]
noncomputable def M__law_asked : List D → MR := mkM dec2 (fun p => p.1.length ≤ 1000 ∧ p.2.length ≤ 1000) fun p => okD (pairD (ans p.1 p.2))
theorem M__law_asked_eq {a b : Cs} (h : a.length ≤ 1000 ∧ b.length ≤ 1000) : M__law_asked [.str a, .str b] = okD (pairD (ans a b)) := mkM_eq (x := (a, b)) dec2_inj h
theorem M__law_asked_len : ∀ ds : List D, (match M__law_asked ds with | .no => False | _ => True) → ds.length = 2 := mkM_len fun _ => rfl
theorem pair_fin {S : Sto} {n : Nat} {w : Cs} {i : Int} (h : S[n]? = some (.own (.lst [.d (.str w), .d (.int i)]))) : finR S (.h n) = okD (pairD (w, i)) := finR_own (l := [.str w, .int i]) h (by simp)
theorem asked_bad {a b : Cs} {v : Int} (h : d__law_asked_1 M_text_distance (en0 (dec2 (a, b)) 1) [] = .ex ⟨"BadText", [("place", .int v)]⟩ (en0 (dec2 (a, b)) 1) []) : finD (d__law_asked M_text_distance (en0 (dec2 (a, b)) 1) []) = okD (pairD (badW, v)) := by
  unfold d__law_asked
  rw [ev_sSeq, ev_tryX (x := ⟨"BadText", [("place", .int v)]⟩) h (by rfl)]
  have hx : ∀ S, dXf ["BadText"] 2 "place" ((en0 (dec2 (a, b)) 1).set 2 (some (.x "BadText" [("place", .int v)]))) S = .ok (.d (.int v)) S := fun S => ev_xf (c := "BadText") (fs := [("place", .int v)]) (by rfl) (by simp) (by rfl)
  have h1 : ∀ S, dXi (fun c => ([("Fault", false), ("BadText", true), ("TooMany", false)] : List (Str × Bool)).lookup c) 2 ((en0 (dec2 (a, b)) 1).set 2 (some (.x "BadText" [("place", .int v)]))) S = .ok (.d (.bl true)) S := fun S => ev_xi (c := "BadText") (fs := [("place", .int v)]) (by rfl) (by rfl)
  have h2 : ∀ S, dXi (fun c => ([("Fault", true), ("BadText", true), ("TooMany", true)] : List (Str × Bool)).lookup c) 2 ((en0 (dec2 (a, b)) 1).set 2 (some (.x "BadText" [("place", .int v)]))) S = .ok (.d (.bl true)) S := fun S => ev_xi (c := "BadText") (fs := [("place", .int v)]) (by rfl) (by rfl)
  have h3 : ∀ S, dXi (fun c => ([("Fault", false), ("BadText", false), ("TooMany", true)] : List (Str × Bool)).lookup c) 2 ((en0 (dec2 (a, b)) 1).set 2 (some (.x "BadText" [("place", .int v)]))) S = .ok (.d (.bl false)) S := fun S => ev_xi (c := "BadText") (fs := [("place", .int v)]) (by rfl) (by rfl)
  have hs : d__law_asked_2 M_text_distance ((en0 (dec2 (a, b)) 1).set 2 (some (.x "BadText" [("place", .int v)]))) [] = .rt (.h 0) [.own (.lst [.d (.str badW), .d (.int v)])] := by
    unfold d__law_asked_2
    generalize (en0 (dec2 (a, b)) 1).set 2 (some (.x "BadText" [("place", .int v)])) = E at hx h1 h2 h3
    rw [ev_sIf, ev_dAnd, ev_dB, h1, ev_bind_ok, ev_asB]
    dsimp only
    rw [ev_bind_ok, if_pos rfl, ev_dAnd, ev_dB, h2, ev_bind_ok, ev_asB]
    dsimp only
    rw [ev_bind_ok, if_pos rfl, ev_dNot, ev_dB, h3, ev_bind_ok, ev_asB]
    dsimp only
    rw [ev_bind_ok, ev_st_ok]
    simp [hx]
    rfl
  show finD ((closeR 2 (d__law_asked_2 M_text_distance ((en0 (dec2 (a, b)) 1).set 2 (some (.x "BadText" [("place", .int v)]))) [])).bind _) = _
  rw [hs]
  show finD (.rt (.h 0) [.own (.lst [.d (.str badW), .d (.int v)])]) = _
  rw [finD_rt, pair_fin rfl]
theorem M_td {a b : Cs} (h : a.length ≤ 1000 ∧ b.length ≤ 1000) : M_text_distance [.str a, .str b] = if bad a = -1 then (if bad b = -1 then okD (.int (dist a b)) else .ex ⟨"BadText", [("place", .int (bad b))]⟩) else .ex ⟨"BadText", [("place", .int (bad a))]⟩ := M_text_distance_eq h
theorem M__law_asked_le : ∀ ds : List D, ds.length = 2 → MLe (M__law_asked ds) (finD (d__law_asked M_text_distance (en0 ds 1) [])) := mkM_le fun ⟨a, b⟩ hab => by
  have hb : ∀ E, E = [some (.d (.str a)), some (.d (.str b)), none] → ∀ r, dCall M_text_distance [] (dCons (dVar 0) (dCons (dVar 1) dNil)) E [] = r → d__law_asked_1 M_text_distance E [] = (r.st E fun v S1 => .rt (.h S1.length) (S1 ++ [.own (.lst [.d (.str told), v])])) := by
    rintro _ rfl r hr
    unfold d__law_asked_1
    simp [hr]
    cases r <;> simp [told] <;> rfl
  have e0 : en0 (dec2 (a, b)) 1 = [some (.d (.str a)), some (.d (.str b)), none] := rfl
  have hx : ∀ x, M_text_distance [.str a, .str b] = .ex x → dCall M_text_distance [] (dCons (dVar 0) (dCons (dVar 1) dNil)) (en0 (dec2 (a, b)) 1) [] = .ex x [] := fun x h => ev_callX (xs := [.str a, .str b]) (by rw [e0]; simp) (by simp) h
  show okD (pairD (ans a b)) = _
  unfold ans
  by_cases h1 : bad a = -1
  · by_cases h2 : bad b = -1
    · rw [if_pos h1, if_pos h2]
      have hc : dCall M_text_distance [] (dCons (dVar 0) (dCons (dVar 1) dNil)) (en0 (dec2 (a, b)) 1) [] = .ok (.d (.int (dist a b))) [] := ev_call (xs := [.str a, .str b]) (by rw [e0]; simp) (by simp) (by
        show M_text_distance [.str a, .str b] = _
        rw [M_td hab, if_pos h1, if_pos h2])
      have := hb _ e0 _ hc
      unfold d__law_asked
      rw [ev_sSeq, ev_tryR (v := .h 0) (S1 := [.own (.lst [.d (.str told), .d (.int (dist a b))])]) this]
      rw [ev_rt, finD_rt, pair_fin rfl]
    · rw [if_pos h1, if_neg h2]
      have := hb _ e0 _ (hx _ (by rw [M_td hab, if_pos h1, if_neg h2]))
      rw [asked_bad this]
  · rw [if_neg h1]
    have := hb _ e0 _ (hx _ (by rw [M_td hab, if_neg h1]))
    rw [asked_bad this]
/-! ### _law_bad_place, _law_due -/
theorem lettersD_eq : lettersD = [97, 98, 99, 100, 101, 102, 103, 104, 105, 106, 107, 108, 109, 110, 111, 112, 113, 114, 115, 116, 117, 118, 119, 120, 121, 122] := by rfl
theorem bp_loop (t : Cs) (ht : t.length ≤ 1000) : ∀ (n k : Nat) (j1 : Option Dl.E), n = t.length - k → k ≤ t.length →
    (badF 60 k (t.drop k) = -1 → ∃ j1', forN (oName 1) d__law_bad_place_1 (((List.range t.length).drop k).map fun k => Dl.E.d (.int (k : Nat))) [some (.d (.str t)), j1] [] = .nx [some (.d (.str t)), j1'] []) ∧
    (badF 60 k (t.drop k) ≠ -1 → forN (oName 1) d__law_bad_place_1 (((List.range t.length).drop k).map fun k => Dl.E.d (.int (k : Nat))) [some (.d (.str t)), j1] [] = .rt (.d (.int (badF 60 k (t.drop k)))) [])
  | 0, k, j1, hn, hk => by
    have e : t.drop k = [] := List.drop_eq_nil_of_le (by omega)
    have e2 : (List.range t.length).drop k = [] := List.drop_eq_nil_of_le (by simp; omega)
    rw [e, e2]
    exact ⟨fun _ => ⟨j1, rfl⟩, fun h => absurd rfl h⟩
  | n + 1, k, j1, hn, hk => by
    have hlt : k < t.length := by omega
    have hix : ∀ S, gIx S (.d (.str t)) (.d (.int (k : Nat))) = .ok (.d (.str [t[k]])) S := fun S => ixS (by omega) (List.getElem?_eq_getElem hlt) rfl
    have hb : d__law_bad_place_1 [some (.d (.str t)), some (.d (.int (k : Nat)))] [] = if (60 : Int) ≤ (k : Int) ∨ t[k] ∉ lettersD then .rt (.d (.int k)) [] else .nx [some (.d (.str t)), some (.d (.int (k : Nat)))] [] := by
      unfold d__law_bad_place_1
      rw [← lettersD_eq]
      generalize lettersD = L
      by_cases h1 : (60 : Int) ≤ (k : Int)
      · simp [h1]
      · by_cases h2 : t[k] ∈ L
        · simp [h1, h2, hix]
        · simp [h1, h2, hix]
    rw [List.drop_eq_getElem_cons (show k < (List.range t.length).length by simpa using hlt), List.map_cons, List.drop_eq_getElem_cons hlt]
    simp only [List.getElem_range]
    unfold badF
    by_cases hc : (60 : Int) ≤ (k : Int) ∨ t[k] ∉ lettersD
    · rw [if_pos hc] at hb
      rw [if_pos hc, forN_rt rfl hb]
      exact ⟨fun h => by omega, fun _ => rfl⟩
    · rw [if_neg hc] at hb
      rw [if_neg hc, forN_nx rfl hb]
      exact bp_loop t ht n (k + 1) _ (by omega) (by omega)
abbrev dec1 (t : Cs) : List D := [.str t]
theorem dec1_inj : ∀ x y : Cs, dec1 x = dec1 y → x = y := fun x y h => by simpa using h
noncomputable def M__law_bad_place : List D → MR := mkM dec1 (fun t => t.length ≤ 1000) fun t => okD (.int (bad t))
theorem M__law_bad_place_eq {a : Cs} (h : a.length ≤ 1000) : M__law_bad_place [.str a] = okD (.int (bad a)) := mkM_eq (x := a) dec1_inj h
theorem M__law_bad_place_len : ∀ ds : List D, (match M__law_bad_place ds with | .no => False | _ => True) → ds.length = 1 := mkM_len fun _ => rfl
theorem M__law_bad_place_le : ∀ ds : List D, ds.length = 1 → MLe (M__law_bad_place ds) (finD (d__law_bad_place (en0 ds 1) [])) := mkM_le fun t ht => by
  obtain ⟨h1, h2⟩ := bp_loop t ht t.length 0 none (by omega) (by omega)
  rw [List.drop_zero, List.drop_zero] at h1 h2
  unfold d__law_bad_place
  rw [ev_sSeq, ev_forR1 (n := t.length) (S1 := []) (by simp [en0, show t.length ≤ 16777216 by omega]) (by omega), Int.toNat_natCast]
  show okD (.int (badF 60 0 t)) = finD (RSt.bind (forN _ _ _ [some (.d (.str t)), none] []) _)
  by_cases h : badF 60 0 t = -1
  · obtain ⟨j, e⟩ := h1 h
    rw [e, h]
    simp
  · rw [h2 h]
    simp
noncomputable def M__law_due : List D → MR := mkM dec2 (fun p => p.1.length ≤ 1000 ∧ p.2.length ≤ 1000) fun p => okD (pairD (ans p.1 p.2))
theorem M__law_due_eq {a b : Cs} (h : a.length ≤ 1000 ∧ b.length ≤ 1000) : M__law_due [.str a, .str b] = okD (pairD (ans a b)) := mkM_eq (x := (a, b)) dec2_inj h
theorem M__law_due_len : ∀ ds : List D, (match M__law_due ds with | .no => False | _ => True) → ds.length = 2 := mkM_len fun _ => rfl
theorem due_body {a b t : Cs} {S : Sto} (ht : t.length ≤ 1000) : (bad t = -1 → d__law_due_1 M__law_bad_place M__law_table [some (.d (.str a)), some (.d (.str b)), some (.d (.str t))] S = .nx [some (.d (.str a)), some (.d (.str b)), some (.d (.str t))] S) ∧
    (bad t ≠ -1 → d__law_due_1 M__law_bad_place M__law_table [some (.d (.str a)), some (.d (.str b)), some (.d (.str t))] S = .rt (.h S.length) (S ++ [.own (.lst [.d (.str badW), .d (.int (bad t))])])) := by
  have hc : dCall M__law_bad_place [] (dCons (dVar 2) dNil) [some (.d (.str a)), some (.d (.str b)), some (.d (.str t))] S = .ok (.d (.int (bad t))) S := ev_call (xs := [.str t]) (by simp) (by simp) (M__law_bad_place_eq ht)
  unfold d__law_due_1
  refine ⟨fun h => ?_, fun h => ?_⟩
  · simp [hc, h]
  · have h0 : 0 ≤ bad t := by
      rcases badF_ge 60 t 0 with z | z
      · exact absurd z h
      · exact z
    simp [hc, h0]
    rfl
theorem M__law_due_le : ∀ ds : List D, ds.length = 2 → MLe (M__law_due ds) (finD (d__law_due M__law_bad_place M__law_table (en0 ds 1) [])) := mkM_le fun ⟨a, b⟩ hab => by
  obtain ⟨ha, hb⟩ := hab
  dsimp only at ha hb
  have e1 : ∀ E, E = en0 (dec2 (a, b)) 1 → dLst (dCons (dVar 0) (dCons (dVar 1) dNil)) E [] = .ok (.h 0) [.own (.lst [.d (.str a), .d (.str b)])] := by
    rintro _ rfl
    simp [en0]
  unfold d__law_due
  show okD (pairD (ans a b)) = _
  rw [ev_sSeq, ev_forOwn (e1 _ rfl) (es := [.d (.str a), .d (.str b)]) rfl]
  show _ = finD (RSt.bind (forG _ _ _ _ _ [some (.d (.str a)), some (.d (.str b)), none] _) _)
  unfold ans
  by_cases h1 : bad a = -1
  · rw [if_pos h1, forG_nx rfl rfl ((due_body (t := a) ha).1 h1)]
    by_cases h2 : bad b = -1
    · rw [if_pos h2, forG_nx rfl rfl ((due_body (t := b) hb).1 h2), forG_nil rfl, ev_nx]
      have hc : ∀ S, dCall M__law_table [] (dCons (dVar 0) (dCons (dVar 1) dNil)) [some (.d (.str a)), some (.d (.str b)), some (.d (.str b))] S = .ok (.d (.int (dist a b))) S := fun S => ev_call (xs := [.str a, .str b]) (by simp) (by simp) (M__law_table_eq ⟨ha, hb⟩)
      simp [hc]
      rw [pair_fin (w := told) (i := dist a b) rfl]
    · rw [if_neg h2, forG_rt rfl rfl ((due_body (t := b) hb).2 h2), ev_rt, finD_rt, pair_fin rfl]
  · rw [if_neg h1, forG_rt rfl rfl ((due_body (t := a) ha).2 h1), ev_rt, finD_rt, pair_fin rfl]
end Dl

namespace Dl
open PySem PySem.Spec L2
/-! ### _law_same of two like pairs -/
theorem range4 (z : Int) (h : 4 ≤ z) : ∃ rest : List E, ((List.range z.toNat).map fun k => E.d (.int (k : Nat))) = .d (.int 0) :: .d (.int 1) :: .d (.int 2) :: .d (.int 3) :: rest := by
  obtain ⟨n, hn⟩ : ∃ n, z.toNat = n + 4 := ⟨z.toNat - 4, by omega⟩
  rw [hn, List.range_succ_eq_map, List.range_succ_eq_map, List.range_succ_eq_map, List.range_succ_eq_map]
  exact ⟨_, rfl⟩
theorem for4 {b : DS} {j : Nat} (z : Int) (h : 4 ≤ z ∧ z ≤ 100000000) (E : En) (S : Sto) : ∃ rest : List Dl.E, sFor (itR1 (dCons (dC (.int z)) dNil)) (oName j) b E S = forN (oName j) b (.d (.int 0) :: .d (.int 1) :: .d (.int 2) :: .d (.int 3) :: rest) E S := by
  obtain ⟨rest, hr⟩ := range4 z h.1
  exact ⟨rest, by rw [ev_forR1 (n := z) (S1 := S) (by simp) (by omega), hr]⟩
theorem ev_popA {S : Sto} {n : Nat} {es : List E} {e : E} (h : S[n]? = some (.own (.lst (es ++ [e])))) : gPop S (.h n) [] = .ok e (S.set n (.own (.lst es))) := by
  unfold gPop
  dsimp only
  rw [h]
  simp
theorem optAll_P {S : Sto} {k : Nat} : ∀ (ds : List D) (ps : List PyData), toPs ds = some ps → optAll (vP S (k + 1)) (ds.map E.d) = some ps
  | [], ps, h => by cases h; rfl
  | d :: ds, ps, h => by
    have h' : ((toP d).bind fun p => (toPs ds).map (p :: ·)) = some ps := h
    cases hd : toP d with
    | none => rw [hd] at h'; cases h'
    | some p =>
      rw [hd, Option.bind_some] at h'
      cases hr : toPs ds with
      | none => rw [hr] at h'; cases h'
      | some qs =>
        rw [hr] at h'
        cases h'
        have e : vP S (k + 1) (.d d) = some p := hd
        rw [List.map_cons]
        unfold optAll
        rw [e, optAll_P ds qs hr]
theorem ev_eqNil {S : Sto} {n : Nat} {ds : List D} {ps : List PyData} (h : S[n]? = some (.own (.lst (ds.map E.d)))) (hp : toPs ds = some ps) (hs : SeqAt.shaped (.list ps) = true) : gEq (S ++ [Cell.own (.lst [])]) (.h n) (.h S.length) = .ok (.d (.bl (PyData.eqv (.list ps) (.list [])))) (S ++ [Cell.own (.lst [])]) := by
  have e1 : vP (S ++ [Cell.own (.lst [])]) 4 (.h S.length) = some (.list []) := by
    unfold vP
    rw [get_new (S := S)]
    rfl
  have e3 : vP (S ++ [Cell.own (.lst [])]) 4 (.h n) = some (.list ps) := by
    unfold vP
    rw [get_app h]
    dsimp only
    rw [optAll_P ds ps hp]
    rfl
  have e4 : gEqD false (S ++ [Cell.own (.lst [])]) (.h n) (.h S.length) = .ok (.d (.bl (PyData.eqv (.list ps) (.list [])))) (S ++ [Cell.own (.lst [])]) := by
    unfold gEqD
    rw [e1, e3]
    dsimp only
    rw [hs, show SeqAt.shaped (.list []) = true from rfl]
    rfl
  have e5 : gEqS false (S ++ [Cell.own (.lst [])]) (.h n) (.h S.length) = .no := nrfl rfl
  unfold gEq gOr
  rw [e5]
  dsimp only
  rw [e4]
/-- what comes ahead of the kinds -/
theorem same_pre {R : DS} {S : Sto} {t d x y : D} {k : E} {j4 j5 j6 : Option E} {ds : List D} {ps : List PyData} (h : S[0]? = some (.own (.lst ((ds ++ [D.tup [x, y]]).map E.d)))) (hp : toPs (ds ++ [.tup [x, y]]) = some ps) (hs : SeqAt.shaped (.list ps) = true) (hne : PyData.eqv (.list ps) (.list []) = false) :
    sSeq (sIf (dB (dOp gEq (dVar 2) (dLst dNil))) (sRet (dC (.bl true))) sNext) (sSeq (sAsg (dBM "list" gPop (dVar 2) dNil) (oTup [(oName 4), (oName 5)])) R) [some (.d t), some (.d d), some (.h 0), some k, j4, j5, j6] S
      = R [some (.d t), some (.d d), some (.h 0), some k, some (.d x), some (.d y), j6] ((S ++ [Cell.own (.lst [])]).set 0 (.own (.lst (ds.map E.d)))) := by
  have q1 := ev_eqNil h hp hs
  rw [hne] at q1
  have q2 : gPop (S ++ [Cell.own (.lst [])]) (.h 0) [] = .ok (.d (.tup [x, y])) ((S ++ [Cell.own (.lst [])]).set 0 (.own (.lst (ds.map E.d)))) := ev_popA (by rw [get_app h, List.map_append]; rfl)
  have ht : isTy "list" (S ++ [Cell.own (.lst [])]) (.h 0) = true := isTy_own (get_app h)
  simp [q1, ht, q2]
  rfl
noncomputable abbrev sameR : DS := (sIf (dB (dOp (gIsN false) (dVar 5) (dC .non))) (sIf (dB (dOp (gIsN true) (dVar 4) (dC .non))) (sRet (dC (.bl false))) sNext) (sIf (dB (dCB gIsi (dCons (dVar 5) (dCons (dC (.ty "bool")) dNil)))) (sIf (dOr (dNot (dB (dCB gIsi (dCons (dVar 4) (dCons (dC (.ty "bool")) dNil))))) (dB (dOp gNe (dVar 4) (dVar 5)))) (sRet (dC (.bl false))) sNext) (sIf (dB (dCB gIsi (dCons (dVar 5) (dCons (dC (.ty "int")) dNil)))) (sIf (dOr (dNot (dB (dCB gIsi (dCons (dVar 4) (dCons (dC (.ty "int")) dNil))))) (dOr (dB (dCB gIsi (dCons (dVar 4) (dCons (dC (.ty "bool")) dNil)))) (dB (dOp gNe (dVar 4) (dVar 5))))) (sRet (dC (.bl false))) sNext) (sIf (dB (dCB gIsi (dCons (dVar 5) (dCons (dC (.ty "str")) dNil)))) (sIf (dOr (dNot (dB (dCB gIsi (dCons (dVar 4) (dCons (dC (.ty "str")) dNil))))) (dB (dOp gNe (dVar 4) (dVar 5)))) (sRet (dC (.bl false))) sNext) (sSeq (sIf (dOr (dB (dOp gNe (dCB gIsi (dCons (dVar 4) (dCons (dC (.ty "list")) dNil))) (dCB gIsi (dCons (dVar 5) (dCons (dC (.ty "list")) dNil))))) (dB (dOp gNe (dCB gIsi (dCons (dVar 4) (dCons (dC (.ty "tuple")) dNil))) (dCB gIsi (dCons (dVar 5) (dCons (dC (.ty "tuple")) dNil)))))) (sRet (dC (.bl false))) sNext) (sSeq (sIf (dB (dOp gNe (dCB gLen (dCons (dVar 4) dNil)) (dCB gLen (dCons (dVar 5) dNil)))) (sRet (dC (.bl false))) sNext) (sFor (itR1 (dCons (dCB gLen (dCons (dVar 5) dNil)) dNil)) (oName 6) (d__law_same_1))))))))
theorem same2_eq : d__law_same_2 = sSeq (sIf (dB (dOp gEq (dVar 2) (dLst dNil))) (sRet (dC (.bl true))) sNext) (sSeq (sAsg (dBM "list" gPop (dVar 2) dNil) (oTup [(oName 4), (oName 5)])) sameR) := rfl
theorem same_int {S : Sto} {t d : D} {k : E} {i : Int} {j6 : Option E} : sameR [some (.d t), some (.d d), some (.h 0), some k, some (.d (.int i)), some (.d (.int i)), j6] S = .nx [some (.d t), some (.d d), some (.h 0), some k, some (.d (.int i)), some (.d (.int i)), j6] S := by
  simp [isNo]
theorem same_str {S : Sto} {t d : D} {k : E} {i : Cs} {j6 : Option E} : sameR [some (.d t), some (.d d), some (.h 0), some k, some (.d (.str i)), some (.d (.str i)), j6] S = .nx [some (.d t), some (.d d), some (.h 0), some k, some (.d (.str i)), some (.d (.str i)), j6] S := by
  simp [isNo]
theorem same_app {S : Sto} {t d p q : D} {k : E} {es : List E} (n : Nat) (v : D) (hv : [p, q][n]? = some v) (h : S[0]? = some (.own (.lst es))) (hl : es.length < 1000) : d__law_same_1 [some (.d t), some (.d d), some (.h 0), some k, some (.d (.lst [p, q])), some (.d (.lst [p, q])), some (.d (.int n))] S = .nx [some (.d t), some (.d d), some (.h 0), some k, some (.d (.lst [p, q])), some (.d (.lst [p, q])), some (.d (.int n))] (S.set 0 (.own (.lst (es ++ [.d (.tup [v, v])])))) := by
  have hix : ∀ S, gIx S (.d (.lst [p, q])) (.d (.int (n : Nat))) = .ok (.d v) S := fun S => ev_ixQ asQ_d (atI_pos (by rw [List.getElem?_map, hv]; rfl))
  have ht := isTy_own h
  have ha : gAppend S (.h 0) [.d (.tup [v, v])] = _ := ev_append h (by omega)
  unfold d__law_same_1
  simp [ht, hix, newU, mkU2, ha]
theorem same_lst {S : Sto} {t d p q : D} {k : E} {j6 : Option E} {es : List E} (h : S[0]? = some (.own (.lst es))) (hl : es.length < 100) : sameR [some (.d t), some (.d d), some (.h 0), some k, some (.d (.lst [p, q])), some (.d (.lst [p, q])), j6] S
    = .nx [some (.d t), some (.d d), some (.h 0), some k, some (.d (.lst [p, q])), some (.d (.lst [p, q])), some (.d (.int 1))] (S.set 0 (.own (.lst (es ++ [.d (.tup [p, p])] ++ [.d (.tup [q, q])])))) := by
  have e : ∀ j, sFor (itR1 (dCons (dCB gLen (dCons (dVar 5) dNil)) dNil)) (oName 6) d__law_same_1 [some (.d t), some (.d d), some (.h 0), some k, some (.d (.lst [p, q])), some (.d (.lst [p, q])), j] S = .nx [some (.d t), some (.d d), some (.h 0), some k, some (.d (.lst [p, q])), some (.d (.lst [p, q])), some (.d (.int 1))] (S.set 0 (.own (.lst (es ++ [.d (.tup [p, p])] ++ [.d (.tup [q, q])])))) := fun j => by
    rw [ev_forR1 (n := 2) (S1 := S) (by simp) (by omega)]
    show forN _ _ [.d (.int ((0 : Nat) : Int)), .d (.int ((1 : Nat) : Int))] _ _ = _
    rw [forN_nx rfl (same_app 0 p rfl h (by omega)), forN_nx rfl (same_app 1 q rfl (get_set h) (by simp; omega)), forN_nil, List.set_set]
    rfl
  simp [isNo, e]
def wOf (b : Bool) : Cs := if b then told else badW
noncomputable def M__law_same : List D → MR := mkM (fun p : Bool × Int => [pairD (wOf p.1, p.2), pairD (wOf p.1, p.2)]) (fun _ => True) fun _ => okD (.bl true)
theorem M__law_same_eq {b : Bool} {i : Int} : M__law_same [pairD (wOf b, i), pairD (wOf b, i)] = okD (.bl true) := mkM_eq (dec := fun p : Bool × Int => [pairD (wOf p.1, p.2), pairD (wOf p.1, p.2)]) (x := (b, i)) (fun x y h => by
  obtain ⟨a, i⟩ := x
  obtain ⟨c, j⟩ := y
  have h0 := D.lst.inj (List.cons.inj h).1
  have h1 : wOf a = wOf c := D.str.inj (List.cons.inj h0).1
  have h2 : i = j := D.int.inj (List.cons.inj (List.cons.inj h0).2).1
  subst h2
  have h3 : a = c := by
    cases a with
    | false => cases c with
      | false => rfl
      | true => exact absurd h1 (by decide)
    | true => cases c with
      | false => exact absurd h1 (by decide)
      | true => rfl
  rw [h3]) trivial
theorem M__law_same_len : ∀ ds : List D, (match M__law_same ds with | .no => False | _ => True) → ds.length = 2 := mkM_len fun _ => rfl
theorem M__law_same_le : ∀ ds : List D, ds.length = 2 → MLe (M__law_same ds) (finD (d__law_same (en0 ds 5) [])) := mkM_le fun ⟨b, i⟩ _ => by
  have e0 : ∀ E, E = en0 [pairD (wOf b, i), pairD (wOf b, i)] 5 → sSet 2 (dLst (dCons (dTup (dCons (dVar 0) (dCons (dVar 1) dNil))) dNil)) E [] = .nx [some (.d (pairD (wOf b, i))), some (.d (pairD (wOf b, i))), some (.h 0), none, none, none, none] [.own (.lst [.d (.tup [pairD (wOf b, i), pairD (wOf b, i)])])] := by
    rintro _ rfl
    simp [en0, newU, mkU2]
  unfold d__law_same
  show okD (.bl true) = _
  rw [ev_sSeq, e0 _ rfl, ev_nx, ev_sSeq]
  obtain ⟨rest, hr⟩ := for4 (b := d__law_same_2) (j := 3) 200000 (by omega) [some (.d (pairD (wOf b, i))), some (.d (pairD (wOf b, i))), some (.h 0), none, none, none, none] [.own (.lst [.d (.tup [pairD (wOf b, i), pairD (wOf b, i)])])]
  rw [hr]
  clear hr
  have sh : ∀ (l : List D), l = [.tup [pairD (wOf b, i), pairD (wOf b, i)]] ∨ l = [.tup [.str (wOf b), .str (wOf b)], .tup [.int i, .int i]] ∨ l = [.tup [.str (wOf b), .str (wOf b)]] → ∃ ps, toPs l = some ps ∧ SeqAt.shaped (.list ps) = true ∧ PyData.eqv (.list ps) (.list []) = false := by
    intro l hl
    have hw : PyData.canLay0 (.str (mkS (wOf b))) = true := by cases b <;> decide +kernel
    rcases hl with rfl | rfl | rfl <;> refine ⟨_, rfl, ?_, ?_⟩ <;> simp [SeqAt.shaped, PyData.canLay0, PyData.canLayAll0, PyData.depth, PyData.depthAll, PyData.eqv, PyData.eqvAll] at hw ⊢ <;> assumption
  obtain ⟨p1, a1, b1, c1⟩ := sh _ (.inl rfl)
  obtain ⟨p2, a2, b2, c2⟩ := sh _ (.inr (.inl rfl))
  obtain ⟨p3, a3, b3, c3⟩ := sh _ (.inr (.inr rfl))
  have t1 : d__law_same_2 [some (.d (pairD (wOf b, i))), some (.d (pairD (wOf b, i))), some (.h 0), some (.d (.int 0)), none, none, none] [.own (.lst [.d (.tup [pairD (wOf b, i), pairD (wOf b, i)])])] = .nx [some (.d (pairD (wOf b, i))), some (.d (pairD (wOf b, i))), some (.h 0), some (.d (.int 0)), some (.d (pairD (wOf b, i))), some (.d (pairD (wOf b, i))), some (.d (.int 1))] [.own (.lst [.d (.tup [.str (wOf b), .str (wOf b)]), .d (.tup [.int i, .int i])]), .own (.lst [])] := by
    rw [same2_eq, same_pre (ds := []) (ps := p1) rfl a1 b1 c1]
    exact same_lst (es := []) rfl (by simp)
  rw [forN_nx rfl t1]
  have t2 : d__law_same_2 [some (.d (pairD (wOf b, i))), some (.d (pairD (wOf b, i))), some (.h 0), some (.d (.int 1)), some (.d (pairD (wOf b, i))), some (.d (pairD (wOf b, i))), some (.d (.int 1))] [.own (.lst [.d (.tup [.str (wOf b), .str (wOf b)]), .d (.tup [.int i, .int i])]), .own (.lst [])] = .nx [some (.d (pairD (wOf b, i))), some (.d (pairD (wOf b, i))), some (.h 0), some (.d (.int 1)), some (.d (.int i)), some (.d (.int i)), some (.d (.int 1))] [.own (.lst [.d (.tup [.str (wOf b), .str (wOf b)])]), .own (.lst []), .own (.lst [])] := by
    rw [same2_eq, same_pre (ds := [.tup [.str (wOf b), .str (wOf b)]]) (ps := p2) rfl a2 b2 c2]
    exact same_int
  rw [forN_nx rfl t2]
  have t3 : d__law_same_2 [some (.d (pairD (wOf b, i))), some (.d (pairD (wOf b, i))), some (.h 0), some (.d (.int 2)), some (.d (.int i)), some (.d (.int i)), some (.d (.int 1))] [.own (.lst [.d (.tup [.str (wOf b), .str (wOf b)])]), .own (.lst []), .own (.lst [])] = .nx [some (.d (pairD (wOf b, i))), some (.d (pairD (wOf b, i))), some (.h 0), some (.d (.int 2)), some (.d (.str (wOf b))), some (.d (.str (wOf b))), some (.d (.int 1))] [.own (.lst []), .own (.lst []), .own (.lst []), .own (.lst [])] := by
    rw [same2_eq, same_pre (ds := []) (ps := p3) rfl a3 b3 c3]
    exact same_str
  rw [forN_nx rfl t3]
  have t4 : ∃ S2, d__law_same_2 [some (.d (pairD (wOf b, i))), some (.d (pairD (wOf b, i))), some (.h 0), some (.d (.int 3)), some (.d (.str (wOf b))), some (.d (.str (wOf b))), some (.d (.int 1))] [.own (.lst []), .own (.lst []), .own (.lst []), .own (.lst [])] = .rt (.d (.bl true)) S2 := by
    have q := ev_eqNil (S := [.own (.lst []), .own (.lst []), .own (.lst []), .own (.lst [])]) (n := 0) (ds := []) (ps := []) rfl rfl rfl
    rw [show PyData.eqv (.list []) (.list []) = true from rfl] at q
    rw [same2_eq]
    refine ⟨[.own (.lst []), .own (.lst []), .own (.lst []), .own (.lst []), .own (.lst [])], ?_⟩
    simp at q
    simp [q]
  obtain ⟨S2, t4⟩ := t4
  rw [forN_rt rfl t4]
  simp
end Dl

namespace Dl
open PySem PySem.Spec L2
/-! ### _law_word -/
def g0 (row : List Int) (i : Nat) : Int := row.getD i 0
theorem ixR {S : Sto} {row : List Int} {i : Int} {k : Nat} (hk : k < row.length) (hi : i = (k : Nat)) : gIx S (.d (.lst (iL row))) (.d (.int i)) = .ok (.d (.int (g0 row k))) S := ixD (by unfold g0; rw [List.getD_eq_getElem?_getD, List.getElem?_eq_getElem hk]; rfl) hi
def wSizes (r : Int) : List Int := [0, 1, 59, 60, r % 61, r % 12, r % 30, r % 61]
def wSz (row : List Int) (a : Nat) : Nat := ((wSizes (g0 row a)).getD (g0 row (a + 1) % 8).toNat 0).toNat
def wRun (row : List Int) (a : Nat) : Nat := 1 + (g0 row (a + 2) % 4).toNat
def wChr (row : List Int) (a : Nat) (pool : Cs) (k : Nat) : Nat := pool.getD (g0 row (a + 3 + k / wRun row a) % (pool.length : Int)).toNat 0
def word (row : List Int) (a : Nat) (pool : Cs) : Cs := (List.range (wSz row a)).map (wChr row a pool)
theorem wSizes_ok {r : Int} {v : Int} (h : v ∈ wSizes r) : 0 ≤ v ∧ v ≤ 60 := by
  unfold wSizes at h
  simp at h
  omega
theorem wSz_le (row : List Int) (a : Nat) : wSz row a ≤ 60 := by
  unfold wSz
  have hlt : (g0 row (a + 1) % 8).toNat < (wSizes (g0 row a)).length := by
    show _ < 8
    omega
  rw [List.getD_eq_getElem?_getD, List.getElem?_eq_getElem hlt]
  have := wSizes_ok (List.getElem_mem hlt)
  show ((wSizes (g0 row a))[(g0 row (a + 1) % 8).toNat]).toNat ≤ 60
  omega
theorem word_len (row : List Int) (a : Nat) (pool : Cs) : (word row a pool).length ≤ 60 := by
  unfold word; simp; exact wSz_le row a
theorem word_mem {row : List Int} {a : Nat} {pool : Cs} (hp : 0 < pool.length) : ∀ c ∈ word row a pool, c ∈ pool := fun c hc => by
  unfold word at hc
  obtain ⟨k, _, rfl⟩ := List.mem_map.mp hc
  unfold wChr
  have hlt : (g0 row (a + 3 + k / wRun row a) % (pool.length : Int)).toNat < pool.length := by
    have h1 := Int.emod_lt_of_pos (g0 row (a + 3 + k / wRun row a)) (show (0 : Int) < pool.length by omega)
    omega
  rw [List.getD_eq_getElem?_getD, List.getElem?_eq_getElem hlt]
  exact List.getElem_mem hlt
abbrev decW (p : List Int × Nat × Cs) : List D := [.lst (iL p.1), .int p.2.1, .str p.2.2]
theorem iL_inj : ∀ x y : List Int, iL x = iL y → x = y := fun x y h => by
  unfold iL at h
  exact (List.map_inj_right (fun a b h => D.int.inj h)).mp h
theorem decW_inj : ∀ x y : List Int × Nat × Cs, decW x = decW y → x = y := fun x y h => by
  obtain ⟨a, b, c⟩ := x
  obtain ⟨d, e, f⟩ := y
  have h1 : a = d := iL_inj _ _ (D.lst.inj (List.cons.inj h).1)
  have h2 : ((b : Nat) : Int) = e := D.int.inj (List.cons.inj (List.cons.inj h).2).1
  have h3 : c = f := D.str.inj (List.cons.inj (List.cons.inj (List.cons.inj h).2).2).1
  have h4 : b = e := by omega
  rw [h1, h3, h4]
noncomputable def M__law_word : List D → MR := mkM decW (fun p => p.2.1 + 70 < p.1.length ∧ 0 < p.2.2.length ∧ p.2.2.length ≤ 1000) fun p => okD (.str (word p.1 p.2.1 p.2.2))
theorem M__law_word_eq {row : List Int} {a : Nat} {pool : Cs} (h : a + 70 < row.length ∧ 0 < pool.length ∧ pool.length ≤ 1000) : M__law_word [.lst (iL row), .int a, .str pool] = okD (.str (word row a pool)) := mkM_eq (x := (row, a, pool)) decW_inj h
theorem M__law_word_len : ∀ ds : List D, (match M__law_word ds with | .no => False | _ => True) → ds.length = 3 := mkM_len fun _ => rfl
theorem M__law_word_le : ∀ ds : List D, ds.length = 3 → MLe (M__law_word ds) (finD (d__law_word (en0 ds 3) [])) := mkM_le fun ⟨row, a, pool⟩ h => by
  obtain ⟨h1, h2, h3⟩ := h
  dsimp only at h1 h2 h3
  have ra : ∀ S, gIx S (.d (.lst (iL row))) (.d (.int (a : Nat))) = .ok (.d (.int (g0 row a))) S := fun S => ixR (by omega) rfl
  have ra1 : ∀ S, gIx S (.d (.lst (iL row))) (.d (.int ((a : Int) + 1))) = .ok (.d (.int (g0 row (a + 1)))) S := fun S => ixR (by omega) (by omega)
  have ra2 : ∀ S, gIx S (.d (.lst (iL row))) (.d (.int ((a : Int) + 2))) = .ok (.d (.int (g0 row (a + 2)))) S := fun S => ixR (by omega) (by omega)
  have hsz : gIx [.own (.lst (iE (wSizes (g0 row a))))] (.h 0) (.d (.int (g0 row (a + 1) % 8))) = .ok (.d (.int (wSz row a : Nat))) [.own (.lst (iE (wSizes (g0 row a))))] := by
    have hlt : (g0 row (a + 1) % 8).toNat < (wSizes (g0 row a)).length := by
      show _ < 8
      omega
    have hm := wSizes_ok (List.getElem_mem hlt)
    refine ixO' (k := (g0 row (a + 1) % 8).toNat) (l := wSizes (g0 row a)) rfl ?_ (by omega)
    unfold wSz
    rw [List.getD_eq_getElem?_getD, List.getElem?_eq_getElem hlt]
    show some _ = some (((((wSizes (g0 row a))[(g0 row (a + 1) % 8).toNat]).toNat : Nat)) : Int)
    congr 1
    omega
  have hrun : (1 : Int) + g0 row (a + 2) % 4 = (wRun row a : Nat) := by unfold wRun; omega
  have hr4 : wRun row a ≤ 4 := by unfold wRun; omega
  have hr0 : 0 < wRun row a := by unfold wRun; omega
  have hel : ∀ x ∈ List.range (wSz row a), ∀ acc : List E, (dOp gIx (dVar 2) (dOp gMod (dCB gInt (dCons (dOp gIx (dVar 0) (dOp gAdd (dOp gAdd (dVar 1) (dC (.int 3))) (dOp gDiv (dVar 5) (dVar 4)))) dNil)) (dCB gLen (dCons (dVar 2) dNil)))) [some (.d (.lst (iL row))), some (.d (.int a)), some (.d (.str pool)), some (.d (.int (wSz row a : Nat))), some (.d (.int (wRun row a : Nat))), some (.d (.int (x : Nat)))] ([.own (.lst (iE (wSizes (g0 row a))))] ++ [.own (.lst acc)]) = .ok (.d (.str [wChr row a pool x])) ([.own (.lst (iE (wSizes (g0 row a))))] ++ [.own (.lst acc)]) := fun x hx acc => by
    have hx' := List.mem_range.mp hx
    have h60 := wSz_le row a
    have hdiv : x / wRun row a ≤ x := Nat.div_le_self _ _
    have e1 : ∀ S, gIx S (.d (.lst (iL row))) (.d (.int ((a : Int) + 3 + (x : Int) / (wRun row a : Int)))) = .ok (.d (.int (g0 row (a + 3 + x / wRun row a)))) S := fun S => ixR (by omega) (by rw [Int.natCast_add, Int.natCast_add, Int.natCast_ediv]; rfl)
    have hl : (0 : Int) < (pool.length : Int) := by omega
    have hlt : (g0 row (a + 3 + x / wRun row a) % (pool.length : Int)).toNat < pool.length := by
      have h1 := Int.emod_lt_of_pos (g0 row (a + 3 + x / wRun row a)) hl
      omega
    have h0 := Int.emod_nonneg (g0 row (a + 3 + x / wRun row a)) (show (pool.length : Int) ≠ 0 by omega)
    have e2 : ∀ S, gIx S (.d (.str pool)) (.d (.int (g0 row (a + 3 + x / wRun row a) % (pool.length : Int)))) = .ok (.d (.str [wChr row a pool x])) S := fun S => ixS (k := (g0 row (a + 3 + x / wRun row a) % (pool.length : Int)).toNat) (by omega) (by unfold wChr; rw [List.getD_eq_getElem?_getD, List.getElem?_eq_getElem hlt]; rfl) (by omega)
    have e3 : ∀ S, gDiv S (.d (.int (x : Nat))) (.d (.int (wRun row a : Nat))) = .ok (.d (.int ((x : Int) / (wRun row a : Int)))) S := fun S => ev_div ⟨by omega, by omega⟩
    have e4 : ∀ S, gMod S (.d (.int (g0 row (a + 3 + x / wRun row a)))) (.d (.int (pool.length : Nat))) = .ok (.d (.int (g0 row (a + 3 + x / wRun row a) % (pool.length : Int)))) S := fun S => ev_mod hl
    simp [e3, e1, show pool.length ≤ 16777216 by omega, e4, e2]
  unfold d__law_word
  have c1 : sSet 3 (dOp gIx (dLst (dCons (dC (.int 0)) (dCons (dC (.int 1)) (dCons (dC (.int 59)) (dCons (dC (.int 60)) (dCons (dOp gMod (dCB gInt (dCons (dOp gIx (dVar 0) (dVar 1)) dNil)) (dC (.int 61))) (dCons (dOp gMod (dCB gInt (dCons (dOp gIx (dVar 0) (dVar 1)) dNil)) (dC (.int 12))) (dCons (dOp gMod (dCB gInt (dCons (dOp gIx (dVar 0) (dVar 1)) dNil)) (dC (.int 30))) (dCons (dOp gMod (dCB gInt (dCons (dOp gIx (dVar 0) (dVar 1)) dNil)) (dC (.int 61))) dNil))))))))) (dOp gMod (dCB gInt (dCons (dOp gIx (dVar 0) (dOp gAdd (dVar 1) (dC (.int 1)))) dNil)) (dC (.int 8)))) (en0 (decW (row, a, pool)) 3) [] = .nx [some (.d (.lst (iL row))), some (.d (.int a)), some (.d (.str pool)), some (.d (.int (wSz row a : Nat))), none, none] [.own (.lst (iE (wSizes (g0 row a))))] := by
    have hs := hsz
    unfold wSizes iE at hs
    simp at hs
    simp [en0, ra, ra1, hs, wSizes]
  have c2 : sSet 4 (dOp gAdd (dC (.int 1)) (dOp gMod (dCB gInt (dCons (dOp gIx (dVar 0) (dOp gAdd (dVar 1) (dC (.int 2)))) dNil)) (dC (.int 4)))) [some (.d (.lst (iL row))), some (.d (.int a)), some (.d (.str pool)), some (.d (.int (wSz row a : Nat))), none, none] [.own (.lst (iE (wSizes (g0 row a))))] = .nx [some (.d (.lst (iL row))), some (.d (.int a)), some (.d (.str pool)), some (.d (.int (wSz row a : Nat))), some (.d (.int (wRun row a : Nat))), none] [.own (.lst (iE (wSizes (g0 row a))))] := by
    simp [ra2, hrun]
  show okD (.str (word row a pool)) = _
  rw [ev_sSeq, c1, ev_nx, ev_sSeq, c2, ev_nx]
  have c3 : dLc (itR1 (dCons (dVar 3) dNil)) (oName 5) dYes (dOp gIx (dVar 2) (dOp gMod (dCB gInt (dCons (dOp gIx (dVar 0) (dOp gAdd (dOp gAdd (dVar 1) (dC (.int 3))) (dOp gDiv (dVar 5) (dVar 4)))) dNil)) (dCB gLen (dCons (dVar 2) dNil)))) [5] [some (.d (.lst (iL row))), some (.d (.int a)), some (.d (.str pool)), some (.d (.int (wSz row a : Nat))), some (.d (.int (wRun row a : Nat))), none] [.own (.lst (iE (wSizes (g0 row a))))] = .ok (.h 1) ([.own (.lst (iE (wSizes (g0 row a))))] ++ [.own (.lst ((List.range (wSz row a)).map fun x => .d (.str [wChr row a pool x])))]) := by
    have h60 := wSz_le row a
    exact ev_lc (l := List.range (wSz row a)) (inj := fun k => E.d (.int (k : Nat))) (out := fun x => .d (.str [wChr row a pool x])) (j := 5) (S1 := [.own (.lst (iE (wSizes (g0 row a))))]) (by rw [ev_itR1 (n := (wSz row a : Nat)) (S1 := [.own (.lst (iE (wSizes (g0 row a))))]) (by simp) (by omega), Int.toNat_natCast]) (by simp; omega) hel
  have c4 := ev_joinE (S := [.own (.lst (iE (wSizes (g0 row a))))] ++ [.own (.lst ((List.range (wSz row a)).map fun x => E.d (.str [wChr row a pool x])))]) (n := 1) (f := wChr row a pool) (l := List.range (wSz row a)) rfl (by have := wSz_le row a; simp; omega)
  rw [ev_sRet, ev_dBM, ev_dC, ev_bind_ok, if_pos (by rfl), ev_dCons, c3, ev_bind_ok, ev_dNil, ev_bind_ok, ev_bind_ok, c4, ev_st_ok, finD_rt, finR_d]
  rfl
end Dl

namespace Dl
open PySem PySem.Spec L2
/-! ### _law_edited -/
theorem cut_mem {τ : Type} {xs : List τ} {lo hi : Option Int} : ∀ c ∈ cut xs lo hi, c ∈ xs := fun c h => by
  unfold cut at h
  exact List.mem_of_mem_drop (List.mem_of_mem_take h)
theorem cut_len {τ : Type} {xs : List τ} {lo hi : Option Int} : (cut xs lo hi).length ≤ xs.length := by
  unfold cut
  rw [List.length_take, List.length_drop]
  omega
theorem ev_slS {S : Sto} {t : Cs} {lo hi : Option Int} (h : t.length ≤ 16777216) : gSl S (.d (.str t)) lo hi = .ok (.d (.str (cut t lo hi))) S := by
  unfold gSl
  simp [h]
@[simp] theorem ev_dSl {d : DE} {dl dh : DO} {E : En} {S : Sto} : dSl d dl dh E S = (d E S).bind fun x S1 => (dl E S1).bind fun lo S2 => (dh E S2).bind fun hi S3 => gSl S3 x lo hi := nrfl rfl
@[simp] theorem ev_dNoPart {E : En} {S : Sto} : dNoPart E S = .ok none S := nrfl rfl
theorem ev_dPart {d : DE} {E : En} {S S1 : Sto} {i : Int} (h : d E S = .ok (.d (.int i)) S1) : dPart d E S = .ok (some i) S1 := by
  unfold dPart; rw [h]; rfl
@[simp] theorem ev_dPart' {d : DE} {E : En} {S : Sto} : dPart d E S = (d E S).bind fun x S1 => match asI x with
  | some i => .ok (some i) S1
  | none => .no := nrfl rfl
structure EdS where
  t : Cs
  j4 : Option Dl.E
  j5 : Option Dl.E
  j6 : Option Dl.E
  j7 : Option Dl.E
def edLet (row : List Int) (a : Nat) (pool : Cs) (k : Nat) : Nat := pool.getD (g0 row (a + 3 + 3 * k) % (pool.length : Int)).toNat 0
def edPl (row : List Int) (a : Nat) (t : Cs) (k : Nat) : Int := g0 row (a + 2 + 3 * k) % ((t.length : Int) + 1)
def edT (row : List Int) (a : Nat) (pool : Cs) (t : Cs) (k : Nat) : Cs :=
  if g0 row (a + 1 + 3 * k) % 3 = 0 then cut t none (some (edPl row a t k)) ++ [edLet row a pool k] ++ cut t (some (edPl row a t k)) none
  else if g0 row (a + 1 + 3 * k) % 3 = 1 then cut t none (some (edPl row a t k)) ++ cut t (some (edPl row a t k + 1)) none
  else cut t none (some (edPl row a t k)) ++ [edLet row a pool k] ++ cut t (some (edPl row a t k + 1)) none
def edStep (row : List Int) (a : Nat) (pool : Cs) (s : EdS) (k : Nat) : EdS :=
  ⟨edT row a pool s.t k, some (.d (.int k)), some (.d (.int (g0 row (a + 1 + 3 * k) % 3))), some (.d (.int (edPl row a s.t k))), some (.d (.str [edLet row a pool k]))⟩
def edEnv (row : List Int) (a : Nat) (pool : Cs) (s : EdS) : En := [some (.d (.str s.t)), some (.d (.lst (iL row))), some (.d (.int a)), some (.d (.str pool)), s.j4, s.j5, s.j6, s.j7]
theorem edLet_mem {row : List Int} {a : Nat} {pool : Cs} {k : Nat} (hp : 0 < pool.length) : edLet row a pool k ∈ pool := by
  unfold edLet
  have hlt : (g0 row (a + 3 + 3 * k) % (pool.length : Int)).toNat < pool.length := by
    have h1 := Int.emod_lt_of_pos (g0 row (a + 3 + 3 * k)) (show (0 : Int) < pool.length by omega)
    omega
  rw [List.getD_eq_getElem?_getD, List.getElem?_eq_getElem hlt]
  exact List.getElem_mem hlt
theorem edT_mem {row : List Int} {a : Nat} {pool t : Cs} {k : Nat} (hp : 0 < pool.length) : ∀ c ∈ edT row a pool t k, c ∈ t ∨ c ∈ pool := fun c h => by
  unfold edT at h
  split at h
  · rcases List.mem_append.mp h with h | h
    · rcases List.mem_append.mp h with h | h
      · exact .inl (cut_mem c h)
      · rw [List.mem_singleton.mp h]; exact .inr (edLet_mem hp)
    · exact .inl (cut_mem c h)
  · split at h
    · rcases List.mem_append.mp h with h | h
      · exact .inl (cut_mem c h)
      · exact .inl (cut_mem c h)
    · rcases List.mem_append.mp h with h | h
      · rcases List.mem_append.mp h with h | h
        · exact .inl (cut_mem c h)
        · rw [List.mem_singleton.mp h]; exact .inr (edLet_mem hp)
      · exact .inl (cut_mem c h)
theorem edT_len {row : List Int} {a : Nat} {pool t : Cs} {k : Nat} : (edT row a pool t k).length ≤ 2 * t.length + 1 := by
  have c1 : ∀ lo hi, (cut t lo hi).length ≤ t.length := fun lo hi => cut_len
  have h1 := c1 none (some (edPl row a t k))
  have h2 := c1 (some (edPl row a t k)) none
  have h3 := c1 (some (edPl row a t k + 1)) none
  unfold edT
  split
  · simp only [List.length_append, List.length_singleton]; omega
  · split
    · simp only [List.length_append]; omega
    · simp only [List.length_append, List.length_singleton]; omega
theorem ed_body {row : List Int} {a : Nat} {pool : Cs} {s : EdS} {k : Nat} (ha : a + 30 < row.length) (hk : k ≤ 7) (hp : 0 < pool.length) (hp2 : pool.length ≤ 1000) (ht : s.t.length ≤ 1000000) :
    d__law_edited_1 ((edEnv row a pool s).set 4 (some (.d (.int k)))) [] = .nx (edEnv row a pool (edStep row a pool s k)) [] := by
  have m3 : ∀ S, gMul S (.d (.int 3)) (.d (.int (k : Nat))) = .ok (.d (.int (3 * (k : Int)))) S := fun S => ev_mulI (okMul_l ⟨by omega, by omega⟩)
  have r1 : ∀ S, gIx S (.d (.lst (iL row))) (.d (.int ((a : Int) + 1 + 3 * (k : Int)))) = .ok (.d (.int (g0 row (a + 1 + 3 * k)))) S := fun S => ixR (by omega) (by omega)
  have r2 : ∀ S, gIx S (.d (.lst (iL row))) (.d (.int ((a : Int) + 2 + 3 * (k : Int)))) = .ok (.d (.int (g0 row (a + 2 + 3 * k)))) S := fun S => ixR (by omega) (by omega)
  have r3 : ∀ S, gIx S (.d (.lst (iL row))) (.d (.int ((a : Int) + 3 + 3 * (k : Int)))) = .ok (.d (.int (g0 row (a + 3 + 3 * k)))) S := fun S => ixR (by omega) (by omega)
  have hpl : (0 : Int) < (s.t.length : Int) + 1 := by omega
  have q2 : ∀ S, gMod S (.d (.int (g0 row (a + 2 + 3 * k)))) (.d (.int ((s.t.length : Int) + 1))) = .ok (.d (.int (edPl row a s.t k))) S := fun S => ev_mod hpl
  have q3 : ∀ S, gMod S (.d (.int (g0 row (a + 3 + 3 * k)))) (.d (.int (pool.length : Nat))) = .ok (.d (.int (g0 row (a + 3 + 3 * k) % (pool.length : Int)))) S := fun S => ev_mod (by omega)
  have hlt : (g0 row (a + 3 + 3 * k) % (pool.length : Int)).toNat < pool.length := by
    have h1 := Int.emod_lt_of_pos (g0 row (a + 3 + 3 * k)) (show (0 : Int) < pool.length by omega)
    omega
  have h0 := Int.emod_nonneg (g0 row (a + 3 + 3 * k)) (show (pool.length : Int) ≠ 0 by omega)
  have q4 : ∀ S, gIx S (.d (.str pool)) (.d (.int (g0 row (a + 3 + 3 * k) % (pool.length : Int)))) = .ok (.d (.str [edLet row a pool k])) S := fun S => ixS (k := (g0 row (a + 3 + 3 * k) % (pool.length : Int)).toNat) (by omega) (by unfold edLet; rw [List.getD_eq_getElem?_getD, List.getElem?_eq_getElem hlt]; rfl) (by omega)
  have sl : ∀ S lo hi, gSl S (.d (.str s.t)) lo hi = .ok (.d (.str (cut s.t lo hi))) S := fun S lo hi => ev_slS (by omega)
  have cl : ∀ lo hi, (cut s.t lo hi).length ≤ 1000000 := fun lo hi => Nat.le_trans cut_len ht
  have ad1 : ∀ S lo hi x, gAdd S (.d (.str (cut s.t lo hi))) (.d (.str [x])) = .ok (.d (.str (cut s.t lo hi ++ [x]))) S := fun S lo hi x => ev_addS (by have := cl lo hi; simp; omega)
  have ad2 : ∀ S lo hi x l2 h2, gAdd S (.d (.str (cut s.t lo hi ++ [x]))) (.d (.str (cut s.t l2 h2))) = .ok (.d (.str (cut s.t lo hi ++ [x] ++ cut s.t l2 h2))) S := fun S lo hi x l2 h2 => ev_addS (by have := cl lo hi; have := cl l2 h2; simp only [List.length_append, List.length_singleton]; omega)
  have ad3 : ∀ S lo hi l2 h2, gAdd S (.d (.str (cut s.t lo hi))) (.d (.str (cut s.t l2 h2))) = .ok (.d (.str (cut s.t lo hi ++ cut s.t l2 h2))) S := fun S lo hi l2 h2 => ev_addS (by have := cl lo hi; have := cl l2 h2; omega)
  have hT : edStep row a pool s k = ⟨edT row a pool s.t k, some (.d (.int k)), some (.d (.int (g0 row (a + 1 + 3 * k) % 3))), some (.d (.int (edPl row a s.t k))), some (.d (.str [edLet row a pool k]))⟩ := rfl
  rw [hT]
  unfold edT
  have hw : g0 row (a + 1 + 3 * k) % 3 = 0 ∨ g0 row (a + 1 + 3 * k) % 3 = 1 ∨ g0 row (a + 1 + 3 * k) % 3 = 2 := by omega
  have hw0 : ∀ S, gMod S (.d (.int (g0 row (a + 1 + 3 * k)))) (.d (.int 3)) = .ok (.d (.int (g0 row (a + 1 + 3 * k) % 3))) S := fun S => ev_mod (by omega)
  have hlS : s.t.length ≤ 16777216 := by omega
  have hlP : pool.length ≤ 16777216 := by omega
  revert hw hw0
  generalize g0 row (a + 1 + 3 * k) % 3 = w
  intro hw hw0
  have ne10 : ∀ S, gEq S (.d (.int 0)) (.d (.int 1)) = .ok (.d (.bl false)) S := fun S => nrfl rfl
  rcases hw with rfl | rfl | rfl <;> simp [d__law_edited_1, edEnv, m3, r1, r2, r3, q2, q3, q4, sl, ad1, ad2, ad3, hw0, hlS, hlP]
theorem ed_fold (row : List Int) (a : Nat) (pool : Cs) : ∀ (l : List Nat) (s : EdS), (l.foldl (edStep row a pool) s).t = l.foldl (edT row a pool) s.t
  | [], s => rfl
  | k :: l, s => by rw [List.foldl_cons, List.foldl_cons, ed_fold row a pool l]; rfl
def edited (t : Cs) (row : List Int) (a : Nat) (pool : Cs) : Cs := cut ((List.range (g0 row a % 8).toNat).foldl (edT row a pool) t) none (some 60)
theorem fold_mem {row : List Int} {a : Nat} {pool : Cs} (hp : 0 < pool.length) : ∀ (l : List Nat) (t : Cs), ∀ c ∈ l.foldl (edT row a pool) t, c ∈ t ∨ c ∈ pool
  | [], t, c, h => .inl h
  | k :: l, t, c, h => by
    rw [List.foldl_cons] at h
    rcases fold_mem hp l _ c h with h | h
    · exact edT_mem hp c h
    · exact .inr h
theorem fold_len {row : List Int} {a : Nat} {pool : Cs} : ∀ (l : List Nat) (t : Cs), (l.foldl (edT row a pool) t).length + 1 ≤ 2 ^ l.length * (t.length + 1)
  | [], t => by simp
  | k :: l, t => by
    rw [List.foldl_cons]
    have h1 := fold_len (row := row) (a := a) (pool := pool) l (edT row a pool t k)
    have h2 := edT_len (row := row) (a := a) (pool := pool) (t := t) (k := k)
    refine Nat.le_trans h1 ?_
    rw [List.length_cons, Nat.pow_succ, Nat.mul_assoc]
    exact Nat.mul_le_mul_left _ (by omega)
theorem edited_mem {row : List Int} {a : Nat} {pool t : Cs} (hp : 0 < pool.length) : ∀ c ∈ edited t row a pool, c ∈ t ∨ c ∈ pool := fun c h => fold_mem hp _ _ c (cut_mem c h)
theorem edited_len {row : List Int} {a : Nat} {pool t : Cs} : (edited t row a pool).length ≤ 60 := by
  unfold edited cut
  rw [List.length_take, show HT.sIx _ _ (some 60) = min 60 _ from HT.sIx_nat _ _ 60]
  omega
abbrev decE (p : Cs × List Int × Nat × Cs) : List D := [.str p.1, .lst (iL p.2.1), .int p.2.2.1, .str p.2.2.2]
theorem decE_inj : ∀ x y : Cs × List Int × Nat × Cs, decE x = decE y → x = y := fun x y h => by
  obtain ⟨t, a, b, c⟩ := x
  obtain ⟨u, d, e, f⟩ := y
  have h0 : t = u := D.str.inj (List.cons.inj h).1
  have h' := decW_inj (a, b, c) (d, e, f) (List.cons.inj h).2
  cases h'
  rw [h0]
noncomputable def M__law_edited : List D → MR := mkM decE (fun p => p.1.length ≤ 60 ∧ p.2.2.1 + 30 < p.2.1.length ∧ 0 < p.2.2.2.length ∧ p.2.2.2.length ≤ 1000) fun p => okD (.str (edited p.1 p.2.1 p.2.2.1 p.2.2.2))
theorem M__law_edited_eq {t : Cs} {row : List Int} {a : Nat} {pool : Cs} (h : t.length ≤ 60 ∧ a + 30 < row.length ∧ 0 < pool.length ∧ pool.length ≤ 1000) : M__law_edited [.str t, .lst (iL row), .int a, .str pool] = okD (.str (edited t row a pool)) := mkM_eq (x := (t, row, a, pool)) decE_inj h
theorem M__law_edited_len : ∀ ds : List D, (match M__law_edited ds with | .no => False | _ => True) → ds.length = 4 := mkM_len fun _ => rfl
theorem M__law_edited_le : ∀ ds : List D, ds.length = 4 → MLe (M__law_edited ds) (finD (d__law_edited (en0 ds 4) [])) := mkM_le fun ⟨t, row, a, pool⟩ h => by
  obtain ⟨h1, h2, h3, h4⟩ := h
  dsimp only at h1 h2 h3 h4
  have ra : ∀ S, gIx S (.d (.lst (iL row))) (.d (.int (a : Nat))) = .ok (.d (.int (g0 row a))) S := fun S => ixR (by omega) rfl
  have loop := forN_fold (g := oName 4) (b := d__law_edited_1) (edStep row a pool) (edEnv row a pool) (fun _ => []) (fun k : Nat => Dl.E.d (.int k)) (List.range (g0 row a % 8).toNat) (fun s l => ∃ pre, List.range (g0 row a % 8).toNat = pre ++ l ∧ s.t = pre.foldl (edT row a pool) t) (fun s k r hI => by
    obtain ⟨pre, e1, e2⟩ := hI
    have hlen := congrArg List.length e1
    simp at hlen
    have hk : k ∈ List.range (g0 row a % 8).toNat := by rw [e1]; simp
    have hk' := List.mem_range.mp hk
    have hl := fold_len (row := row) (a := a) (pool := pool) pre t
    have hp7 : (2 : Nat) ^ pre.length ≤ 2 ^ 7 := Nat.pow_le_pow_right (by omega) (by omega)
    have hb : 2 ^ pre.length * (t.length + 1) ≤ 2 ^ 7 * 61 := Nat.mul_le_mul hp7 (by omega)
    have ht : s.t.length ≤ 1000000 := by rw [e2]; omega
    refine ⟨⟨pre ++ [k], by rw [e1]; simp, by rw [List.foldl_append, ← e2]; rfl⟩, _, rfl, .inl ?_⟩
    exact ed_body h2 (by omega) h3 h4 ht) ⟨t, none, none, none, none⟩ ⟨[], rfl, rfl⟩
  have hft := ed_fold row a pool (List.range (g0 row a % 8).toNat) ⟨t, none, none, none, none⟩
  have hl := fold_len (row := row) (a := a) (pool := pool) (List.range (g0 row a % 8).toNat) t
  have hp7 : (2 : Nat) ^ (List.range (g0 row a % 8).toNat).length ≤ 2 ^ 7 := Nat.pow_le_pow_right (by omega) (by simp; omega)
  have hb : 2 ^ (List.range (g0 row a % 8).toNat).length * (t.length + 1) ≤ 2 ^ 7 * 61 := Nat.mul_le_mul hp7 (by omega)
  unfold d__law_edited
  rw [ev_sSeq, ev_forR1 (n := g0 row a % 8) (S1 := []) (by simp [en0, ra]) (by omega)]
  show _ = finD (RSt.bind (forN _ _ _ (edEnv row a pool ⟨t, none, none, none, none⟩) []) _)
  rw [loop, ev_nx]
  show okD (.str (edited t row a pool)) = _
  unfold edited
  rw [← hft]
  have hlen : ((List.range (g0 row a % 8).toNat).foldl (edStep row a pool) ⟨t, none, none, none, none⟩).t.length ≤ 16777216 := by rw [hft]; show ((List.range (g0 row a % 8).toNat).foldl (edT row a pool) t).length ≤ _; omega
  generalize (List.range (g0 row a % 8).toNat).foldl (edStep row a pool) ⟨t, none, none, none, none⟩ = st at hlen
  simp [edEnv, ev_slS hlen]
end Dl

namespace Dl
open PySem PySem.Spec L2
/-! ### _law_row -/
structure RowS where
  rest : Int
  mixed : Int
  acc : List Int
  jk : Option Dl.E
  jc : Option Dl.E
def rowCell (sc : List Int) (k : Nat) : Int := if sc.length > 0 then sc.getD (k % min sc.length 63) 0 else k
def rowMix (sc : List Int) (m : Int) (k : Nat) : Int := (m * 48271 + rowCell sc k % 1000003 * 69621 + k * 7907) % 2147483647
def rowStep (sc : List Int) (s : RowS) (k : Nat) : RowS :=
  ⟨if s.rest > 0 then s.rest / 997 else s.rest, rowMix sc s.mixed k, s.acc ++ [if s.rest > 0 then s.rest % 997 else rowMix sc s.mixed k / 11 % 997], some (.d (.int k)), some (.d (.int (rowCell sc k)))⟩
def rowEnv (sc : List Int) (many : Nat) (s : RowS) : En := [some (.d (.lst (iL sc))), some (.d (.int many)), some (.d (.int s.rest)), some (.h 0), some (.d (.int s.mixed)), s.jk, s.jc]
def rowSto (s : RowS) : Sto := [.own (.lst (s.acc.map fun i => Dl.E.d (.int i)))]
theorem row_body (sc : List Int) (many : Nat) (s : RowS) (k : Nat) (hs : s.acc.length < 1000000) : d__law_row_1 ((rowEnv sc many s).set 5 (some (.d (.int k)))) (rowSto s) = .nx (rowEnv sc many (rowStep sc s k)) (rowSto (rowStep sc s k)) := by
  have h0 : (rowSto s)[0]? = some (.own (.lst (s.acc.map fun i => Dl.E.d (.int i)))) := rfl
  have hap : ∀ y : Int, gAppend (rowSto s) (.h 0) [.d (.int y)] = .ok (.d .non) ((rowSto s).set 0 (.own (.lst ((s.acc ++ [y]).map fun i => Dl.E.d (.int i))))) := fun y => ev_appI h0 (by omega)
  have ht := isTy_own h0
  have fin : ∀ y : Int, (rowSto s).set 0 (.own (.lst ((s.acc ++ [y]).map fun i => Dl.E.d (.int i)))) = [.own (.lst ((s.acc ++ [y]).map fun i => Dl.E.d (.int i)))] := fun y => rfl
  by_cases h : 0 < sc.length
  · have hm : (0 : Int) < min (sc.length : Int) 63 := by omega
    have hix : ∀ S, gIx S (.d (.lst (iL sc))) (.d (.int ((k : Int) % min (sc.length : Int) 63))) = .ok (.d (.int (rowCell sc k))) S := fun S => by
      have h1 := Int.emod_nonneg (k : Int) (show min (sc.length : Int) 63 ≠ 0 by omega)
      have h2 := Int.emod_lt_of_pos (k : Int) hm
      have e : ((k : Int) % min (sc.length : Int) 63).toNat = k % min sc.length 63 := by
        rw [show (min (sc.length : Int) 63) = ((min sc.length 63 : Nat) : Int) by omega]
        rw [← Int.natCast_emod, Int.toNat_natCast]
      rw [ev_ixQ asQ_d (atI_ints h1 (by omega))]
      unfold rowCell
      rw [if_pos h, e]
    by_cases hr : 0 < s.rest
    · simp [d__law_row_1, rowEnv, h, hm, hix, okMul_r, hr, ht, hap]
      simp [rowStep, hr, rowMix, fin, rowSto]
    · simp [d__law_row_1, rowEnv, h, hm, hix, okMul_r, hr, ht, hap]
      simp [rowStep, hr, rowMix, fin, rowSto]
  · have hl : sc = [] := by
      cases sc with
      | nil => rfl
      | cons _ _ => exact absurd (Nat.succ_pos _) h
    subst hl
    have hc : rowCell [] k = k := rfl
    by_cases hr : 0 < s.rest
    · simp [d__law_row_1, rowEnv, okMul_r, hr, ht, hap]
      simp [rowStep, hr, rowMix, fin, rowSto, hc]
    · simp [d__law_row_1, rowEnv, okMul_r, hr, ht, hap]
      simp [rowStep, hr, rowMix, fin, rowSto, hc]
def rowInit (sc : List Int) : RowS := ⟨if 0 < sc.length ∧ 10 ^ 18 ≤ sc.getD 0 0 then sc.getD 0 0 else 0, 12345, [], none, none⟩
def lawRow (sc : List Int) (many : Nat) : List Int := ((List.range many).foldl (rowStep sc) (rowInit sc)).acc
noncomputable def M__law_row : List D → MR := mkM (fun p : List Int × Nat => [.lst (iL p.1), .int p.2]) (fun p => p.2 ≤ 1000) (fun p => okD (.lst (iL (lawRow p.1 p.2))))
theorem M__law_row_len : ∀ ds : List D, (match M__law_row ds with | .no => False | _ => True) → ds.length = 2 := mkM_len fun _ => rfl
theorem row_len (sc : List Int) (l : List Nat) (s : RowS) : (l.foldl (rowStep sc) s).acc.length = s.acc.length + l.length := by
  induction l generalizing s with
  | nil => rfl
  | cons k l ih => rw [List.foldl_cons, ih]; simp [rowStep]; omega
theorem lawRow_len (sc : List Int) (many : Nat) : (lawRow sc many).length = many := by
  unfold lawRow; rw [row_len]; simp [rowInit]
theorem M__law_row_le : ∀ ds : List D, ds.length = 2 → MLe (M__law_row ds) (finD (d__law_row (en0 ds 5) [])) := mkM_le fun ⟨sc, many⟩ hm => by
  have loop := forN_fold (g := oName 5) (b := d__law_row_1) (rowStep sc) (rowEnv sc many) rowSto (fun k : Nat => Dl.E.d (.int k)) (List.range many) (fun s l => s.acc.length + l.length ≤ 1000) (fun s k r h => by
    refine ⟨by simp [rowStep] at h ⊢; omega, _, rfl, .inl ?_⟩
    exact row_body sc many s k (by simp at h; omega)) (rowInit sc) (by simp [rowInit]; exact hm)
  have fin : ∀ st : RowS, st = (List.range many).foldl (rowStep sc) (rowInit sc) → finD (((RSt.nx (rowEnv sc many st) (rowSto st)).bind (sRet (dVar 3)))) = okD (.lst (iL st.acc)) := fun st hst => by
    have hl : st.acc.length ≤ 1000 := by rw [hst, row_len]; simpa [rowInit] using hm
    simp [rowEnv]
    refine finR_own (S := rowSto st) (l := iL st.acc) ?_ (by simp; omega)
    simp [rowSto]
  have hr : ∀ r, r = (rowInit sc).rest → sFor (itR1 (dCons (dVar 1) dNil)) (oName 5) d__law_row_1 [some (.d (.lst (iL sc))), some (.d (.int many)), some (.d (.int r)), some (.h 0), some (.d (.int 12345)), none, none] [.own (.lst [])] = .nx (rowEnv sc many ((List.range many).foldl (rowStep sc) (rowInit sc))) (rowSto ((List.range many).foldl (rowStep sc) (rowInit sc))) := fun r h => by
    subst h
    rw [ev_forR1 (n := many) (S1 := [.own (.lst [])]) (by simp) (by have : many ≤ 1000 := hm; omega), Int.toNat_natCast]
    exact loop
  have hp : ∀ S, gPow S (.d (.int 10)) (.d (.int 18)) = .ok (.d (.int 1000000000000000000)) S := fun S => nrfl rfl
  obtain ⟨x0, hx0⟩ : ∃ x, x = sc.getD 0 0 := ⟨_, rfl⟩
  unfold d__law_row en0
  by_cases h : 0 < sc.length
  · have hix : ∀ S, gIx S (.d (.lst (iL sc))) (.d (.int 0)) = .ok (.d (.int x0)) S := fun S => by rw [hx0]; exact ev_ixQ asQ_d (atI_ints (by omega) h)
    by_cases h2 : (1000000000000000000 : Int) ≤ x0
    · have hi : x0 = (rowInit sc).rest := by unfold rowInit; rw [hx0] at h2 ⊢; exact (if_pos ⟨h, h2⟩).symm
      simp [h, hix, hp, h2]
      rw [hr _ hi]
      exact (fin _ rfl).symm
    · have hi : 0 = (rowInit sc).rest := by unfold rowInit; rw [hx0] at h2; exact (if_neg fun z => h2 z.2).symm
      simp [h, hix, hp, h2]
      rw [hr _ hi]
      exact (fin _ rfl).symm
  · have hi : 0 = (rowInit sc).rest := by unfold rowInit; exact (if_neg fun z => h z.1).symm
    simp [h]
    rw [hr _ hi]
    exact (fin _ rfl).symm
end Dl

namespace Dl
open PySem PySem.Spec L2
/-! ### _law_spoilt -/
def tail12 : Cs := [97, 98, 99, 100, 101, 102, 103, 104, 105, 106, 107, 108]
def bads : Cs := [32, 33, 34, 35, 36, 38, 39, 40, 41, 42, 43, 44, 45, 46, 47, 48, 49, 50, 51, 52, 53, 54, 55, 56, 57, 58, 59, 60, 61, 62, 63, 64, 65, 66, 67, 68, 69, 70, 71, 72, 73, 74, 75, 76, 77, 78, 79, 80, 81, 82, 83, 84, 85, 86, 87, 88, 89, 90, 91, 92, 93, 94, 95, 123, 124, 125, 126]
theorem bads_len : bads.length = 67 := rfl
def spoilt (t : Cs) (row : List Int) (a : Nat) : Cs :=
  if g0 row a % 4 = 1 then cut (t ++ repS tail12 6) none (some (61 + g0 row (a + 1) % 10))
  else cut t none (some (g0 row (a + 1) % ((t.length : Int) + 1))) ++ [bads.getD (g0 row (a + 2) % 67).toNat 0] ++ cut t (some (g0 row (a + 1) % ((t.length : Int) + 1))) none
theorem rep_len : (repS tail12 6).length = 72 := by decide
theorem spoilt_len {t : Cs} {row : List Int} {a : Nat} (h : t.length ≤ 60) : (spoilt t row a).length ≤ 1000 := by
  unfold spoilt
  split
  · refine Nat.le_trans cut_len ?_
    rw [List.length_append, rep_len]; omega
  · have h1 := cut_len (xs := t) (lo := none) (hi := some (g0 row (a + 1) % ((t.length : Int) + 1)))
    have h2 := cut_len (xs := t) (lo := some (g0 row (a + 1) % ((t.length : Int) + 1))) (hi := none)
    simp only [List.length_append, List.length_singleton]; omega
abbrev decP (p : Cs × List Int × Nat) : List D := [.str p.1, .lst (iL p.2.1), .int p.2.2]
theorem decP_inj : ∀ x y : Cs × List Int × Nat, decP x = decP y → x = y := fun x y h => by
  obtain ⟨t, a, b⟩ := x
  obtain ⟨u, d, e⟩ := y
  have h0 : t = u := D.str.inj (List.cons.inj h).1
  have h1 : a = d := iL_inj _ _ (D.lst.inj (List.cons.inj (List.cons.inj h).2).1)
  have h2 : ((b : Nat) : Int) = e := D.int.inj (List.cons.inj (List.cons.inj (List.cons.inj h).2).2).1
  have h3 : b = e := by omega
  rw [h0, h1, h3]
noncomputable def M__law_spoilt : List D → MR := mkM decP (fun p => p.1.length ≤ 60 ∧ p.2.2 + 3 < p.2.1.length) fun p => okD (.str (spoilt p.1 p.2.1 p.2.2))
theorem M__law_spoilt_eq {t : Cs} {row : List Int} {a : Nat} (h : t.length ≤ 60 ∧ a + 3 < row.length) : M__law_spoilt [.str t, .lst (iL row), .int a] = okD (.str (spoilt t row a)) := mkM_eq (x := (t, row, a)) decP_inj h
theorem M__law_spoilt_len : ∀ ds : List D, (match M__law_spoilt ds with | .no => False | _ => True) → ds.length = 3 := mkM_len fun _ => rfl
theorem M__law_spoilt_le : ∀ ds : List D, ds.length = 3 → MLe (M__law_spoilt ds) (finD (d__law_spoilt (en0 ds 2) [])) := mkM_le fun ⟨t, row, a⟩ h => by
  obtain ⟨h1, h2⟩ := h
  dsimp only at h1 h2
  have ra : ∀ S, gIx S (.d (.lst (iL row))) (.d (.int (a : Nat))) = .ok (.d (.int (g0 row a))) S := fun S => ixR (by omega) rfl
  have ra1 : ∀ S, gIx S (.d (.lst (iL row))) (.d (.int ((a : Int) + 1))) = .ok (.d (.int (g0 row (a + 1)))) S := fun S => ixR (by omega) (by omega)
  have ra2 : ∀ S, gIx S (.d (.lst (iL row))) (.d (.int ((a : Int) + 2))) = .ok (.d (.int (g0 row (a + 2)))) S := fun S => ixR (by omega) (by omega)
  have m4 : ∀ S, gMod S (.d (.int (g0 row a))) (.d (.int 4)) = .ok (.d (.int (g0 row a % 4))) S := fun S => ev_mod (by omega)
  show okD (.str (spoilt t row a)) = _
  unfold spoilt d__law_spoilt
  have e0 : en0 (decP (t, row, a)) 2 = [some (.d (.str t)), some (.d (.lst (iL row))), some (.d (.int a)), none, none] := rfl
  rw [e0]
  by_cases hw : g0 row a % 4 = 1
  · rw [if_pos hw]
    have mu : ∀ S, gMul S (.d (.str [97, 98, 99, 100, 101, 102, 103, 104, 105, 106, 107, 108])) (.d (.int 6)) = .ok (.d (.str (repS tail12 6))) S := fun S => ev_mulS (by
      have e : tail12.length * (6 : Int).toNat ≤ 1000000 := by decide
      show (if (6 : Int) ≤ 100000 ∧ tail12.length * (6 : Int).toNat ≤ 1000000 ∧ -100000 ≤ (6 : Int) then R.ok (Dl.E.d (.str (repS tail12 (6 : Int).toNat))) S else .no) = _
      rw [if_pos ⟨by omega, e, by omega⟩]
      rfl)
    have ad : ∀ S, gAdd S (.d (.str t)) (.d (.str (repS tail12 6))) = .ok (.d (.str (t ++ repS tail12 6))) S := fun S => ev_addS (by rw [rep_len]; omega)
    have sl : ∀ S lo hi, gSl S (.d (.str (t ++ repS tail12 6))) lo hi = .ok (.d (.str (cut (t ++ repS tail12 6) lo hi))) S := fun S lo hi => ev_slS (by rw [List.length_append, rep_len]; omega)
    simp [ra, ra1, m4, hw, mu, ad, sl]
  · rw [if_neg hw]
    have hwd : decide (g0 row a % 4 = 1) = false := decide_eq_false hw
    have pl : ∀ S, gMod S (.d (.int (g0 row (a + 1)))) (.d (.int ((t.length : Int) + 1))) = .ok (.d (.int (g0 row (a + 1) % ((t.length : Int) + 1)))) S := fun S => ev_mod (by omega)
    have hlt : (g0 row (a + 2) % 67).toNat < bads.length := by rw [bads_len]; omega
    have m67 : ∀ S, gMod S (.d (.int (g0 row (a + 2)))) (.d (.int 67)) = .ok (.d (.int (g0 row (a + 2) % 67))) S := fun S => ev_mod (by omega)
    have bx : ∀ S, gIx S (.d (.str bads)) (.d (.int (g0 row (a + 2) % 67))) = .ok (.d (.str [bads.getD (g0 row (a + 2) % 67).toNat 0])) S := fun S => ixS (k := (g0 row (a + 2) % 67).toNat) (by rw [bads_len]; omega) (by rw [List.getD_eq_getElem?_getD, List.getElem?_eq_getElem hlt]; rfl) (by omega)
    have bl : ∀ S, gLen S [.d (.str bads)] = .ok (.d (.int 67)) S := fun S => by rw [ev_lenS (by rw [bads_len]; omega), bads_len]; rfl
    have sl : ∀ S lo hi, gSl S (.d (.str t)) lo hi = .ok (.d (.str (cut t lo hi))) S := fun S lo hi => ev_slS (by omega)
    have cl : ∀ lo hi, (cut t lo hi).length ≤ 1000 := fun lo hi => Nat.le_trans cut_len (by omega)
    have ad1 : ∀ S lo hi x, gAdd S (.d (.str (cut t lo hi))) (.d (.str [x])) = .ok (.d (.str (cut t lo hi ++ [x]))) S := fun S lo hi x => ev_addS (by have := cl lo hi; simp; omega)
    have ad2 : ∀ S lo hi x l2 h2, gAdd S (.d (.str (cut t lo hi ++ [x]))) (.d (.str (cut t l2 h2))) = .ok (.d (.str (cut t lo hi ++ [x] ++ cut t l2 h2))) S := fun S lo hi x l2 h2 => ev_addS (by have := cl lo hi; have := cl l2 h2; simp only [List.length_append, List.length_singleton]; omega)
    have eb : ([32, 33, 34, 35, 36, 38, 39, 40, 41, 42, 43, 44, 45, 46, 47, 48, 49, 50, 51, 52, 53, 54, 55, 56, 57, 58, 59, 60, 61, 62, 63, 64, 65, 66, 67, 68, 69, 70, 71, 72, 73, 74, 75, 76, 77, 78, 79, 80, 81, 82, 83, 84, 85, 86, 87, 88, 89, 90, 91, 92, 93, 94, 95, 123, 124, 125, 126] : Cs) = bads := rfl
    rw [eb]
    revert bx bl
    generalize bads.getD (g0 row (a + 2) % 67).toNat 0 = bc
    generalize bads = B
    intro bx bl
    simp only [ev_sSeq]
    have c1 : ∀ X Y, sIf (dB (dOp gEq (dOp gMod (dCB gInt (dCons (dOp gIx (dVar 1) (dVar 2)) dNil)) (dC (.int 4))) (dC (.int 1)))) X sNext [some (.d (.str t)), some (.d (.lst (iL row))), some (.d (.int a)), none, none] Y = .nx [some (.d (.str t)), some (.d (.lst (iL row))), some (.d (.int a)), none, none] Y := fun X Y => by
      simp [ra, m4, hw]
    rw [c1, ev_nx]
    simp [ra1, ra2, pl, m67, bx, bl, sl, ad1, ad2, show t.length ≤ 16777216 by omega]
end Dl

namespace Dl
open PySem PySem.Spec L2
/-! ### law -/
theorem badF_ok : ∀ (t : Cs) (k : Nat), k + t.length ≤ 60 → (∀ c ∈ t, c ∈ lettersD) → badF 60 k t = -1
  | [], k, _, _ => rfl
  | c :: t, k, h, hm => by
    unfold badF
    rw [List.length_cons] at h
    rw [if_neg (by
      rintro (z | z)
      · omega
      · exact z (hm c List.mem_cons_self))]
    exact badF_ok t (k + 1) (by omega) fun d hd => hm d (List.mem_cons_of_mem _ hd)
theorem bad_ok {t : Cs} (h : t.length ≤ 60) (hm : ∀ c ∈ t, c ∈ lettersD) : bad t = -1 := badF_ok t 0 (by omega) hm
theorem ans_ok {a b : Cs} (ha : bad a = -1) (hb : bad b = -1) : ans a b = (told, dist a b) := by unfold ans; rw [if_pos ha, if_pos hb]
theorem ans_w (a b : Cs) : ∃ b0 v, ans a b = (wOf b0, v) := by
  unfold ans
  split
  · split
    · exact ⟨true, _, rfl⟩
    · exact ⟨false, _, rfl⟩
  · exact ⟨false, _, rfl⟩
theorem same_ans (a b : Cs) : M__law_same [pairD (ans a b), pairD (ans a b)] = okD (.bl true) := by
  obtain ⟨b0, v, h⟩ := ans_w a b
  rw [h]
  exact M__law_same_eq
theorem dist_self (a : Cs) : dist a a = 0 := by unfold dist; rw [lev_self]; rfl
theorem dist_symm (a b : Cs) : dist a b = dist b a := by unfold dist; rw [lev_symm]
theorem dist_zero {a b : Cs} : dist a b = 0 ↔ a = b := by
  unfold dist
  constructor
  · intro h
    have := lev_zero _ _ (show lev a.reverse b.reverse = 0 by omega)
    exact List.reverse_inj.mp this
  · rintro rfl
    rw [lev_self]; rfl
theorem dist_tri (a b c : Cs) : dist a c ≤ dist a b + dist c b := by
  have := lev_tri a.reverse b.reverse c.reverse
  unfold dist
  rw [lev_symm c.reverse b.reverse]
  omega
section
variable {E : En} {S S1 : Sto} {M : List D → MR}
/-- a call with a plain value and a list of one's own -/
theorem ev_callO {da : DA} {x y : D} {n : Nat} {l : List D} (h : da E S = .ok [.d x, .h n] S1) (h2 : S1[n]? = some (.own (.lst (l.map .d)))) (hl : l.length < 9000) (hM : M [x, .lst l] = okD y) : dCall M [] da E S = .ok (.d y) (S1.set n (.frz (.lst l))) := by
  have e1 : fz 9998 S1 (l.map .d) = some S1 := fz_d 9998 S1 l (by omega)
  have e2 : fz 10000 S1 [.d x, .h n] = some (S1.set n (.frz (.lst l))) := by
    show (match S1[n]? with
      | some (.frz _) => fz 9998 S1 []
      | some (.own o) => (fz 9998 S1 (obE o)).bind fun S2 => match S2[n]? with
        | some (.own o') => (resO S2 o').bind fun x => fz 9998 (S2.set n (.frz x)) []
        | some (.frz _) => fz 9998 S2 []
        | _ => none
      | _ => none) = _
    rw [h2]
    show (fz 9998 S1 (l.map .d)).bind _ = _
    rw [e1, Option.bind_some, h2]
    show (resO S1 (.lst (l.map .d))).bind _ = _
    rw [resL_ints, Option.bind_some]
    rfl
  have e3 : res.ress (S1.set n (.frz (.lst l))) [.d x, .h n] = some [x, .lst l] := by
    have : res (S1.set n (.frz (.lst l))) (.h n) = some (.lst l) := by
      show (match (S1.set n (.frz (.lst l)))[n]? with
        | some (.frz x) => some x
        | _ => none) = _
      rw [get_set h2]
    show (match some x, (match res (S1.set n (.frz (.lst l))) (.h n), res.ress (S1.set n (.frz (.lst l))) [] with
      | some x, some xs => some (x :: xs)
      | _, _ => none) with
      | some x, some xs => some (x :: xs)
      | _, _ => none) = _
    rw [this]
    rfl
  have e4 : argsD S1 [.d x, .h n] = some ([x, .lst l], S1.set n (.frz (.lst l))) := by
    unfold argsD
    rw [e2, Option.bind_some, e3]
    rfl
  unfold dCall
  rw [h, ev_bind_ok, e4]
  dsimp only
  rw [List.append_nil, hM]
  simp [shE]
theorem ev_dTru {d : DE} {b : Bool} (h : d E S = .ok (.d (.bl b)) S1) : dTru d E S = .ok b S1 := by
  unfold dTru; rw [h]; rfl
end
/-- asked against a list of one's own -/
theorem law_told {E : En} {i j : Nat} {a b : Cs} {z : Int} {dx : DE} (hi : E[i]? = some (some (.d (.str a)))) (hj : E[j]? = some (some (.d (.str b)))) (ha : a.length ≤ 1000) (hb : b.length ≤ 1000) (hz : ∀ S, dx E S = .ok (.d (.int z)) S) (hans : ans a b = (told, z)) (S : Sto) :
    ∃ S', dNot (dTru (dCall M__law_same [] (dCons (dCall M__law_asked [] (dCons (dVar i) (dCons (dVar j) dNil))) (dCons (dLst (dCons (dC (.str [116, 111, 108, 100])) (dCons dx dNil))) dNil)))) E S = .ok false S' := by
  have hA : dCall M__law_asked [] (dCons (dVar i) (dCons (dVar j) dNil)) E S = .ok (.d (pairD (ans a b))) S := ev_call (xs := [.str a, .str b]) (by simp [hi, hj]) (by simp) (M__law_asked_eq ⟨ha, hb⟩)
  have hl : dCons (dCall M__law_asked [] (dCons (dVar i) (dCons (dVar j) dNil))) (dCons (dLst (dCons (dC (.str [116, 111, 108, 100])) (dCons dx dNil))) dNil) E S = .ok [.d (pairD (ans a b)), .h S.length] (S ++ [.own (.lst [.d (.str told), .d (.int z)])]) := by
    simp [hA, hz]
    rfl
  have hc := ev_callO (M := M__law_same) (l := [.str told, .int z]) (y := .bl true) hl (by rw [get_new]; rfl) (by simp) (by
    rw [show D.lst [.str told, .int z] = pairD (ans a b) by rw [hans]]
    exact same_ans a b)
  exact ⟨_, by rw [ev_dNot, ev_dTru hc]; rfl⟩
/-- asked against what is due -/
theorem law_like {E : En} {S : Sto} {d1 d2 : DE} {a b : Cs} (h1 : ∀ S, d1 E S = .ok (.d (.str a)) S) (h2 : ∀ S, d2 E S = .ok (.d (.str b)) S) (ha : a.length ≤ 1000) (hb : b.length ≤ 1000) :
    dNot (dTru (dCall M__law_same [] (dCons (dCall M__law_asked [] (dCons d1 (dCons d2 dNil))) (dCons (dCall M__law_due [] (dCons d1 (dCons d2 dNil))) dNil)))) E S = .ok false S := by
  have hA : dCall M__law_asked [] (dCons d1 (dCons d2 dNil)) E S = .ok (.d (pairD (ans a b))) S := ev_call (xs := [.str a, .str b]) (by simp [h1, h2]) (by simp) (M__law_asked_eq ⟨ha, hb⟩)
  have hD : dCall M__law_due [] (dCons d1 (dCons d2 dNil)) E S = .ok (.d (pairD (ans a b))) S := ev_call (xs := [.str a, .str b]) (by simp [h1, h2]) (by simp) (M__law_due_eq ⟨ha, hb⟩)
  have hc : dCall M__law_same [] (dCons (dCall M__law_asked [] (dCons d1 (dCons d2 dNil))) (dCons (dCall M__law_due [] (dCons d1 (dCons d2 dNil))) dNil)) E S = .ok (.d (.bl true)) S := ev_call (xs := [pairD (ans a b), pairD (ans a b)]) (by simp [hA, hD]) (by simp) (same_ans a b)
  rw [ev_dNot, ev_dTru hc]; rfl
theorem lettersD_len : lettersD.length = 26 := rfl
def lt26 (x : Int) : Nat := lettersD.getD (x % 26).toNat 0
theorem lt26_lt (x : Int) : (x % 26).toNat < lettersD.length := by rw [lettersD_len]; omega
theorem lt26_mem (x : Int) : lt26 x ∈ lettersD := by
  unfold lt26
  rw [List.getD_eq_getElem?_getD, List.getElem?_eq_getElem (lt26_lt x)]
  exact List.getElem_mem (lt26_lt x)
theorem lt26_ix {S : Sto} (x : Int) : gIx S (.d (.str lettersD)) (.d (.int (x % 26))) = .ok (.d (.str [lt26 x])) S := ixS (k := (x % 26).toNat) (by rw [lettersD_len]; omega) (by unfold lt26; rw [List.getD_eq_getElem?_getD, List.getElem?_eq_getElem (lt26_lt x)]; rfl) (by omega)
def poolOf (row : List Int) : Cs := cut [lt26 (g0 row 0), lt26 (g0 row 1), lt26 (g0 row 2)] none (some (1 + g0 row 3 % 3))
theorem pool_len (row : List Int) : 0 < (poolOf row).length ∧ (poolOf row).length ≤ 3 := by
  refine ⟨?_, cut_len⟩
  obtain ⟨k, hk⟩ : ∃ k : Nat, 1 + g0 row 3 % 3 = (k : Nat) := ⟨(1 + g0 row 3 % 3).toNat, by omega⟩
  unfold poolOf cut
  rw [hk, HT.sIx_nat, HT.sIx_none, List.length_take, List.length_drop]
  simp
  omega
theorem pool_mem (row : List Int) : ∀ c ∈ poolOf row, c ∈ lettersD := fun c h => by
  have := cut_mem c h
  simp at this
  rcases this with rfl | rfl | rfl <;> exact lt26_mem _
noncomputable def M_law : List D → MR := mkM (fun ns : List Int => [.lst (iL ns)]) (fun _ => True) fun _ => okD (.bl true)
theorem M_law_true : ∀ ns : List Int, ns.length ≤ 63 → M_law [.lst (ns.map D.int)] = okD (.bl true) := fun ns _ => mkM_eq (dec := fun ns : List Int => [D.lst (iL ns)]) (x := ns) (fun x y h => iL_inj _ _ (D.lst.inj (List.cons.inj h).1)) trivial
theorem M_law_len : ∀ ds : List D, (match M_law ds with | .no => False | _ => True) → ds.length = 1 := mkM_len fun _ => rfl
theorem law_if {c : DT} {b : DE} {E : En} {S : Sto} (h : ∃ S', c E S = .ok false S') : ∃ S', sIf c (sRet b) sNext E S = .nx E S' := by
  obtain ⟨S', h⟩ := h
  exact ⟨S', by rw [ev_sIf, h]; rfl⟩
theorem or_false {c d : DT} {E : En} {S : Sto} (h : ∃ S', c E S = .ok false S') (k : ∀ S, ∃ S', d E S = .ok false S') : ∃ S', dOr c d E S = .ok false S' := by
  obtain ⟨S', h⟩ := h
  obtain ⟨S2, k⟩ := k S'
  exact ⟨S2, by rw [ev_dOr, h, ev_bind_ok, if_neg Bool.false_ne_true, k]⟩
theorem ixT {S : Sto} {ds : List D} {k : Nat} {d : D} {i : Int} (h : ds[k]? = some d) (hi : i = (k : Nat)) : gIx S (.d (.tup ds)) (.d (.int i)) = .ok (.d d) S := by
  subst hi
  exact ev_ixQ asQ_u (atI_pos (by rw [List.getElem?_map, h]; rfl))
/-- both loops at the end: every turn goes on -/
theorem forG_all {g : DG} {b : DS} {n : Nat} {es : List E} {S : Sto} (hS : S[n]? = some (.own (.lst es))) (P : En → Prop) (step : ∀ x ∈ es, ∀ E, P E → ∃ E1, g x E = some E1 ∧ ∃ E2, b E1 S = .nx E2 S ∧ P E2) :
    ∀ (xs : List E) (E : En), (∀ x ∈ xs, x ∈ es) → P E → ∃ E2, forG g b n es xs E S = .nx E2 S ∧ P E2
  | [], E, _, h => ⟨E, forG_nil hS, h⟩
  | x :: xs, E, hm, h => by
    obtain ⟨E1, h1, E2, h2, h3⟩ := step x (hm x List.mem_cons_self) E h
    rw [forG_nx hS h1 h2]
    exact forG_all hS P step xs E2 (fun y hy => hm y (List.mem_cons_of_mem _ hy)) h3
theorem M_law_le : ∀ ds : List D, ds.length = 1 → MLe (M_law ds) (finD (d_law M__law_row M__law_word M__law_edited M__law_table M__law_same M__law_asked M__law_due M_text_distance M__law_spoilt (en0 ds 11) [])) := mkM_le fun ns _ => by
  obtain ⟨row, hrow, hlen⟩ : ∃ row, M__law_row [.lst (iL ns), .int 260] = okD (.lst (iL row)) ∧ row.length = 260 :=
    ⟨lawRow ns 260, mkM_eq (dec := fun p : List Int × Nat => [D.lst (iL p.1), .int p.2]) (x := (ns, 260)) (fun x y h => by
      obtain ⟨a, b⟩ := x
      obtain ⟨c, d⟩ := y
      have h1 : a = c := iL_inj _ _ (D.lst.inj (List.cons.inj h).1)
      have h2 : ((b : Nat) : Int) = d := D.int.inj (List.cons.inj (List.cons.inj h).2).1
      have h3 : b = d := by omega
      rw [h1, h3]) (show 260 ≤ 1000 by omega), lawRow_len ns 260⟩
  obtain ⟨pl1, pl2⟩ := pool_len row
  have pm := pool_mem row
  have rx : ∀ (k : Nat) (i : Int) S, k < 260 → i = (k : Nat) → gIx S (.d (.lst (iL row))) (.d (.int i)) = .ok (.d (.int (g0 row k))) S := fun k i S hk hi => ixR (by omega) hi
  -- the three texts
  obtain ⟨t1, ht1⟩ : ∃ t, t = word row 10 (poolOf row) := ⟨_, rfl⟩
  obtain ⟨t2, ht2⟩ : ∃ t, t = (if g0 row 4 % 4 = 1 then word row 100 (poolOf row) else edited t1 row 74 (poolOf row)) := ⟨_, rfl⟩
  obtain ⟨t3, ht3⟩ : ∃ t, t = word row 164 (poolOf row) := ⟨_, rfl⟩
  have l1 : t1.length ≤ 60 := by rw [ht1]; exact word_len _ _ _
  have l3 : t3.length ≤ 60 := by rw [ht3]; exact word_len _ _ _
  have l2 : t2.length ≤ 60 := by rw [ht2]; split; exact word_len _ _ _; exact edited_len
  have m1 : ∀ c ∈ t1, c ∈ lettersD := fun c h => by rw [ht1] at h; exact pm c (word_mem pl1 c h)
  have m3 : ∀ c ∈ t3, c ∈ lettersD := fun c h => by rw [ht3] at h; exact pm c (word_mem pl1 c h)
  have m2 : ∀ c ∈ t2, c ∈ lettersD := fun c h => by
    rw [ht2] at h
    split at h
    · exact pm c (word_mem pl1 c h)
    · rcases edited_mem pl1 c h with h | h
      · exact m1 c h
      · exact pm c h
  have b1 := bad_ok l1 m1
  have b2 := bad_ok l2 m2
  have b3 := bad_ok l3 m3
  obtain ⟨s1, hs1⟩ : ∃ t, t = spoilt t1 row 240 := ⟨_, rfl⟩
  obtain ⟨s3, hs3⟩ : ∃ t, t = spoilt t3 row 244 := ⟨_, rfl⟩
  have k1 : s1.length ≤ 1000 := by rw [hs1]; exact spoilt_len l1
  have k3 : s3.length ≤ 1000 := by rw [hs3]; exact spoilt_len l3
  -- the calls
  have cw1 : M__law_word [.lst (iL row), .int 10, .str (poolOf row)] = okD (.str t1) := by rw [ht1]; exact M__law_word_eq (a := 10) ⟨by omega, pl1, by omega⟩
  have cw2 : M__law_word [.lst (iL row), .int 100, .str (poolOf row)] = okD (.str (word row 100 (poolOf row))) := M__law_word_eq (a := 100) ⟨by omega, pl1, by omega⟩
  have cw3 : M__law_word [.lst (iL row), .int 164, .str (poolOf row)] = okD (.str t3) := by rw [ht3]; exact M__law_word_eq (a := 164) ⟨by omega, pl1, by omega⟩
  have ced : M__law_edited [.str t1, .lst (iL row), .int 74, .str (poolOf row)] = okD (.str (edited t1 row 74 (poolOf row))) := M__law_edited_eq (a := 74) ⟨l1, by omega, pl1, by omega⟩
  have cs1 : M__law_spoilt [.str t1, .lst (iL row), .int 240] = okD (.str s1) := by rw [hs1]; exact M__law_spoilt_eq (a := 240) ⟨l1, by omega⟩
  have cs3 : M__law_spoilt [.str t3, .lst (iL row), .int 244] = okD (.str s3) := by rw [hs3]; exact M__law_spoilt_eq (a := 244) ⟨l3, by omega⟩
  have ctb : M__law_table [.str t1, .str t2] = okD (.int (dist t1 t2)) := M__law_table_eq ⟨by omega, by omega⟩
  have ctd : ∀ u v : Cs, u.length ≤ 60 → v.length ≤ 60 → bad u = -1 → bad v = -1 → M_text_distance [.str u, .str v] = okD (.int (dist u v)) := fun u v hu hv h1 h2 => by rw [M_td ⟨by omega, by omega⟩, if_pos h1, if_pos h2]
  show okD (.bl true) = _
  have e0 : en0 [D.lst (iL ns)] 11 = [some (.d (.lst (iL ns))), none, none, none, none, none, none, none, none, none, none, none] := rfl
  rw [e0]
  unfold d_law
  rw [← lettersD_eq]
  -- row, letters, pool
  have p1 : dCall M__law_row [] (dCons (dVar 0) (dCons (dC (.int 260)) dNil)) [some (.d (.lst (iL ns))), none, none, none, none, none, none, none, none, none, none, none] [] = .ok (.d (.lst (iL row))) [] := ev_call (xs := [.lst (iL ns), .int 260]) (by simp) (by simp) hrow
  rw [ev_sSeq, ev_sSet, p1, ev_st_ok, ev_nx]
  simp only [List.set_cons_succ, List.set_cons_zero]
  rw [ev_sSeq, ev_sSet, ev_dC, ev_st_ok, ev_nx]
  simp only [List.set_cons_succ, List.set_cons_zero]
  have p3 : dOp gAdd (dOp gAdd (dOp gIx (dVar 2) (dOp gMod (dCB gInt (dCons (dOp gIx (dVar 1) (dC (.int 0))) dNil)) (dC (.int 26)))) (dOp gIx (dVar 2) (dOp gMod (dCB gInt (dCons (dOp gIx (dVar 1) (dC (.int 1))) dNil)) (dC (.int 26))))) (dOp gIx (dVar 2) (dOp gMod (dCB gInt (dCons (dOp gIx (dVar 1) (dC (.int 2))) dNil)) (dC (.int 26)))) [some (.d (.lst (iL ns))), some (.d (.lst (iL row))), some (.d (.str lettersD)), none, none, none, none, none, none, none, none, none] [] = .ok (.d (.str [lt26 (g0 row 0), lt26 (g0 row 1), lt26 (g0 row 2)])) [] := by
    simp [rx 0 0 [] (by omega) rfl, rx 1 1 [] (by omega) rfl, rx 2 2 [] (by omega) rfl, lt26_ix]
  rw [ev_sSeq, ev_sSet, p3, ev_st_ok, ev_nx]
  simp only [List.set_cons_succ, List.set_cons_zero]
  have p4 : dSl (dVar 3) dNoPart (dPart (dOp gAdd (dC (.int 1)) (dOp gMod (dCB gInt (dCons (dOp gIx (dVar 1) (dC (.int 3))) dNil)) (dC (.int 3))))) [some (.d (.lst (iL ns))), some (.d (.lst (iL row))), some (.d (.str lettersD)), some (.d (.str [lt26 (g0 row 0), lt26 (g0 row 1), lt26 (g0 row 2)])), none, none, none, none, none, none, none, none] [] = .ok (.d (.str (poolOf row))) [] := by
    simp [rx 3 3 [] (by omega) rfl, ev_slS, poolOf]
  rw [ev_sSeq, ev_sSet, p4, ev_st_ok, ev_nx]
  simp only [List.set_cons_succ, List.set_cons_zero]
  have p5 : dCall M__law_word [] (dCons (dVar 1) (dCons (dC (.int 10)) (dCons (dVar 3) dNil))) [some (.d (.lst (iL ns))), some (.d (.lst (iL row))), some (.d (.str lettersD)), some (.d (.str (poolOf row))), none, none, none, none, none, none, none, none] [] = .ok (.d (.str t1)) [] := ev_call (xs := [.lst (iL row), .int 10, .str (poolOf row)]) (by simp) (by simp) cw1
  rw [ev_sSeq, ev_sSet, p5, ev_st_ok, ev_nx]
  simp only [List.set_cons_succ, List.set_cons_zero]
  have p6 : dCall M__law_edited [] (dCons (dVar 4) (dCons (dVar 1) (dCons (dC (.int 74)) (dCons (dVar 3) dNil)))) [some (.d (.lst (iL ns))), some (.d (.lst (iL row))), some (.d (.str lettersD)), some (.d (.str (poolOf row))), some (.d (.str t1)), none, none, none, none, none, none, none] [] = .ok (.d (.str (edited t1 row 74 (poolOf row)))) [] := ev_call (xs := [.str t1, .lst (iL row), .int 74, .str (poolOf row)]) (by simp) (by simp) ced
  rw [ev_sSeq, ev_sSet, p6, ev_st_ok, ev_nx]
  simp only [List.set_cons_succ, List.set_cons_zero]
  have p7 : sIf (dB (dOp gEq (dOp gMod (dCB gInt (dCons (dOp gIx (dVar 1) (dC (.int 4))) dNil)) (dC (.int 4))) (dC (.int 1)))) (sSet 5 (dCall M__law_word [] (dCons (dVar 1) (dCons (dC (.int 100)) (dCons (dVar 3) dNil))))) sNext [some (.d (.lst (iL ns))), some (.d (.lst (iL row))), some (.d (.str lettersD)), some (.d (.str (poolOf row))), some (.d (.str t1)), some (.d (.str (edited t1 row 74 (poolOf row)))), none, none, none, none, none, none] [] = .nx [some (.d (.lst (iL ns))), some (.d (.lst (iL row))), some (.d (.str lettersD)), some (.d (.str (poolOf row))), some (.d (.str t1)), some (.d (.str t2)), none, none, none, none, none, none] [] := by
    have q : dCall M__law_word [] (dCons (dVar 1) (dCons (dC (.int 100)) (dCons (dVar 3) dNil))) [some (.d (.lst (iL ns))), some (.d (.lst (iL row))), some (.d (.str lettersD)), some (.d (.str (poolOf row))), some (.d (.str t1)), some (.d (.str (edited t1 row 74 (poolOf row)))), none, none, none, none, none, none] [] = .ok (.d (.str (word row 100 (poolOf row)))) [] := ev_call (xs := [.lst (iL row), .int 100, .str (poolOf row)]) (by simp) (by simp) cw2
    by_cases h : g0 row 4 % 4 = 1
    · rw [ht2, if_pos h]
      simp [rx 4 4 [] (by omega) rfl, h, q]
    · rw [ht2, if_neg h]
      simp [rx 4 4 [] (by omega) rfl, h]
  rw [ev_sSeq, p7, ev_nx]
  have p8 : dCall M__law_word [] (dCons (dVar 1) (dCons (dC (.int 164)) (dCons (dVar 3) dNil))) [some (.d (.lst (iL ns))), some (.d (.lst (iL row))), some (.d (.str lettersD)), some (.d (.str (poolOf row))), some (.d (.str t1)), some (.d (.str t2)), none, none, none, none, none, none] [] = .ok (.d (.str t3)) [] := ev_call (xs := [.lst (iL row), .int 164, .str (poolOf row)]) (by simp) (by simp) cw3
  rw [ev_sSeq, ev_sSet, p8, ev_st_ok, ev_nx]
  simp only [List.set_cons_succ, List.set_cons_zero]
  have p9 : dCall M__law_table [] (dCons (dVar 4) (dCons (dVar 5) dNil)) [some (.d (.lst (iL ns))), some (.d (.lst (iL row))), some (.d (.str lettersD)), some (.d (.str (poolOf row))), some (.d (.str t1)), some (.d (.str t2)), some (.d (.str t3)), none, none, none, none, none] [] = .ok (.d (.int (dist t1 t2))) [] := ev_call (xs := [.str t1, .str t2]) (by simp) (by simp) ctb
  rw [ev_sSeq, ev_sSet, p9, ev_st_ok, ev_nx]
  simp only [List.set_cons_succ, List.set_cons_zero]
  clear p1 p3 p4 p5 p6 p7 p8 p9
  obtain ⟨E, hE⟩ : ∃ E : En, E = [some (.d (.lst (iL ns))), some (.d (.lst (iL row))), some (.d (.str lettersD)), some (.d (.str (poolOf row))), some (.d (.str t1)), some (.d (.str t2)), some (.d (.str t3)), some (.d (.int (dist t1 t2))), none, none, none, none] := ⟨_, rfl⟩
  rw [← hE]
  have v4 : E[4]? = some (some (.d (.str t1))) := by rw [hE]; rfl
  have v5 : E[5]? = some (some (.d (.str t2))) := by rw [hE]; rfl
  have v6 : E[6]? = some (some (.d (.str t3))) := by rw [hE]; rfl
  have v7 : E[7]? = some (some (.d (.int (dist t1 t2)))) := by rw [hE]; rfl
  obtain ⟨S1, q1⟩ := law_if (b := dC (.bl false)) (or_false (law_told (z := dist t1 t2) (dx := dVar 7) v4 v5 (by omega) (by omega) (fun S => by simp [v7]) (ans_ok b1 b2) []) fun S => law_told (z := dist t1 t2) (dx := dVar 7) v5 v4 (by omega) (by omega) (fun S => by simp [v7]) (by rw [ans_ok b2 b1, dist_symm]) S)
  rw [ev_sSeq, q1, ev_nx]
  have hz : (dB (dOp gNe (dOp gEq (dVar 7) (dC (.int 0))) (dOp gEq (dVar 4) (dVar 5)))) E S1 = .ok false S1 := by
    have hd : decide (dist t1 t2 = 0) = decide (t1 = t2) := by rw [decide_eq_decide]; exact dist_zero
    simp [v4, v5, v7, hd]
  obtain ⟨S2, q2⟩ := law_if (b := dC (.bl false)) (or_false ⟨S1, hz⟩ fun S => law_told (z := 0) (dx := dC (.int 0)) v4 v4 (by omega) (by omega) (fun S => by simp) (by rw [ans_ok b1 b1, dist_self]) S)
  rw [ev_sSeq, q2, ev_nx]
  -- the first loop
  have w1 : dLst (dCons (dVar 4) (dCons (dVar 5) dNil)) E S2 = .ok (.h S2.length) (S2 ++ [.own (.lst [.d (.str t1), .d (.str t2)])]) := by simp [v4, v5]
  have loop1 : ∃ E2, forG (oName 8) (d_law_1 M__law_row M__law_word M__law_edited M__law_table M__law_same M__law_asked M__law_due M_text_distance M__law_spoilt) S2.length [.d (.str t1), .d (.str t2)] [.d (.str t1), .d (.str t2)] E (S2 ++ [.own (.lst [.d (.str t1), .d (.str t2)])]) = .nx E2 (S2 ++ [.own (.lst [.d (.str t1), .d (.str t2)])]) ∧ ∃ o, E2 = E.set 8 o := by
    refine forG_all get_new (fun E2 => ∃ o, E2 = E.set 8 o) (fun x hx E1 hE1 => ?_) _ E (fun x h => h) ⟨none, by rw [hE]; rfl⟩
    obtain ⟨o, rfl⟩ := hE1
    have hxs : ∃ u : Cs, x = .d (.str u) ∧ u.length ≤ 60 := by
      simp at hx
      rcases hx with rfl | rfl
      · exact ⟨t1, rfl, l1⟩
      · exact ⟨t2, rfl, l2⟩
    obtain ⟨u, rfl, hu⟩ := hxs
    refine ⟨_, rfl, (E.set 8 o).set 8 (some (.d (.str u))), ?_, some (.d (.str u)), by rw [List.set_set]⟩
    have y8 : ∀ S, dVar 8 ((E.set 8 o).set 8 (some (.d (.str u)))) S = .ok (.d (.str u)) S := fun S => by rw [hE]; simp
    have y6 : ∀ S, dVar 6 ((E.set 8 o).set 8 (some (.d (.str u)))) S = .ok (.d (.str t3)) S := fun S => by rw [hE]; simp
    unfold d_law_1
    rw [ev_sIf, law_like y8 y6 (by omega) (by omega)]
    rfl
  obtain ⟨E2, q3, o, rfl⟩ := loop1
  rw [ev_sSeq, ev_forOwn w1 (get_new (S := S2)), q3, ev_nx]
  generalize (S2 ++ [Cell.own (.lst [.d (.str t1), .d (.str t2)])]) = S3
  have hE2 : E.set 8 o = [some (.d (.lst (iL ns))), some (.d (.lst (iL row))), some (.d (.str lettersD)), some (.d (.str (poolOf row))), some (.d (.str t1)), some (.d (.str t2)), some (.d (.str t3)), some (.d (.int (dist t1 t2))), o, none, none, none] := by rw [hE]; rfl
  rw [hE2]
  clear q1 q2 q3 w1 hE2 v4 v5 v6 v7 hz hE
  have c1 : ∀ S, dCall M_text_distance [] (dCons (dVar 4) (dCons (dVar 6) dNil)) [some (.d (.lst (iL ns))), some (.d (.lst (iL row))), some (.d (.str lettersD)), some (.d (.str (poolOf row))), some (.d (.str t1)), some (.d (.str t2)), some (.d (.str t3)), some (.d (.int (dist t1 t2))), o, none, none, none] S = .ok (.d (.int (dist t1 t3))) S := fun S => ev_call (xs := [.str t1, .str t3]) (by simp) (by simp) (ctd t1 t3 l1 l3 b1 b3)
  have c2 : ∀ S, dCall M_text_distance [] (dCons (dVar 6) (dCons (dVar 5) dNil)) [some (.d (.lst (iL ns))), some (.d (.lst (iL row))), some (.d (.str lettersD)), some (.d (.str (poolOf row))), some (.d (.str t1)), some (.d (.str t2)), some (.d (.str t3)), some (.d (.int (dist t1 t2))), o, none, none, none] S = .ok (.d (.int (dist t3 t2))) S := fun S => ev_call (xs := [.str t3, .str t2]) (by simp) (by simp) (ctd t3 t2 l3 l2 b3 b2)
  have q4 : sIf (dB (dOp gGt (dCall M_text_distance [] (dCons (dVar 4) (dCons (dVar 6) dNil))) (dOp gAdd (dVar 7) (dCall M_text_distance [] (dCons (dVar 6) (dCons (dVar 5) dNil)))))) (sRet (dC (.bl false))) sNext [some (.d (.lst (iL ns))), some (.d (.lst (iL row))), some (.d (.str lettersD)), some (.d (.str (poolOf row))), some (.d (.str t1)), some (.d (.str t2)), some (.d (.str t3)), some (.d (.int (dist t1 t2))), o, none, none, none] S3 = .nx [some (.d (.lst (iL ns))), some (.d (.lst (iL row))), some (.d (.str lettersD)), some (.d (.str (poolOf row))), some (.d (.str t1)), some (.d (.str t2)), some (.d (.str t3)), some (.d (.int (dist t1 t2))), o, none, none, none] S3 := by
    have ht := dist_tri t1 t2 t3
    have hn : ¬ (dist t1 t2 + dist t3 t2 < dist t1 t3) := by omega
    simp [c1, c2, hn]
  rw [ev_sSeq, q4, ev_nx]
  have p9 : dCall M__law_spoilt [] (dCons (dVar 4) (dCons (dVar 1) (dCons (dC (.int 240)) dNil))) [some (.d (.lst (iL ns))), some (.d (.lst (iL row))), some (.d (.str lettersD)), some (.d (.str (poolOf row))), some (.d (.str t1)), some (.d (.str t2)), some (.d (.str t3)), some (.d (.int (dist t1 t2))), o, none, none, none] S3 = .ok (.d (.str s1)) S3 := ev_call (xs := [.str t1, .lst (iL row), .int 240]) (by simp) (by simp) cs1
  rw [ev_sSeq, ev_sSet, p9, ev_st_ok, ev_nx]
  simp only [List.set_cons_succ, List.set_cons_zero]
  have p10 : dCall M__law_spoilt [] (dCons (dVar 6) (dCons (dVar 1) (dCons (dC (.int 244)) dNil))) [some (.d (.lst (iL ns))), some (.d (.lst (iL row))), some (.d (.str lettersD)), some (.d (.str (poolOf row))), some (.d (.str t1)), some (.d (.str t2)), some (.d (.str t3)), some (.d (.int (dist t1 t2))), o, some (.d (.str s1)), none, none] S3 = .ok (.d (.str s3)) S3 := ev_call (xs := [.str t3, .lst (iL row), .int 244]) (by simp) (by simp) cs3
  rw [ev_sSeq, ev_sSet, p10, ev_st_ok, ev_nx]
  simp only [List.set_cons_succ, List.set_cons_zero]
  clear p9 p10 q4 c1 c2
  obtain ⟨E, hE⟩ : ∃ E : En, E = [some (.d (.lst (iL ns))), some (.d (.lst (iL row))), some (.d (.str lettersD)), some (.d (.str (poolOf row))), some (.d (.str t1)), some (.d (.str t2)), some (.d (.str t3)), some (.d (.int (dist t1 t2))), o, some (.d (.str s1)), some (.d (.str s3)), none] := ⟨_, rfl⟩
  rw [← hE]
  have w2 : dLst (dCons (dTup (dCons (dVar 9) (dCons (dVar 5) dNil))) (dCons (dTup (dCons (dVar 5) (dCons (dVar 9) dNil))) (dCons (dTup (dCons (dVar 9) (dCons (dVar 10) dNil))) (dCons (dTup (dCons (dVar 10) (dCons (dVar 9) dNil))) dNil)))) E S3 = .ok (.h S3.length) (S3 ++ [.own (.lst [.d (.tup [.str s1, .str t2]), .d (.tup [.str t2, .str s1]), .d (.tup [.str s1, .str s3]), .d (.tup [.str s3, .str s1])])]) := by
    rw [hE]
    simp [newU, mkU2]
  have loop2 : ∃ E2, forG (oName 11) (d_law_2 M__law_row M__law_word M__law_edited M__law_table M__law_same M__law_asked M__law_due M_text_distance M__law_spoilt) S3.length [.d (.tup [.str s1, .str t2]), .d (.tup [.str t2, .str s1]), .d (.tup [.str s1, .str s3]), .d (.tup [.str s3, .str s1])] [.d (.tup [.str s1, .str t2]), .d (.tup [.str t2, .str s1]), .d (.tup [.str s1, .str s3]), .d (.tup [.str s3, .str s1])] E (S3 ++ [.own (.lst [.d (.tup [.str s1, .str t2]), .d (.tup [.str t2, .str s1]), .d (.tup [.str s1, .str s3]), .d (.tup [.str s3, .str s1])])]) = .nx E2 (S3 ++ [.own (.lst [.d (.tup [.str s1, .str t2]), .d (.tup [.str t2, .str s1]), .d (.tup [.str s1, .str s3]), .d (.tup [.str s3, .str s1])])]) ∧ ∃ o, E2 = E.set 11 o := by
    refine forG_all get_new (fun E2 => ∃ o, E2 = E.set 11 o) (fun x hx E1 hE1 => ?_) _ E (fun x h => h) ⟨none, by rw [hE]; rfl⟩
    obtain ⟨o2, rfl⟩ := hE1
    have hxs : ∃ u v : Cs, x = .d (.tup [.str u, .str v]) ∧ u.length ≤ 1000 ∧ v.length ≤ 1000 := by
      simp at hx
      rcases hx with rfl | rfl | rfl | rfl
      · exact ⟨s1, t2, rfl, k1, by omega⟩
      · exact ⟨t2, s1, rfl, by omega, k1⟩
      · exact ⟨s1, s3, rfl, k1, k3⟩
      · exact ⟨s3, s1, rfl, k3, k1⟩
    obtain ⟨u, v, rfl, hu, hv⟩ := hxs
    refine ⟨_, rfl, (E.set 11 o2).set 11 (some (.d (.tup [.str u, .str v]))), ?_, some (.d (.tup [.str u, .str v])), by rw [List.set_set]⟩
    have g0' : ∀ S, gIx S (.d (.tup [.str u, .str v])) (.d (.int 0)) = .ok (.d (.str u)) S := fun S => ixT (k := 0) rfl rfl
    have g1' : ∀ S, gIx S (.d (.tup [.str u, .str v])) (.d (.int 1)) = .ok (.d (.str v)) S := fun S => ixT (k := 1) rfl rfl
    have y0 : ∀ S, dOp gIx (dVar 11) (dC (.int 0)) ((E.set 11 o2).set 11 (some (.d (.tup [.str u, .str v])))) S = .ok (.d (.str u)) S := fun S => by rw [hE]; simp [g0']
    have y1 : ∀ S, dOp gIx (dVar 11) (dC (.int 1)) ((E.set 11 o2).set 11 (some (.d (.tup [.str u, .str v])))) S = .ok (.d (.str v)) S := fun S => by rw [hE]; simp [g1']
    unfold d_law_2
    rw [ev_sIf, law_like y0 y1 hu hv]
    rfl
  obtain ⟨E2, q5, o2, rfl⟩ := loop2
  rw [ev_sSeq, ev_forOwn w2 (get_new (S := S3)), q5, ev_nx]
  simp
end Dl

namespace Dl
open PySem PySem.Spec PyProof.Rows L2
abbrev prg : Program := PySem.Challenge.pw_pathsandchances_k44_distances_of_texts
abbrev ti_BadText : Stmt := L2.inClass (topS 2) 0
theorem si_sc_BadText : ScS ["self", "place"] ["self", "place"] (L2.defScope ti_BadText) := ⟨rfl, rfl, rfl, by decide +kernel, rfl, by decide +kernel, by decide +kernel, by decide +kernel, by decide +kernel, by decide +kernel⟩
def spLaw (K : PySem.W.Frag) : Sp := fun vs H Q _ => ∃ (a : Addr) (ns : List Int), vs = [.ref a] ∧ SqL K H a (ns.map V.int) ∧ ns.length ≤ 63 ∧ ∀ H', Q (.bl true) H'
theorem all_mk {w : World} {K : PySem.W.Frag} {h : Heap} {mg : Str → Option Value} {fa A_Fault A_BadText A_TooMany f_bad_letter f_check_text f_letter_changes f_text_distance f__law_row f__law_same f__law_word f__law_edited f__law_table f__law_asked f__law_bad_place f__law_due f__law_spoilt f_law T_check_text fI_BadText ca_BadText cc_BadText : Addr} {oc_bad_letter kV_bad_letter dc_bad_letter pm_bad_letter cd_bad_letter ct_bad_letter oc_check_text kV_check_text dc_check_text pm_check_text cd_check_text ct_check_text oc_letter_changes kV_letter_changes dc_letter_changes pm_letter_changes cd_letter_changes ct_letter_changes oc_text_distance kV_text_distance dc_text_distance pm_text_distance cd_text_distance ct_text_distance oc__law_row kV__law_row dc__law_row pm__law_row cd__law_row ct__law_row oc__law_same kV__law_same dc__law_same pm__law_same cd__law_same ct__law_same oc__law_word kV__law_word dc__law_word pm__law_word cd__law_word ct__law_word oc__law_edited kV__law_edited dc__law_edited pm__law_edited cd__law_edited ct__law_edited oc__law_table kV__law_table dc__law_table pm__law_table cd__law_table ct__law_table oc__law_asked kV__law_asked dc__law_asked pm__law_asked cd__law_asked ct__law_asked oc__law_bad_place kV__law_bad_place dc__law_bad_place pm__law_bad_place cd__law_bad_place ct__law_bad_place oc__law_due kV__law_due dc__law_due pm__law_due cd__law_due ct__law_due oc__law_spoilt kV__law_spoilt dc__law_spoilt pm__law_spoilt cd__law_spoilt ct__law_spoilt oc_law kV_law dc_law pm_law cd_law ct_law : Value} {od_bad_letter an_bad_letter od_check_text an_check_text od_letter_changes an_letter_changes od_text_distance an_text_distance od__law_row an__law_row od__law_same an__law_same od__law_word an__law_word od__law_edited an__law_edited od__law_table an__law_table od__law_asked an__law_asked od__law_bad_place an__law_bad_place od__law_due an__law_due od__law_spoilt an__law_spoilt od_law an_law : Option Addr} {sl_bad_letter sl_check_text sl_letter_changes sl_text_distance sl__law_row sl__law_same sl__law_word sl__law_edited sl__law_table sl__law_asked sl__law_bad_place sl__law_due sl__law_spoilt sl_law : Array (Option Value)} {tc_check_text : Value} {td_check_text : Option Addr} {tn_check_text : Nat} {tt_check_text_0 : Tok} {ts_check_text : Array (Option Value)} {nm_BadText qn_BadText fl_BadText : Str} {N_BadText : Addr} {bs_BadText bm_BadText sub_BadText : List Value} {sn_BadText : List Str} {ab_BadText : Bool} {col_BadText : Option Bool} {dd_BadText od_BadText an_BadText ed_BadText cD_BadText : Option Addr} {k0_BadText k1_BadText k2_BadText k3_BadText k5_BadText : Option Value} {oc_BadText kV_BadText dc_BadText pm_BadText ct_BadText ec_BadText cC_BadText : Value} {sl_BadText es_BadText cS_BadText : Array (Option Value)} {vs_BadText : Array Value} {ft_BadText : Tok} {tk_L : Tok} (X : K.In h) (G : h.Ns mainGlobals mg) (hfa : mg "law" = some (.ref fa))
    (aC_Fault : PySem.W.nsIn K mainGlobals "Fault" = some (some (.ref A_Fault)))
    (aC_BadText : PySem.W.nsIn K mainGlobals "BadText" = some (some (.ref A_BadText)))
    (aC_TooMany : PySem.W.nsIn K mainGlobals "TooMany" = some (some (.ref A_TooMany)))
    (a_bad_letter : PySem.W.nsIn K mainGlobals "bad_letter" = some (some (.ref f_bad_letter)))
    (a_check_text : PySem.W.nsIn K mainGlobals "check_text" = some (some (.ref f_check_text)))
    (a_letter_changes : PySem.W.nsIn K mainGlobals "letter_changes" = some (some (.ref f_letter_changes)))
    (a_text_distance : PySem.W.nsIn K mainGlobals "text_distance" = some (some (.ref f_text_distance)))
    (a__law_row : PySem.W.nsIn K mainGlobals "_law_row" = some (some (.ref f__law_row)))
    (a__law_same : PySem.W.nsIn K mainGlobals "_law_same" = some (some (.ref f__law_same)))
    (a__law_word : PySem.W.nsIn K mainGlobals "_law_word" = some (some (.ref f__law_word)))
    (a__law_edited : PySem.W.nsIn K mainGlobals "_law_edited" = some (some (.ref f__law_edited)))
    (a__law_table : PySem.W.nsIn K mainGlobals "_law_table" = some (some (.ref f__law_table)))
    (a__law_asked : PySem.W.nsIn K mainGlobals "_law_asked" = some (some (.ref f__law_asked)))
    (a__law_bad_place : PySem.W.nsIn K mainGlobals "_law_bad_place" = some (some (.ref f__law_bad_place)))
    (a__law_due : PySem.W.nsIn K mainGlobals "_law_due" = some (some (.ref f__law_due)))
    (a__law_spoilt : PySem.W.nsIn K mainGlobals "_law_spoilt" = some (some (.ref f__law_spoilt)))
    (a_law : PySem.W.nsIn K mainGlobals "law" = some (some (.ref f_law)))
    (l_bad_letter : K.lookup f_bad_letter = some ⟨oc_bad_letter, od_bad_letter, .func (PySem.W.fnOf "bad_letter" "bad_letter" (L2.defArgs t_bad_letter) (L2.defBody t_bad_letter) (L2.defScope t_bad_letter) .none kV_bad_letter dc_bad_letter pm_bad_letter an_bad_letter cd_bad_letter ct_bad_letter), sl_bad_letter⟩)
    (c_bad_letter : PySem.W.codeIn K cd_bad_letter "bad_letter" = true)
    (kp_bad_letter : PySem.W.keepIn K (.ref f_bad_letter) = true)
    (l_check_text : K.lookup f_check_text = some ⟨oc_check_text, od_check_text, .func (PySem.W.fnOf "check_text" "check_text" (L2.defArgs t_check_text) (L2.defBody t_check_text) (L2.defScope t_check_text) (.ref T_check_text) kV_check_text dc_check_text pm_check_text an_check_text cd_check_text ct_check_text), sl_check_text⟩)
    (c_check_text : PySem.W.codeIn K cd_check_text "check_text" = true)
    (kp_check_text : PySem.W.keepIn K (.ref f_check_text) = true)
    (lT_check_text : K.lookup T_check_text = some ⟨tc_check_text, td_check_text, .seq #[.int 60 tt_check_text_0] tn_check_text, ts_check_text⟩)
    (l_letter_changes : K.lookup f_letter_changes = some ⟨oc_letter_changes, od_letter_changes, .func (PySem.W.fnOf "letter_changes" "letter_changes" (L2.defArgs t_letter_changes) (L2.defBody t_letter_changes) (L2.defScope t_letter_changes) .none kV_letter_changes dc_letter_changes pm_letter_changes an_letter_changes cd_letter_changes ct_letter_changes), sl_letter_changes⟩)
    (c_letter_changes : PySem.W.codeIn K cd_letter_changes "letter_changes" = true)
    (kp_letter_changes : PySem.W.keepIn K (.ref f_letter_changes) = true)
    (l_text_distance : K.lookup f_text_distance = some ⟨oc_text_distance, od_text_distance, .func (PySem.W.fnOf "text_distance" "text_distance" (L2.defArgs t_text_distance) (L2.defBody t_text_distance) (L2.defScope t_text_distance) .none kV_text_distance dc_text_distance pm_text_distance an_text_distance cd_text_distance ct_text_distance), sl_text_distance⟩)
    (c_text_distance : PySem.W.codeIn K cd_text_distance "text_distance" = true)
    (kp_text_distance : PySem.W.keepIn K (.ref f_text_distance) = true)
    (l__law_row : K.lookup f__law_row = some ⟨oc__law_row, od__law_row, .func (PySem.W.fnOf "_law_row" "_law_row" (L2.defArgs t__law_row) (L2.defBody t__law_row) (L2.defScope t__law_row) .none kV__law_row dc__law_row pm__law_row an__law_row cd__law_row ct__law_row), sl__law_row⟩)
    (c__law_row : PySem.W.codeIn K cd__law_row "_law_row" = true)
    (kp__law_row : PySem.W.keepIn K (.ref f__law_row) = true)
    (l__law_same : K.lookup f__law_same = some ⟨oc__law_same, od__law_same, .func (PySem.W.fnOf "_law_same" "_law_same" (L2.defArgs t__law_same) (L2.defBody t__law_same) (L2.defScope t__law_same) .none kV__law_same dc__law_same pm__law_same an__law_same cd__law_same ct__law_same), sl__law_same⟩)
    (c__law_same : PySem.W.codeIn K cd__law_same "_law_same" = true)
    (kp__law_same : PySem.W.keepIn K (.ref f__law_same) = true)
    (l__law_word : K.lookup f__law_word = some ⟨oc__law_word, od__law_word, .func (PySem.W.fnOf "_law_word" "_law_word" (L2.defArgs t__law_word) (L2.defBody t__law_word) (L2.defScope t__law_word) .none kV__law_word dc__law_word pm__law_word an__law_word cd__law_word ct__law_word), sl__law_word⟩)
    (c__law_word : PySem.W.codeIn K cd__law_word "_law_word" = true)
    (kp__law_word : PySem.W.keepIn K (.ref f__law_word) = true)
    (l__law_edited : K.lookup f__law_edited = some ⟨oc__law_edited, od__law_edited, .func (PySem.W.fnOf "_law_edited" "_law_edited" (L2.defArgs t__law_edited) (L2.defBody t__law_edited) (L2.defScope t__law_edited) .none kV__law_edited dc__law_edited pm__law_edited an__law_edited cd__law_edited ct__law_edited), sl__law_edited⟩)
    (c__law_edited : PySem.W.codeIn K cd__law_edited "_law_edited" = true)
    (kp__law_edited : PySem.W.keepIn K (.ref f__law_edited) = true)
    (l__law_table : K.lookup f__law_table = some ⟨oc__law_table, od__law_table, .func (PySem.W.fnOf "_law_table" "_law_table" (L2.defArgs t__law_table) (L2.defBody t__law_table) (L2.defScope t__law_table) .none kV__law_table dc__law_table pm__law_table an__law_table cd__law_table ct__law_table), sl__law_table⟩)
    (c__law_table : PySem.W.codeIn K cd__law_table "_law_table" = true)
    (kp__law_table : PySem.W.keepIn K (.ref f__law_table) = true)
    (l__law_asked : K.lookup f__law_asked = some ⟨oc__law_asked, od__law_asked, .func (PySem.W.fnOf "_law_asked" "_law_asked" (L2.defArgs t__law_asked) (L2.defBody t__law_asked) (L2.defScope t__law_asked) .none kV__law_asked dc__law_asked pm__law_asked an__law_asked cd__law_asked ct__law_asked), sl__law_asked⟩)
    (c__law_asked : PySem.W.codeIn K cd__law_asked "_law_asked" = true)
    (kp__law_asked : PySem.W.keepIn K (.ref f__law_asked) = true)
    (l__law_bad_place : K.lookup f__law_bad_place = some ⟨oc__law_bad_place, od__law_bad_place, .func (PySem.W.fnOf "_law_bad_place" "_law_bad_place" (L2.defArgs t__law_bad_place) (L2.defBody t__law_bad_place) (L2.defScope t__law_bad_place) .none kV__law_bad_place dc__law_bad_place pm__law_bad_place an__law_bad_place cd__law_bad_place ct__law_bad_place), sl__law_bad_place⟩)
    (c__law_bad_place : PySem.W.codeIn K cd__law_bad_place "_law_bad_place" = true)
    (kp__law_bad_place : PySem.W.keepIn K (.ref f__law_bad_place) = true)
    (l__law_due : K.lookup f__law_due = some ⟨oc__law_due, od__law_due, .func (PySem.W.fnOf "_law_due" "_law_due" (L2.defArgs t__law_due) (L2.defBody t__law_due) (L2.defScope t__law_due) .none kV__law_due dc__law_due pm__law_due an__law_due cd__law_due ct__law_due), sl__law_due⟩)
    (c__law_due : PySem.W.codeIn K cd__law_due "_law_due" = true)
    (kp__law_due : PySem.W.keepIn K (.ref f__law_due) = true)
    (l__law_spoilt : K.lookup f__law_spoilt = some ⟨oc__law_spoilt, od__law_spoilt, .func (PySem.W.fnOf "_law_spoilt" "_law_spoilt" (L2.defArgs t__law_spoilt) (L2.defBody t__law_spoilt) (L2.defScope t__law_spoilt) .none kV__law_spoilt dc__law_spoilt pm__law_spoilt an__law_spoilt cd__law_spoilt ct__law_spoilt), sl__law_spoilt⟩)
    (c__law_spoilt : PySem.W.codeIn K cd__law_spoilt "_law_spoilt" = true)
    (kp__law_spoilt : PySem.W.keepIn K (.ref f__law_spoilt) = true)
    (l_law : K.lookup f_law = some ⟨oc_law, od_law, .func (PySem.W.fnOf "law" "law" (L2.defArgs t_law) (L2.defBody t_law) (L2.defScope t_law) .none kV_law dc_law pm_law an_law cd_law ct_law), sl_law⟩)
    (c_law : PySem.W.codeIn K cd_law "law" = true)
    (kp_law : PySem.W.keepIn K (.ref f_law) = true)
    (z_ValueError : PySem.W.nsIn K mainGlobals "ValueError" = some none)
    (z_bool : PySem.W.nsIn K mainGlobals "bool" = some none)
    (z_enumerate : PySem.W.nsIn K mainGlobals "enumerate" = some none)
    (z_int : PySem.W.nsIn K mainGlobals "int" = some none)
    (z_isinstance : PySem.W.nsIn K mainGlobals "isinstance" = some none)
    (z_len : PySem.W.nsIn K mainGlobals "len" = some none)
    (z_list : PySem.W.nsIn K mainGlobals "list" = some none)
    (z_min : PySem.W.nsIn K mainGlobals "min" = some none)
    (z_range : PySem.W.nsIn K mainGlobals "range" = some none)
    (z_str : PySem.W.nsIn K mainGlobals "str" = some none)
    (z_tuple : PySem.W.nsIn K mainGlobals "tuple" = some none)
    (g_LETTERS : PySem.W.nsIn K mainGlobals "LETTERS" = some (some (.str (PySem.Str.ofString "abcdefghijklmnopqrstuvwxyz") tk_L)))
    (sp1 : PySem.W.nsIn K mainGlobals "super" = some none)
    (sp2 : PySem.W.nsIn K PySem.cStatics "thirdparty.any" = some none)
    (hn : PySem.W.specialIn K (.builtin "object.__class__") "__get__" = some (some (.builtin "getset_descriptor.__get__")))
    (ht : PySem.W.takesIn K (.builtin "object.__class__") = some true)
    (ga_Fault : PySem.W.findIn K (.ref A_Fault) "__getattribute__" = some (some (.builtin "BaseException.__getattribute__")))
    (gg_Fault : PySem.W.findIn K (.ref A_Fault) "__getattr__" = some none)
    (be_Fault : PySem.W.subIn K (.ref A_Fault) (.type "BaseException") = some true)
    (hd_Fault : PySem.W.hasDictIn K A_Fault = true)
    (cl_Fault : PySem.W.findIn K (.ref A_Fault) "__class__" = some (some (.builtin "object.__class__")))
    (mo_Fault : PySem.W.mroIn K A_Fault (.type "object") = some true)
    (kC_Fault : PySem.W.keepIn K (.ref A_Fault) = true)
    (ty_Fault : PySem.W.typeIn K (.ref A_Fault) = some (.type "type"))
    (em_Fault_Fault : PySem.W.exmOne K (.ref A_Fault) (.ref A_Fault) = some true)
    (ki_Fault_BadText : PySem.W.kitOne K (.ref A_Fault) (.ref A_BadText) = some false)
    (ki_Fault_ValueError : PySem.W.kitOne K (.ref A_Fault) (.type "ValueError") = some true)
    (ki_Fault_TooMany : PySem.W.kitOne K (.ref A_Fault) (.ref A_TooMany) = some false)
    (ga_BadText : PySem.W.findIn K (.ref A_BadText) "__getattribute__" = some (some (.builtin "BaseException.__getattribute__")))
    (gg_BadText : PySem.W.findIn K (.ref A_BadText) "__getattr__" = some none)
    (be_BadText : PySem.W.subIn K (.ref A_BadText) (.type "BaseException") = some true)
    (hd_BadText : PySem.W.hasDictIn K A_BadText = true)
    (cl_BadText : PySem.W.findIn K (.ref A_BadText) "__class__" = some (some (.builtin "object.__class__")))
    (mo_BadText : PySem.W.mroIn K A_BadText (.type "object") = some true)
    (kC_BadText : PySem.W.keepIn K (.ref A_BadText) = true)
    (ty_BadText : PySem.W.typeIn K (.ref A_BadText) = some (.type "type"))
    (em_BadText_Fault : PySem.W.exmOne K (.ref A_BadText) (.ref A_Fault) = some true)
    (ki_BadText_BadText : PySem.W.kitOne K (.ref A_BadText) (.ref A_BadText) = some true)
    (ki_BadText_ValueError : PySem.W.kitOne K (.ref A_BadText) (.type "ValueError") = some true)
    (ki_BadText_TooMany : PySem.W.kitOne K (.ref A_BadText) (.ref A_TooMany) = some false)
    (nf_BadText_place : PySem.W.findIn K (.ref A_BadText) "place" = some none)
    (xL_BadText : K.lookup A_BadText = some (excClassObj nm_BadText qn_BadText A_BadText N_BadText bs_BadText bm_BadText true sn_BadText sub_BadText ab_BadText col_BadText dd_BadText k0_BadText k1_BadText k2_BadText k3_BadText k5_BadText "ValueError.__new__"))
    (bm_BadText : PySem.HandSPX.refsVE bm_BadText = true)
    (sa_BadText : PySem.W.findIn K (.ref A_BadText) "__setattr__" = some (some (.builtin "object.__setattr__")))
    (iI_BadText : PySem.W.findIn K (.ref A_BadText) "__init__" = some (some (.ref fI_BadText)))
    (lI_BadText : K.lookup fI_BadText = some ⟨oc_BadText, od_BadText, .func (PySem.W.ksFn "__init__" "BadText.__init__" (L2.defArgs ti_BadText) (L2.defBody ti_BadText) (L2.defScope ti_BadText) .none kV_BadText dc_BadText pm_BadText an_BadText (.ref ca_BadText) ct_BadText cc_BadText), sl_BadText⟩)
    (tI_BadText : PySem.W.typeIn K (.ref fI_BadText) = some (.type "function"))
    (cI_BadText : PySem.W.codeIn K (.ref ca_BadText) "BadText.__init__" = true)
    (ce_BadText : K.lookup cc_BadText = some ⟨ec_BadText, ed_BadText, .cell (some (.ref A_BadText)), es_BadText⟩)
    (fa_BadText : K.lookup ca_BadText = some ⟨cC_BadText, cD_BadText, .fields vs_BadText, cS_BadText⟩)
    (fv_BadText : vs_BadText[2]? = some (.str fl_BadText ft_BadText))
    (fe_BadText : ((prg.main.file : Str) == fl_BadText) = true)
    (ic_BadText : (PySem.W.clsIn K A_BadText).isSome = true)
    (si_BadText : PySem.W.ks_superIn K A_BadText A_BadText "__init__" = some (some (.builtin "ValueError.__init__")))
    (ve_BadText : PySem.W.subIn K (.ref A_BadText) (.type "ValueError") = some true)
    (mr_BadText : PySem.W.mroIn K A_BadText (.ref A_BadText) = some true)
    (ga_TooMany : PySem.W.findIn K (.ref A_TooMany) "__getattribute__" = some (some (.builtin "BaseException.__getattribute__")))
    (gg_TooMany : PySem.W.findIn K (.ref A_TooMany) "__getattr__" = some none)
    (be_TooMany : PySem.W.subIn K (.ref A_TooMany) (.type "BaseException") = some true)
    (hd_TooMany : PySem.W.hasDictIn K A_TooMany = true)
    (cl_TooMany : PySem.W.findIn K (.ref A_TooMany) "__class__" = some (some (.builtin "object.__class__")))
    (mo_TooMany : PySem.W.mroIn K A_TooMany (.type "object") = some true)
    (kC_TooMany : PySem.W.keepIn K (.ref A_TooMany) = true)
    (ty_TooMany : PySem.W.typeIn K (.ref A_TooMany) = some (.type "type"))
    (em_TooMany_Fault : PySem.W.exmOne K (.ref A_TooMany) (.ref A_Fault) = some true)
    (ki_TooMany_BadText : PySem.W.kitOne K (.ref A_TooMany) (.ref A_BadText) = some false)
    (ki_TooMany_ValueError : PySem.W.kitOne K (.ref A_TooMany) (.type "ValueError") = some true)
    (ki_TooMany_TooMany : PySem.W.kitOne K (.ref A_TooMany) (.ref A_TooMany) = some true)
    : ∃ fd : FuncData, (∀ (s : Shared) (u : Value), BindsTo s fd ⟨[u], []⟩ [("script", u)]) ∧ ∀ base : Heap, K.In base → base.Ns mainGlobals mg → FnOk prg w K mg base (L2.CX prg w) 6 fa fd ["script"] (spLaw K) := by
  have e := hfa.symm.trans (PySem.W.mg_of X G a_law)
  cases e
  have y_ValueError : mg "ValueError" = none := PySem.W.mg_none_of X G z_ValueError
  have y_bool : mg "bool" = none := PySem.W.mg_none_of X G z_bool
  have y_enumerate : mg "enumerate" = none := PySem.W.mg_none_of X G z_enumerate
  have y_int : mg "int" = none := PySem.W.mg_none_of X G z_int
  have y_isinstance : mg "isinstance" = none := PySem.W.mg_none_of X G z_isinstance
  have y_len : mg "len" = none := PySem.W.mg_none_of X G z_len
  have y_list : mg "list" = none := PySem.W.mg_none_of X G z_list
  have y_min : mg "min" = none := PySem.W.mg_none_of X G z_min
  have y_range : mg "range" = none := PySem.W.mg_none_of X G z_range
  have y_str : mg "str" = none := PySem.W.mg_none_of X G z_str
  have y_tuple : mg "tuple" = none := PySem.W.mg_none_of X G z_tuple
  have q_Fault : mg "Fault" = some (.ref A_Fault) := PySem.W.mg_of X G aC_Fault
  have q_BadText : mg "BadText" = some (.ref A_BadText) := PySem.W.mg_of X G aC_BadText
  have q_TooMany : mg "TooMany" = some (.ref A_TooMany) := PySem.W.mg_of X G aC_TooMany
  have ec_Fault : ExcC K A_Fault := ⟨ga_Fault, gg_Fault, be_Fault, hd_Fault, cl_Fault, hn, ht, mo_Fault⟩
  have xf_Fault : XfC K A_Fault := ⟨ga_Fault, gg_Fault, be_Fault, hd_Fault⟩
  have ec_BadText : ExcC K A_BadText := ⟨ga_BadText, gg_BadText, be_BadText, hd_BadText, cl_BadText, hn, ht, mo_BadText⟩
  have xf_BadText : XfC K A_BadText := ⟨ga_BadText, gg_BadText, be_BadText, hd_BadText⟩
  have ec_TooMany : ExcC K A_TooMany := ⟨ga_TooMany, gg_TooMany, be_TooMany, hd_TooMany, cl_TooMany, hn, ht, mo_TooMany⟩
  have xf_TooMany : XfC K A_TooMany := ⟨ga_TooMany, gg_TooMany, be_TooMany, hd_TooMany⟩
  have m_Fault : ∀ x b C, ([("Fault", true), ("BadText", true), ("TooMany", true)] : List (Str × Bool)).lookup x = some b → mg x = some (.ref C) → PySem.W.exmOne K (.ref C) (.ref A_Fault) = some b := fun x b C hc hC => (fun c b hc C hC => tab_ok (P := fun c b => ∀ C, mg c = some (.ref C) → PySem.W.exmOne K (.ref C) (.ref A_Fault) = some b) ((forall_cons (fun C hC => by cases q_Fault.symm.trans hC; exact em_Fault_Fault) (forall_cons (fun C hC => by cases q_BadText.symm.trans hC; exact em_BadText_Fault) (forall_cons (fun C hC => by cases q_TooMany.symm.trans hC; exact em_TooMany_Fault) forall_nil)))) c b hc C hC) x b hc C hC
  have i_BadText : ∀ c b, ([("Fault", false), ("BadText", true), ("TooMany", false)] : List (Str × Bool)).lookup c = some b → ∀ C, mg c = some (.ref C) → ExcC K C ∧ PySem.W.kitOne K (.ref C) (.ref A_BadText) = some b := fun c b hc C hC => tab_ok (P := fun c b => ∀ C, mg c = some (.ref C) → ExcC K C ∧ PySem.W.kitOne K (.ref C) (.ref A_BadText) = some b) ((forall_cons (fun C hC => by cases q_Fault.symm.trans hC; exact ⟨ec_Fault, ki_Fault_BadText⟩) (forall_cons (fun C hC => by cases q_BadText.symm.trans hC; exact ⟨ec_BadText, ki_BadText_BadText⟩) (forall_cons (fun C hC => by cases q_TooMany.symm.trans hC; exact ⟨ec_TooMany, ki_TooMany_BadText⟩) forall_nil)))) c b hc C hC
  have i_ValueError : ∀ c b, ([("Fault", true), ("BadText", true), ("TooMany", true)] : List (Str × Bool)).lookup c = some b → ∀ C, mg c = some (.ref C) → ExcC K C ∧ PySem.W.kitOne K (.ref C) (.type "ValueError") = some b := fun c b hc C hC => tab_ok (P := fun c b => ∀ C, mg c = some (.ref C) → ExcC K C ∧ PySem.W.kitOne K (.ref C) (.type "ValueError") = some b) ((forall_cons (fun C hC => by cases q_Fault.symm.trans hC; exact ⟨ec_Fault, ki_Fault_ValueError⟩) (forall_cons (fun C hC => by cases q_BadText.symm.trans hC; exact ⟨ec_BadText, ki_BadText_ValueError⟩) (forall_cons (fun C hC => by cases q_TooMany.symm.trans hC; exact ⟨ec_TooMany, ki_TooMany_ValueError⟩) forall_nil)))) c b hc C hC
  have i_TooMany : ∀ c b, ([("Fault", false), ("BadText", false), ("TooMany", true)] : List (Str × Bool)).lookup c = some b → ∀ C, mg c = some (.ref C) → ExcC K C ∧ PySem.W.kitOne K (.ref C) (.ref A_TooMany) = some b := fun c b hc C hC => tab_ok (P := fun c b => ∀ C, mg c = some (.ref C) → ExcC K C ∧ PySem.W.kitOne K (.ref C) (.ref A_TooMany) = some b) ((forall_cons (fun C hC => by cases q_Fault.symm.trans hC; exact ⟨ec_Fault, ki_Fault_TooMany⟩) (forall_cons (fun C hC => by cases q_BadText.symm.trans hC; exact ⟨ec_BadText, ki_BadText_TooMany⟩) (forall_cons (fun C hC => by cases q_TooMany.symm.trans hC; exact ⟨ec_TooMany, ki_TooMany_TooMany⟩) forall_nil)))) c b hc C hC
  have f_place : ∀ c ∈ (["BadText"] : List Str), ∀ C, mg c = some (.ref C) → XfC K C ∧ PySem.W.findIn K (.ref C) "place" = some none := (forall_cons (P := fun c => ∀ C, mg c = some (.ref C) → XfC K C ∧ PySem.W.findIn K (.ref C) "place" = some none) (fun C hC => by cases q_BadText.symm.trans hC; exact ⟨xf_BadText, nf_BadText_place⟩) forall_nil)
  have cg_LETTERS : CG mg "LETTERS" (.str lettersD) := ⟨⟨_, PySem.W.mg_of X G g_LETTERS, ⟨tk_L, rfl⟩⟩, fun _ _ => rfl⟩
  have F_bad_letter := fun_mk (st := t_bad_letter) l_bad_letter c_bad_letter kp_bad_letter
  have F_check_text : FunG K "check_text" "check_text" t_check_text f_check_text _ := ⟨⟨_, _, _, _, _, _, _, _, _, _, rfl, l_check_text, c_check_text⟩, kp_check_text⟩
  have F_letter_changes := fun_mk (st := t_letter_changes) l_letter_changes c_letter_changes kp_letter_changes
  have F_text_distance := fun_mk (st := t_text_distance) l_text_distance c_text_distance kp_text_distance
  have F__law_row := fun_mk (st := t__law_row) l__law_row c__law_row kp__law_row
  have F__law_same := fun_mk (st := t__law_same) l__law_same c__law_same kp__law_same
  have F__law_word := fun_mk (st := t__law_word) l__law_word c__law_word kp__law_word
  have F__law_edited := fun_mk (st := t__law_edited) l__law_edited c__law_edited kp__law_edited
  have F__law_table := fun_mk (st := t__law_table) l__law_table c__law_table kp__law_table
  have F__law_asked := fun_mk (st := t__law_asked) l__law_asked c__law_asked kp__law_asked
  have F__law_bad_place := fun_mk (st := t__law_bad_place) l__law_bad_place c__law_bad_place kp__law_bad_place
  have F__law_due := fun_mk (st := t__law_due) l__law_due c__law_due kp__law_due
  have F__law_spoilt := fun_mk (st := t__law_spoilt) l__law_spoilt c__law_spoilt kp__law_spoilt
  have F_law := fun_mk (st := t_law) l_law c_law kp_law
  refine ⟨PySem.W.fnOf "law" "law" (L2.defArgs t_law) (L2.defBody t_law) (L2.defScope t_law) .none kV_law dc_law pm_law an_law cd_law ct_law, fun s u => .of_eq rfl, fun base _ _ => ?_⟩
  have S_BadText : FunS K prg "__init__" "BadText.__init__" ti_BadText fI_BadText _ A_BadText ca_BadText cc_BadText := ⟨⟨_, _, _, _, _, _, _, _, rfl, lI_BadText⟩, cI_BadText, ⟨_, _, _, ce_BadText⟩, ⟨_, _, _, _, _, _, fa_BadText, fv_BadText, fe_BadText⟩, ic_BadText, sp1, sp2, by decide +kernel, tI_BadText⟩
  have T_BadText : OexC K A_BadText := ⟨⟨_, _, _, _, _, _, _, _, _, _, _, _, _, _, _, xL_BadText, bm_BadText⟩, sa_BadText, be_BadText, ty_BadText, kC_BadText⟩
  have xi_BadText : XI prg w K mg base 1 "BadText" 1 (fun ws => [("place", ws.headD .non)]) (fun ds => [("place", ds.headD .non)]) A_BadText := ⟨q_BadText, T_BadText, ⟨fI_BadText, _, _, iI_BadText, tI_BadText, ok_init1 (k := 0) S_BadText si_sc_BadText T_BadText nf_BadText_place si_BadText ve_BadText mr_BadText rfl ⟨_, fun _ => rfl⟩ rfl rfl rfl , .all fun us hl => match us, hl with | [_, _], _ => rfl⟩, hfl1⟩
  have r_bad_letter := k_bad_letter (P := prg) (w := w) (K := K) (mg := mg) (base := base) F_bad_letter cg_LETTERS y_enumerate M_bad_letter_le
  have o_bad_letter : Ok prg w K mg base 1 "bad_letter" 2 M_bad_letter [] := ok_def F_bad_letter (PySem.W.mg_of X G a_bad_letter) (F_bad_letter.binds fun _ _ _ _ _ _ us hl => match us, hl with | [_, _], _ => rfl) rfl r_bad_letter M_bad_letter_len
  have r_check_text := k_check_text (P := prg) (w := w) (K := K) (mg := mg) (base := base) F_check_text o_bad_letter xi_BadText M_check_text_le
  have D_check_text : FunD K "check_text" "check_text" (L2.defArgs t_check_text) (L2.defBody t_check_text) (L2.defScope t_check_text) [.int 60] [] f_check_text _ := ⟨⟨_, _, _, _, _, _, _, _, _, _, rfl, l_check_text, c_check_text, .inr ⟨by simp, T_check_text, _, [.int 60 tt_check_text_0], tn_check_text, rfl, lT_check_text, rfl, (.cons ⟨_, rfl⟩ .nil)⟩, .inl rfl⟩, kp_check_text⟩
  have o_check_text_d : Ok prg w K mg base 3 "check_text" 2 M_check_text [.int 60] := by
    obtain ⟨ds, hv, hb⟩ := D_check_text.binds1 (ps := ["text", "most"]) 1 0 (by simp) rfl (fun T kV doc pm an cdv ct us its hu hi => match us, its, hu, hi with | [_], [_], _, _ => ⟨_, rfl, rfl⟩)
    exact ok_defG F_check_text (PySem.W.mg_of X G a_check_text) hb hv (fun _ => ⟨_, _, rfl, rfl, rfl⟩) r_check_text M_check_text_len
  have r_letter_changes := k_letter_changes (P := prg) (w := w) (K := K) (mg := mg) (base := base) F_letter_changes y_enumerate y_int y_len y_list y_min y_range M_letter_changes_le
  have o_letter_changes : Ok prg w K mg base 1 "letter_changes" 2 M_letter_changes [] := ok_def F_letter_changes (PySem.W.mg_of X G a_letter_changes) (F_letter_changes.binds fun _ _ _ _ _ _ us hl => match us, hl with | [_, _], _ => rfl) rfl r_letter_changes M_letter_changes_len
  have r_text_distance := k_text_distance (P := prg) (w := w) (K := K) (mg := mg) (base := base) F_text_distance o_check_text_d o_letter_changes M_text_distance_le
  have o_text_distance : Ok prg w K mg base 4 "text_distance" 2 M_text_distance [] := ok_def F_text_distance (PySem.W.mg_of X G a_text_distance) (F_text_distance.binds fun _ _ _ _ _ _ us hl => match us, hl with | [_, _], _ => rfl) rfl r_text_distance M_text_distance_len
  have r__law_row := k__law_row (P := prg) (w := w) (K := K) (mg := mg) (base := base) F__law_row y_int y_len y_min y_range M__law_row_le
  have o__law_row : Ok prg w K mg base 1 "_law_row" 2 M__law_row [] := ok_def F__law_row (PySem.W.mg_of X G a__law_row) (F__law_row.binds fun _ _ _ _ _ _ us hl => match us, hl with | [_, _], _ => rfl) rfl r__law_row M__law_row_len
  have r__law_same := k__law_same (P := prg) (w := w) (K := K) (mg := mg) (base := base) F__law_same y_bool y_int y_isinstance y_len y_list y_range y_str y_tuple M__law_same_le
  have o__law_same : Ok prg w K mg base 1 "_law_same" 2 M__law_same [] := ok_def F__law_same (PySem.W.mg_of X G a__law_same) (F__law_same.binds fun _ _ _ _ _ _ us hl => match us, hl with | [_, _], _ => rfl) rfl r__law_same M__law_same_len
  have r__law_word := k__law_word (P := prg) (w := w) (K := K) (mg := mg) (base := base) F__law_word y_int y_len y_range M__law_word_le
  have o__law_word : Ok prg w K mg base 1 "_law_word" 3 M__law_word [] := ok_def F__law_word (PySem.W.mg_of X G a__law_word) (F__law_word.binds fun _ _ _ _ _ _ us hl => match us, hl with | [_, _, _], _ => rfl) rfl r__law_word M__law_word_len
  have r__law_edited := k__law_edited (P := prg) (w := w) (K := K) (mg := mg) (base := base) F__law_edited y_int y_len y_range M__law_edited_le
  have o__law_edited : Ok prg w K mg base 1 "_law_edited" 4 M__law_edited [] := ok_def F__law_edited (PySem.W.mg_of X G a__law_edited) (F__law_edited.binds fun _ _ _ _ _ _ us hl => match us, hl with | [_, _, _, _], _ => rfl) rfl r__law_edited M__law_edited_len
  have r__law_table := k__law_table (P := prg) (w := w) (K := K) (mg := mg) (base := base) F__law_table y_len y_min y_range M__law_table_le
  have o__law_table : Ok prg w K mg base 1 "_law_table" 2 M__law_table [] := ok_def F__law_table (PySem.W.mg_of X G a__law_table) (F__law_table.binds fun _ _ _ _ _ _ us hl => match us, hl with | [_, _], _ => rfl) rfl r__law_table M__law_table_len
  have r__law_asked := k__law_asked (P := prg) (w := w) (K := K) (mg := mg) (base := base) F__law_asked o_text_distance y_ValueError y_isinstance q_BadText q_Fault q_TooMany f_place i_BadText i_TooMany i_ValueError m_Fault M__law_asked_le
  have o__law_asked : Ok prg w K mg base 5 "_law_asked" 2 M__law_asked [] := ok_def F__law_asked (PySem.W.mg_of X G a__law_asked) (F__law_asked.binds fun _ _ _ _ _ _ us hl => match us, hl with | [_, _], _ => rfl) rfl r__law_asked M__law_asked_len
  have r__law_bad_place := k__law_bad_place (P := prg) (w := w) (K := K) (mg := mg) (base := base) F__law_bad_place y_len y_range M__law_bad_place_le
  have o__law_bad_place : Ok prg w K mg base 1 "_law_bad_place" 1 M__law_bad_place [] := ok_def F__law_bad_place (PySem.W.mg_of X G a__law_bad_place) (F__law_bad_place.binds fun _ _ _ _ _ _ us hl => match us, hl with | [_], _ => rfl) rfl r__law_bad_place M__law_bad_place_len
  have r__law_due := k__law_due (P := prg) (w := w) (K := K) (mg := mg) (base := base) F__law_due o__law_bad_place o__law_table M__law_due_le
  have o__law_due : Ok prg w K mg base 2 "_law_due" 2 M__law_due [] := ok_def F__law_due (PySem.W.mg_of X G a__law_due) (F__law_due.binds fun _ _ _ _ _ _ us hl => match us, hl with | [_, _], _ => rfl) rfl r__law_due M__law_due_len
  have r__law_spoilt := k__law_spoilt (P := prg) (w := w) (K := K) (mg := mg) (base := base) F__law_spoilt y_int y_len M__law_spoilt_le
  have o__law_spoilt : Ok prg w K mg base 1 "_law_spoilt" 3 M__law_spoilt [] := ok_def F__law_spoilt (PySem.W.mg_of X G a__law_spoilt) (F__law_spoilt.binds fun _ _ _ _ _ _ us hl => match us, hl with | [_, _, _], _ => rfl) rfl r__law_spoilt M__law_spoilt_len
  have r_law := k_law (P := prg) (w := w) (K := K) (mg := mg) (base := base) F_law o__law_row o__law_word o__law_edited o__law_table o__law_same o__law_asked o__law_due o_text_distance o__law_spoilt y_int M_law_le
  refine r_law.imp fun vs H Q E hh => ?_
  obtain ⟨a, ns, rfl, hS, hlen, q⟩ := hh
  refine ⟨rfl, [.lst (ns.map D.int)], H, Sub.refl H, ⟨.ref a, [], rfl, ⟨a, _, rfl, hS, reps_ints ns⟩, rfl⟩, ?_⟩
  rw [M_law_true ns hlen]
  intro v G' α' H' _ _ hv
  rw [show v = .bl true from hv]
  exact q H'
end Dl
open PySem PySem.W PyProof.Rows
set_option maxHeartbeats 0 in
theorem PySem.Challenge.cw_pathsandchances_k44_distances_of_texts_holds : PySem.Challenge.rw_pathsandchances_k44_distances_of_texts.Holds := by
  w_on; o_law; k_head; (case hw => w_witness2)
  k_fill
  refine L2.walk_of (l := PySem.Challenge.rw_pathsandchances_k44_distances_of_texts) (n := 63) (k := 6) (x := "script") (CX := fun w => L2.CX Dl.prg w) (sp := fun w => Dl.spLaw _) rfl (by decide) rfl ⟨rfl, by decide, by decide⟩ (fun w h Y => PySem.W.kIn_of Y) ?F (fun _ _ a ns hl _ hS => ⟨a, ns, rfl, hS, hl, fun _ => rfl⟩) (fun _ _ _ _ _ h => by obtain ⟨_, _, _, _, _, _, _, _, _, _, _, _, z⟩ := h; exact z)
  case F =>
    intro w mg fa h KX G hmg
    refine' Dl.all_mk KX G hmg ?aC_Fault ?aC_BadText ?aC_TooMany ?a_bad_letter ?a_check_text ?a_letter_changes ?a_text_distance ?a__law_row ?a__law_same ?a__law_word ?a__law_edited ?a__law_table ?a__law_asked ?a__law_bad_place ?a__law_due ?a__law_spoilt ?a_law ?l_bad_letter ?c_bad_letter ?kp_bad_letter ?l_check_text ?c_check_text ?kp_check_text ?lT_check_text ?l_letter_changes ?c_letter_changes ?kp_letter_changes ?l_text_distance ?c_text_distance ?kp_text_distance ?l__law_row ?c__law_row ?kp__law_row ?l__law_same ?c__law_same ?kp__law_same ?l__law_word ?c__law_word ?kp__law_word ?l__law_edited ?c__law_edited ?kp__law_edited ?l__law_table ?c__law_table ?kp__law_table ?l__law_asked ?c__law_asked ?kp__law_asked ?l__law_bad_place ?c__law_bad_place ?kp__law_bad_place ?l__law_due ?c__law_due ?kp__law_due ?l__law_spoilt ?c__law_spoilt ?kp__law_spoilt ?l_law ?c_law ?kp_law ?z_ValueError ?z_bool ?z_enumerate ?z_int ?z_isinstance ?z_len ?z_list ?z_min ?z_range ?z_str ?z_tuple ?g_LETTERS ?sp1 ?sp2 ?hn ?ht ?ga_Fault ?gg_Fault ?be_Fault ?hd_Fault ?cl_Fault ?mo_Fault ?kC_Fault ?ty_Fault ?em_Fault_Fault ?ki_Fault_BadText ?ki_Fault_ValueError ?ki_Fault_TooMany ?ga_BadText ?gg_BadText ?be_BadText ?hd_BadText ?cl_BadText ?mo_BadText ?kC_BadText ?ty_BadText ?em_BadText_Fault ?ki_BadText_BadText ?ki_BadText_ValueError ?ki_BadText_TooMany ?nf_BadText_place ?xL_BadText ?bm_BadText ?sa_BadText ?iI_BadText ?lI_BadText ?tI_BadText ?cI_BadText ?ce_BadText ?fa_BadText ?fv_BadText ?fe_BadText ?ic_BadText ?si_BadText ?ve_BadText ?mr_BadText ?ga_TooMany ?gg_TooMany ?be_TooMany ?hd_TooMany ?cl_TooMany ?mo_TooMany ?kC_TooMany ?ty_TooMany ?em_TooMany_Fault ?ki_TooMany_BadText ?ki_TooMany_ValueError ?ki_TooMany_TooMany
    (case aC_Fault => k_is)
    (case aC_BadText => k_is)
    (case aC_TooMany => k_is)
    (case a_bad_letter => k_is)
    (case a_check_text => k_is)
    (case a_letter_changes => k_is)
    (case a_text_distance => k_is)
    (case a__law_row => k_is)
    (case a__law_same => k_is)
    (case a__law_word => k_is)
    (case a__law_edited => k_is)
    (case a__law_table => k_is)
    (case a__law_asked => k_is)
    (case a__law_bad_place => k_is)
    (case a__law_due => k_is)
    (case a__law_spoilt => k_is)
    (case a_law => k_is)
    (case l_bad_letter => k_is)
    (case c_bad_letter => k_is)
    (case kp_bad_letter => k_is)
    (case l_check_text => k_is)
    (case c_check_text => k_is)
    (case kp_check_text => k_is)
    (case lT_check_text => k_is)
    (case l_letter_changes => k_is)
    (case c_letter_changes => k_is)
    (case kp_letter_changes => k_is)
    (case l_text_distance => k_is)
    (case c_text_distance => k_is)
    (case kp_text_distance => k_is)
    (case l__law_row => k_is)
    (case c__law_row => k_is)
    (case kp__law_row => k_is)
    (case l__law_same => k_is)
    (case c__law_same => k_is)
    (case kp__law_same => k_is)
    (case l__law_word => k_is)
    (case c__law_word => k_is)
    (case kp__law_word => k_is)
    (case l__law_edited => k_is)
    (case c__law_edited => k_is)
    (case kp__law_edited => k_is)
    (case l__law_table => k_is)
    (case c__law_table => k_is)
    (case kp__law_table => k_is)
    (case l__law_asked => k_is)
    (case c__law_asked => k_is)
    (case kp__law_asked => k_is)
    (case l__law_bad_place => k_is)
    (case c__law_bad_place => k_is)
    (case kp__law_bad_place => k_is)
    (case l__law_due => k_is)
    (case c__law_due => k_is)
    (case kp__law_due => k_is)
    (case l__law_spoilt => k_is)
    (case c__law_spoilt => k_is)
    (case kp__law_spoilt => k_is)
    (case l_law => k_is)
    (case c_law => k_is)
    (case kp_law => k_is)
    (case z_ValueError => k_is)
    (case z_bool => k_is)
    (case z_enumerate => k_is)
    (case z_int => k_is)
    (case z_isinstance => k_is)
    (case z_len => k_is)
    (case z_list => k_is)
    (case z_min => k_is)
    (case z_range => k_is)
    (case z_str => k_is)
    (case z_tuple => k_is)
    (case g_LETTERS => k_is)
    (case sp1 => k_is)
    (case sp2 => k_is)
    (case hn => k_is)
    (case ht => k_is)
    (case ga_Fault => k_is)
    (case gg_Fault => k_is)
    (case be_Fault => k_is)
    (case hd_Fault => k_is)
    (case cl_Fault => k_is)
    (case mo_Fault => k_is)
    (case kC_Fault => k_is)
    (case ty_Fault => k_is)
    (case em_Fault_Fault => kernel_rfl)
    (case ki_Fault_BadText => kernel_rfl)
    (case ki_Fault_ValueError => kernel_rfl)
    (case ki_Fault_TooMany => kernel_rfl)
    (case ga_BadText => k_is)
    (case gg_BadText => k_is)
    (case be_BadText => k_is)
    (case hd_BadText => k_is)
    (case cl_BadText => k_is)
    (case mo_BadText => k_is)
    (case kC_BadText => k_is)
    (case ty_BadText => k_is)
    (case em_BadText_Fault => kernel_rfl)
    (case ki_BadText_BadText => kernel_rfl)
    (case ki_BadText_ValueError => kernel_rfl)
    (case ki_BadText_TooMany => kernel_rfl)
    (case nf_BadText_place => k_is)
    (case xL_BadText => k_is)
    (case bm_BadText => first | rfl | decide | decide +kernel)
    (case sa_BadText => k_is)
    (case iI_BadText => k_is)
    (case lI_BadText => k_is)
    (case tI_BadText => k_is)
    (case cI_BadText => k_is)
    (case ce_BadText => k_is)
    (case fa_BadText => k_is)
    (case fv_BadText => first | rfl | decide | decide +kernel)
    (case fe_BadText => first | rfl | decide | decide +kernel)
    (case ic_BadText => kernel_rfl)
    (case si_BadText => ks_is)
    (case ve_BadText => k_is)
    (case mr_BadText => k_is)
    (case ga_TooMany => k_is)
    (case gg_TooMany => k_is)
    (case be_TooMany => k_is)
    (case hd_TooMany => k_is)
    (case cl_TooMany => k_is)
    (case mo_TooMany => k_is)
    (case kC_TooMany => k_is)
    (case ty_TooMany => k_is)
    (case em_TooMany_Fault => kernel_rfl)
    (case ki_TooMany_BadText => kernel_rfl)
    (case ki_TooMany_ValueError => kernel_rfl)
    (case ki_TooMany_TooMany => kernel_rfl)
